import PyProof.Rows.All
import Wide.All
import OpenK.AllK
import Wide.FinOn
import HandS.ForMost
import HandS.Exc
import HandS.ExcOwn
import HandS.WordsExc
import HandS.CallSlots
import HandS.Walk
import HandS.DictComp
import HandS.IsInst
import HandS.TupAny
import HandS.TupMul
import HandS.SortInts
import HandS.Deep
import HandS.Style
import PyProof.P3In
import HandS.Conv
import HandS.TupLen
import HandS.Defaults
import HandS.ExcIs
import HandS.CallRecv
import KE.KStateDown
import HandS.Ends
import HandS.Head0
import HandS.Head1
import HandS.Head2
import HandS.HeadEnd
import HandS.HeadHook1
import HandS.HeadHook2
import PySem.Challenge.RW_whobeatwhom_k35_goals_and_points
set_option Elab.async false
set_option linter.all false
set_option maxRecDepth 100000
/-! The core language: a total evaluator of pure data with owned (mutable) places. -/
namespace Cr
open PySem

abbrev Ky := Sum Int Str

/-- frozen data -/
inductive D where
  | nil | non
  | bl (b : Bool) | int (i : Int) | str (s : Str)
  | tup (xs : List D) | lst (xs : List D)
  | dK (ks : List Ky) (vs : List D)
  | dT (ks : List (List Ky)) (vs : List D)
  | ins (c : Nat) (fs : List D)
  | fn (f : Nat)
  | scr (xs : List Int)

/-- what a slot holds: frozen data, or an object that only this place knows -/
inductive O where
  | un
  | fz (d : D)
  | lst (os : List O)
  | dK (ks : List Ky) (os : List O)
  | dT (ks : List (List Ky)) (os : List O)
  | ins (c : Nat) (fs : List O)

abbrev Fr := List O
inductive Rs (α : Type) where
  | ok (a : α) (f : Fr) | exc (c : Nat) (fs : List D) (f : Fr) | bad
abbrev M (α : Type) := Fr → Rs α
inductive RC where
  | ok (o : O) (outs : List O) | exc (c : Nat) (fs : List D) (outs : List O) | bad
abbrev Calls := Nat → List O → RC

def M.ret {α : Type} (a : α) : M α := fun f => .ok a f
def M.bnd {α β : Type} (m : M α) (k : α → M β) : M β := fun f => match m f with
  | .ok a f1 => k a f1
  | .exc c fs f1 => .exc c fs f1
  | .bad => .bad
def M.fail {α : Type} : M α := fun _ => .bad
def M.opt {α : Type} (o : Option α) : M α := fun f => match o with
  | some a => .ok a f
  | none => .bad

mutual
def fzd : O → D
  | .un => .nil
  | .fz d => d
  | .lst os => .lst (fzds os)
  | .dK ks os => .dK ks (fzds os)
  | .dT ks os => .dT ks (fzds os)
  | .ins c fs => .ins c (fzds fs)
def fzds : List O → List D
  | [] => []
  | o :: os => fzd o :: fzds os
end

/-! ### data: equality -/
mutual
def D.plainN : Nat → D → Bool
  | _, .non => true | _, .bl _ => true | _, .int _ => true
  | _, .str s => PyData.strOk s
  | n + 1, .tup xs => D.plainsN n xs
  | n + 1, .lst xs => D.plainsN n xs
  | _, _ => false
def D.plainsN : Nat → List D → Bool
  | _, [] => true
  | n, x :: xs => D.plainN n x && D.plainsN n xs
end
mutual
def D.eqv : D → D → Bool
  | .non, .non => true
  | .bl a, .bl b => a == b
  | .bl a, .int j => (if a then 1 else 0) == j
  | .int i, .bl b => i == (if b then 1 else 0)
  | .int i, .int j => i == j
  | .str x, .str y => x == y
  | .tup xs, .tup ys => D.eqvs xs ys
  | .lst xs, .lst ys => D.eqvs xs ys
  | _, _ => false
def D.eqvs : List D → List D → Bool
  | [], [] => true
  | x :: xs, y :: ys => D.eqv x y && D.eqvs xs ys
  | _, _ => false
end
def D.plain (d : D) : Bool := D.plainN 20 d
def pyEq (a b : D) : Option Bool := if D.plain a && D.plain b then some (D.eqv a b) else none
def pyIn (a : D) : List D → Option Bool := fun xs => if D.plain a && D.plainsN 20 xs then some (xs.any fun x => D.eqv x a) else none

/-! ### order -/
mutual
def D.ltN : D → D → Option Bool
  | .int i, .int j => some (decide (i < j))
  | .str x, .str y => some (decide (x.cps.toList < y.cps.toList))
  | .tup xs, .tup ys => D.ltsN xs ys
  | .lst xs, .lst ys => D.ltsN xs ys
  | _, _ => none
def D.ltsN : List D → List D → Option Bool
  | [], [] => some false
  | [], _ :: _ => some true
  | _ :: _, [] => some false
  | x :: xs, y :: ys => if D.eqv x y then D.ltsN xs ys else D.ltN x y
end

def keyOf : D → Option Ky
  | .int i => some (.inl i)
  | .str s => some (.inr s)
  | _ => none
def keysOf : List D → Option (List Ky)
  | [] => some []
  | d :: ds => match keyOf d, keysOf ds with
    | some k, some ks => some (k :: ks)
    | _, _ => none
def kyD : Ky → D
  | .inl i => .int i
  | .inr s => .str s
def kget {κ α : Type} [DecidableEq κ] : List κ → List α → κ → Option α
  | k' :: ks, v :: vs, k => if k' = k then some v else kget ks vs k
  | _, _, _ => none
def krepl {κ α : Type} [DecidableEq κ] : List κ → List α → κ → α → List α
  | k' :: ks, v' :: vs, k, v => (if k' = k then v else v') :: krepl ks vs k v
  | _, _, _, _ => []
def khas {κ : Type} [DecidableEq κ] (ks : List κ) (k : κ) : Bool := ks.any fun k' => decide (k' = k)
def kput {κ α : Type} [DecidableEq κ] (ks : List κ) (vs : List α) (k : κ) (v : α) : List κ × List α :=
  if khas ks k then (ks, krepl ks vs k v) else (ks ++ [k], vs ++ [v])

/-! ### places by integers -/
abbrev ixn (n : Nat) (i : Int) : Option Nat := L2.ixN n i
abbrev atD {α : Type} (xs : List α) (i : Int) : Option α := L2.atI xs i
def cutD {α : Type} (xs : List α) (lo hi : Option Int) : List α :=
  (xs.drop (HT.sIx xs.length 0 lo)).take (HT.sIx xs.length xs.length hi - HT.sIx xs.length 0 lo)

inductive BOp where
  | add | sub | mul | fdiv | mod | pow | shl | shr | band | bor | bxor
inductive COp where
  | eq | ne | lt | le | gt | ge | is | isnt

def big64 (i : Int) : Bool := decide (-(2 ^ 64) < i ∧ i < 2 ^ 64)
def binD : BOp → D → D → Option D
  | .add, .int i, .int j => some (.int (i + j))
  | .add, .tup xs, .tup ys => if xs.length + ys.length ≤ 100000 then some (.tup (xs ++ ys)) else none
  | .add, .lst xs, .lst ys => if xs.length + ys.length ≤ 100000 then some (.lst (xs ++ ys)) else none
  | .add, .str x, .str y => if x.length + y.length ≤ 100000 then some (.str (x ++ y)) else none
  | .sub, .int i, .int j => some (.int (i - j))
  | .mul, .int i, .int j => if big64 i || big64 j then some (.int (i * j)) else none
  | .mul, .tup xs, .int k => if decide (2 ≤ k ∧ k ≤ 1000) && decide (xs.length ≤ 1000) && !xs.isEmpty then some (.tup (List.replicate k.toNat xs).flatten) else none
  | .mul, .lst xs, .int k => if decide (-100000 ≤ k ∧ k ≤ 100000) && decide (xs.length * k.toNat ≤ 100000) then some (.lst (List.replicate k.toNat xs).flatten) else none
  | .fdiv, .int i, .int j => if 0 < j ∧ j < 1073741824 then some (.int (i / j)) else none
  | .mod, .int i, .int j => if 0 < j then some (.int (i % j)) else none
  | .pow, .int i, .int j => if decide (0 ≤ j ∧ j ≤ 1000000) && big64 i then some (.int (i ^ j.toNat)) else none
  | .shl, .int i, .int j => if decide (0 ≤ j ∧ j ≤ 1000000) && big64 i then some (.int (i * 2 ^ j.toNat)) else none
  | .shr, .int i, .int j => if 0 ≤ j then some (.int (i / 2 ^ j.toNat)) else none
  | .band, .int i, .int j => some (.int (Builtin.bitAnd i j))
  | .bor, .int i, .int j => some (.int (Builtin.bitOr i j))
  | .bxor, .int i, .int j => some (.int (Builtin.bitXor i j))
  | _, _, _ => none
def cmpD : COp → D → D → Option Bool
  | .eq, a, b => pyEq a b
  | .ne, a, b => match pyEq a b with
    | some r => some (!r)
    | none => none
  | .lt, .int i, .int j => some (decide (i < j))
  | .gt, .int i, .int j => some (decide (j < i))
  | .le, .int i, .int j => some (decide (i ≤ j))
  | .ge, .int i, .int j => some (decide (j ≤ i))
  | .is, .bl a, .bl b => some (decide (a = b))
  | .isnt, .bl a, .bl b => some (!decide (a = b))
  | _, _, _ => none
def idxD : D → D → Option D
  | .tup xs, .int i => atD xs i
  | .lst xs, .int i => atD xs i
  | .dK ks vs, k => match keyOf k with
    | some k => kget ks vs k
    | none => none
  | .dT ks vs, .tup k => match keysOf k with
    | some k => kget ks vs k
    | none => none
  | _, _ => none
def slcD (d : D) (lo hi : Option Int) : Option D := match d with
  | .tup xs => some (.tup (cutD xs lo hi))
  | .lst xs => some (.lst (cutD xs lo hi))
  | _ => none
def revD : D → Option D
  | .lst xs => some (.lst xs.reverse)
  | _ => none

/-! ### built-ins -/
inductive Bi where
  | len | tuple | list | sorted | sortedR | sum | all | any | min | max | abs | int | set | str | range1 | range2
  | min2 | max2 | index | count | get1 | get2 | keysL
def intL : List D → Option (List Int)
  | [] => some []
  | .int i :: r => match intL r with
    | some is => some (i :: is)
    | none => none
  | _ => none
def bls : List D → Option (List Bool)
  | [] => some []
  | .bl b :: r => match bls r with
    | some bs => some (b :: bs)
    | none => none
  | _ => none
def rangeD (lo hi : Int) : List D := (List.range (hi - lo).toNat).map fun k => .int (lo + (k : Nat))
/-- insertion into a sorted list, behind what is not greater -/
def insD (x : D) : List D → Option (List D)
  | [] => some [x]
  | y :: ys => match D.ltN x y with
    | some true => some (x :: y :: ys)
    | some false => match insD x ys with
      | some r => some (y :: r)
      | none => none
    | none => none
/-- a stable sort, from the right: x goes ahead of what is not less -/
def insL (x : D) : List D → Option (List D)
  | [] => some [x]
  | y :: ys => match D.ltN y x with
    | some false => some (x :: y :: ys)
    | some true => match insL x ys with
      | some r => some (y :: r)
      | none => none
    | none => none
def sortD : List D → Option (List D)
  | [] => some []
  | x :: xs => match sortD xs with
    | some r => insL x r
    | none => none
def items : D → Option (List D)
  | .tup xs => some xs
  | .lst xs => some xs
  | .dK ks _ => some (ks.map kyD)
  | .dT ks _ => some (ks.map fun k => .tup (k.map kyD))
  | .str s => some (s.cps.toList.map fun c => .str ⟨#[c]⟩)
  | _ => none
def seqItems : D → Option (List D)
  | .tup xs => some xs
  | .lst xs => some xs
  | _ => none
def bestD (less : D → D → Option Bool) : D → List D → Option D
  | b, [] => some b
  | b, x :: xs => match less x b with
    | some true => bestD less x xs
    | some false => bestD less b xs
    | none => none
def dedup : List Int → List Int
  | [] => []
  | x :: xs => if xs.contains x then dedup xs else x :: dedup xs
def biD : Bi → List D → Option D
  | .len, [.tup xs] => some (.int xs.length)
  | .len, [.lst xs] => some (.int xs.length)
  | .len, [.dK ks _] => some (.int ks.length)
  | .len, [.dT ks _] => some (.int ks.length)
  | .tuple, [.tup xs] => some (.tup xs)
  | .tuple, [.lst xs] => some (.tup xs)
  | .list, [.scr xs] => some (.lst (xs.map .int))
  | .list, [.tup xs] => some (.lst xs)
  | .list, [.lst xs] => some (.lst xs)
  | .sum, [.lst xs] => match intL xs with
    | some is => some (.int is.sum)
    | none => none
  | .all, [.lst xs] => match bls xs with
    | some bs => some (.bl (bs.all id))
    | none => none
  | .any, [.lst xs] => match bls xs with
    | some bs => some (.bl (bs.any id))
    | none => none
  | .abs, [.int i] => some (.int (if i < 0 then -i else i))
  | .int, [.int i] => some (.int i)
  | .int, [.bl b] => some (.int (if b then 1 else 0))
  | .min2, [.int a, .int b] => some (.int (if b < a then b else a))
  | .max2, [.int a, .int b] => some (.int (if b > a then b else a))
  | _, _ => none
def memD (a : D) : D → Option Bool
  | .tup xs => pyIn a xs
  | .lst xs => pyIn a xs
  | .dK ks _ => match keyOf a with
    | some k => some (khas ks k)
    | none => none
  | .dT ks _ => match a with
    | .tup k => match keysOf k with
      | some k => some (khas ks k)
      | none => none
    | _ => none
  | _ => none

inductive Ty where
  | int | bool | tuple | list | str | cls (c : Nat)
def isTy (d : D) (t : Ty) : Option Bool := match d, t with
  | .nil, _ => none
  | .fn _, _ => none
  | .scr _, _ => none
  | .ins _ _, _ => none
  | .dT _ _, _ => none
  | _, .cls _ => none
  | .int _, .int => some true
  | .bl _, .int => some true
  | .bl _, .bool => some true
  | .tup _, .tuple => some true
  | .lst _, .list => some true
  | .str _, .str => some true
  | _, _ => some false
end Cr

/-! The core's terms and their evaluator. -/
namespace Cr
open PySem

/-! ### the program's tables -/
structure Cls where
  nm : Str
  fields : List Str
  init : Nat
  meths : List (Str × Nat)

inductive Tg where
  | nm (i : Nat)
  | tup (is : List Nat)

mutual
inductive E where
  | var (i : Nat)
  | non | bl (b : Bool) | int (i : Int) | str (s : Str)
  | gint (x : Str) (i : Int)
  | fn (f : Nat)
  | bin (o : BOp) (a b : E)
  | neg (a : E) | inv (a : E) | not (a : E)
  | cmp (o : COp) (a b : E)
  | chn (o o' : COp) (a b c : E)
  | isN (n : Bool) (a : E)
  | mem (n : Bool) (a b : E)
  | memP (n : Bool) (a : E) (i : Nat) (p : Ps)
  | memR1 (n : Bool) (a b : E)
  | and (a b : E) | or (a b : E)
  | ite (c a b : E)
  | tup (es : Es) | lst (es : Es)
  | dic (tk : Bool) (kvs : Kv)
  | idx (a b : E)
  | slc (a : E) (lo hi : Eo)
  | rev (a : E)
  | lrng1 (t : Bool) (a : E) | lrng2 (t : Bool) (a b : E)
  | fld (a : E) (f : Str)
  | pl (i : Nat) (p : Ps)
  | frz (i : Nat) (p : Ps)
  | slcP (i : Nat) (p : Ps) (lo hi : Eo)
  | lc (elt : E) (tg : Tg) (it : It) (ts : Eo) (own : List Nat)
  | lc2 (elt : E) (tg : Tg) (it : It) (ts : Eo) (tg1 : Tg) (it1 : It) (ts1 : Eo) (own own1 : List Nat)
  | dc (tk : Bool) (k v : E) (tg : Tg) (it : It) (ts : Eo) (own : List Nat)
  | dc2 (tk : Bool) (k v : E) (tg : Tg) (it : It) (ts : Eo) (tg1 : Tg) (it1 : It) (ts1 : Eo) (own own1 : List Nat)
  | call (f : Nat) (as : As)
  | callV (a : E) (as : As)
  | new (c : Nat) (as : As)
  | meth (m : Str) (r : Ar) (as : As)
  | bi (b : Bi) (es : Es)
  | biP (b : Bi) (i : Nat) (p : Ps) (es : Es)
  | sortK (e : E) (k : Nat) (body : E) (rv : Bool)
  | bestK (mx : Bool) (e : E) (k : Nat) (body : E)
  | isi (a : E) (t : Ty)
  | pop (i : Nat) (p : Ps)
  | popA (i : Nat) (p : Ps) (e : E)
  | popK (i : Nat) (p : Ps) (k d : E)
inductive Eo where
  | none | some (e : E)
inductive Es where
  | nil | cons (e : E) (r : Es)
inductive Kv where
  | nil | cons (k v : E) (r : Kv)
inductive Ar where
  | e (e : E)
  | io (i : Nat)
inductive As where
  | nil | cons (a : Ar) (r : As)
inductive It where
  | e (a : E)
  | rng1 (a : E) | rng2 (a b : E) | rng3 (a b c : E)
  | enum (a : E) | zip (a b : E)
-- a place below a slot, outermost step last
inductive Ps where
  | nil | ix (p : Ps) (e : E) | fd (p : Ps) (f : Str)
end

-- expressions that make an object for a place of its own
mutual
inductive OE where
  | e (e : E)
  | lst (es : OEs)
  | rep (o : OE) (e : E)
  | lc (elt : OE) (tg : Tg) (it : It) (ts : Eo) (own : List Nat)
  | copy (e : E)
  | dic (tk : Bool)
  | new (c : Nat) (as : As)
  | call (f : Nat) (as : As)
inductive OEs where
  | nil | cons (o : OE) (r : OEs)
end

inductive Mu where
  | app (o : OE) | set (k : E) (o : OE) | aug (op : BOp) (k : E) (e : E) | ext (e : E) | ins (k e : E) | rem (e : E)
  | fset (f : Str) (o : OE) | faug (op : BOp) (f : Str) (e : E) | upd (e : E)

/-- what an except suite says of its exception -/
inductive HE where
  | isE (cs : List Nat) | fld (j : Nat) | str (s : Str) | bl (b : Bool) | int (i : Int) | non
  | eqS (a b : HE) | and (a b : HE) | ite (c a b : HE) | tup2 (a b : HE) | cat (a b : HE)
inductive Hs where
  | ret (e : HE) | unless (e : HE) (r : HE) | app (i : Nat) (e : HE) | pass

mutual
inductive S where
  | asg (t : Tg) (e : E)
  | asgL (i : Nat) (e : E)
  | asgO (i : Nat) (o : OE)
  | parO (is : List Nat) (os : OEs)
  | parS (is : List (Nat × Ps × E)) (es : Es)
  | mu (i : Nat) (p : Ps) (m : Mu)
  | aug (i : Nat) (o : BOp) (e : E)
  | ex (e : E)
  | ret (e : E) | retN | retO (o : OE)
  | ite (c : E) (a b : Ss)
  | for (t : Tg) (it : It) (b : Ss)
  | whl (c : E) (b : Ss)
  | rse (c : Nat) (es : Es)
  | try (b : Ss) (cs : List Nat) (k : Option Nat) (h : Hs)
  | brk | cont | pass
inductive Ss where
  | nil | cons (s : S) (r : Ss)
end

structure Dfn where
  nm : Str
  qual : Str
  par : Nat
  names : List Str
  io : List Nat
  body : Ss
structure Prg where
  defs : List Dfn
  blt : List Str
  gints : List (Str × Int)
  classes : List Cls
  excs : List Str
  tr : List (Str × List Nat)
  kit : List (Str × List Nat)
  W : Nat

inductive Fl where
  | nx | rt (o : O) | bk | ct

inductive Stp where
  | ix (d : D) | fd (f : Str)

section
variable (P : Prg) (Φ : Calls)

def fpos (fs : List Str) (f : Str) : Option Nat := match fs with
  | [] => none
  | x :: r => if x = f then some 0 else (fpos r f).map (· + 1)
def clsFields (c : Nat) : List Str := match P.classes[c]? with
  | some k => k.fields
  | none => []
def fldD (d : D) (f : Str) : Option D := match d with
  | .ins c fs => match fpos (clsFields P c) f with
    | some j => match fs[j]? with
      | some .nil => none
      | r => r
    | none => none
  | _ => none
def stpD : D → List Stp → Option D
  | d, [] => some d
  | d, .ix k :: r => match idxD d k with
    | some d' => stpD d' r
    | none => none
  | d, .fd f :: r => match fldD P d f with
    | some d' => stpD d' r
    | none => none
/-- the place in an owned object that a step leads to -/
def stpO (o : O) (s : Stp) : Option Nat := match o, s with
  | .lst os, .ix (.int i) => ixn os.length i
  | .dK ks _, .ix k => match keyOf k with
    | some k => ks.findIdx? fun k' => decide (k' = k)
    | none => none
  | .dT ks _, .ix (.tup k) => match keysOf k with
    | some k => ks.findIdx? fun k' => decide (k' = k)
    | none => none
  | .ins c _, .fd f => fpos (clsFields P c) f
  | _, _ => none
def kids : O → List O
  | .lst os => os
  | .dK _ os => os
  | .dT _ os => os
  | .ins _ os => os
  | _ => []
def withKids : O → List O → O
  | .lst _, os => .lst os
  | .dK ks _, os => .dK ks os
  | .dT ks _, os => .dT ks os
  | .ins c _, os => .ins c os
  | o, _ => o
def getO : O → List Stp → Option O
  | .fz d, r => match stpD P d r with
    | some d' => some (.fz d')
    | none => none
  | o, [] => some o
  | o, s :: r => match stpO P o s with
    | some j => match (kids o)[j]? with
      | some o' => getO o' r
      | none => none
    | none => none
def setO : O → List Stp → O → Option O
  | _, [], o' => some o'
  | o, s :: r, o' => match stpO P o s with
    | some j => match (kids o)[j]? with
      | some k => match setO k r o' with
        | some k' => some (withKids o ((kids o).set j k'))
        | none => none
      | none => none
    | none => none

def isFz : O → Bool
  | .fz .nil => false
  | .fz _ => true
  | _ => false
def allFz (os : List O) : Bool := os.all isFz
/-- what a built-in may read of a place: its own items being frozen -/
def topD : O → Option D
  | .fz .nil => none
  | .fz d => some d
  | .un => none
  | .lst os => if allFz os then some (.lst (fzds os)) else none
  | .dK ks os => if allFz os then some (.dK ks (fzds os)) else none
  | .dT ks os => if allFz os then some (.dT ks (fzds os)) else none
  | .ins _ _ => none

def isNonD : D → Bool
  | .non => true
  | _ => false
def rdSlot (i : Nat) : M D := fun f => match f[i]? with
  | some (.fz .nil) => .bad
  | some (.fz d) => .ok d f
  | some .un => .bad
  | some o => .ok (fzd o) (f.set i (.fz (fzd o)))
  | none => .bad
def plGet (i : Nat) (st : List Stp) : M O := fun f => match f[i]? with
  | some o => match getO P o st with
    | some o' => .ok o' f
    | none => .bad
  | none => .bad
def plFz (i : Nat) (st : List Stp) : M D := fun f => match f[i]? with
  | some o => match getO P o st with
    | some (.fz .nil) => .bad
    | some (.fz d) => .ok d f
    | some .un => .bad
    | some o' => match setO P o st (.fz (fzd o')) with
      | some o2 => .ok (fzd o') (f.set i o2)
      | none => .bad
    | none => .bad
  | none => .bad
def plTop (i : Nat) (st : List Stp) : M D := fun f => match f[i]? with
  | some o => match getO P o st with
    | some o' => match topD o' with
      | some d => .ok d f
      | none => .bad
    | none => .bad
  | none => .bad
def plVal (i : Nat) (st : List Stp) : M D := fun f => match f[i]? with
  | some o => match getO P o st with
    | some (.fz .nil) => .bad
    | some (.fz d) => .ok d f
    | _ => .bad
  | none => .bad

def setNames : List Nat → List D → Fr → Option Fr
  | [], [], f => some f
  | i :: is, d :: ds, f => if i < f.length then setNames is ds (f.set i (.fz d)) else none
  | _, _, _ => none
def setT (t : Tg) (d : D) (f : Fr) : Option Fr := match t with
  | .nm i => if i < f.length then some (f.set i (.fz d)) else none
  | .tup is => match d with
    | .tup ds => setNames is ds f
    | _ => none
def wipeF : List Nat → Fr → Fr
  | [], f => f
  | v :: vs, f => (wipeF vs f).set v .un
def isOwn : O → Bool
  | .un => false
  | .fz _ => false
  | _ => true
/-- behind a block: its own names are as they were ahead of it -/
def backF : List Nat → Fr → Fr → Fr
  | [], _, f => f
  | v :: vs, f0, f => backF vs f0 (f.set v (f0.getD v .un))
def canWipe (own : List Nat) (f : Fr) : Bool := own.all fun i => !isOwn (f.getD i .un)
def block {α : Type} (own : List Nat) (m : M α) : M α := fun f =>
  if canWipe own f then match m f with
    | .ok a f1 => if canWipe own f1 then .ok a (backF own f (wipeF own f1)) else .bad
    | _ => .bad
  else .bad

def lcLoop {α : Type} (turn : D → M (List α)) : List D → M (List α)
  | [] => M.ret []
  | d :: ds => M.bnd (turn d) fun r => M.bnd (lcLoop turn ds) fun rest => M.ret (r ++ rest)
def setM (t : Tg) (d : D) : M Unit := fun f => match setT t d f with
  | some f' => .ok () f'
  | none => .bad
def dput (tk : Bool) (acc : D) (k v : D) : Option D := match tk, acc with
  | false, .dK ks vs => match keyOf k with
    | some k => let r := kput ks vs k v
      some (.dK r.1 r.2)
    | none => none
  | true, .dT ks vs => match k with
    | .tup k => match keysOf k with
      | some k => let r := kput ks vs k v
        some (.dT r.1 r.2)
      | none => none
    | _ => none
  | _, _ => none
def toBool : D → M Bool := fun d f => match d with
  | .bl b => .ok b f
  | _ => .bad
def toInt : D → M Int := fun d f => match d with
  | .int b => .ok b f
  | _ => .bad

def clrM (own : List Nat) : M Unit := fun f => if canWipe own f then .ok () (wipeF own f) else .bad
def dputs (tk : Bool) : List (D × D) → D → Option D
  | [], acc => some acc
  | (k, v) :: r, acc => match dput tk acc k v with
    | some acc' => dputs tk r acc'
    | none => none
def dcFin (tk : Bool) (ys : List (D × D)) : Option D := if ys.length ≤ 100000 then dputs tk ys (if tk then .dT [] [] else .dK [] []) else none
def insK (rv : Bool) (p : D × D) : List (D × D) → Option (List (D × D))
  | [] => some [p]
  | q :: r => match (if rv then D.ltN p.1 q.1 else D.ltN q.1 p.1) with
    | some false => some (p :: q :: r)
    | some true => match insK rv p r with
      | some z => some (q :: z)
      | none => none
    | none => none
def sortKP (rv : Bool) : List (D × D) → Option (List (D × D))
  | [] => some []
  | p :: r => match sortKP rv r with
    | some q => insK rv p q
    | none => none
def sortKD (rv : Bool) (ps : List (D × D)) : Option (List D) := match sortKP rv ps with
  | some r => some (r.map Prod.snd)
  | none => none
def bestKD (mx : Bool) : List (D × D) → Option D
  | [] => none
  | p :: r => go mx p r
where go (mx : Bool) (b : D × D) : List (D × D) → Option D
  | [] => some b.2
  | x :: xs => match (if mx then D.ltN b.1 x.1 else D.ltN x.1 b.1) with
    | some true => go mx x xs
    | some false => go mx b xs
    | none => none
def rangeO (i j : Int) : Option (List D) := if decide (-(2 ^ 62) ≤ i ∧ i < 2 ^ 62) && decide (-(2 ^ 62) ≤ j ∧ j < 2 ^ 62) then some (rangeD i j) else none
def lrD (t : Bool) (i j : Int) : Option D := if decide (-(2 ^ 62) ≤ i ∧ i < 2 ^ 62) && decide (-(2 ^ 62) ≤ j ∧ j < 2 ^ 62) && decide ((j - i).toNat ≤ 100000) then some (if t then .tup (rangeD i j) else .lst (rangeD i j)) else none
def rangeC (i j k : Int) : Option (List D) :=
  if 0 < k then some ((List.range ((j - i + k - 1) / k).toNat).map fun n => .int (i + (n : Nat) * k))
  else if k < 0 then some ((List.range ((i - j + (-k) - 1) / (-k)).toNat).map fun n => .int (i + (n : Nat) * k))
  else none
def enumD (i : Nat) : List D → List D
  | [] => []
  | x :: xs => .tup [.int i, x] :: enumD (i + 1) xs

/-- a call's objects are put back -/
def putBack : List Nat → List O → Fr → Option Fr
  | [], [], f => some f
  | i :: r, o :: os, f => if i < f.length then putBack r os (f.set i o) else none
  | _, _, _ => none
inductive AV where
  | d (d : D)
  | io (i : Nat)
/-- the objects given to a call, their slots, and the frame without them -/
def takeArgs : List AV → Fr → Option (List O × List Nat × Fr)
  | [], f => some ([], [], f)
  | .d d :: r, f => match takeArgs r f with
    | some (os, ps, f') => some (.fz d :: os, ps, f')
    | none => none
  | .io i :: r, f => match f[i]? with
    | some .un => none
    | some o => match takeArgs r (f.set i .un) with
      | some (os, ps, f') => some (o :: os, i :: ps, f')
      | none => none
    | none => none
def callF (g : Nat) (as : List AV) : M O := fun f => match takeArgs as f with
  | some (os, ps, f1) => match Φ g os with
    | .ok d outs => match putBack ps outs f1 with
      | some f' => .ok d f'
      | none => .bad
    | .exc c fs outs => match putBack ps outs f1 with
      | some f' => .exc c fs f'
      | none => .bad
    | .bad => .bad
  | none => .bad
def freshI (c : Nat) : O := .ins c ((clsFields P c).map fun _ => .fz .nil)
/-- an instance is made: its __init__ takes it and gives it back -/
def newF (c : Nat) (as : List AV) : M O := fun f => match P.classes[c]? with
  | some k => match takeArgs as f with
    | some (os, ps, f1) => match Φ k.init (freshI P c :: os) with
      | .ok (.fz .non) (o :: outs) => match putBack ps outs f1 with
        | some f' => .ok o f'
        | none => .bad
      | .exc c fs (_ :: outs) => match putBack ps outs f1 with
        | some f' => .exc c fs f'
        | none => .bad
      | _ => .bad
    | none => .bad
  | none => .bad
def clsOfO : O → Option Nat
  | .ins c _ => some c
  | .fz (.ins c _) => some c
  | _ => none
def clsOfA (r : AV) (f : Fr) : Option Nat := match r with
  | .d d => clsOfO (.fz d)
  | .io i => match f[i]? with
    | some o => clsOfO o
    | none => none
def lookM (ms : List (Str × Nat)) (m : Str) : Option Nat := match ms with
  | [] => none
  | (x, f) :: r => if x = m then some f else lookM r m
def methF (m : Str) (r : AV) (as : List AV) : M O := fun f => match clsOfA r f with
  | some c => match P.classes[c]? with
    | some k => match lookM k.meths m with
      | some g => callF Φ g (r :: as) f
      | none => .bad
    | none => .bad
  | none => .bad
def frzO (o : O) : Option D := match o with
  | .un => none
  | .fz .nil => none
  | o => some (fzd o)
def frzM (m : M O) : M D := M.bnd m fun o => M.opt (frzO o)
def holdF {α : Type} (i : Nat) (m : M α) : M α := fun f => match f[i]? with
  | some o => match m (f.set i .un) with
    | .ok a f1 => .ok a (f1.set i o)
    | .exc c fs f1 => .exc c fs (f1.set i o)
    | .bad => .bad
  | none => .bad
def chkS (i : Nat) : M Unit := fun f => match f[i]? with
  | some .un => .bad
  | some _ => .ok () f
  | none => .bad
/-- a step without effects -/
def qM {α : Type} (q : Fr → Option α) : M α := fun f => match q f with
  | some a => .ok a f
  | none => .bad
mutual
/-- an index that changes nothing -/
def evQ : E → Fr → Option D
  | .var i => fun f => match f[i]? with
    | some (.fz .nil) => none
    | some (.fz d) => some d
    | _ => none
  | .int i => fun _ => some (.int i)
  | .pl i p => fun f => match psQ p f with
    | some st => match f[i]? with
      | some o => match getO P o st with
        | some (.fz .nil) => none
        | some (.fz d) => some d
        | _ => none
      | none => none
    | none => none
  | .bin .add a b => fun f => match evQ a f, evQ b f with
    | some (.int x), some (.int y) => some (.int (x + y))
    | _, _ => none
  | .bin .sub a b => fun f => match evQ a f, evQ b f with
    | some (.int x), some (.int y) => some (.int (x - y))
    | _, _ => none
  | _ => fun _ => none
def psQ : Ps → Fr → Option (List Stp)
  | .nil => fun _ => some []
  | .ix p e => fun f => match psQ p f with
    | some st => match evQ e f with
      | some d => some (st ++ [.ix d])
      | none => none
    | none => none
  | .fd p x => fun f => match psQ p f with
    | some st => some (st ++ [.fd x])
    | none => none
end

mutual
def ev : E → M D
  | .var i => rdSlot i
  | .non => M.ret .non
  | .bl b => M.ret (.bl b)
  | .int i => M.ret (.int i)
  | .str s => M.ret (.str s)
  | .gint _ i => M.ret (.int i)
  | .fn g => M.ret (.fn g)
  | .bin o a b => M.bnd (ev a) fun x => M.bnd (ev b) fun y => M.opt (binD o x y)
  | .neg a => M.bnd (ev a) fun x => M.bnd (toInt x) fun i => M.ret (.int (-i))
  | .inv a => M.bnd (ev a) fun x => M.bnd (toInt x) fun i => M.ret (.int (-i - 1))
  | .not a => M.bnd (ev a) fun x => M.bnd (toBool x) fun b => M.ret (.bl (!b))
  | .cmp o a b => M.bnd (ev a) fun x => M.bnd (ev b) fun y => M.bnd (M.opt (cmpD o x y)) fun r => M.ret (.bl r)
  | .chn o o' a b c => M.bnd (ev a) fun x => M.bnd (ev b) fun y => M.bnd (M.opt (cmpD o x y)) fun r =>
      if r then M.bnd (ev c) fun z => M.bnd (M.opt (cmpD o' y z)) fun r => M.ret (.bl r) else M.ret (.bl false)
  | .isN n a => M.bnd (ev a) fun x => M.ret (.bl (isNonD x != n))
  | .mem n a b => M.bnd (ev a) fun x => M.bnd (ev b) fun y => M.bnd (M.opt (memD x y)) fun r => M.ret (.bl (r != n))
  | .memP n a i p => M.bnd (ev a) fun x => M.bnd (evP i p) fun st => M.bnd (plTop P i st) fun y => M.bnd (M.opt (memD x y)) fun r => M.ret (.bl (r != n))
  | .memR1 n a b => M.bnd (ev a) fun x => M.bnd (ev b) fun y => M.bnd (toInt x) fun i => M.bnd (toInt y) fun j => M.ret (.bl (decide (0 ≤ i ∧ i < j) != n))
  | .and a b => M.bnd (ev a) fun x => M.bnd (toBool x) fun r => if r then ev b else M.ret (.bl false)
  | .or a b => M.bnd (ev a) fun x => M.bnd (toBool x) fun r => if r then M.ret (.bl true) else ev b
  | .ite c a b => M.bnd (ev c) fun x => M.bnd (toBool x) fun r => if r then ev a else ev b
  | .tup es => M.bnd (evs es) fun xs => M.ret (.tup xs)
  | .lst es => M.bnd (evs es) fun xs => M.ret (.lst xs)
  | .dic tk kvs => M.bnd (evKV kvs) fun ys => M.opt (dputs tk ys (if tk then .dT [] [] else .dK [] []))
  | .idx a b => M.bnd (ev a) fun x => M.bnd (ev b) fun y => M.opt (idxD x y)
  | .slc a lo hi => M.bnd (ev a) fun x => M.bnd (evo lo) fun l => M.bnd (evo hi) fun h => M.opt (slcD x l h)
  | .rev a => M.bnd (ev a) fun x => M.opt (revD x)
  | .lrng1 t a => M.bnd (ev a) fun x => M.bnd (toInt x) fun n => M.opt (lrD t 0 n)
  | .lrng2 t a b => M.bnd (ev a) fun x => M.bnd (ev b) fun y => M.bnd (toInt x) fun i => M.bnd (toInt y) fun j => M.opt (lrD t i j)
  | .fld a f => M.bnd (ev a) fun x => M.opt (fldD P x f)
  | .pl i p => M.bnd (evP i p) fun st => plVal P i st
  | .frz i p => M.bnd (evP i p) fun st => plFz P i st
  | .slcP i p lo hi => M.bnd (evP i p) fun st => M.bnd (evo lo) fun l => M.bnd (evo hi) fun h => M.bnd (plTop P i st) fun x => M.opt (slcD x l h)
  | .lc elt tg it ts own => M.bnd (evI it) fun xs => M.bnd (block own (lcLoop (fun d => M.bnd (clrM own) fun _ => M.bnd (setM tg d) fun _ => M.bnd (evt ts) fun k => if k then M.bnd (ev elt) fun e => M.ret [e] else M.ret []) xs)) fun ys => if ys.length ≤ 100000 then M.ret (.lst ys) else M.fail
  | .lc2 elt tg it ts tg1 it1 ts1 own own1 => M.bnd (evI it) fun xs => M.bnd (block own (lcLoop (fun d => M.bnd (clrM own) fun _ => M.bnd (setM tg d) fun _ => M.bnd (evt ts) fun k =>
      if k then M.bnd (evI it1) fun zs => lcLoop (fun d1 => M.bnd (clrM own1) fun _ => M.bnd (setM tg1 d1) fun _ => M.bnd (evt ts1) fun k1 => if k1 then M.bnd (ev elt) fun e => M.ret [e] else M.ret []) zs else M.ret []) xs)) fun ys => if ys.length ≤ 100000 then M.ret (.lst ys) else M.fail
  | .dc tk k v tg it ts own => M.bnd (evI it) fun xs => M.bnd (block own (lcLoop (fun d => M.bnd (clrM own) fun _ => M.bnd (setM tg d) fun _ => M.bnd (evt ts) fun t => if t then M.bnd (ev k) fun x => M.bnd (ev v) fun y => M.ret [(x, y)] else M.ret []) xs)) fun ys =>
      M.opt (dcFin tk ys)
  | .dc2 tk k v tg it ts tg1 it1 ts1 own own1 => M.bnd (evI it) fun xs => M.bnd (block own (lcLoop (fun d => M.bnd (clrM own) fun _ => M.bnd (setM tg d) fun _ => M.bnd (evt ts) fun t =>
      if t then M.bnd (evI it1) fun zs => lcLoop (fun d1 => M.bnd (clrM own1) fun _ => M.bnd (setM tg1 d1) fun _ => M.bnd (evt ts1) fun k1 => if k1 then M.bnd (ev k) fun x => M.bnd (ev v) fun y => M.ret [(x, y)] else M.ret []) zs else M.ret []) xs)) fun ys =>
      M.opt (dcFin tk ys)
  | .call g as => frzM (M.bnd (evAs as) fun vs => callF Φ g vs)
  | .callV a as => M.bnd (ev a) fun x => M.bnd (evAs as) fun vs => match x with
    | .fn g => frzM (callF Φ g vs)
    | _ => M.fail
  | .new c as => frzM (M.bnd (evAs as) fun vs => newF P Φ c vs)
  | .meth m r as => frzM (M.bnd (evAr r) fun x => M.bnd (evAs as) fun vs => methF P Φ m x vs)
  | .bi b es => M.bnd (evs es) fun xs => M.opt (biD b xs)
  | .biP b i p es => match es with
    | .nil => M.bnd (evP i p) fun st => M.bnd (plTop P i st) fun x => M.opt (biD b [x])
    | _ => M.fail
  | .sortK e k body rv => M.bnd (ev e) fun x => M.bnd (M.opt (items x)) fun xs => M.bnd (block [k] (lcLoop (fun d => M.bnd (clrM [k]) fun _ => M.bnd (setM (.nm k) d) fun _ => M.bnd (ev body) fun y => M.ret [(y, d)]) xs)) fun ps =>
        M.bnd (M.opt (sortKD rv ps)) fun r => M.ret (.lst r)
  | .bestK mx e k body => M.bnd (ev e) fun x => M.bnd (M.opt (items x)) fun xs => M.bnd (block [k] (lcLoop (fun d => M.bnd (clrM [k]) fun _ => M.bnd (setM (.nm k) d) fun _ => M.bnd (ev body) fun y => M.ret [(y, d)]) xs)) fun ps => M.opt (bestKD mx ps)
  | .isi a t => M.bnd (ev a) fun x => M.bnd (M.opt (isTy x t)) fun r => M.ret (.bl r)
  | .pop i p => M.bnd (evP i p) fun st => fun f => match f[i]? with
    | some o => match getO P o st with
      | some (.lst os) => match os.getLast? with
        | some (.fz .nil) => .bad
        | some (.fz d) => match setO P o st (.lst os.dropLast) with
          | some o' => .ok d (f.set i o')
          | none => .bad
        | _ => .bad
      | _ => .bad
    | none => .bad
  | .popA i p e => M.bnd (evP i p) fun st => M.bnd (ev e) fun x => M.bnd (toInt x) fun k => fun f => match f[i]? with
    | some o => match getO P o st with
      | some (.lst os) => match ixn os.length k with
        | some j => match os[j]? with
          | some (.fz .nil) => .bad
          | some (.fz d) => match setO P o st (.lst (os.eraseIdx j)) with
            | some o' => .ok d (f.set i o')
            | none => .bad
          | _ => .bad
        | none => .bad
      | _ => .bad
    | none => .bad
  | .popK _ _ _ _ => M.fail
def evt : Eo → M Bool
  | .none => M.ret true
  | .some e => M.bnd (ev e) toBool
def evo : Eo → M (Option Int)
  | .none => M.ret none
  | .some e => M.bnd (ev e) fun x => M.bnd (toInt x) fun i => M.ret (some i)
def evs : Es → M (List D)
  | .nil => M.ret []
  | .cons e r => M.bnd (ev e) fun x => M.bnd (evs r) fun xs => M.ret (x :: xs)
def evKV : Kv → M (List (D × D))
  | .nil => M.ret []
  | .cons k v r => M.bnd (ev k) fun x => M.bnd (ev v) fun y => M.bnd (evKV r) fun ys => M.ret ((x, y) :: ys)
def evAr : Ar → M AV
  | .e e => M.bnd (ev e) fun x => M.ret (.d x)
  | .io i => M.bnd (chkS i) fun _ => M.ret (.io i)
def evAs : As → M (List AV)
  | .nil => M.ret []
  | .cons a r => M.bnd (evAr a) fun x => M.bnd (evAs r) fun xs => M.ret (x :: xs)
def evI : It → M (List D)
  | .e a => M.bnd (ev a) fun x => M.opt (seqItems x)
  | .rng1 a => M.bnd (ev a) fun x => M.bnd (toInt x) fun n => M.opt (rangeO 0 n)
  | .rng2 a b => M.bnd (ev a) fun x => M.bnd (ev b) fun y => M.bnd (toInt x) fun i => M.bnd (toInt y) fun j => M.opt (rangeO i j)
  | .rng3 a b c => M.bnd (ev a) fun x => M.bnd (ev b) fun y => M.bnd (ev c) fun z => M.bnd (toInt x) fun i => M.bnd (toInt y) fun j => M.bnd (toInt z) fun k => M.opt (rangeC i j k)
  | .enum a => M.bnd (ev a) fun x => M.bnd (M.opt (items x)) fun xs => M.ret (enumD 0 xs)
  | .zip a b => M.bnd (ev a) fun x => M.bnd (ev b) fun y => M.bnd (M.opt (items x)) fun xs => M.bnd (M.opt (items y)) fun ys => M.ret (List.zipWith (fun p q => .tup [p, q]) xs ys)
def evP : Nat → Ps → M (List Stp)
  | i, .nil => M.bnd (chkS i) fun _ => M.ret []
  | i, .ix .nil e => M.bnd (chkS i) fun _ => M.bnd (ev e) fun x => M.ret [.ix x]
  | i, .ix p e => M.bnd (evP i p) fun st => M.bnd (qM (evQ P e)) fun x => M.ret (st ++ [.ix x])
  | i, .fd p f => M.bnd (evP i p) fun st => M.ret (st ++ [.fd f])
end

/-! ### objects for places -/
def copyO (d : D) : Option O := match d with
  | .tup xs => some (.lst (xs.map .fz))
  | .lst xs => some (.lst (xs.map .fz))
  | .dK ks vs => some (.dK ks (vs.map .fz))
  | .dT ks vs => some (.dT ks (vs.map .fz))
  | _ => none
mutual
def evO : OE → M O
  | .e e => M.bnd (ev P Φ e) fun d => M.ret (.fz d)
  | .lst es => M.bnd (evOs es) fun os => M.ret (.lst os)
  | .rep o e => M.bnd (evO o) fun x => M.bnd (ev P Φ e) fun y => M.bnd (toInt y) fun k =>
      if decide (-100000 ≤ k ∧ k ≤ 100000) && isFz x then M.ret (.lst (List.replicate k.toNat x)) else M.fail
  | .lc elt tg it ts own => M.bnd (evI P Φ it) fun xs => M.bnd (block own (lcLoop (fun d => M.bnd (clrM own) fun _ => M.bnd (setM tg d) fun _ => M.bnd (evt P Φ ts) fun k => if k then M.bnd (evO elt) fun e => M.ret [e] else M.ret []) xs)) fun ys => if ys.length ≤ 100000 then M.ret (.lst ys) else M.fail
  | .copy e => M.bnd (ev P Φ e) fun d => M.opt (copyO d)
  | .dic tk => M.ret (if tk then .dT [] [] else .dK [] [])
  | .new c as => M.bnd (evAs P Φ as) fun vs => newF P Φ c vs
  | .call g as => M.bnd (evAs P Φ as) fun vs => callF Φ g vs
def evOs : OEs → M (List O)
  | .nil => M.ret []
  | .cons o r => M.bnd (evO o) fun x => M.bnd (evOs r) fun xs => M.ret (x :: xs)
end
def modO (i : Nat) (st : List Stp) (g : O → Option O) : M Unit := fun f => match f[i]? with
  | some o => match getO P o st with
    | some o1 => match g o1 with
      | some o2 => match setO P o st o2 with
        | some o' => .ok () (f.set i o')
        | none => .bad
      | none => .bad
    | none => .bad
  | none => .bad
def under {α : Type} (i : Nat) (st : List Stp) (m : M α) : M α := match st with
  | [] => m
  | _ => holdF i m
def appO (v : O) : O → Option O
  | .lst os => if os.length < 100000 then some (.lst (os ++ [v])) else none
  | _ => none
def setK (k : D) (v : O) : O → Option O
  | .lst os => match k with
    | .int i => match ixn os.length i with
      | some j => some (.lst (os.set j v))
      | none => none
    | _ => none
  | .dK ks os => match keyOf k with
    | some k => if decide (ks.length < 100000) && isFz v then some (.dK (kput ks os k v).1 (kput ks os k v).2) else none
    | none => none
  | .dT ks os => match k with
    | .tup k => match keysOf k with
      | some k => if decide (ks.length < 100000) && isFz v then some (.dT (kput ks os k v).1 (kput ks os k v).2) else none
      | none => none
    | _ => none
  | _ => none
def extO (d : D) : O → Option O
  | .lst os => match d with
    | .lst xs => some (.lst (os ++ xs.map .fz))
    | _ => none
  | _ => none
def insO (k : Int) (v : D) : O → Option O
  | .lst os => if 0 ≤ k then some (.lst (os.take k.toNat ++ [.fz v] ++ os.drop k.toNat)) else none
  | _ => none
def remO (d : D) : O → Option O
  | .lst os => match topD (.lst os) with
    | some (.lst xs) => match xs.findIdx? (fun y => D.eqv y d) with
      | some j => if D.plain d && D.plainsN 20 xs then some (.lst (os.eraseIdx j)) else none
      | none => none
    | _ => none
  | _ => none
def fsetO (f : Str) (v : O) : O → Option O
  | .ins c fs => match fpos (clsFields P c) f with
    | some j => if j < fs.length then some (.ins c (fs.set j v)) else none
    | none => none
  | _ => none
def kputs {κ : Type} [DecidableEq κ] : List κ → List D → List κ → List O → List κ × List O
  | k :: ks, v :: vs, ks', os => let r := kput ks' os k (.fz v)
    kputs ks vs r.1 r.2
  | _, _, ks', os => (ks', os)
def updO (d : D) : O → Option O
  | .dK ks os => match d with
    | .dK ks' vs => let r := kputs ks' vs ks os
      some (.dK r.1 r.2)
    | _ => none
  | .dT ks os => match d with
    | .dT ks' vs => let r := kputs ks' vs ks os
      some (.dT r.1 r.2)
    | _ => none
  | _ => none
def modR (i : Nat) (g : O → Option O) : M Unit := fun f => match f[i]? with
  | some o => match g o with
    | some o' => .ok () (f.set i o')
    | none => .bad
  | none => .bad
/-- an item of a list is set -/
def setKL (k : D) (v : O) (o : O) : Option O := match o with
  | .lst os => setK k v (.lst os)
  | _ => none
def chkL (i : Nat) : M Unit := fun f => match f[i]? with
  | some (.lst _) => .ok () f
  | _ => .bad
def evMu0 (i : Nat) : Mu → M Unit
  | .app o => M.bnd (chkL i) fun _ => M.bnd (evO P Φ o) fun v => modR i (appO v)
  | .set k o => M.bnd (evO P Φ o) fun v => M.bnd (chkS i) fun _ => M.bnd (ev P Φ k) fun x => modR i (setKL x v)
  | .fset f o => M.bnd (evO P Φ o) fun v => M.bnd (chkS i) fun _ => modR i (fsetO P f v)
  | _ => M.fail
def evMuP (i : Nat) (p : Ps) : Mu → M Unit
  | .app o => M.bnd (evP P Φ i p) fun st => M.bnd (under i st (evO P Φ o)) fun v => modO P i st (appO v)
  | .set k o => M.bnd (evO P Φ o) fun v => M.bnd (evP P Φ i p) fun st => M.bnd (under i st (ev P Φ k)) fun x => modO P i st (setK x v)
  | .aug op k e => M.bnd (evP P Φ i p) fun st => M.bnd (under i st (ev P Φ k)) fun x => M.bnd (plVal P i (st ++ [.ix x])) fun y => M.bnd (under i st (ev P Φ e)) fun z => M.bnd (M.opt (binD op y z)) fun r => modO P i st (setK x (.fz r))
  | .ext e => M.bnd (evP P Φ i p) fun st => M.bnd (under i st (ev P Φ e)) fun v => modO P i st (extO v)
  | .ins k e => M.bnd (evP P Φ i p) fun st => M.bnd (under i st (ev P Φ k)) fun x => M.bnd (toInt x) fun j => M.bnd (under i st (ev P Φ e)) fun v => modO P i st (insO j v)
  | .rem e => M.bnd (evP P Φ i p) fun st => M.bnd (under i st (ev P Φ e)) fun v => modO P i st (remO v)
  | .fset f o => M.bnd (evO P Φ o) fun v => M.bnd (evP P Φ i p) fun st => modO P i st (fsetO P f v)
  | .faug op f e => M.bnd (evP P Φ i p) fun st => M.bnd (plVal P i (st ++ [.fd f])) fun y => M.bnd (under i st (ev P Φ e)) fun z => M.bnd (M.opt (binD op y z)) fun r => modO P i st (fsetO P f (.fz r))
  | .upd e => M.bnd (evP P Φ i p) fun st => M.bnd (under i st (ev P Φ e)) fun v => modO P i st (updO v)

def evMu (i : Nat) (p : Ps) (m : Mu) : M Unit := match p with
  | .nil => evMu0 P Φ i m
  | _ => evMuP P Φ i p m

/-! ### statements -/
def evHE (c : Nat) (fs : List D) : HE → Option D
  | .isE cs => some (.bl (cs.contains c))
  | .fld j => fs[j]?
  | .str s => some (.str s)
  | .bl b => some (.bl b)
  | .int i => some (.int i)
  | .non => some .non
  | .eqS a b => match evHE c fs a, evHE c fs b with
    | some x, some y => match pyEq x y with
      | some r => some (.bl r)
      | none => none
    | _, _ => none
  | .and a b => match evHE c fs a with
    | some (.bl true) => evHE c fs b
    | some (.bl false) => some (.bl false)
    | _ => none
  | .ite q a b => match evHE c fs q with
    | some (.bl true) => evHE c fs a
    | some (.bl false) => evHE c fs b
    | _ => none
  | .tup2 a b => match evHE c fs a, evHE c fs b with
    | some x, some y => some (.tup [x, y])
    | _, _ => none
  | .cat a b => match evHE c fs a, evHE c fs b with
    | some x, some y => binD .add x y
    | _, _ => none
def runHs (c : Nat) (fs : List D) : Hs → M Fl
  | .ret e => M.bnd (M.opt (evHE c fs e)) fun d => M.ret (.rt (.fz d))
  | .unless e r => M.bnd (M.opt (evHE c fs e)) fun d => M.bnd (toBool d) fun b => if b then M.ret .nx else M.bnd (M.opt (evHE c fs r)) fun d => M.ret (.rt (.fz d))
  | .app i e => M.bnd (M.opt (evHE c fs e)) fun d => M.bnd (modR i (appO (.fz d))) fun _ => M.ret .nx
  | .pass => M.ret .nx
def augD (o : BOp) (x y : D) : Option D := match x, y with
  | .int i, .int j => match o with
    | .add => some (.int (i + j))
    | .sub => some (.int (i - j))
    | .mul => binD .mul (.int i) (.int j)
    | .fdiv => binD .fdiv (.int i) (.int j)
    | .mod => binD .mod (.int i) (.int j)
    | .band => binD .band (.int i) (.int j)
    | .bor => binD .bor (.int i) (.int j)
    | .bxor => binD .bxor (.int i) (.int j)
    | _ => none
  | _, _ => none
def setO1 (i : Nat) (o : O) : M Unit := fun f => if i < f.length then .ok () (f.set i o) else .bad
def setOs : List Nat → List O → M Unit
  | [], [] => M.ret ()
  | i :: is, o :: os => M.bnd (setO1 i o) fun _ => setOs is os
  | _, _ => M.fail
def forL (tg : Tg) (body : M Fl) : List D → M Fl
  | [] => M.ret .nx
  | d :: ds => M.bnd (setM tg d) fun _ => M.bnd body fun
    | .nx => forL tg body ds
    | .ct => forL tg body ds
    | .bk => M.ret .nx
    | .rt d => M.ret (.rt d)
def whlL (c : M Bool) (body : M Fl) : Nat → M Fl
  | 0 => M.fail
  | n + 1 => M.bnd c fun b => if b then M.bnd body fun
    | .nx => whlL c body n
    | .ct => whlL c body n
    | .bk => M.ret .nx
    | .rt d => M.ret (.rt d)
    else M.ret .nx
def evParS : List (Nat × Ps × E) → List D → M Unit
  | [], [] => M.ret ()
  | (i, p, k) :: r, d :: ds => M.bnd (evP P Φ i p) fun st => M.bnd (under i st (ev P Φ k)) fun x => M.bnd (modO P i st (setK x (.fz d))) fun _ => evParS r ds
  | _, _ => M.fail
/-- try .. except C as name: ne exceptions are known, cs are caught, i is the name's slot -/
def tryM (ne : Nat) (b : M Fl) (cs : List Nat) (i : Nat) (h : Nat → List D → M Fl) : M Fl := fun f => match b f with
  | .exc c fs f1 => if c < ne then (if cs.contains c then (if i < f1.length then h c fs (f1.set i .un) else .bad) else .exc c fs f1) else .bad
  | r => r
def flow (r : M Fl) : Fl → M Fl
  | .nx => r
  | x => M.ret x
mutual
def exS : S → M Fl
  | .asg t e => M.bnd (ev P Φ e) fun d => M.bnd (setM t d) fun _ => M.ret .nx
  | .asgL i v => M.bnd (ev P Φ v) fun d => M.bnd (setM (.nm i) d) fun _ => M.ret .nx
  | .asgO i o => M.bnd (evO P Φ o) fun x => M.bnd (setO1 i x) fun _ => M.ret .nx
  | .parO is os => M.bnd (evOs P Φ os) fun xs => M.bnd (setOs is xs) fun _ => M.ret .nx
  | .parS ts es => M.bnd (evs P Φ es) fun xs => M.bnd (evParS P Φ ts xs) fun _ => M.ret .nx
  | .mu i p m => M.bnd (evMu P Φ i p m) fun _ => M.ret .nx
  | .aug i o e => M.bnd (rdSlot i) fun x => M.bnd (ev P Φ e) fun y => M.bnd (M.opt (augD o x y)) fun z => M.bnd (setO1 i (.fz z)) fun _ => M.ret .nx
  | .ex e => M.bnd (ev P Φ e) fun _ => M.ret .nx
  | .ret e => M.bnd (ev P Φ e) fun d => M.ret (.rt (.fz d))
  | .retN => M.ret (.rt (.fz .non))
  | .retO o => M.bnd (evO P Φ o) fun x => M.ret (.rt x)
  | .ite c a b => M.bnd (ev P Φ c) fun x => M.bnd (toBool x) fun r => if r then exs a else exs b
  | .for t it b => M.bnd (evI P Φ it) fun xs => forL t (exs b) xs
  | .whl c b => whlL (M.bnd (ev P Φ c) toBool) (exs b) P.W
  | .rse c es => M.bnd (evs P Φ es) fun fs => fun f => .exc c fs f
  | .try b cs k h => match k with
    | some i => tryM P.excs.length (exs b) cs i fun c fs => runHs c fs h
    | none => M.fail
  | .brk => M.ret .bk
  | .cont => M.ret .ct
  | .pass => M.ret .nx
def exs : Ss → M Fl
  | .nil => M.ret .nx
  | .cons s r => M.bnd (exS s) (flow (exs r))
end
def outsOf (io : List Nat) (f : Fr) : List O := io.map fun i => f.getD i .un
def isUn : O → Bool
  | .un => true
  | _ => false
def finish (io : List Nat) : Rs Fl → RC
  | .ok .nx f => if (outsOf io f).any isUn then .bad else .ok (.fz .non) (outsOf io f)
  | .ok (.rt d) f => if (outsOf io f).any isUn then .bad else .ok d (outsOf io f)
  | .exc c fs f => if (outsOf io f).any isUn then .bad else .exc c fs (outsOf io f)
  | _ => .bad
def runD (d : Dfn) (os : List O) : RC :=
  if os.length = d.par then finish d.io (exs P Φ d.body (os ++ List.replicate (d.names.length - d.par) .un)) else .bad
end
def run (P : Prg) : Nat → Calls
  | 0 => fun _ _ => .bad
  | n + 1 => fun g os => match P.defs[g]? with
    | some d => runD P (run P n) d os
    | none => .bad
end Cr

/-! How the core's data stand in the hand layer's heap. -/
namespace Cr
open PySem PySem.Spec L2

/-- what the relation leans on: the written part, the addresses of classes and defs, the fields of classes -/
structure RE where
  K : PySem.W.Frag
  cls : Nat → Addr
  fnA : Nat → Addr
  fds : Nat → List Str
  exc : Nat → Addr
  xfd : Nat → Option (List Str)

/-- .. and the slots of a def that hold what its caller gave it to change -/
structure RB extends RE where
  io : List Nat
instance : Coe RB RE := ⟨RB.toRE⟩

abbrev OwnP := Addr → Prop
/-- a list of the top -/
def KLst (K : PySem.W.Frag) (a : Addr) (xs : List V) : Prop := ∃ (o : Obj) (its : Array Value) (n : Nat), K.lookup a = some o ∧ o.cls = .type "list" ∧ o.dict = none ∧ o.data = .seq its n ∧ its.size ≤ sizeLine ∧ Vals xs its.toList
/-- what stands at an address; a dict that a loop walks is still that dict -/
def bare : HO → HO
  | .frz _ (.dK k) => .dK k
  | .frz _ (.dT k) => .dT k
  | o => o
def cont (H : Hp) (a : Addr) : Option HO := (H a).map bare
def Fz (H : Hp) (W : OwnP) (a : Addr) (u : HO) : Prop := ¬ W a ∧ cont H a = some u
theorem cont_of {H : Hp} {a : Addr} {o : HO} (h : H a = some o) : cont H a = some (bare o) := by unfold cont; rw [h]; rfl
theorem of_bare_lst {o : HO} {xs : List V} (h : bare o = .lst xs) : o = .lst xs := by
  unfold bare at h
  split at h <;> first | exact h | cases h
theorem of_bare_tup {o : HO} {xs : List V} (h : bare o = .tup xs) : o = .tup xs := by
  unfold bare at h
  split at h <;> first | exact h | cases h
theorem of_bare_ins {o : HO} {C dx : Addr} {gs : List (Str × V)} (h : bare o = .ins C dx gs) : o = .ins C dx gs := by
  unfold bare at h
  split at h <;> first | exact h | cases h
theorem of_bare_frzL {o : HO} {ob : Obj} {xs : List V} (h : bare o = .frz ob (.lst xs)) : o = .frz ob (.lst xs) := by
  unfold bare at h
  split at h <;> first | exact h | cases h
theorem of_bare_xd {o : HO} {gs : List (Str × V)} (h : bare o = .xd gs) : o = .xd gs := by
  unfold bare at h
  split at h <;> first | exact h | cases h
theorem cont_some {H : Hp} {a : Addr} {u : HO} (h : cont H a = some u) : ∃ o, H a = some o ∧ bare o = u := by
  unfold cont at h
  cases q : H a with
  | none => rw [q] at h; cases h
  | some o => rw [q] at h; exact ⟨o, rfl, Option.some.inj h⟩
theorem cont_lst {H : Hp} {a : Addr} {xs : List V} (h : cont H a = some (.lst xs)) : H a = some (.lst xs) := by
  obtain ⟨o, q, b⟩ := cont_some h
  rw [of_bare_lst b] at q
  exact q
theorem cont_tup {H : Hp} {a : Addr} {xs : List V} (h : cont H a = some (.tup xs)) : H a = some (.tup xs) := by
  obtain ⟨o, q, b⟩ := cont_some h
  rw [of_bare_tup b] at q
  exact q
theorem cont_ins {H : Hp} {a C dx : Addr} {gs : List (Str × V)} (h : cont H a = some (.ins C dx gs)) : H a = some (.ins C dx gs) := by
  obtain ⟨o, q, b⟩ := cont_some h
  rw [of_bare_ins b] at q
  exact q
theorem cont_frzL {H : Hp} {a : Addr} {ob : Obj} {xs : List V} (h : cont H a = some (.frz ob (.lst xs))) : H a = some (.frz ob (.lst xs)) := by
  obtain ⟨o, q, b⟩ := cont_some h
  rw [of_bare_frzL b] at q
  exact q
theorem cont_xd {H : Hp} {a : Addr} {gs : List (Str × V)} (h : cont H a = some (.xd gs)) : H a = some (.xd gs) := by
  obtain ⟨o, q, b⟩ := cont_some h
  rw [of_bare_xd b] at q
  exact q
theorem cont_dK {H : Hp} {a : Addr} {kvs : List (L2.Key × V)} (h : cont H a = some (.dK kvs)) : Rd H a (.dK kvs) := by
  obtain ⟨o, q, b⟩ := cont_some h
  unfold bare at b
  split at b
  · cases b; exact .inr ⟨_, q⟩
  · cases b
  · subst b; exact .inl q
theorem cont_dT {H : Hp} {a : Addr} {kvs : List (List L2.Key × V)} (h : cont H a = some (.dT kvs)) : Rd H a (.dT kvs) := by
  obtain ⟨o, q, b⟩ := cont_some h
  unfold bare at b
  split at b
  · cases b
  · cases b; exact .inr ⟨_, q⟩
  · subst b; exact .inl q
theorem cont_ne {H : Hp} {a : Addr} {u : HO} (h : cont H a = some u) : H a ≠ none := by
  obtain ⟨o, q, _⟩ := cont_some h
  rw [q]
  exact fun z => by cases z

def KeyOk (ns : List Str) (gs : List (Str × V)) : Prop := (gs.map (·.1)).Nodup ∧ ∀ p ∈ gs, p.1 ∈ ns
section
variable (e : RE) (H : Hp) (W : OwnP)
mutual
def Rep : D → V → Prop
  | .nil, _ => False
  | .non, v => v = .non
  | .bl b, v => v = .bl b
  | .int i, v => v = .int i
  | .str s, v => v = .str s
  | .tup ds, v => ∃ a xs, v = .ref a ∧ Fz H W a (.tup xs) ∧ Reps ds xs
  | .lst ds, v => ∃ a xs, v = .ref a ∧ Fz H W a (.lst xs) ∧ Reps ds xs
  | .dK ks vs, v => ∃ a kvs, v = .ref a ∧ Fz H W a (.dK kvs) ∧ kvs.map (·.1) = ks ∧ Reps vs (kvs.map (·.2))
  | .dT ks vs, v => ∃ a kvs, v = .ref a ∧ Fz H W a (.dT kvs) ∧ kvs.map (·.1) = ks ∧ Reps vs (kvs.map (·.2))
  | .ins c fs, v => ∃ a dx gs, v = .ref a ∧ Fz H W a (.ins (e.cls c) dx gs) ∧ RepF fs (e.fds c) gs ∧ KeyOk (e.fds c) gs
  | .fn f, v => v = .ref (e.fnA f)
  | .scr ns, v => ∃ a, v = .ref a ∧ ((∃ ob, Fz H W a (.frz ob (.lst (ns.map V.int)))) ∨ KLst e.K a (ns.map V.int))
def Reps : List D → List V → Prop
  | [], xs => xs = []
  | d :: ds, xs => ∃ x r, xs = x :: r ∧ Rep d x ∧ Reps ds r
def RepF : List D → List Str → List (Str × V) → Prop
  | [], ns, _ => ns = []
  | d :: ds, ns, gs => ∃ n r, ns = n :: r ∧ (d = .nil ∨ ∃ v, gs.lookup n = some v ∧ Rep d v) ∧ RepF ds r gs
end
mutual
def RepO : O → V → List Addr → Prop
  | .un, _, _ => False
  | .fz d, v, fp => fp = [] ∧ Rep e H W d v
  | .lst os, v, fp => ∃ a xs fq, v = .ref a ∧ fp = a :: fq ∧ H a = some (.lst xs) ∧ RepOs os xs fq
  | .dK ks os, v, fp => ∃ a kvs fq, v = .ref a ∧ fp = a :: fq ∧ H a = some (.dK kvs) ∧ kvs.map (·.1) = ks ∧ RepOs os (kvs.map (·.2)) fq
  | .dT ks os, v, fp => ∃ a kvs fq, v = .ref a ∧ fp = a :: fq ∧ H a = some (.dT kvs) ∧ kvs.map (·.1) = ks ∧ RepOs os (kvs.map (·.2)) fq
  | .ins c fs, v, fp => ∃ a dx gs fq, v = .ref a ∧ fp = a :: fq ∧ H a = some (.ins (e.cls c) dx gs) ∧ RepOF fs (e.fds c) gs fq ∧ KeyOk (e.fds c) gs
def RepOs : List O → List V → List Addr → Prop
  | [], xs, fp => xs = [] ∧ fp = []
  | o :: os, xs, fp => ∃ x r f1 f2, xs = x :: r ∧ fp = f1 ++ f2 ∧ RepO o x f1 ∧ RepOs os r f2
def RepOF : List O → List Str → List (Str × V) → List Addr → Prop
  | [], ns, _, fp => ns = [] ∧ fp = []
  | o :: os, ns, gs, fp => ∃ n r f1 f2, ns = n :: r ∧ fp = f1 ++ f2 ∧ ((o = .fz .nil ∧ f1 = []) ∨ ∃ v, gs.lookup n = some v ∧ RepO o v f1) ∧ RepOF os r gs f2
end
def RepS : O → Option V → List Addr → Prop
  | .un, _, fp => fp = []
  | o, some v, fp => RepO e H W o v fp
  | _, none, _ => False
def RepFr : Fr → St → List Addr → Prop
  | [], σ, fp => σ = [] ∧ fp = []
  | o :: os, σ, fp => ∃ s r f1 f2, σ = s :: r ∧ fp = f1 ++ f2 ∧ RepS e H W o s f1 ∧ RepFr os r f2
end

/-- frozen things stay -/
structure Le (H : Hp) (W : OwnP) (H' : Hp) (W' : OwnP) : Prop where
  rd : ∀ a u, ¬ W a → cont H a = some u → ¬ W' a ∧ cont H' a = some u

section
variable {e : RE} {H H' H2 : Hp} {W W' W2 : OwnP}
theorem Le.refl : Le H W H W := ⟨fun _ _ n r => ⟨n, r⟩⟩
theorem Le.trans (a : Le H W H' W') (b : Le H' W' H2 W2) : Le H W H2 W2 :=
  ⟨fun x u n r => let ⟨n1, r1⟩ := a.rd x u n r; b.rd x u n1 r1⟩
theorem Fz.le (l : Le H W H' W') {a : Addr} {u : HO} (h : Fz H W a u) : Fz H' W' a u := l.rd a u h.1 h.2
mutual
theorem Rep.le (l : Le H W H' W') : ∀ {d : D} {v : V}, Rep e H W d v → Rep e H' W' d v
  | .nil, _, h => by simp [Rep] at h
  | .non, _, h => by simpa [Rep] using h
  | .bl _, _, h => by simpa [Rep] using h
  | .int _, _, h => by simpa [Rep] using h
  | .str _, _, h => by simpa [Rep] using h
  | .fn _, _, h => by simpa [Rep] using h
  | .tup ds, v, h => by
    unfold Rep at h ⊢
    obtain ⟨a, xs, e1, f, r⟩ := h
    exact ⟨a, xs, e1, f.le l, Reps.le l r⟩
  | .lst ds, v, h => by
    unfold Rep at h ⊢
    obtain ⟨a, xs, e1, f, r⟩ := h
    exact ⟨a, xs, e1, f.le l, Reps.le l r⟩
  | .dK ks ds, v, h => by
    unfold Rep at h ⊢
    obtain ⟨a, xs, e1, f, k, r⟩ := h
    exact ⟨a, xs, e1, f.le l, k, Reps.le l r⟩
  | .dT ks ds, v, h => by
    unfold Rep at h ⊢
    obtain ⟨a, xs, e1, f, k, r⟩ := h
    exact ⟨a, xs, e1, f.le l, k, Reps.le l r⟩
  | .ins c fs, v, h => by
    unfold Rep at h ⊢
    obtain ⟨a, dx, gs, e1, f, r, k⟩ := h
    exact ⟨a, dx, gs, e1, f.le l, RepF.le l r, k⟩
  | .scr _, v, h => by
    unfold Rep at h ⊢
    obtain ⟨a, e1, f⟩ := h
    rcases f with ⟨ob, f⟩ | f
    · exact ⟨a, e1, .inl ⟨ob, f.le l⟩⟩
    · exact ⟨a, e1, .inr f⟩
theorem Reps.le (l : Le H W H' W') : ∀ {ds : List D} {vs : List V}, Reps e H W ds vs → Reps e H' W' ds vs
  | [], _, h => by simpa [Reps] using h
  | d :: ds, vs, h => by
    unfold Reps at h ⊢
    obtain ⟨x, r, e1, h1, h2⟩ := h
    exact ⟨x, r, e1, Rep.le l h1, Reps.le l h2⟩
theorem RepF.le (l : Le H W H' W') : ∀ {ds : List D} {ns : List Str} {gs : List (Str × V)}, RepF e H W ds ns gs → RepF e H' W' ds ns gs
  | [], _, _, h => by simpa [RepF] using h
  | d :: ds, ns, gs, h => by
    unfold RepF at h ⊢
    obtain ⟨n, r, e1, h1, h2⟩ := h
    refine ⟨n, r, e1, ?_, RepF.le l h2⟩
    rcases h1 with h1 | ⟨v, q, h1⟩
    · exact .inl h1
    · exact .inr ⟨v, q, Rep.le l h1⟩
end
mutual
theorem RepO.le (l : Le H W H' W') : ∀ {o : O} {v : V} {fp : List Addr}, (∀ a ∈ fp, H' a = H a) → RepO e H W o v fp → RepO e H' W' o v fp
  | .un, _, _, _, h => by simp [RepO] at h
  | .fz d, v, fp, _, h => by
    unfold RepO at h ⊢
    exact ⟨h.1, h.2.le l⟩
  | .lst os, v, fp, k, h => by
    unfold RepO at h ⊢
    obtain ⟨a, xs, fq, e1, e2, q, r⟩ := h
    subst e2
    exact ⟨a, xs, fq, e1, rfl, (k a List.mem_cons_self).trans q, RepOs.le l (fun b hb => k b (List.mem_cons_of_mem _ hb)) r⟩
  | .dK ks os, v, fp, k, h => by
    unfold RepO at h ⊢
    obtain ⟨a, xs, fq, e1, e2, q, z, r⟩ := h
    subst e2
    exact ⟨a, xs, fq, e1, rfl, (k a List.mem_cons_self).trans q, z, RepOs.le l (fun b hb => k b (List.mem_cons_of_mem _ hb)) r⟩
  | .dT ks os, v, fp, k, h => by
    unfold RepO at h ⊢
    obtain ⟨a, xs, fq, e1, e2, q, z, r⟩ := h
    subst e2
    exact ⟨a, xs, fq, e1, rfl, (k a List.mem_cons_self).trans q, z, RepOs.le l (fun b hb => k b (List.mem_cons_of_mem _ hb)) r⟩
  | .ins c os, v, fp, k, h => by
    unfold RepO at h ⊢
    obtain ⟨a, dx, gs, fq, e1, e2, q, r, z⟩ := h
    subst e2
    exact ⟨a, dx, gs, fq, e1, rfl, (k a List.mem_cons_self).trans q, RepOF.le l (fun b hb => k b (List.mem_cons_of_mem _ hb)) r, z⟩
theorem RepOs.le (l : Le H W H' W') : ∀ {os : List O} {vs : List V} {fp : List Addr}, (∀ a ∈ fp, H' a = H a) → RepOs e H W os vs fp → RepOs e H' W' os vs fp
  | [], _, _, _, h => by simpa [RepOs] using h
  | o :: os, vs, fp, k, h => by
    unfold RepOs at h ⊢
    obtain ⟨x, r, f1, f2, e1, e2, h1, h2⟩ := h
    subst e2
    exact ⟨x, r, f1, f2, e1, rfl, RepO.le l (fun b hb => k b (List.mem_append_left _ hb)) h1, RepOs.le l (fun b hb => k b (List.mem_append_right _ hb)) h2⟩
theorem RepOF.le (l : Le H W H' W') : ∀ {os : List O} {ns : List Str} {gs : List (Str × V)} {fp : List Addr}, (∀ a ∈ fp, H' a = H a) → RepOF e H W os ns gs fp → RepOF e H' W' os ns gs fp
  | [], _, _, _, _, h => by simpa [RepOF] using h
  | o :: os, ns, gs, fp, k, h => by
    unfold RepOF at h ⊢
    obtain ⟨n, r, f1, f2, e1, e2, h1, h2⟩ := h
    subst e2
    refine ⟨n, r, f1, f2, e1, rfl, ?_, RepOF.le l (fun b hb => k b (List.mem_append_right _ hb)) h2⟩
    rcases h1 with h1 | ⟨v, q, h1⟩
    · exact .inl h1
    · exact .inr ⟨v, q, RepO.le l (fun b hb => k b (List.mem_append_left _ hb)) h1⟩
end
theorem RepS.le (l : Le H W H' W') {o : O} {s : Option V} {fp : List Addr} (k : ∀ a ∈ fp, H' a = H a) (h : RepS e H W o s fp) : RepS e H' W' o s fp := by
  cases o <;> cases s <;> first | exact h | exact RepO.le l k h
theorem RepFr.le (l : Le H W H' W') : ∀ {f : Fr} {σ : St} {fp : List Addr}, (∀ a ∈ fp, H' a = H a) → RepFr e H W f σ fp → RepFr e H' W' f σ fp
  | [], _, _, _, h => by simpa [RepFr] using h
  | o :: os, σ, fp, k, h => by
    unfold RepFr at h ⊢
    obtain ⟨x, r, f1, f2, e1, e2, h1, h2⟩ := h
    subst e2
    exact ⟨x, r, f1, f2, e1, rfl, RepS.le l (fun b hb => k b (List.mem_append_left _ hb)) h1, RepFr.le l (fun b hb => k b (List.mem_append_right _ hb)) h2⟩

/-! ### an object's own places are tracked -/
mutual
theorem RepO.there : ∀ {o : O} {v : V} {fp : List Addr}, RepO e H W o v fp → ∀ a ∈ fp, H a ≠ none
  | .un, _, _, h, _, _ => by simp [RepO] at h
  | .fz d, v, fp, h, a, ha => by
    unfold RepO at h
    rw [h.1] at ha
    cases ha
  | .lst os, v, fp, h, b, hb => by
    unfold RepO at h
    obtain ⟨a, xs, fq, e1, e2, q, r⟩ := h
    subst e2
    rcases List.mem_cons.mp hb with rfl | hb
    · rw [q]; simp
    · exact RepOs.there r b hb
  | .dK ks os, v, fp, h, b, hb => by
    unfold RepO at h
    obtain ⟨a, xs, fq, e1, e2, q, z, r⟩ := h
    subst e2
    rcases List.mem_cons.mp hb with rfl | hb
    · rw [q]; simp
    · exact RepOs.there r b hb
  | .dT ks os, v, fp, h, b, hb => by
    unfold RepO at h
    obtain ⟨a, xs, fq, e1, e2, q, z, r⟩ := h
    subst e2
    rcases List.mem_cons.mp hb with rfl | hb
    · rw [q]; simp
    · exact RepOs.there r b hb
  | .ins c os, v, fp, h, b, hb => by
    unfold RepO at h
    obtain ⟨a, dx, gs, fq, e1, e2, q, r, z⟩ := h
    subst e2
    rcases List.mem_cons.mp hb with rfl | hb
    · rw [q]; simp
    · exact RepOF.there r b hb
theorem RepOs.there : ∀ {os : List O} {vs : List V} {fp : List Addr}, RepOs e H W os vs fp → ∀ a ∈ fp, H a ≠ none
  | [], _, _, h, a, ha => by
    unfold RepOs at h
    rw [h.2] at ha
    cases ha
  | o :: os, vs, fp, h, a, ha => by
    unfold RepOs at h
    obtain ⟨x, r, f1, f2, e1, e2, h1, h2⟩ := h
    subst e2
    rcases List.mem_append.mp ha with ha | ha
    · exact RepO.there h1 a ha
    · exact RepOs.there h2 a ha
theorem RepOF.there : ∀ {os : List O} {ns : List Str} {gs : List (Str × V)} {fp : List Addr}, RepOF e H W os ns gs fp → ∀ a ∈ fp, H a ≠ none
  | [], _, _, _, h, a, ha => by
    unfold RepOF at h
    rw [h.2] at ha
    cases ha
  | o :: os, ns, gs, fp, h, a, ha => by
    unfold RepOF at h
    obtain ⟨n, r, f1, f2, e1, e2, h1, h2⟩ := h
    subst e2
    rcases List.mem_append.mp ha with ha | ha
    · rcases h1 with ⟨_, h1⟩ | ⟨v, q, h1⟩
      · rw [h1] at ha; cases ha
      · exact RepO.there h1 a ha
    · exact RepOF.there h2 a ha
end
theorem RepS.there {o : O} {s : Option V} {fp : List Addr} (h : RepS e H W o s fp) : ∀ a ∈ fp, H a ≠ none := by
  cases o with
  | un => cases s <;> (intro a ha; unfold RepS at h; rw [h] at ha; cases ha)
  | _ => cases s <;> first | exact (h : False).elim | exact RepO.there h
theorem RepFr.there : ∀ {f : Fr} {σ : St} {fp : List Addr}, RepFr e H W f σ fp → ∀ a ∈ fp, H a ≠ none
  | [], _, _, h, a, ha => by
    unfold RepFr at h
    rw [h.2] at ha
    cases ha
  | o :: os, σ, fp, h, a, ha => by
    unfold RepFr at h
    obtain ⟨x, r, f1, f2, e1, e2, h1, h2⟩ := h
    subst e2
    rcases List.mem_append.mp ha with ha | ha
    · exact RepS.there h1 a ha
    · exact RepFr.there h2 a ha
end

/-! ### freezing -/
section
variable {e : RE} {H : Hp} {W W' : OwnP}
mutual
theorem RepO.frz (l : Le H W H W') : ∀ {o : O} {v : V} {fp : List Addr}, (∀ a ∈ fp, ¬ W' a) → RepO e H W o v fp → (o = .fz .nil → False) → Rep e H W' (fzd o) v
  | .un, _, _, _, h, _ => by simp [RepO] at h
  | .fz d, v, fp, _, h, _ => by
    unfold RepO at h
    exact h.2.le l
  | .lst os, v, fp, k, h, _ => by
    unfold RepO at h
    obtain ⟨a, xs, fq, e1, e2, q, r⟩ := h
    subst e2
    unfold fzd Rep
    exact ⟨a, xs, e1, ⟨k a List.mem_cons_self, cont_of q⟩, RepOs.frz l (fun b hb => k b (List.mem_cons_of_mem _ hb)) r⟩
  | .dK ks os, v, fp, k, h, _ => by
    unfold RepO at h
    obtain ⟨a, xs, fq, e1, e2, q, z, r⟩ := h
    subst e2
    unfold fzd Rep
    exact ⟨a, xs, e1, ⟨k a List.mem_cons_self, cont_of q⟩, z, RepOs.frz l (fun b hb => k b (List.mem_cons_of_mem _ hb)) r⟩
  | .dT ks os, v, fp, k, h, _ => by
    unfold RepO at h
    obtain ⟨a, xs, fq, e1, e2, q, z, r⟩ := h
    subst e2
    unfold fzd Rep
    exact ⟨a, xs, e1, ⟨k a List.mem_cons_self, cont_of q⟩, z, RepOs.frz l (fun b hb => k b (List.mem_cons_of_mem _ hb)) r⟩
  | .ins c os, v, fp, k, h, _ => by
    unfold RepO at h
    obtain ⟨a, dx, gs, fq, e1, e2, q, r, z⟩ := h
    subst e2
    unfold fzd Rep
    exact ⟨a, dx, gs, e1, ⟨k a List.mem_cons_self, cont_of q⟩, RepOF.frz l (fun b hb => k b (List.mem_cons_of_mem _ hb)) r, z⟩
theorem RepOs.frz (l : Le H W H W') : ∀ {os : List O} {vs : List V} {fp : List Addr}, (∀ a ∈ fp, ¬ W' a) → RepOs e H W os vs fp → Reps e H W' (fzds os) vs
  | [], _, _, _, h => by
    unfold RepOs at h
    unfold fzds Reps
    exact h.1
  | o :: os, vs, fp, k, h => by
    unfold RepOs at h
    obtain ⟨x, r, f1, f2, e1, e2, h1, h2⟩ := h
    subst e2
    unfold fzds Reps
    refine ⟨x, r, e1, RepO.frz l (fun b hb => k b (List.mem_append_left _ hb)) h1 (fun z => ?_), RepOs.frz l (fun b hb => k b (List.mem_append_right _ hb)) h2⟩
    subst z
    unfold RepO Rep at h1
    exact h1.2
theorem RepOF.frz (l : Le H W H W') : ∀ {os : List O} {ns : List Str} {gs : List (Str × V)} {fp : List Addr}, (∀ a ∈ fp, ¬ W' a) → RepOF e H W os ns gs fp → RepF e H W' (fzds os) ns gs
  | [], _, _, _, _, h => by
    unfold RepOF at h
    unfold fzds RepF
    exact h.1
  | o :: os, ns, gs, fp, k, h => by
    unfold RepOF at h
    obtain ⟨n, r, f1, f2, e1, e2, h1, h2⟩ := h
    subst e2
    unfold fzds RepF
    refine ⟨n, r, e1, ?_, RepOF.frz l (fun b hb => k b (List.mem_append_right _ hb)) h2⟩
    rcases h1 with ⟨h1, _⟩ | ⟨v, q, h1⟩
    · subst h1
      exact .inl rfl
    · refine .inr ⟨v, q, RepO.frz l (fun b hb => k b (List.mem_append_left _ hb)) h1 (fun z => ?_)⟩
      subst z
      unfold RepO Rep at h1
      exact h1.2
end
end
end Cr

/-! The world of a running def: its frame over the heap; what is wanted behind a step. -/
namespace Cr
open PySem PySem.Spec L2

def own (Z : OwnP) (fp : List Addr) : OwnP := fun a => Z a ∨ a ∈ fp
theorem own_perm {Z : OwnP} {fp fq : List Addr} (h : fp.Perm fq) : own Z fp = own Z fq := by
  funext a
  exact propext ⟨fun q => q.elim .inl fun m => .inr (h.mem_iff.mp m), fun q => q.elim .inl fun m => .inr (h.mem_iff.mpr m)⟩

structure R (e : RB) (Z : OwnP) (B : List (Nat × V)) (fp : List Addr) (σ : L2.St) (H : Hp) (f : Fr) : Prop where
  fr : RepFr e H (own Z fp) f σ fp
  nd : fp.Nodup
  dj : ∀ a ∈ fp, ¬ Z a
  zin : ∀ a, Z a → H a ≠ none
  pin : ∀ p ∈ B, σ[p.1]? = some (some p.2)
  pio : ∀ p ∈ B, p.1 ∈ e.io
structure Adv (Z : OwnP) (fp : List Addr) (H : Hp) (fp' : List Addr) (H' : Hp) : Prop where
  le : Le H (own Z fp) H' (own Z fp')
  z : ∀ a, Z a → H' a = H a
section
variable {e : RB} {Z : OwnP} {B : List (Nat × V)} {fp fp1 fp2 : List Addr} {σ : L2.St} {H H1 H2 : Hp} {f : Fr} {W : OwnP}
theorem Adv.refl : Adv Z fp H fp H := ⟨Le.refl, fun _ _ => rfl⟩
theorem Adv.trans (a : Adv Z fp H fp1 H1) (b : Adv Z fp1 H1 fp2 H2) : Adv Z fp H fp2 H2 := ⟨a.le.trans b.le, fun x z => (b.z x z).trans (a.z x z)⟩
theorem Le.same (s : Same H H1) : Le H W H1 W := ⟨fun a u n h => by
  obtain ⟨o, q, b⟩ := cont_some h
  subst b
  exact ⟨n, cont_of (s a o q)⟩⟩
theorem Adv.same (s : Same H H1) (zin : ∀ a, Z a → H a ≠ none) : Adv Z fp H fp H1 := ⟨Le.same s, fun a z => by
  cases q : H a with
  | none => exact absurd q (zin a z)
  | some o => exact s a o q⟩
theorem R.there (r : R e Z B fp σ H f) : ∀ a, own Z fp a → H a ≠ none := fun a h => h.elim (r.zin a) (r.fr.there a)
theorem Same.eq (s : Same H H1) {a : Addr} (h : H a ≠ none) : H1 a = H a := by
  cases q : H a with
  | none => exact absurd q h
  | some o => exact s a o q
theorem R.same (r : R e Z B fp σ H f) (s : Same H H1) : R e Z B fp σ H1 f where
  fr := RepFr.le (Le.same s) (fun a ha => Same.eq s (r.fr.there a ha)) r.fr
  nd := r.nd
  dj := r.dj
  zin := fun a z => by rw [Same.eq s (r.zin a z)]; exact r.zin a z
  pin := r.pin
  pio := r.pio
theorem R.adv (r : R e Z B fp σ H f) (s : Same H H1) : Adv Z fp H fp H1 := Adv.same s r.zin
end

/-! ### the slots -/
section
variable {e : RE} {H : Hp} {W : OwnP}
theorem RepFr.len : ∀ {f : Fr} {σ : L2.St} {fp : List Addr}, RepFr e H W f σ fp → σ.length = f.length
  | [], _, _, h => by unfold RepFr at h; rw [h.1]; rfl
  | o :: os, σ, fp, h => by
    unfold RepFr at h
    obtain ⟨s, r, f1, f2, e1, e2, h1, h2⟩ := h
    subst e1
    rw [List.length_cons, List.length_cons, RepFr.len h2]
/-- a slot, and how another thing is put there -/
theorem RepFr.at : ∀ {f : Fr} {σ : L2.St} {fp : List Addr} {i : Nat} {o : O}, RepFr e H W f σ fp → f[i]? = some o → ∃ s fo rest, σ[i]? = some s ∧ RepS e H W o s fo ∧ fp.Perm (fo ++ rest) ∧
    ∀ (o' : O) (s' : Option V) (fo' : List Addr), RepS e H W o' s' fo' → ∃ fq, fq.Perm (fo' ++ rest) ∧ RepFr e H W (f.set i o') (σ.set i s') fq
  | [], _, _, _, _, _, hi => by simp at hi
  | o :: os, σ, fp, 0, o0, h, hi => by
    unfold RepFr at h
    obtain ⟨s, r, f1, f2, e1, e2, h1, h2⟩ := h
    subst e1 e2
    have e3 : o = o0 := Option.some.inj hi
    subst e3
    refine ⟨s, f1, f2, rfl, h1, List.Perm.refl _, fun o' s' fo' h' => ⟨fo' ++ f2, List.Perm.refl _, ?_⟩⟩
    show RepFr e H W (o' :: os) (s' :: r) (fo' ++ f2)
    unfold RepFr
    exact ⟨s', r, fo', f2, rfl, rfl, h', h2⟩
  | o :: os, σ, fp, i + 1, o0, h, hi => by
    unfold RepFr at h
    obtain ⟨s, r, f1, f2, e1, e2, h1, h2⟩ := h
    subst e1 e2
    obtain ⟨s0, fo, rest, q1, q2, q3, q4⟩ := RepFr.at (i := i) h2 (by simpa using hi)
    refine ⟨s0, fo, f1 ++ rest, by simpa using q1, q2, ?_, fun o' s' fo' h' => ?_⟩
    · refine (List.Perm.append_left f1 q3).trans ?_
      rw [← List.append_assoc, ← List.append_assoc]
      exact List.Perm.append_right rest List.perm_append_comm
    · obtain ⟨fq, p, z⟩ := q4 o' s' fo' h'
      refine ⟨f1 ++ fq, ?_, ?_⟩
      · refine (List.Perm.append_left f1 p).trans ?_
        rw [← List.append_assoc, ← List.append_assoc]
        exact List.Perm.append_right rest List.perm_append_comm
      · show RepFr e H W (o :: os.set i o') (s :: r.set i s') (f1 ++ fq)
        unfold RepFr
        exact ⟨s, _, f1, fq, rfl, rfl, h1, z⟩
theorem set_self {α : Type} : ∀ {l : List α} {i : Nat} {x : α}, l[i]? = some x → l.set i x = l
  | [], _, _, h => by simp at h
  | y :: l, 0, x, h => by
    have e : y = x := Option.some.inj h
    subst e
    rfl
  | y :: l, i + 1, x, h => by
    show y :: l.set i x = y :: l
    rw [set_self (by simpa using h)]
theorem RepS.un {s : Option V} : RepS e H W .un s [] := by cases s <;> rfl
theorem RepS.fz {d : D} {v : V} (h : Rep e H W d v) : RepS e H W (.fz d) (some v) [] := ⟨rfl, h⟩
end

section
variable {e : RB} {Z : OwnP} {B : List (Nat × V)} {fp : List Addr} {σ : L2.St} {H : Hp} {f : Fr}
/-- what is owned besides -/
abbrev also (Z : OwnP) (fo : List Addr) : OwnP := fun a => Z a ∨ a ∈ fo
theorem own_also {Z : OwnP} {fo rest : List Addr} : own (also Z fo) rest = own Z (fo ++ rest) := by
  funext a
  refine propext ⟨fun q => ?_, fun q => ?_⟩
  · rcases q with (q | q) | q
    · exact .inl q
    · exact .inr (List.mem_append_left _ q)
    · exact .inr (List.mem_append_right _ q)
  · rcases q with q | q
    · exact .inl (.inl q)
    · rcases List.mem_append.mp q with q | q
      · exact .inl (.inr q)
      · exact .inr q
theorem also_nil {Z : OwnP} : also Z [] = Z := by
  funext a
  exact propext ⟨fun q => q.elim id fun z => by simp at z, .inl⟩
theorem Le.shrink {W W' : OwnP} (h : ∀ a, W' a → W a) : Le H W H W' := ⟨fun a u n q => ⟨fun z => n (h a z), q⟩⟩
/-- a slot's thing is taken out -/
theorem R.take (r : R e Z B fp σ H f) {i : Nat} {o : O} (hi : f[i]? = some o) : ∃ s fo rest, σ[i]? = some s ∧ RepS e H (own Z fp) o s fo ∧ fp.Perm (fo ++ rest) ∧ fo.Nodup ∧ (∀ a ∈ fo, ¬ Z a) ∧
    own Z fp = own (also Z fo) rest ∧ R e (also Z fo) B rest σ H (f.set i .un) := by
  obtain ⟨s, fo, rest, q1, q2, q3, q4⟩ := RepFr.at r.fr hi
  obtain ⟨fq, p, z⟩ := q4 .un s [] RepS.un
  rw [set_self q1] at z
  have p' : fq.Perm rest := p
  have q5 : fp.Perm (fo ++ fq) := q3.trans (List.Perm.append_left fo p'.symm)
  have nd := q5.nodup_iff.mp r.nd
  have ew : own Z fp = own (also Z fo) fq := by rw [own_perm q5, own_also]
  have nd' := List.nodup_append.mp nd
  refine ⟨s, fo, fq, q1, q2, q5, nd'.1, fun a ha => r.dj a (q5.mem_iff.mpr (List.mem_append_left _ ha)), ew, ?_⟩
  refine ⟨by rw [← ew]; exact z, nd'.2.1, fun a ha hz => ?_, fun a hz => ?_, r.pin, r.pio⟩
  · rcases hz with hz | hz
    · exact r.dj a (q5.mem_iff.mpr (List.mem_append_right _ ha)) hz
    · exact nd'.2.2 a hz a ha rfl
  · rcases hz with hz | hz
    · exact r.zin a hz
    · exact r.fr.there a (q5.mem_iff.mpr (List.mem_append_left _ hz))
/-- a thing that owns fo is put in a slot; what was there is let go -/
theorem R.set {fo : List Addr} (r : R e (also Z fo) B fp σ H f) {i : Nat} {o o' : O} {s' : Option V} (hi : f[i]? = some o) (h : RepS e H (own (also Z fo) fp) o' s' fo) (hn : fo.Nodup) (hz : ∀ a ∈ fo, ¬ Z a) (hB : ∀ p ∈ B, p.1 ≠ i) :
    ∃ fq, R e Z B fq (σ.set i s') H (f.set i o') ∧ (∀ a, own Z fq a → own (also Z fo) fp a) ∧ ∀ a ∈ fo, a ∈ fq := by
  obtain ⟨s, f0, rest, q1, q2, q3, q4⟩ := RepFr.at r.fr hi
  obtain ⟨fq, p, z⟩ := q4 o' s' fo h
  have sub : ∀ a, own Z fq a → own (also Z fo) fp a := fun a ha => by
    rcases ha with ha | ha
    · exact .inl (.inl ha)
    · rcases List.mem_append.mp (p.mem_iff.mp ha) with ha | ha
      · exact .inl (.inr ha)
      · exact .inr (q3.mem_iff.mpr (List.mem_append_right _ ha))
  have nd0 := List.nodup_append.mp (q3.nodup_iff.mp r.nd)
  have mrest : ∀ a ∈ rest, a ∈ fp := fun a ha => q3.mem_iff.mpr (List.mem_append_right _ ha)
  refine ⟨fq, ⟨RepFr.le (Le.shrink sub) (fun _ _ => rfl) z, ?_, fun a ha hz' => ?_, fun a hz' => r.zin a (.inl hz'), fun q hq => ?_, r.pio⟩, sub, fun a ha => p.mem_iff.mpr (List.mem_append_left _ ha)⟩
  · refine p.nodup_iff.mpr (List.nodup_append.mpr ⟨hn, nd0.2.1, fun a ha b hb e => ?_⟩)
    subst e
    exact r.dj a (mrest a hb) (.inr ha)
  · rcases List.mem_append.mp (p.mem_iff.mp ha) with ha | ha
    · exact hz a ha hz'
    · exact r.dj a (mrest a ha) (.inl hz')
  · rw [List.getElem?_set_ne (Ne.symm (hB q hq))]
    exact r.pin q hq
/-- frozen data is put in a slot -/
theorem R.setD (r : R e Z B fp σ H f) {i : Nat} {o : O} {d : D} {v : V} (hi : f[i]? = some o) (h : Rep e H (own Z fp) d v) (hB : ∀ p ∈ B, p.1 ≠ i) :
    ∃ fq, R e Z B fq (σ.set i (some v)) H (f.set i (.fz d)) ∧ Adv Z fp H fq H := by
  have r' : R e (also Z []) B fp σ H f := by rw [also_nil]; exact r
  obtain ⟨fq, q1, q2, _⟩ := r'.set hi (RepS.fz (by rw [also_nil]; exact h)) List.nodup_nil (fun a z => by cases z) hB
  refine ⟨fq, q1, Le.shrink fun a ha => ?_, fun _ _ => rfl⟩
  have := q2 a ha
  rwa [also_nil] at this
/-- what a slot holds is frozen where it is -/
theorem R.freeze (r : R e Z B fp σ H f) {i : Nat} {o : O} (hi : f[i]? = some o) (hu : o ≠ .un) : ∃ v fq, σ[i]? = some (some v) ∧ Rep e H (own Z fq) (fzd o) v ∧ R e Z B fq σ H (f.set i (.fz (fzd o))) ∧ Adv Z fp H fq H := by
  obtain ⟨s, fo, rest, q1, q2, q3, q4⟩ := RepFr.at r.fr hi
  cases s with
  | none => cases o <;> first | exact absurd rfl hu | exact (q2 : False).elim
  | some v =>
    have q2' : RepO e H (own Z fp) o v fo := by cases o <;> first | exact absurd rfl hu | exact q2
    have nd0 := List.nodup_append.mp (q3.nodup_iff.mp r.nd)
    have mr : ∀ a ∈ rest, a ∈ fp := fun a ha => q3.mem_iff.mpr (List.mem_append_right _ ha)
    have sub : ∀ a, own Z rest a → own Z fp a := fun a ha => ha.elim .inl fun m => .inr (mr a m)
    have nf : ∀ a ∈ fo, ¬ own Z rest a := fun a ha z => by
      rcases z with z | z
      · exact r.dj a (q3.mem_iff.mpr (List.mem_append_left _ ha)) z
      · exact nd0.2.2 a ha a z rfl
    have nn : o = .fz .nil → False := fun z => by
      subst z
      unfold RepO Rep at q2'
      exact q2'.2
    have rp : Rep e H (own Z rest) (fzd o) v := RepO.frz (Le.shrink sub) nf q2' nn
    -- the frame without it, then with it frozen
    obtain ⟨s1, fo1, rest1, t1, t2, t3, t4⟩ := RepFr.at r.fr hi
    obtain ⟨fq, p, z⟩ := q4 .un (some v) [] RepS.un
    rw [set_self q1] at z
    have p' : fq.Perm rest := p
    have z' : RepFr e H (own Z fq) (f.set i .un) σ fq := by
      refine RepFr.le (Le.shrink fun a ha => ?_) (fun _ _ => rfl) z
      rw [own_perm p'] at ha
      exact sub a ha
    have hi' : (f.set i O.un)[i]? = some .un := by
      have hlt : i < f.length := (List.getElem?_eq_some_iff.mp hi).1
      rw [List.getElem?_set_self hlt]
    obtain ⟨s2, fo2, rest2, u1, u2, u3, u4⟩ := RepFr.at z' hi'
    have e2 : fo2 = [] := by cases s2 <;> exact u2
    subst e2
    obtain ⟨fw, pw, zw⟩ := u4 (.fz (fzd o)) (some v) [] (RepS.fz (by rw [own_perm p']; exact rp))
    have pw' : fw.Perm fq := pw.trans u3.symm
    rw [set_self q1, List.set_set] at zw
    have ew : own Z fw = own Z rest := by rw [own_perm pw', own_perm p']
    refine ⟨v, fw, q1, by rw [ew]; exact rp, ⟨?_, ?_, ?_, r.zin, r.pin, r.pio⟩, Le.shrink fun a ha => ?_, fun _ _ => rfl⟩
    · rw [own_perm pw']; exact zw
    · exact (pw'.trans p').nodup_iff.mpr nd0.2.1
    · exact fun a ha => r.dj a (mr a ((pw'.trans p').mem_iff.mp ha))
    · rw [ew] at ha
      exact sub a ha
end

/-! ### what is wanted behind a step -/
/-- an exception of the core as it lies in the heap -/
def RepX (e : RE) (H : Hp) (W : OwnP) (c : Nat) (fs : List D) (v : Value) (dx : Option Addr) : Prop :=
  v = .ref (e.exc c) ∧ match e.xfd c with
  | none => dx = none
  | some ns => ∃ d gs, dx = some d ∧ Fz H W d (.xd gs) ∧ RepF e H W fs ns gs
section
variable (e : RB) (Wx : WX) (Z : OwnP) (B : List (Nat × V)) (fp : List Addr) (σ : L2.St) (H : Hp)
def PM {α : Type} (r : Rs α) (K : α → Fr → List Addr → Hp → Prop) : Prop := match r with
  | .ok a f => ∀ H' fp', R e Z B fp' σ H' f → Adv Z fp H fp' H' → K a f fp' H'
  | .exc c fs f => ∀ H' fp' v dx, R e Z B fp' σ H' f → Adv Z fp H fp' H' → RepX e H' (own Z fp') c fs v dx → Wx v dx σ H'
  | .bad => False
/-- .. behind a statement: the slots' values may change -/
def PS' {α : Type} (r : Rs α) (K : α → Fr → List Addr → L2.St → Hp → Prop) : Prop := match r with
  | .ok a f => ∀ σ' H' fp', R e Z B fp' σ' H' f → Adv Z fp H fp' H' → K a f fp' σ' H'
  | .exc c fs f => ∀ σ' H' fp' v dx, R e Z B fp' σ' H' f → Adv Z fp H fp' H' → RepX e H' (own Z fp') c fs v dx → Wx v dx σ' H'
  | .bad => False
end
section
variable {e : RB} {Wx : WX} {Z : OwnP} {B : List (Nat × V)} {fp fp1 : List Addr} {σ σ1 : L2.St} {H H1 : Hp} {f : Fr} {α β : Type}
theorem PM.adv {r : Rs α} {K : α → Fr → List Addr → Hp → Prop} (p : PM e Wx Z B fp σ H r K) (a : Adv Z fp H fp1 H1) : PM e Wx Z B fp1 σ H1 r K := by
  cases r with
  | ok x f => exact fun H' fp' r b => p H' fp' r (a.trans b)
  | exc c fs f => exact fun H' fp' v dx r b x => p H' fp' v dx r (a.trans b) x
  | bad => exact p
theorem PS'.adv {r : Rs α} {K : α → Fr → List Addr → L2.St → Hp → Prop} (p : PS' e Wx Z B fp H r K) (a : Adv Z fp H fp1 H1) : PS' e Wx Z B fp1 H1 r K := by
  cases r with
  | ok x f => exact fun σ' H' fp' r b => p σ' H' fp' r (a.trans b)
  | exc c fs f => exact fun σ' H' fp' v dx r b x => p σ' H' fp' v dx r (a.trans b) x
  | bad => exact p
theorem PM.mono {r : Rs α} {K K' : α → Fr → List Addr → Hp → Prop} (p : PM e Wx Z B fp σ H r K) (h : ∀ a f fp' H', R e Z B fp' σ H' f → Adv Z fp H fp' H' → K a f fp' H' → K' a f fp' H') : PM e Wx Z B fp σ H r K' := by
  cases r with
  | ok x f => exact fun H' fp' r b => h x f fp' H' r b (p H' fp' r b)
  | exc c fs f => exact p
  | bad => exact p
/-- an expression's reading, of its action -/
def tE (e : RB) (Wx : WX) (m : M D) : TE := fun σ H Q => ∃ Z B fp f, R e Z B fp σ H f ∧ PM e Wx Z B fp σ H (m f) (fun d _ fp' H' => ∀ v, Rep e H' (own Z fp') d v → Q v H')
def tT (e : RB) (Wx : WX) (m : M Bool) : TT := fun σ H Q => ∃ Z B fp f, R e Z B fp σ H f ∧ PM e Wx Z B fp σ H (m f) (fun b _ _ H' => Q b H')
def tA (e : RB) (Wx : WX) (m : M (List D)) : TA := fun σ H Q => ∃ Z B fp f, R e Z B fp σ H f ∧ PM e Wx Z B fp σ H (m f) (fun ds _ fp' H' => ∀ vs, Reps e H' (own Z fp') ds vs → Q vs H')
theorem tE_seq {m : M D} {k : D → M β} {K : β → Fr → List Addr → Hp → Prop} (r : R e Z B fp σ H f) (p : PM e Wx Z B fp σ H (M.bnd m k f) K) (T : VK)
    (h : ∀ d f1 fp1 H1 v, R e Z B fp1 σ H1 f1 → Adv Z fp H fp1 H1 → Rep e H1 (own Z fp1) d v → PM e Wx Z B fp1 σ H1 (k d f1) K → T v H1) : tE e Wx m σ H T := by
  refine ⟨Z, B, fp, f, r, ?_⟩
  unfold M.bnd at p
  cases q : m f with
  | ok d f1 =>
    rw [q] at p
    exact fun H1 fp1 r1 a1 v hv => h d f1 fp1 H1 v r1 a1 hv (p.adv a1)
  | exc c fs f1 => rw [q] at p; exact p
  | bad => rw [q] at p; exact p
theorem tT_seq {m : M Bool} {k : Bool → M β} {K : β → Fr → List Addr → Hp → Prop} (r : R e Z B fp σ H f) (p : PM e Wx Z B fp σ H (M.bnd m k f) K) (T : Bool → Hp → Prop)
    (h : ∀ b f1 fp1 H1, R e Z B fp1 σ H1 f1 → Adv Z fp H fp1 H1 → PM e Wx Z B fp1 σ H1 (k b f1) K → T b H1) : tT e Wx m σ H T := by
  refine ⟨Z, B, fp, f, r, ?_⟩
  unfold M.bnd at p
  cases q : m f with
  | ok d f1 =>
    rw [q] at p
    exact fun H1 fp1 r1 a1 => h d f1 fp1 H1 r1 a1 (p.adv a1)
  | exc c fs f1 => rw [q] at p; exact p
  | bad => rw [q] at p; exact p
theorem tA_seq {m : M (List D)} {k : List D → M β} {K : β → Fr → List Addr → Hp → Prop} (r : R e Z B fp σ H f) (p : PM e Wx Z B fp σ H (M.bnd m k f) K) (T : List V → Hp → Prop)
    (h : ∀ ds f1 fp1 H1 vs, R e Z B fp1 σ H1 f1 → Adv Z fp H fp1 H1 → Reps e H1 (own Z fp1) ds vs → PM e Wx Z B fp1 σ H1 (k ds f1) K → T vs H1) : tA e Wx m σ H T := by
  refine ⟨Z, B, fp, f, r, ?_⟩
  unfold M.bnd at p
  cases q : m f with
  | ok d f1 =>
    rw [q] at p
    exact fun H1 fp1 r1 a1 v hv => h d f1 fp1 H1 v r1 a1 hv (p.adv a1)
  | exc c fs f1 => rw [q] at p; exact p
  | bad => rw [q] at p; exact p
/-- a value at a heap that only grew -/
theorem PM.fin {a : α} {K : α → Fr → List Addr → Hp → Prop} (p : PM e Wx Z B fp σ H (.ok a f) K) (r : R e Z B fp σ H f) (s : Same H H1) : K a f fp H1 := p H1 fp (r.same s) (r.adv s)
theorem PM.opt {o : Option α} {K : α → Fr → List Addr → Hp → Prop} (p : PM e Wx Z B fp σ H (M.opt o f) K) : ∃ a, o = some a ∧ PM e Wx Z B fp σ H (.ok a f) K := by
  cases o with
  | none => exact (p : False).elim
  | some a => exact ⟨a, rfl, p⟩
theorem PM.optB {o : Option α} {k : α → M β} {K : β → Fr → List Addr → Hp → Prop} (p : PM e Wx Z B fp σ H (M.bnd (M.opt o) k f) K) : ∃ a, o = some a ∧ PM e Wx Z B fp σ H (k a f) K := by
  cases o with
  | none => exact (p : False).elim
  | some a => exact ⟨a, rfl, p⟩
theorem PM.intB {d : D} {k : Int → M β} {K : β → Fr → List Addr → Hp → Prop} (p : PM e Wx Z B fp σ H (M.bnd (toInt d) k f) K) : ∃ i, d = .int i ∧ PM e Wx Z B fp σ H (k i f) K := by
  cases d <;> first | exact (p : False).elim | exact ⟨_, rfl, p⟩
theorem PM.boolB {d : D} {k : Bool → M β} {K : β → Fr → List Addr → Hp → Prop} (p : PM e Wx Z B fp σ H (M.bnd (toBool d) k f) K) : ∃ i, d = .bl i ∧ PM e Wx Z B fp σ H (k i f) K := by
  cases d <;> first | exact (p : False).elim | exact ⟨_, rfl, p⟩
end
end Cr
namespace L2
open PySem
/-- a reading may be made weaker -/
theorem PE.imp {X : Cx} {x : Expr} {t t' : TE} (h : PE X x t) (g : ∀ σ H Q, t' σ H Q → t σ H Q) : PE X x t' := ⟨fun pins s σ H Q I q => h.run pins s σ H Q I (g σ H Q q)⟩
theorem PT.imp {X : Cx} {x : Expr} {t t' : TT} (h : PT X x t) (g : ∀ σ H Q, t' σ H Q → t σ H Q) : PT X x t' := ⟨fun pins s σ H Q I q => h.run pins s σ H Q I (g σ H Q q)⟩
theorem PA.imp {X : Cx} {x : List Expr} {t t' : TA} (h : PA X x t) (g : ∀ σ H Q, t' σ H Q → t σ H Q) : PA X x t' := ⟨fun pos pins s σ H Q I q => h.run pos pins s σ H Q I (g σ H Q q)⟩
theorem PSs.imp {X : Cx} {x : List Stmt} {t t' : TS} (h : PSs X x t) (g : ∀ D σ H, t' D σ H → t D σ H) : PSs X x t' := ⟨fun pins s σ H D I q => h.run pins s σ H D I (g D σ H q)⟩
theorem PS.imp {X : Cx} {x : Stmt} {t t' : TS} (h : PS X x t) (g : ∀ D σ H, t' D σ H → t D σ H) : PS X x t' := ⟨fun pins s σ H D I q => h.run pins s σ H D I (g D σ H q)⟩
theorem PW.imp {X : Cx} {x : Expr} {t t' : TT} (h : PW X x t) (g : ∀ σ H Q, t' σ H Q → t σ H Q) : PW X x t' := ⟨fun wh pins s σ H Q I q => h.run wh pins s σ H Q I (g σ H Q q)⟩
end L2

/-! Operators and built-ins by values. -/
namespace Cr
open PySem PySem.Spec L2

theorem small_line {n : Nat} (h : n ≤ 100000) : n ≤ sizeLine := Nat.le_trans h (by decide)
theorem small_line' {n : Nat} (h : n ≤ 100000) : n < sizeLine := Nat.lt_of_le_of_lt h (by decide)

section
variable {e : RE} {H H' : Hp} {W : OwnP}
theorem Reps.len : ∀ {ds : List D} {vs : List V}, Reps e H W ds vs → vs.length = ds.length
  | [], _, h => by unfold Reps at h; rw [h]; rfl
  | d :: ds, vs, h => by
    unfold Reps at h
    obtain ⟨x, r, e1, h1, h2⟩ := h
    subst e1
    rw [List.length_cons, List.length_cons, Reps.len h2]
theorem Reps.nil : Reps e H W [] [] := by unfold Reps; rfl
theorem Reps.cons {d : D} {ds : List D} {v : V} {vs : List V} (h : Rep e H W d v) (t : Reps e H W ds vs) : Reps e H W (d :: ds) (v :: vs) := by
  unfold Reps
  exact ⟨v, vs, rfl, h, t⟩
theorem Reps.app : ∀ {ds ds' : List D} {vs vs' : List V}, Reps e H W ds vs → Reps e H W ds' vs' → Reps e H W (ds ++ ds') (vs ++ vs')
  | [], _, _, _, h, t => by unfold Reps at h; rw [h]; exact t
  | d :: ds, _, vs, _, h, t => by
    unfold Reps at h
    obtain ⟨x, r, e1, h1, h2⟩ := h
    subst e1
    exact Reps.cons h1 (Reps.app h2 t)
theorem Reps.get : ∀ {ds : List D} {vs : List V} {i : Nat} {d : D}, Reps e H W ds vs → ds[i]? = some d → ∃ v, vs[i]? = some v ∧ Rep e H W d v
  | [], _, _, _, _, h => by simp at h
  | d :: ds, vs, 0, d', h, q => by
    unfold Reps at h
    obtain ⟨x, r, e1, h1, h2⟩ := h
    subst e1
    have e2 : d = d' := Option.some.inj q
    subst e2
    exact ⟨x, rfl, h1⟩
  | d :: ds, vs, i + 1, d', h, q => by
    unfold Reps at h
    obtain ⟨x, r, e1, h1, h2⟩ := h
    subst e1
    obtain ⟨v, z1, z2⟩ := Reps.get (i := i) h2 (by simpa using q)
    exact ⟨v, by simpa using z1, z2⟩
theorem Reps.take : ∀ {ds : List D} {vs : List V} (n : Nat), Reps e H W ds vs → Reps e H W (ds.take n) (vs.take n)
  | _, _, 0, _ => by simp [Reps]
  | [], _, n + 1, h => by unfold Reps at h; rw [h]; simp [Reps]
  | d :: ds, vs, n + 1, h => by
    unfold Reps at h
    obtain ⟨x, r, e1, h1, h2⟩ := h
    subst e1
    exact Reps.cons h1 (Reps.take n h2)
theorem Reps.drop : ∀ {ds : List D} {vs : List V} (n : Nat), Reps e H W ds vs → Reps e H W (ds.drop n) (vs.drop n)
  | _, _, 0, h => h
  | [], _, n + 1, h => by unfold Reps at h; rw [h]; simp [Reps]
  | d :: ds, vs, n + 1, h => by
    unfold Reps at h
    obtain ⟨x, r, e1, h1, h2⟩ := h
    subst e1
    exact Reps.drop n h2
theorem Reps.rev : ∀ {ds : List D} {vs : List V}, Reps e H W ds vs → Reps e H W ds.reverse vs.reverse
  | [], _, h => by unfold Reps at h; rw [h]; simp [Reps]
  | d :: ds, vs, h => by
    unfold Reps at h
    obtain ⟨x, r, e1, h1, h2⟩ := h
    subst e1
    rw [List.reverse_cons, List.reverse_cons]
    exact (Reps.rev h2).app (Reps.cons h1 Reps.nil)
theorem Reps.flat {ds : List D} {vs : List V} (h : Reps e H W ds vs) : ∀ n : Nat, Reps e H W (List.replicate n ds).flatten (List.replicate n vs).flatten
  | 0 => by simp [Reps]
  | n + 1 => by
    rw [List.replicate_succ, List.replicate_succ, List.flatten_cons, List.flatten_cons]
    exact h.app (Reps.flat h n)
theorem Reps.ints : ∀ {ns : List Int} {vs : List V}, Reps e H W (ns.map D.int) vs → vs = ns.map V.int
  | [], _, h => by simpa [Reps] using h
  | n :: ns, vs, h => by
    rw [List.map_cons] at h
    unfold Reps at h
    obtain ⟨x, r, e1, h1, h2⟩ := h
    unfold Rep at h1
    rw [e1, h1, Reps.ints h2]
    rfl
theorem Reps.of_ints : ∀ {ns : List Int}, Reps e H W (ns.map D.int) (ns.map V.int)
  | [] => Reps.nil
  | n :: ns => Reps.cons (by unfold Rep; rfl) Reps.of_ints
theorem intL_some : ∀ {ds : List D} {ns : List Int}, intL ds = some ns → ds = ns.map D.int
  | [], ns, h => by
    have e1 : ([] : List Int) = ns := Option.some.inj h
    subst e1
    rfl
  | d :: ds, ns, h => by
    cases d with
    | int i =>
      unfold intL at h
      cases q : intL ds with
      | none => rw [q] at h; cases h
      | some is =>
        rw [q] at h
        have e1 : i :: is = ns := Option.some.inj h
        subst e1
        rw [intL_some q]
        rfl
    | _ => simp [intL] at h
theorem blsL_some : ∀ {ds : List D} {ns : List Bool}, bls ds = some ns → ds = ns.map D.bl
  | [], ns, h => by
    have e1 : ([] : List Bool) = ns := Option.some.inj h
    subst e1
    rfl
  | d :: ds, ns, h => by
    cases d with
    | bl i =>
      unfold bls at h
      cases q : bls ds with
      | none => rw [q] at h; cases h
      | some is =>
        rw [q] at h
        have e1 : i :: is = ns := Option.some.inj h
        subst e1
        rw [blsL_some q]
        rfl
    | _ => simp [bls] at h
theorem Reps.bls : ∀ {ns : List Bool} {vs : List V}, Reps e H W (ns.map D.bl) vs → vs = ns.map V.bl
  | [], _, h => by simpa [Reps] using h
  | n :: ns, vs, h => by
    rw [List.map_cons] at h
    unfold Reps at h
    obtain ⟨x, r, e1, h1, h2⟩ := h
    unfold Rep at h1
    rw [e1, h1, Reps.bls h2]
    rfl
/-- a new object beside what is there -/
theorem same_new {p : Addr} {o : HO} (h : H p = none) : Same H (upd H p o) := fun b x q => by
  rw [upd_ne (ne_of_none q h)]
  exact q
theorem not_own_new (hw : ∀ a, W a → H a ≠ none) {p : Addr} (h : H p = none) : ¬ W p := fun z => hw p z h
theorem Rep.same {d : D} {v : V} (s : Same H H') (h : Rep e H W d v) : Rep e H' W d v := h.le (Le.same s)
theorem Reps.same {ds : List D} {vs : List V} (s : Same H H') (h : Reps e H W ds vs) : Reps e H' W ds vs := h.le (Le.same s)
theorem Rep.newT (hw : ∀ a, W a → H a ≠ none) {p : Addr} (h : H p = none) {ds : List D} {vs : List V} (r : Reps e H W ds vs) : Rep e (upd H p (.tup vs)) W (.tup ds) (.ref p) := by
  unfold Rep
  exact ⟨p, vs, rfl, ⟨not_own_new hw h, cont_of upd_same⟩, r.same (same_new h)⟩
theorem Rep.newL (hw : ∀ a, W a → H a ≠ none) {p : Addr} (h : H p = none) {ds : List D} {vs : List V} (r : Reps e H W ds vs) : Rep e (upd H p (.lst vs)) W (.lst ds) (.ref p) := by
  unfold Rep
  exact ⟨p, vs, rfl, ⟨not_own_new hw h, cont_of upd_same⟩, r.same (same_new h)⟩
theorem Fz.sqL {K : PySem.W.Frag} {a : Addr} {xs : List V} (h : Fz H W a (.lst xs)) : SqL K H a xs := SqL.of (cont_lst h.2)
theorem Fz.sqT {K : PySem.W.Frag} {a : Addr} {xs : List V} (h : Fz H W a (.tup xs)) : SqT K H a xs := SqT.of (cont_tup h.2)
end

/-! ### as the library's data -/
mutual
def toP : D → PyData
  | .bl b => .bool b
  | .int i => .int i
  | .str s => .str s
  | .tup xs => .tuple (toPs xs)
  | .lst xs => .list (toPs xs)
  | _ => .none
def toPs : List D → List PyData
  | [] => []
  | x :: xs => toP x :: toPs xs
end
mutual
theorem plain_lay : ∀ (n : Nat) (d : D), D.plainN n d = true → (toP d).canLay0 = true ∧ (toP d).depth ≤ n
  | n, .non, _ => ⟨rfl, Nat.zero_le _⟩
  | n, .bl _, _ => ⟨rfl, Nat.zero_le _⟩
  | n, .int _, _ => ⟨rfl, Nat.zero_le _⟩
  | n, .str s, h => by
    have h' : PyData.strOk s = true := by cases n <;> exact h
    exact ⟨h', Nat.zero_le _⟩
  | n + 1, .tup xs, h => by
    obtain ⟨h1, h2⟩ := plains_lay n xs h
    exact ⟨h1, Nat.succ_le_succ h2⟩
  | n + 1, .lst xs, h => by
    obtain ⟨h1, h2⟩ := plains_lay n xs h
    exact ⟨h1, Nat.succ_le_succ h2⟩
  | 0, .tup _, h => by cases h
  | 0, .lst _, h => by cases h
  | 0, .nil, h => by cases h
  | n + 1, .nil, h => by cases h
  | 0, .dK _ _, h => by cases h
  | n + 1, .dK _ _, h => by cases h
  | 0, .dT _ _, h => by cases h
  | n + 1, .dT _ _, h => by cases h
  | 0, .ins _ _, h => by cases h
  | n + 1, .ins _ _, h => by cases h
  | 0, .fn _, h => by cases h
  | n + 1, .fn _, h => by cases h
  | 0, .scr _, h => by cases h
  | n + 1, .scr _, h => by cases h
theorem plains_lay : ∀ (n : Nat) (ds : List D), D.plainsN n ds = true → PyData.canLayAll0 (toPs ds) = true ∧ PyData.depthAll (toPs ds) ≤ n
  | n, [], _ => ⟨rfl, Nat.zero_le _⟩
  | n, d :: ds, h => by
    have h' : (D.plainN n d && D.plainsN n ds) = true := by cases n <;> exact h
    rw [Bool.and_eq_true] at h'
    obtain ⟨a1, a2⟩ := plain_lay n d h'.1
    obtain ⟨b1, b2⟩ := plains_lay n ds h'.2
    refine ⟨?_, Nat.max_le.mpr ⟨a2, b2⟩⟩
    show ((toP d).canLay0 && PyData.canLayAll0 (toPs ds)) = true
    rw [a1, b1]
    rfl
end
theorem plain_shaped {n : Nat} (hn : n ≤ 60) {d : D} (h : D.plainN n d = true) : SeqAt.shaped (toP d) = true := by
  obtain ⟨h1, h2⟩ := plain_lay n d h
  unfold SeqAt.shaped
  rw [h1, decide_eq_true (by omega)]
  rfl
section
variable {e : RE} {H : Hp} {W : OwnP}
mutual
theorem plain_dp : ∀ (n : Nat) (d : D) (v : V), D.plainN n d = true → Rep e H W d v → Dp e.K H v (toP d)
  | n, .non, v, _, r => by unfold Rep at r; rw [r]; exact .non
  | n, .bl b, v, _, r => by unfold Rep at r; rw [r]; exact .bl b
  | n, .int b, v, _, r => by unfold Rep at r; rw [r]; exact .int b
  | n, .str b, v, _, r => by unfold Rep at r; rw [r]; exact .str b
  | n + 1, .tup xs, v, h, r => by
    unfold Rep at r
    obtain ⟨a, vs, e1, f, q⟩ := r
    rw [e1]
    exact .tup f.sqT (plains_dp n xs vs h q)
  | n + 1, .lst xs, v, h, r => by
    unfold Rep at r
    obtain ⟨a, vs, e1, f, q⟩ := r
    rw [e1]
    exact .lst f.sqL (plains_dp n xs vs h q)
  | 0, .tup _, _, h, _ => by cases h
  | 0, .lst _, _, h, _ => by cases h
  | 0, .nil, _, h, _ => by cases h
  | n + 1, .nil, _, h, _ => by cases h
  | 0, .dK _ _, _, h, _ => by cases h
  | n + 1, .dK _ _, _, h, _ => by cases h
  | 0, .dT _ _, _, h, _ => by cases h
  | n + 1, .dT _ _, _, h, _ => by cases h
  | 0, .ins _ _, _, h, _ => by cases h
  | n + 1, .ins _ _, _, h, _ => by cases h
  | 0, .fn _, _, h, _ => by cases h
  | n + 1, .fn _, _, h, _ => by cases h
  | 0, .scr _, _, h, _ => by cases h
  | n + 1, .scr _, _, h, _ => by cases h
theorem plains_dp : ∀ (n : Nat) (ds : List D) (vs : List V), D.plainsN n ds = true → Reps e H W ds vs → DpAll e.K H vs (toPs ds)
  | n, [], vs, _, r => by unfold Reps at r; rw [r]; exact .nil
  | n, d :: ds, vs, h, r => by
    have h' : (D.plainN n d && D.plainsN n ds) = true := by cases n <;> exact h
    rw [Bool.and_eq_true] at h'
    unfold Reps at r
    obtain ⟨x, rr, e1, h1, h2⟩ := r
    rw [e1]
    exact .cons (plain_dp n d x h'.1 h1) (plains_dp n ds rr h'.2 h2)
end
end
mutual
theorem eqv_toP : ∀ (n m : Nat) (a b : D), D.plainN n a = true → D.plainN m b = true → D.eqv a b = PyData.eqv (toP a) (toP b)
  | n, m, a, b, ha, hb => by
    cases a with
    | tup xs =>
      cases n with
      | zero => cases ha
      | succ n =>
        cases b with
        | tup ys =>
          cases m with
          | zero => cases hb
          | succ m => exact eqvs_toP n m xs ys ha hb
        | _ => first | rfl | (cases m <;> cases hb)
    | lst xs =>
      cases n with
      | zero => cases ha
      | succ n =>
        cases b with
        | lst ys =>
          cases m with
          | zero => cases hb
          | succ m => exact eqvs_toP n m xs ys ha hb
        | _ => first | rfl | (cases m <;> cases hb)
    | non => cases b <;> first | rfl | (cases m <;> cases hb)
    | bl x => cases b <;> first | rfl | (cases m <;> cases hb)
    | int x => cases b <;> first | rfl | (cases m <;> cases hb)
    | str x => cases b <;> first | rfl | (cases m <;> cases hb)
    | _ => cases n <;> cases ha
theorem eqvs_toP : ∀ (n m : Nat) (a b : List D), D.plainsN n a = true → D.plainsN m b = true → D.eqvs a b = PyData.eqvAll (toPs a) (toPs b)
  | n, m, [], [], _, _ => rfl
  | n, m, [], _ :: _, _, _ => rfl
  | n, m, _ :: _, [], _, _ => rfl
  | n, m, x :: xs, y :: ys, ha, hb => by
    have ha' : (D.plainN n x && D.plainsN n xs) = true := by cases n <;> exact ha
    have hb' : (D.plainN m y && D.plainsN m ys) = true := by cases m <;> exact hb
    rw [Bool.and_eq_true] at ha' hb'
    show (D.eqv x y && D.eqvs xs ys) = (PyData.eqv (toP x) (toP y) && PyData.eqvAll (toPs xs) (toPs ys))
    rw [eqv_toP n m x y ha'.1 hb'.1, eqvs_toP n m xs ys ha'.2 hb'.2]
end
theorem toPs_any (n m : Nat) (a : D) (ha : D.plainN n a = true) : ∀ xs : List D, D.plainsN m xs = true → (xs.any fun x => D.eqv x a) = ((toPs xs).any fun z => PyData.eqv z (toP a))
  | [], _ => rfl
  | x :: xs, h => by
    have h' : (D.plainN m x && D.plainsN m xs) = true := by cases m <;> exact h
    rw [Bool.and_eq_true] at h'
    show (D.eqv x a || xs.any fun x => D.eqv x a) = (PyData.eqv (toP x) (toP a) || (toPs xs).any fun z => PyData.eqv z (toP a))
    rw [toPs_any n m a ha xs h'.2, eqv_toP m n x a h'.1 ha]

/-! ### two values in, one out -/
def rV2 (e : RE) (g : D → D → Option D) : R2 := fun x y H Q => ∃ W a b d, (∀ p, W p → H p ≠ none) ∧ Rep e H W a x ∧ Rep e H W b y ∧ g a b = some d ∧ ∀ v H', Same H H' → Rep e H' W d v → Q v H'
def bop : BOp → Operator
  | .add => .Add | .sub => .Sub | .mul => .Mult | .fdiv => .FloorDiv | .mod => .Mod | .pow => .Pow | .shl => .LShift | .shr => .RShift | .band => .BitAnd | .bor => .BitOr | .bxor => .BitXor
def cop : COp → CmpOp
  | .eq => .Eq | .ne => .NotEq | .lt => .Lt | .le => .LtE | .gt => .Gt | .ge => .GtE | .is => .Is | .isnt => .IsNot
theorem rep_int {e : RE} {H : Hp} {W : OwnP} {i : Int} : Rep e H W (.int i) (.int i) := by unfold Rep; rfl
theorem rep_bl {e : RE} {H : Hp} {W : OwnP} {i : Bool} : Rep e H W (.bl i) (.bl i) := by unfold Rep; rfl
theorem rep_str {e : RE} {H : Hp} {W : OwnP} {i : Str} : Rep e H W (.str i) (.str i) := by unfold Rep; rfl
theorem rep_non {e : RE} {H : Hp} {W : OwnP} : Rep e H W .non .non := by unfold Rep; rfl
theorem big_ok {i j : Int} (h : (big64 i || big64 j) = true) : CMul i j := by
  rw [Bool.or_eq_true] at h
  unfold big64 at h
  exact h.elim (fun z => .inl (of_decide_eq_true z)) fun z => .inr (of_decide_eq_true z)
theorem natAbs_small {i : Int} (h : big64 i = true) : i.natAbs < 2 ^ 64 := by
  have := of_decide_eq_true h
  omega
section
variable {X : Cx} {e : RE}
theorem ite_some {α : Type} {c : Prop} [Decidable c] {x d : α} (h : (if c then some x else none) = some d) : c ∧ x = d := by
  split at h
  · rename_i hc
    exact ⟨hc, Option.some.inj h⟩
  · cases h
theorem reps_nil_iff {H : Hp} {W : OwnP} {ds : List D} {vs : List V} (r : Reps e H W ds vs) : vs = [] ↔ ds = [] := by
  have h := r.len
  constructor
  · intro z; subst z; exact List.length_eq_zero_iff.mp h.symm
  · intro z; subst z; exact List.length_eq_zero_iff.mp h
theorem bin_add (hK : X.K = e.K) : OpR X (binaryOp .Add) (rV2 e (binD .add)) := by
  intro pins s σ H x y v u Q I rx ry ⟨W, a, b, d, hw, ra, rb, hg, q⟩
  cases a with
  | int i =>
    cases b with
    | int j =>
      unfold Rep at ra rb
      have e1 : D.int (i + j) = d := Option.some.inj hg
      subst e1 ra rb
      exact op_add pins s σ H _ _ v u Q I rx ry ⟨i, j, rfl, rfl, q _ _ (Same.refl H) rep_int⟩
    | _ => cases hg
  | str i =>
    cases b with
    | str j =>
      unfold Rep at ra rb
      subst ra rb
      obtain ⟨hl, e1⟩ := ite_some hg
      subst e1
      exact op_add_str pins s σ H _ _ v u Q I rx ry ⟨i, j, rfl, rfl, small_line hl, q _ _ (Same.refl H) rep_str⟩
    | _ => cases hg
  | tup xs =>
    cases b with
    | tup ys =>
      obtain ⟨hl, e1⟩ := ite_some hg
      subst e1
      have ra0 := ra
      have rb0 := rb
      unfold Rep at ra rb
      obtain ⟨p, vs, e1, f1, r1⟩ := ra
      obtain ⟨p', vs', e2, f2, r2⟩ := rb
      refine op_catA pins s σ H x y v u Q I rx ry ⟨p, p', vs, vs', e1, e2, f1.sqT, f2.sqT, small_line (by rw [r1.len, r2.len]; exact hl), fun z => ?_, fun _ z => ?_, fun _ _ o ho => ?_⟩
      · have z' := (reps_nil_iff r1).mp z
        subst z' e2
        exact q _ _ (Same.refl H) rb0
      · have z' := (reps_nil_iff r2).mp z
        subst z' e1
        rw [List.append_nil] at q
        exact q _ _ (Same.refl H) ra0
      · exact q _ _ (same_new ho) (Rep.newT hw ho (r1.app r2))
    | _ => cases hg
  | lst xs =>
    cases b with
    | lst ys =>
      obtain ⟨hl, e1⟩ := ite_some hg
      subst e1
      unfold Rep at ra rb
      obtain ⟨p, vs, e1, f1, r1⟩ := ra
      obtain ⟨p', vs', e2, f2, r2⟩ := rb
      exact op_cat pins s σ H x y v u Q I rx ry ⟨p, p', vs, vs', e1, e2, cont_lst f1.2, cont_lst f2.2, small_line (by rw [r1.len, r2.len]; exact hl), fun o ho => q _ _ (same_new ho) (Rep.newL hw ho (r1.app r2))⟩
    | _ => cases hg
  | _ => cases hg
theorem bin_ints {f : Value → Value → Sem Value} {C : Int → Int → Prop} {g : Int → Int → Int} {o : BOp} (rule : OpR X f (rI C fun i j => .int (g i j)))
    (h1 : ∀ a b d, binD o a b = some d → ∃ i j, a = .int i ∧ b = .int j ∧ C i j ∧ d = .int (g i j)) : OpR X f (rV2 e (binD o)) := by
  intro pins s σ H x y v u Q I rx ry ⟨W, a, b, d, hw, ra, rb, hg, q⟩
  obtain ⟨i, j, e1, e2, hc, e3⟩ := h1 a b d hg
  subst e1 e2 e3
  unfold Rep at ra rb
  exact rule pins s σ H x y v u Q I rx ry ⟨i, j, ra, rb, hc, q _ _ (Same.refl H) rep_int⟩
theorem bin_ints0 {f : Value → Value → Sem Value} {g : Int → Int → Int} {o : BOp} (rule : OpR X f (rI0 fun i j => .int (g i j)))
    (h1 : ∀ a b d, binD o a b = some d → ∃ i j, a = .int i ∧ b = .int j ∧ d = .int (g i j)) : OpR X f (rV2 e (binD o)) := by
  intro pins s σ H x y v u Q I rx ry ⟨W, a, b, d, hw, ra, rb, hg, q⟩
  obtain ⟨i, j, e1, e2, e3⟩ := h1 a b d hg
  subst e1 e2 e3
  unfold Rep at ra rb
  exact rule pins s σ H x y v u Q I rx ry ⟨i, j, ra, rb, q _ _ (Same.refl H) rep_int⟩
theorem bin_mul (hK : X.K = e.K) : OpR X (binaryOp .Mult) (rV2 e (binD .mul)) := by
  intro pins s σ H x y v u Q I rx ry ⟨W, a, b, d, hw, ra, rb, hg, q⟩
  cases b with
  | int j =>
    cases a with
    | int i =>
      unfold Rep at ra rb
      obtain ⟨hl, e1⟩ := ite_some hg
      subst e1 ra rb
      exact op_mul pins s σ H _ _ v u Q I rx ry ⟨i, j, rfl, rfl, big_ok hl, q _ _ (Same.refl H) rep_int⟩
    | tup xs =>
      obtain ⟨hl, e1⟩ := ite_some hg
      subst e1
      rw [Bool.and_eq_true, Bool.and_eq_true] at hl
      have h1 := of_decide_eq_true hl.1.1
      have h2 := of_decide_eq_true hl.1.2
      have h3 : xs ≠ [] := fun z => by subst z; cases hl.2
      unfold Rep at ra rb
      obtain ⟨p, vs, e1, f1, r1⟩ := ra
      refine op_repT pins s σ H x y v u Q I rx ry ⟨p, j, vs, e1, rb, f1.sqT, fun z => h3 ((reps_nil_iff r1).mp z), h1.1, h1.2, by rw [r1.len]; exact h2, fun o ho => q _ _ (same_new ho) (Rep.newT hw ho (r1.flat _))⟩
    | lst xs =>
      obtain ⟨hl, e1⟩ := ite_some hg
      subst e1
      rw [Bool.and_eq_true] at hl
      have h1 := of_decide_eq_true hl.1
      have h2 := of_decide_eq_true hl.2
      unfold Rep at ra rb
      obtain ⟨p, vs, e1, f1, r1⟩ := ra
      refine op_rep pins s σ H x y v u Q I rx ry ⟨p, j, vs, e1, rb, cont_lst f1.2, by omega, by omega, by rw [r1.len]; exact small_line h2, fun o ho => q _ _ (same_new ho) (Rep.newL hw ho (r1.flat _))⟩
    | _ => cases hg
  | _ => cases a <;> cases hg
theorem binD_ok (hK : X.K = e.K) : ∀ o : BOp, OpR X (binaryOp (bop o)) (rV2 e (binD o))
  | .add => bin_add hK
  | .mul => bin_mul hK
  | .sub => bin_ints0 op_sub fun a b d h => by cases a <;> cases b <;> first | exact ⟨_, _, rfl, rfl, (Option.some.inj h).symm⟩ | cases h
  | .fdiv => bin_ints op_fdiv fun a b d h => by
    cases a <;> cases b <;> first | (cases h; done) | (obtain ⟨hc, e1⟩ := ite_some h; exact ⟨_, _, rfl, rfl, hc, e1.symm⟩)
  | .mod => bin_ints op_mod fun a b d h => by
    cases a <;> cases b <;> first | (cases h; done) | (obtain ⟨hc, e1⟩ := ite_some h; exact ⟨_, _, rfl, rfl, hc, e1.symm⟩)
  | .pow => bin_ints op_pow fun a b d h => by
    cases a <;> cases b <;> first | (cases h; done) | (obtain ⟨hc, e1⟩ := ite_some h; rw [Bool.and_eq_true] at hc; exact ⟨_, _, rfl, rfl, ⟨(of_decide_eq_true hc.1).1, (of_decide_eq_true hc.1).2, natAbs_small hc.2⟩, e1.symm⟩)
  | .shl => bin_ints op_shl fun a b d h => by
    cases a <;> cases b <;> first | (cases h; done) | (obtain ⟨hc, e1⟩ := ite_some h; rw [Bool.and_eq_true] at hc; exact ⟨_, _, rfl, rfl, ⟨(of_decide_eq_true hc.1).1, (of_decide_eq_true hc.1).2, natAbs_small hc.2⟩, e1.symm⟩)
  | .shr => bin_ints op_shr fun a b d h => by
    cases a <;> cases b <;> first | (cases h; done) | (obtain ⟨hc, e1⟩ := ite_some h; exact ⟨_, _, rfl, rfl, hc, e1.symm⟩)
  | .band => bin_ints0 op_and fun a b d h => by cases a <;> cases b <;> first | exact ⟨_, _, rfl, rfl, (Option.some.inj h).symm⟩ | cases h
  | .bor => bin_ints0 op_or fun a b d h => by cases a <;> cases b <;> first | exact ⟨_, _, rfl, rfl, (Option.some.inj h).symm⟩ | cases h
  | .bxor => bin_ints0 op_xor fun a b d h => by cases a <;> cases b <;> first | exact ⟨_, _, rfl, rfl, (Option.some.inj h).symm⟩ | cases h

/-! ### comparisons -/
/-- two values in, a truth value out, the heap as it was -/
def rC2 (e : RE) (g : D → D → Option Bool) : R2 := fun x y H Q => ∃ W a b r, Rep e H W a x ∧ Rep e H W b y ∧ g a b = some r ∧ Q (.bl r) H
theorem pyEq_some {a b : D} {r : Bool} (h : pyEq a b = some r) : D.plain a = true ∧ D.plain b = true ∧ r = D.eqv a b := by
  unfold pyEq at h
  split at h
  · rename_i hc
    rw [Bool.and_eq_true] at hc
    exact ⟨hc.1, hc.2, (Option.some.inj h).symm⟩
  · cases h
theorem cmpI {f : Value → Value → Sem Value} {g : Int → Int → Bool} {o : COp} (rule : OpR X f (rI0 fun i j => .bl (g i j)))
    (h1 : ∀ a b d, cmpD o a b = some d → ∃ i j, a = .int i ∧ b = .int j ∧ d = g i j) : OpR X f (rC2 e (cmpD o)) := by
  intro pins s σ H x y v u Q I rx ry ⟨W, a, b, r, ra, rb, hg, q⟩
  obtain ⟨i, j, e1, e2, e3⟩ := h1 a b r hg
  subst e1 e2 e3
  unfold Rep at ra rb
  exact rule pins s σ H x y v u Q I rx ry ⟨i, j, ra, rb, q⟩
theorem cmpD_ok (hK : X.K = e.K) (hu : X.A.units + 64 < cLine) : ∀ o : COp, OpR X (compareOp (cop o)) (rC2 e (cmpD o))
  | .eq => by
    intro pins s σ H x y v u Q I rx ry ⟨W, a, b, r, ra, rb, hg, q⟩
    obtain ⟨h1, h2, h3⟩ := pyEq_some hg
    refine op_eqD hu pins s σ H x y v u Q I rx ry ⟨toP a, toP b, by rw [hK]; exact plain_dp 20 a x h1 ra, by rw [hK]; exact plain_dp 20 b y h2 rb, plain_shaped (by decide) h1, plain_shaped (by decide) h2, ?_⟩
    rw [← eqv_toP 20 20 a b h1 h2, ← h3]
    exact q
  | .ne => by
    intro pins s σ H x y v u Q I rx ry ⟨W, a, b, r, ra, rb, hg, q⟩
    have hg' : (match pyEq a b with | some r => some (!r) | none => none) = some r := hg
    cases hp : pyEq a b with
    | none => rw [hp] at hg'; cases hg'
    | some r' =>
      rw [hp] at hg'
      have e1 : (!r') = r := Option.some.inj hg'
      obtain ⟨h1, h2, h3⟩ := pyEq_some hp
      refine op_neD hu pins s σ H x y v u Q I rx ry ⟨toP a, toP b, by rw [hK]; exact plain_dp 20 a x h1 ra, by rw [hK]; exact plain_dp 20 b y h2 rb, plain_shaped (by decide) h1, plain_shaped (by decide) h2, ?_⟩
      rw [← eqv_toP 20 20 a b h1 h2, ← h3, e1]
      exact q
  | .lt => cmpI op_lt fun a b d h => by cases a <;> cases b <;> first | exact ⟨_, _, rfl, rfl, (Option.some.inj h).symm⟩ | cases h
  | .gt => cmpI op_gt fun a b d h => by cases a <;> cases b <;> first | exact ⟨_, _, rfl, rfl, (Option.some.inj h).symm⟩ | cases h
  | .le => cmpI op_le fun a b d h => by cases a <;> cases b <;> first | exact ⟨_, _, rfl, rfl, (Option.some.inj h).symm⟩ | cases h
  | .ge => cmpI op_ge fun a b d h => by cases a <;> cases b <;> first | exact ⟨_, _, rfl, rfl, (Option.some.inj h).symm⟩ | cases h
  | .is => by
    intro pins s σ H x y v u Q I rx ry ⟨W, a, b, r, ra, rb, hg, q⟩
    cases a <;> cases b <;> first | (cases hg; done) | skip
    rename_i i j
    unfold Rep at ra rb
    have e1 : decide (i = j) = r := Option.some.inj hg
    subst e1
    exact op_isBl pins s σ H x y v u Q I rx ry ⟨i, j, ra, rb, q⟩
  | .isnt => by
    intro pins s σ H x y v u Q I rx ry ⟨W, a, b, r, ra, rb, hg, q⟩
    cases a <;> cases b <;> first | (cases hg; done) | skip
    rename_i i j
    unfold Rep at ra rb
    have e1 : (!decide (i = j)) = r := Option.some.inj hg
    subst e1
    exact op_notBl pins s σ H x y v u Q I rx ry ⟨i, j, ra, rb, q⟩
end
end Cr

/-! Subscripts, slices, membership, built-ins by values. -/
namespace Cr
open PySem PySem.Spec L2

/-! ### dicts by keys -/
section
variable {e : RE} {H H' : Hp} {W : OwnP} {κ : Type} [DecidableEq κ]
theorem kget_val : ∀ {kvs : List (κ × V)} {vs : List D} {k : κ}, Reps e H W vs (kvs.map (·.2)) →
    (∀ d, kget (kvs.map (·.1)) vs k = some d → ∃ v, valV kvs k = some v ∧ Rep e H W d v) ∧ (valV kvs k).isSome = khas (kvs.map (·.1)) k
  | [], vs, k, r => by
    refine ⟨fun d h => ?_, rfl⟩
    unfold kget at h
    cases h
  | (k', v) :: r, vs, k, h => by
    rw [List.map_cons] at h
    cases vs with
    | nil => unfold Reps at h; cases h
    | cons d ds =>
      unfold Reps at h
      obtain ⟨x, q, e1, h1, h2⟩ := h
      injection e1 with e1 e2
      subst e1 e2
      obtain ⟨i1, i2⟩ := kget_val (k := k) h2
      by_cases hk : k' = k
      · refine ⟨fun d' hd => ?_, ?_⟩
        · rw [List.map_cons] at hd
          unfold kget at hd
          rw [if_pos hk] at hd
          have e3 : d = d' := Option.some.inj hd
          subst e3
          exact ⟨v, valV_pos hk, h1⟩
        · rw [valV_pos hk]
          unfold khas
          rw [List.map_cons, List.any_cons, decide_eq_true hk]
          rfl
      · refine ⟨fun d' hd => ?_, ?_⟩
        · rw [List.map_cons] at hd
          unfold kget at hd
          rw [if_neg hk] at hd
          rw [valV_neg hk]
          exact i1 d' hd
        · rw [valV_neg hk, i2]
          unfold khas
          rw [List.map_cons, List.any_cons, decide_eq_false hk]
          rfl
end
theorem keyOf_some {d : D} {k : Ky} {e : RE} {H : Hp} {W : OwnP} {v : V} (h : keyOf d = some k) (r : Rep e H W d v) : v = kV k := by
  cases d with
  | int i =>
    have e1 : Sum.inl i = k := Option.some.inj h
    unfold Rep at r
    subst e1 r
    rfl
  | str i =>
    have e1 : Sum.inr i = k := Option.some.inj h
    unfold Rep at r
    subst e1 r
    rfl
  | _ => cases h
theorem keysOf_some {e : RE} {H : Hp} {W : OwnP} : ∀ {ds : List D} {ks : List Ky} {vs : List V}, keysOf ds = some ks → Reps e H W ds vs → vs = ks.map kV
  | [], ks, vs, h, r => by
    have e1 : ([] : List Ky) = ks := Option.some.inj h
    unfold Reps at r
    subst e1 r
    rfl
  | d :: ds, ks, vs, h, r => by
    unfold Reps at r
    obtain ⟨x, q, e1, h1, h2⟩ := r
    unfold keysOf at h
    cases hk : keyOf d with
    | none => rw [hk] at h; cases h
    | some k =>
      cases hs : keysOf ds with
      | none => rw [hk, hs] at h; cases h
      | some ks' =>
        rw [hk, hs] at h
        have e2 : k :: ks' = ks := Option.some.inj h
        subst e1 e2
        rw [keyOf_some hk h1, keysOf_some hs h2]
        rfl
theorem atI_reps {e : RE} {H : Hp} {W : OwnP} {ds : List D} {vs : List V} {i : Int} {d : D} (r : Reps e H W ds vs) (h : atD ds i = some d) : ∃ v, L2.atI vs i = some v ∧ Rep e H W d v := by
  unfold atD L2.atI at h
  unfold L2.atI
  rw [r.len]
  cases q : L2.ixN ds.length i with
  | none => rw [q] at h; cases h
  | some j =>
    rw [q] at h
    obtain ⟨v, h1, h2⟩ := r.get (show ds[j]? = some d from h)
    exact ⟨v, h1, h2⟩
theorem cutV_eq {e : RE} {H : Hp} {W : OwnP} {ds : List D} {vs : List V} {lo hi : Option Int} (r : Reps e H W ds vs) : Reps e H W (cutD ds lo hi) (cutV vs lo hi) := by
  unfold cutD cutV
  rw [r.len]
  exact (r.drop _).take _

section
variable {X : Cx} {e : RE}
/-- a[b], a list or a tuple -/
def ixSeq : D → D → Option D
  | .tup xs, .int i => atD xs i
  | .lst xs, .int i => atD xs i
  | _, _ => none
theorem ix_ok : IxR X (rV2 e ixSeq) := by
  intro value slice pins s σ H x y v u Q I rx ry ⟨W, a, b, d, hw, ra, rb, hg, q⟩ hs
  cases b with
  | int i =>
    cases a with
    | tup xs =>
      unfold Rep at ra rb
      obtain ⟨p, vs, e1, f1, r1⟩ := ra
      obtain ⟨z, h1, h2⟩ := atI_reps r1 hg
      exact ix_tup value slice pins s σ H x y v u Q I rx ry ⟨p, vs, i, z, e1, rb, f1.sqT, h1, q _ _ (Same.refl H) h2⟩ hs
    | lst xs =>
      unfold Rep at ra rb
      obtain ⟨p, vs, e1, f1, r1⟩ := ra
      obtain ⟨z, h1, h2⟩ := atI_reps r1 hg
      exact ix_list value slice pins s σ H x y v u Q I rx ry ⟨p, vs, i, z, e1, rb, f1.sqL, h1, q _ _ (Same.refl H) h2⟩ hs
    | _ => cases hg
  | _ => cases a <;> cases hg
theorem idx_dK {ks : List Ky} {vs : List D} {b : D} : idxD (.dK ks vs) b = (match keyOf b with | some k => kget ks vs k | none => none) := by cases b <;> rfl
theorem idx_dT {ks : List (List Ky)} {vs : List D} {b : List D} : idxD (.dT ks vs) (.tup b) = (match keysOf b with | some k => kget ks vs k | none => none) := rfl
theorem mem_dK {ks : List Ky} {vs : List D} {b : D} : memD b (.dK ks vs) = (match keyOf b with | some k => some (khas ks k) | none => none) := by cases b <;> rfl
theorem mem_dT {ks : List (List Ky)} {vs : List D} {b : List D} : memD (.tup b) (.dT ks vs) = (match keysOf b with | some k => some (khas ks k) | none => none) := rfl
/-- what a dict holds at a key -/
theorem dget_ok {H : Hp} {W : OwnP} {a b d : D} {x y : V} (ra : Rep e H W a x) (rb : Rep e H W b y) (hn : ixSeq a b = none) (hg : idxD a b = some d) : ∃ p v, x = .ref p ∧ DGet H p y (some v) ∧ Rep e H W d v := by
  cases a with
  | tup xs => cases b <;> first | (cases hg; done) | (exact absurd hg (by rw [show idxD (.tup xs) (.int _) = ixSeq (.tup xs) (.int _) from rfl, hn]; exact fun z => by cases z))
  | lst xs => cases b <;> first | (cases hg; done) | (exact absurd hg (by rw [show idxD (.lst xs) (.int _) = ixSeq (.lst xs) (.int _) from rfl, hn]; exact fun z => by cases z))
  | dK ks vs =>
    unfold Rep at ra
    obtain ⟨p, kvs, e1, f1, ek, r1⟩ := ra
    cases hk : keyOf b with
    | none => rw [idx_dK, hk] at hg; cases hg
    | some k =>
      rw [idx_dK, hk] at hg
      subst ek
      obtain ⟨v, h1, h2⟩ := (kget_val r1).1 d hg
      refine ⟨p, v, e1, .inl ⟨kvs, k, cont_dK f1.2, keyOf_some hk rb, h1.symm⟩, h2⟩
  | dT ks vs =>
    unfold Rep at ra
    obtain ⟨p, kvs, e1, f1, ek, r1⟩ := ra
    cases b with
    | tup bs =>
      cases hk : keysOf bs with
      | none => rw [idx_dT, hk] at hg; cases hg
      | some k =>
        rw [idx_dT, hk] at hg
        subst ek
        obtain ⟨v, h1, h2⟩ := (kget_val r1).1 d hg
        unfold Rep at rb
        obtain ⟨p', us, e2, f2, r2⟩ := rb
        refine ⟨p, v, e1, .inr ⟨kvs, k, p', cont_dT f1.2, e2, by rw [← keysOf_some hk r2]; exact cont_tup f2.2, h1.symm⟩, h2⟩
    | _ => cases hg
  | _ => cases b <;> cases hg
/-- membership: in a dict -/
theorem dmem_ok {H : Hp} {W : OwnP} {a b : D} {x y : V} {r : Bool} (ra : Rep e H W a x) (rb : Rep e H W b y) (hn : ∀ xs, b ≠ .tup xs) (hl : ∀ xs, b ≠ .lst xs) (hg : memD a b = some r) : ∃ p o, y = .ref p ∧ DGet H p x o ∧ r = o.isSome := by
  cases b with
  | tup xs => exact absurd rfl (hn xs)
  | lst xs => exact absurd rfl (hl xs)
  | dK ks vs =>
    unfold Rep at rb
    obtain ⟨p, kvs, e1, f1, ek, r1⟩ := rb
    cases hk : keyOf a with
    | none => rw [mem_dK, hk] at hg; cases hg
    | some k =>
      rw [mem_dK, hk] at hg
      have e2 : khas ks k = r := Option.some.inj hg
      refine ⟨p, valV kvs k, e1, .inl ⟨kvs, k, cont_dK f1.2, keyOf_some hk ra, rfl⟩, ?_⟩
      rw [(kget_val r1).2, ek, e2]
  | dT ks vs =>
    unfold Rep at rb
    obtain ⟨p, kvs, e1, f1, ek, r1⟩ := rb
    cases a with
    | tup bs =>
      cases hk : keysOf bs with
      | none => rw [mem_dT, hk] at hg; cases hg
      | some k =>
        rw [mem_dT, hk] at hg
        have e2 : khas ks k = r := Option.some.inj hg
        unfold Rep at ra
        obtain ⟨p', us, e3, f2, r2⟩ := ra
        refine ⟨p, valV kvs k, e1, .inr ⟨kvs, k, p', cont_dT f1.2, e3, by rw [← keysOf_some hk r2]; exact cont_tup f2.2, rfl⟩, ?_⟩
        rw [(kget_val r1).2, ek, e2]
    | _ => cases hg
  | _ => cases hg
/-- membership in a list or a tuple -/
def memSeq (a b : D) : Option Bool := match b with
  | .tup xs => pyIn a xs
  | .lst xs => pyIn a xs
  | _ => none
theorem pyIn_some {a : D} {xs : List D} {r : Bool} (h : pyIn a xs = some r) : D.plainN 20 a = true ∧ D.plainsN 20 xs = true ∧ r = xs.any fun x => D.eqv x a := by
  unfold pyIn at h
  obtain ⟨h1, h2⟩ := ite_some h
  rw [Bool.and_eq_true] at h1
  exact ⟨h1.1, h1.2, h2.symm⟩
theorem depth_lt {n : Nat} {xs : List D} (h : D.plainsN n xs = true) : D.plainN (n + 1) (.tup xs) = true := h
theorem mem_ok (hK : X.K = e.K) (hu : X.A.units + 65 < cLine) (n : Bool) : OpR X (compareOp (if n then .NotIn else .In)) (rC2 e (fun a b => (memSeq a b).map (· != n))) := by
  intro pins s σ H x y v u Q I rx ry ⟨W, a, b, r, ra, rb, hg, q⟩
  have key : ∀ (xs : List D), D.plainN 20 a = true → D.plainsN 20 xs = true → (∃ as, Reads s.heap v (toP a) as) ∧ (toP a).canLay0 = true ∧ PyData.canLayAll0 (toPs xs) = true ∧ (xs.any fun x => D.eqv x a) = ((toPs xs).any fun z => PyData.eqv z (toP a)) ∧ (toP a).depth ≤ 20 ∧ PyData.depthAll (toPs xs) ≤ 20 := fun xs h1 h2 => by
    obtain ⟨a1, a2⟩ := plain_lay 20 a h1
    obtain ⟨b1, b2⟩ := plains_lay 20 xs h2
    exact ⟨Dp.reads I (toP a) x v (by rw [hK]; exact plain_dp 20 a x h1 ra) rx, a1, b1, toPs_any 20 20 a h1 xs h2, a2, b2⟩
  cases b with
  | tup xs =>
    cases hp : pyIn a xs with
    | none => exact absurd (show ((pyIn a xs).map (· != n)) = some r from hg) (by rw [hp]; exact fun z => by cases z)
    | some t =>
      have hg : ((pyIn a xs).map (· != n)) = some r := hg
      rw [hp] at hg
      have e1 : (t != n) = r := Option.some.inj hg
      obtain ⟨h1, h2, h3⟩ := pyIn_some hp
      obtain ⟨⟨as, r1⟩, c1, c2, c3, c4, c5⟩ := key xs h1 h2
      obtain ⟨bs, r2⟩ := Dp.reads I (.tuple (toPs xs)) y u (by rw [hK]; exact plain_dp 21 (.tup xs) y (depth_lt h2) rb) ry
      subst e1
      rw [h3, c3] at q
      cases n with
      | true =>
        refine SeqAt.notIn_tuple_reads r2 r1 c2 c1 (by omega) ⟨.bl _, H, I, rfl, ?_⟩
        rw [Bool.bne_true] at q
        exact q
      | false =>
        refine SeqAt.in_tuple_reads r2 r1 c2 c1 (by omega) ⟨.bl _, H, I, rfl, ?_⟩
        rw [Bool.bne_false] at q
        exact q
  | lst xs =>
    cases hp : pyIn a xs with
    | none => exact absurd (show ((pyIn a xs).map (· != n)) = some r from hg) (by rw [hp]; exact fun z => by cases z)
    | some t =>
      have hg : ((pyIn a xs).map (· != n)) = some r := hg
      rw [hp] at hg
      have e1 : (t != n) = r := Option.some.inj hg
      obtain ⟨h1, h2, h3⟩ := pyIn_some hp
      obtain ⟨⟨as, r1⟩, c1, c2, c3, c4, c5⟩ := key xs h1 h2
      obtain ⟨bs, r2⟩ := Dp.reads I (.list (toPs xs)) y u (by rw [hK]; exact plain_dp 21 (.lst xs) y (depth_lt h2) rb) ry
      subst e1
      rw [h3, c3] at q
      cases n with
      | true =>
        refine SeqAt.notIn_list_reads r2 r1 c2 c1 (by omega) ⟨.bl _, H, I, rfl, ?_⟩
        rw [Bool.bne_true] at q
        exact q
      | false =>
        refine SeqAt.in_list_reads r2 r1 c2 c1 (by omega) ⟨.bl _, H, I, rfl, ?_⟩
        rw [Bool.bne_false] at q
        exact q
  | _ => cases hg
/-- a slice -/
theorem slc_ok : SlR X (fun x lo hi H Q => ∃ W a d, (∀ p, W p → H p ≠ none) ∧ Rep e H W a x ∧ slcD a lo hi = some d ∧ ∀ v H', Same H H' → Rep e H' W d v → Q v H') := by
  intro pins s σ H x v vl vu lo hi sl Q I rx hs pl pu ⟨W, a, d, hw, ra, hg, q⟩
  cases a with
  | tup xs =>
    have e0 : D.tup (cutD xs lo hi) = d := Option.some.inj hg
    subst e0
    unfold Rep at ra
    obtain ⟨p, vs, e1, f1, r1⟩ := ra
    refine sl_tupA pins s σ H x v vl vu lo hi sl Q I rx hs pl pu ⟨p, vs, e1, f1.sqT, fun hh => ?_, fun _ o ho => q _ _ (same_new ho) (Rep.newT hw ho (cutV_eq r1))⟩
    have ew : cutD xs lo hi = xs := by
      rw [r1.len] at hh
      unfold cutD
      rw [hh.1, hh.2]
      simp
    refine q _ _ (Same.refl H) ?_
    unfold Rep
    rw [ew]
    exact ⟨p, vs, rfl, f1, r1⟩
  | lst xs =>
    have e0 : D.lst (cutD xs lo hi) = d := Option.some.inj hg
    subst e0
    unfold Rep at ra
    obtain ⟨p, vs, e1, f1, r1⟩ := ra
    exact sl_list pins s σ H x v vl vu lo hi sl Q I rx hs pl pu ⟨p, vs, e1, f1.sqL, fun o ho => q _ _ (same_new ho) (Rep.newL hw ho (cutV_eq r1))⟩
  | _ => cases hg

/-! ### built-ins -/
def rVs (e : RE) (g : List D → Option D) : List V → Hp → VK → Prop := fun xs H Q => ∃ W ds d, (∀ p, W p → H p ≠ none) ∧ Reps e H W ds xs ∧ g ds = some d ∧ ∀ v H', Same H H' → Rep e H' W d v → Q v H'
/-- where a built-in's name leads: a built-in function or a type -/
inductive BName where
  | fn (x : Str) (id : String) | ty (x : Str) (T : String)
def biNm : Bi → Option BName
  | .len => some (.fn "len" "len")
  | .tuple => some (.ty "tuple" "tuple")
  | .list => some (.ty "list" "list")
  | .sum => some (.fn "sum" "sum")
  | .all => some (.fn "all" "all")
  | .any => some (.fn "any" "any")
  | .abs => some (.fn "abs" "abs")
  | .int => some (.ty "int" "int")
  | .min2 => some (.fn "min" "min")
  | .max2 => some (.fn "max" "max")
  | _ => none
def BName.val : BName → Value
  | .fn _ id => .builtin id
  | .ty _ T => .type T
def BName.nm : BName → Str
  | .fn x _ => x
  | .ty x _ => x
theorem biD_one {b : Bi} {d : D} : biD b [] = some d → False := by cases b <;> exact fun h => by cases h
theorem reps1 {H : Hp} {W : OwnP} {d : D} {xs : List V} (r : Reps e H W [d] xs) : ∃ x, xs = [x] ∧ Rep e H W d x := by
  unfold Reps at r
  obtain ⟨x, q, e1, h1, h2⟩ := r
  unfold Reps at h2
  subst e1 h2
  exact ⟨x, rfl, h1⟩
theorem reps2 {H : Hp} {W : OwnP} {d d' : D} {xs : List V} (r : Reps e H W [d, d'] xs) : ∃ x y, xs = [x, y] ∧ Rep e H W d x ∧ Rep e H W d' y := by
  unfold Reps at r
  obtain ⟨x, q, e1, h1, h2⟩ := r
  obtain ⟨y, e2, h3⟩ := reps1 h2
  subst e1 e2
  exact ⟨x, y, rfl, h1, h3⟩
theorem len_dict {a : Addr} {kvs : List (L2.Key × V)} : ∀ {pins : List (Addr × Obj)} {s : Shared} {σ : L2.St} {H : Hp} {Q : VK}, L2.Inv X pins σ H s → Rd H a (.dK kvs) → Q (.int kvs.length) H → wpAny (model X.prog X.w) X.A (call (.builtin "len") [.ref a]) (EP X pins σ Q) X.xe s := fun {pins s σ H Q} I h q =>
  d_len I h fun t s' I' => ⟨.int kvs.length, H, I', ⟨t, rfl⟩, q⟩
theorem len_dictT {a : Addr} {kvs : List (List L2.Key × V)} : ∀ {pins : List (Addr × Obj)} {s : Shared} {σ : L2.St} {H : Hp} {Q : VK}, L2.Inv X pins σ H s → Rd H a (.dT kvs) → Q (.int kvs.length) H → wpAny (model X.prog X.w) X.A (call (.builtin "len") [.ref a]) (EP X pins σ Q) X.xe s := fun {pins s σ H Q} I h q => by
  obtain ⟨z, hd, ys, rel, dd⟩ := dt_rd I.hok h
  have hl : kvs.length = ys.length := Paired.length rel
  refine call_len_dictH hd dd (by rw [← hl]; rw [sizeLine_eq] at z; omega) ?_
  rw [← hl]
  exact ⟨.int kvs.length, H, (I.tok _), ⟨_, rfl⟩, q⟩
theorem bi_len (hK : X.K = e.K) : CallR X (.builtin "len") (rVs e (biD .len)) := by
  intro pins s σ H xs us Q I r ⟨W, ds, d, hw, rs, hg, q⟩
  cases ds with
  | nil => exact (biD_one hg).elim
  | cons a t =>
    cases t with
    | cons b t => cases a <;> cases hg
    | nil =>
      obtain ⟨x, e1, ra⟩ := reps1 rs
      subst e1
      cases a with
      | tup ys =>
        have e0 : D.int ys.length = d := Option.some.inj hg
        subst e0
        unfold Rep at ra
        obtain ⟨p, vs, e1, f1, r1⟩ := ra
        refine call_len_seq pins s σ H _ us Q I r ⟨p, vs, by rw [e1], .inr f1.sqT, ?_⟩
        rw [r1.len]
        exact q _ _ (Same.refl H) rep_int
      | lst ys =>
        have e0 : D.int ys.length = d := Option.some.inj hg
        subst e0
        unfold Rep at ra
        obtain ⟨p, vs, e1, f1, r1⟩ := ra
        refine call_len_seq pins s σ H _ us Q I r ⟨p, vs, by rw [e1], .inl f1.sqL, ?_⟩
        rw [r1.len]
        exact q _ _ (Same.refl H) rep_int
      | dK ks ys =>
        have e0 : D.int ks.length = d := Option.some.inj hg
        subst e0
        unfold Rep at ra
        obtain ⟨p, kvs, e1, f1, ek, r1⟩ := ra
        subst e1
        have e2 := Vals.ref1 r
        subst e2
        refine len_dict I (cont_dK f1.2) ?_
        have e3 : kvs.length = ks.length := by rw [← ek, List.length_map]
        rw [e3]
        exact q _ _ (Same.refl H) rep_int
      | dT ks ys =>
        have e0 : D.int ks.length = d := Option.some.inj hg
        subst e0
        unfold Rep at ra
        obtain ⟨p, kvs, e1, f1, ek, r1⟩ := ra
        subst e1
        have e2 := Vals.ref1 r
        subst e2
        refine len_dictT I (cont_dT f1.2) ?_
        have e3 : kvs.length = ks.length := by rw [← ek, List.length_map]
        rw [e3]
        exact q _ _ (Same.refl H) rep_int
      | _ => cases hg
theorem bi_tuple (hK : X.K = e.K) : CallR X (.type "tuple") (rVs e (biD .tuple)) := by
  intro pins s σ H xs us Q I r ⟨W, ds, d, hw, rs, hg, q⟩
  cases ds with
  | nil => exact (biD_one hg).elim
  | cons a t =>
    cases t with
    | cons b t => cases a <;> cases hg
    | nil =>
      obtain ⟨x, e1, ra⟩ := reps1 rs
      subst e1
      cases a with
      | tup ys =>
        have e0 : D.tup ys = d := Option.some.inj hg
        subst e0
        have ra0 := ra
        unfold Rep at ra
        obtain ⟨p, vs, e1, f1, r1⟩ := ra
        refine call_tuple_of pins s σ H _ us Q I r ⟨p, vs, by rw [e1], .inr ⟨f1.sqT, ?_⟩⟩
        rw [← e1]
        exact q _ _ (Same.refl H) ra0
      | lst ys =>
        have e0 : D.tup ys = d := Option.some.inj hg
        subst e0
        unfold Rep at ra
        obtain ⟨p, vs, e1, f1, r1⟩ := ra
        exact call_tuple_of pins s σ H _ us Q I r ⟨p, vs, by rw [e1], .inl ⟨f1.sqL, fun o ho => q _ _ (same_new ho) (Rep.newT hw ho r1)⟩⟩
      | _ => cases hg
theorem bi_list (hK : X.K = e.K) : CallR X (.type "list") (rVs e (biD .list)) := by
  intro pins s σ H xs us Q I r ⟨W, ds, d, hw, rs, hg, q⟩
  cases ds with
  | nil => exact (biD_one hg).elim
  | cons a t =>
    cases t with
    | cons b t => cases a <;> cases hg
    | nil =>
      obtain ⟨x, e1, ra⟩ := reps1 rs
      subst e1
      cases a with
      | tup ys =>
        have e0 : D.lst ys = d := Option.some.inj hg
        subst e0
        unfold Rep at ra
        obtain ⟨p, vs, e1, f1, r1⟩ := ra
        exact call_list_of pins s σ H _ us Q I r ⟨p, vs, by rw [e1], .inr f1.sqT, fun o ho => q _ _ (same_new ho) (Rep.newL hw ho r1)⟩
      | lst ys =>
        have e0 : D.lst ys = d := Option.some.inj hg
        subst e0
        unfold Rep at ra
        obtain ⟨p, vs, e1, f1, r1⟩ := ra
        exact call_list_of pins s σ H _ us Q I r ⟨p, vs, by rw [e1], .inl f1.sqL, fun o ho => q _ _ (same_new ho) (Rep.newL hw ho r1)⟩
      | scr ys =>
        have e0 : D.lst (ys.map D.int) = d := Option.some.inj hg
        subst e0
        unfold Rep at ra
        obtain ⟨p, e1, f1⟩ := ra
        have sq : SqL X.K H p (ys.map V.int) := by
          rcases f1 with ⟨ob, f1⟩ | f1
          · exact .inl (.inr ⟨ob, cont_frzL f1.2⟩)
          · exact .inr (by rw [hK]; exact f1)
        exact call_list_of pins s σ H _ us Q I r ⟨p, ys.map V.int, by rw [e1], .inl sq, fun o ho => q _ _ (same_new ho) (Rep.newL hw ho Reps.of_ints)⟩
      | _ => cases hg
theorem biD_sum {ys : List D} : biD .sum [.lst ys] = (match intL ys with | some is => some (.int is.sum) | none => none) := rfl
theorem biD_all {ys : List D} : biD .all [.lst ys] = (match bls ys with | some is => some (.bl (is.all id)) | none => none) := rfl
theorem biD_any {ys : List D} : biD .any [.lst ys] = (match bls ys with | some is => some (.bl (is.any id)) | none => none) := rfl
theorem bi_sum (hc : X.calm = true) : CallR X (.builtin "sum") (rVs e (biD .sum)) := by
  intro pins s σ H xs us Q I r ⟨W, ds, d, hw, rs, hg, q⟩
  cases ds with
  | nil => exact (biD_one hg).elim
  | cons a t =>
    cases t with
    | cons b t => cases a <;> cases hg
    | nil =>
      obtain ⟨x, e1, ra⟩ := reps1 rs
      subst e1
      cases a with
      | lst ys =>
        cases hi : intL ys with
        | none => rw [biD_sum, hi] at hg; cases hg
        | some is =>
          rw [biD_sum, hi] at hg
          have e0 : D.int is.sum = d := Option.some.inj hg
          subst e0
          unfold Rep at ra
          obtain ⟨p, vs, e1, f1, r1⟩ := ra
          rw [intL_some hi] at r1
          have e2 := r1.ints
          exact cr_sum hc pins s σ H _ us Q I r ⟨p, is, by rw [e1], by rw [← e2]; exact f1.sqL, q _ _ (Same.refl H) rep_int⟩
      | _ => cases hg
theorem bi_all (hc : X.calm = true) : CallR X (.builtin "all") (rVs e (biD .all)) := by
  intro pins s σ H xs us Q I r ⟨W, ds, d, hw, rs, hg, q⟩
  cases ds with
  | nil => exact (biD_one hg).elim
  | cons a t =>
    cases t with
    | cons b t => cases a <;> cases hg
    | nil =>
      obtain ⟨x, e1, ra⟩ := reps1 rs
      subst e1
      cases a with
      | lst ys =>
        cases hi : bls ys with
        | none => rw [biD_all, hi] at hg; cases hg
        | some is =>
          rw [biD_all, hi] at hg
          have e0 : D.bl (is.all id) = d := Option.some.inj hg
          subst e0
          unfold Rep at ra
          obtain ⟨p, vs, e1, f1, r1⟩ := ra
          rw [blsL_some hi] at r1
          have e2 := r1.bls
          exact cr_all hc pins s σ H _ us Q I r ⟨p, is, by rw [e1], by rw [← e2]; exact f1.sqL, q _ _ (Same.refl H) rep_bl⟩
      | _ => cases hg
theorem bi_any (hc : X.calm = true) : CallR X (.builtin "any") (rVs e (biD .any)) := by
  intro pins s σ H xs us Q I r ⟨W, ds, d, hw, rs, hg, q⟩
  cases ds with
  | nil => exact (biD_one hg).elim
  | cons a t =>
    cases t with
    | cons b t => cases a <;> cases hg
    | nil =>
      obtain ⟨x, e1, ra⟩ := reps1 rs
      subst e1
      cases a with
      | lst ys =>
        cases hi : bls ys with
        | none => rw [biD_any, hi] at hg; cases hg
        | some is =>
          rw [biD_any, hi] at hg
          have e0 : D.bl (is.any id) = d := Option.some.inj hg
          subst e0
          unfold Rep at ra
          obtain ⟨p, vs, e1, f1, r1⟩ := ra
          rw [blsL_some hi] at r1
          have e2 := r1.bls
          exact cr_any hc pins s σ H _ us Q I r ⟨p, is, by rw [e1], by rw [← e2]; exact f1.sqL, q _ _ (Same.refl H) rep_bl⟩
      | _ => cases hg
theorem bi_abs : CallR X (.builtin "abs") (rVs e (biD .abs)) := by
  intro pins s σ H xs us Q I r ⟨W, ds, d, hw, rs, hg, q⟩
  cases ds with
  | nil => exact (biD_one hg).elim
  | cons a t =>
    cases t with
    | cons b t => cases a <;> cases hg
    | nil =>
      obtain ⟨x, e1, ra⟩ := reps1 rs
      subst e1
      cases a with
      | int i =>
        have e0 : D.int (if i < 0 then -i else i) = d := Option.some.inj hg
        subst e0
        unfold Rep at ra
        exact call_abs pins s σ H _ us Q I r ⟨i, by rw [ra], q _ _ (Same.refl H) rep_int⟩
      | _ => cases hg
theorem bi_int : CallR X (.type "int") (rVs e (biD .int)) := by
  intro pins s σ H xs us Q I r ⟨W, ds, d, hw, rs, hg, q⟩
  cases ds with
  | nil => exact (biD_one hg).elim
  | cons a t =>
    cases t with
    | cons b t => cases a <;> cases hg
    | nil =>
      obtain ⟨x, e1, ra⟩ := reps1 rs
      subst e1
      cases a with
      | int i =>
        have e0 : D.int i = d := Option.some.inj hg
        subst e0
        unfold Rep at ra
        exact call_int1 pins s σ H _ us Q I r (.inl ⟨i, by rw [ra], q _ _ (Same.refl H) rep_int⟩)
      | bl i =>
        have e0 : D.int (if i then 1 else 0) = d := Option.some.inj hg
        subst e0
        unfold Rep at ra
        exact call_int1 pins s σ H _ us Q I r (.inr ⟨i, by rw [ra], q _ _ (Same.refl H) rep_int⟩)
      | _ => cases hg
theorem bi_min2 (hc : X.calm = true) : CallR X (.builtin "min") (rVs e (biD .min2)) := by
  intro pins s σ H xs us Q I r ⟨W, ds, d, hw, rs, hg, q⟩
  cases ds with
  | nil => exact (biD_one hg).elim
  | cons a t =>
    cases t with
    | nil => cases a <;> cases hg
    | cons b t =>
      cases t with
      | cons c t => cases a <;> cases b <;> cases hg
      | nil =>
        obtain ⟨x, y, e1, ra, rb⟩ := reps2 rs
        subst e1
        cases a with
        | int i =>
          cases b with
          | int j =>
            have e0 : D.int (if j < i then j else i) = d := Option.some.inj hg
            subst e0
            unfold Rep at ra rb
            exact call_min2 hc pins s σ H _ us Q I r ⟨i, j, by rw [ra, rb], q _ _ (Same.refl H) rep_int⟩
          | _ => cases hg
        | _ => cases hg
theorem bi_max2 (hc : X.calm = true) : CallR X (.builtin "max") (rVs e (biD .max2)) := by
  intro pins s σ H xs us Q I r ⟨W, ds, d, hw, rs, hg, q⟩
  cases ds with
  | nil => exact (biD_one hg).elim
  | cons a t =>
    cases t with
    | nil => cases a <;> cases hg
    | cons b t =>
      cases t with
      | cons c t => cases a <;> cases b <;> cases hg
      | nil =>
        obtain ⟨x, y, e1, ra, rb⟩ := reps2 rs
        subst e1
        cases a with
        | int i =>
          cases b with
          | int j =>
            have e0 : D.int (if j > i then j else i) = d := Option.some.inj hg
            subst e0
            unfold Rep at ra rb
            exact call_max2 hc pins s σ H _ us Q I r ⟨i, j, by rw [ra, rb], q _ _ (Same.refl H) rep_int⟩
          | _ => cases hg
        | _ => cases hg
theorem bi_ok (hK : X.K = e.K) (hc : X.calm = true) : ∀ (b : Bi) (n : BName), biNm b = some n → CallR X n.val (rVs e (biD b)) := fun b n h => by
  cases b <;> first
    | (cases h; done)
    | (have e1 := Option.some.inj h; subst e1; first | exact bi_len hK | exact bi_tuple hK | exact bi_list hK | exact bi_sum hc | exact bi_all hc | exact bi_any hc | exact bi_abs | exact bi_int | exact bi_min2 hc | exact bi_max2 hc)

/-! ### isinstance -/
def tyNm : Ty → Option String
  | .int => some "int" | .bool => some "bool" | .tuple => some "tuple" | .list => some "list" | .str => some "str" | .cls _ => none
def dNm : D → Option String
  | .non => some "NoneType" | .bl _ => some "bool" | .int _ => some "int" | .str _ => some "str" | .tup _ => some "tuple" | .lst _ => some "list" | .dK _ _ => some "dict"
  | _ => none
theorem kits : ∀ a ∈ ["NoneType", "bool", "int", "str", "tuple", "list", "dict"], ∀ b ∈ ["int", "bool", "tuple", "list", "str"], kitB a b = some (a == b || (a == "bool" && b == "int")) := by decide +kernel
theorem isTy_kit {K : PySem.W.Frag} {d : D} {t : Ty} {a b : String} {r : Bool} (ha : dNm d = some a) (hb : tyNm t = some b) (h : isTy d t = some r) : PySem.W.kitOne K (.type a) (.type b) = some r := by
  cases d <;> first
    | (cases ha; done)
    | (have ea := Option.some.inj ha
       cases t <;> first
         | (cases hb; done)
         | (have eb := Option.some.inj hb
            subst ea eb
            have er := Option.some.inj h
            subst er
            exact kit_ty (kits _ (by decide) _ (by decide))))
theorem rep_ty {K : PySem.W.Frag} {H : Hp} {W : OwnP} {d : D} {v : V} {a : String} (h : dNm d = some a) (r : Rep e H W d v) : TyX K H v (.type a) := by
  cases d with
  | non => have ea := Option.some.inj h; subst ea; unfold Rep at r; subst r; exact .base .non
  | bl b => have ea := Option.some.inj h; subst ea; unfold Rep at r; subst r; exact .base (.bl b)
  | int b => have ea := Option.some.inj h; subst ea; unfold Rep at r; subst r; exact .base (.int b)
  | str b => have ea := Option.some.inj h; subst ea; unfold Rep at r; subst r; exact .base (.str b)
  | tup b => have ea := Option.some.inj h; subst ea; unfold Rep at r; obtain ⟨p, xs, e1, f, _⟩ := r; subst e1; exact .base (.tup (cont_tup f.2))
  | lst b => have ea := Option.some.inj h; subst ea; unfold Rep at r; obtain ⟨p, xs, e1, f, _⟩ := r; subst e1; exact .base (.lst (cont_lst f.2))
  | dK b c =>
    have ea := Option.some.inj h
    subst ea
    unfold Rep at r
    obtain ⟨p, xs, e1, f, _⟩ := r
    subst e1
    rcases cont_dK f.2 with q | ⟨ob, q⟩
    · exact .base (.dK q)
    · exact .fDict q
  | _ => cases h
end
end Cr

/-! Expressions: their actions are readings. -/
namespace Cr
open PySem PySem.Spec L2

/-- a context in which the core's readings hold; Wx: what is wished of an exception -/
structure Good (X : Cx) (Wx : WX) (e : RB) (lv : Nat) (N : List Str) (sc : Scope) : Prop where
  calm : X.calm = true
  tk : Takes X Wx
  nd : X.N.Nodup
  room : Room lv X.A
  hK : X.K = e.K
  hN : X.N = N
  hsc : X.env.scope = sc

def visB (sc : Scope) (x : Str) : Bool := match sc.names.lookup x with
  | some .local => true
  | some .cell => true
  | some .free => true
  | _ => false
def glB (sc : Scope) (x : Str) : Bool := match sc.names.lookup x with
  | some .globalImplicit => true
  | _ => false
theorem visB_ok {sc : Scope} {x : Str} (h : visB sc x = true) : Vis sc x := by
  unfold visB at h
  split at h
  · exact .inl (by assumption)
  · exact .inr (.inl (by assumption))
  · exact .inr (.inr (by assumption))
  · cases h
theorem glB_ok {sc : Scope} {x : Str} (h : glB sc x = true) : sc.names.lookup x = some .globalImplicit := by
  unfold glB at h
  split at h
  · assumption
  · cases h
/-- a name of the module that holds nothing special -/
def okName (x : Str) : Bool := !(x == ("__debug__" : Str)) && !(x == ("__classdict__" : Str)) && !(x == ("__name__" : Str))

section
variable {X : Cx} {Wx : WX} {e : RB} {lv : Nat} {N : List Str} {sc : Scope} {P : Prg} {Φ : Calls}
theorem Good.hu1 (G : Good X Wx e lv N sc) : X.A.units + 1 < cLine := hu_of G.room
theorem Good.hu64 (G : Good X Wx e lv N sc) : X.A.units + 64 < cLine := G.room.units
theorem Good.hu65 (G : Good X Wx e lv N sc) : X.A.units + 65 < cLine := by have := G.room.un; omega
/-- an expression whose value comes with its action -/
abbrev PEc (X : Cx) (Wx : WX) (e : RB) (x : Expr) (m : M D) : Prop := PE X x (tE e Wx m)
abbrev PTc (X : Cx) (Wx : WX) (e : RB) (x : Expr) (m : M D) : Prop := PT X x (tT e Wx (M.bnd m toBool))
theorem tE_ret {d : D} {v : V} {σ : L2.St} {H : Hp} {Q : VK} {Z : OwnP} {B : List (Nat × V)} {fp : List Addr} {f : Fr} {K : D → Fr → List Addr → Hp → Prop}
    (r : R e Z B fp σ H f) (p : PM e Wx Z B fp σ H (M.ret d f) K) : K d f fp H := PM.fin p r (Same.refl H)
theorem s_const {x : Expr} {d : D} {v : V} (h : PE X x (tC v)) (hr : ∀ H W, Rep e H W d v) : PEc X Wx e x (M.ret d) := h.imp fun σ H Q q => by
  obtain ⟨Z, B, fp, f, r, p⟩ := q
  exact tE_ret (v := v) (Q := Q) r p v (hr _ _)
theorem s_var (G : Good X Wx e lv N sc) {i : Nat} {x : Str} {pos : Pos} (hi : N[i]? = some x) (hv : visB sc x = true) (ho : okName x = true) : PEc X Wx e (.Name x pos) (rdSlot i) := by
  have ho' := ho
  unfold okName at ho'
  simp only [Bool.and_eq_true, Bool.not_eq_true'] at ho'
  refine (pe_var (i := i) (by rw [G.hN]; exact hi) (by rw [G.hsc]; exact visB_ok hv) ho'.1.1 ho'.1.2).imp fun σ H Q q => ?_
  obtain ⟨Z, B, fp, f, r, p⟩ := q
  unfold rdSlot at p
  cases hf : f[i]? with
  | none => rw [hf] at p; exact (p : False).elim
  | some o =>
    rw [hf] at p
    have go : ∀ (hu : o ≠ .un), PM e Wx Z B fp σ H (.ok (fzd o) (f.set i (.fz (fzd o)))) (fun d _ fp' H' => ∀ v, Rep e H' (own Z fp') d v → Q v H') → tVar i σ H Q := fun hu p => by
      obtain ⟨v, fq, h1, h2, h3, h4⟩ := r.freeze hf hu
      exact ⟨v, h1, p H fq h3 h4 v h2⟩
    cases o with
    | un => exact (p : False).elim
    | fz d =>
      cases d with
      | nil => exact (p : False).elim
      | _ =>
        refine go (fun z => by cases z) ?_
        unfold fzd
        rw [set_self hf]
        exact p
    | lst os => exact go (fun z => by cases z) p
    | dK ks os => exact go (fun z => by cases z) p
    | dT ks os => exact go (fun z => by cases z) p
    | ins c fs => exact go (fun z => by cases z) p
/-- two expressions, then an operator by values -/
theorem s_op2 {x y z : Expr} {ma mb : M D} {g : D → D → Option D} {r : R2} (ha : PEc X Wx e x ma) (hb : PEc X Wx e y mb) (hop : PE X z (tOp (rV2 e g) (tE e Wx ma) (tE e Wx mb))) :
    PEc X Wx e z (M.bnd ma fun a => M.bnd mb fun b => M.opt (g a b)) := hop.imp fun σ H Q q => by
  obtain ⟨Z, B, fp, f, r, p⟩ := q
  refine tE_seq r p _ fun d f1 fp1 H1 v r1 a1 h1 p1 => ?_
  refine tE_seq r1 p1 _ fun d2 f2 fp2 H2 v2 r2 a2 h2 p2 => ?_
  obtain ⟨d3, hg, p3⟩ := p2.opt
  exact ⟨own Z fp2, d, d2, d3, r2.there, h1.le a2.le, h2, hg, fun v H' s hr => PM.fin p3 r2 s v hr⟩
theorem s_bin (G : Good X Wx e lv N sc) {x y : Expr} {a b : E} {o : BOp} {pos : Pos} (ha : PEc X Wx e x (ev P Φ a)) (hb : PEc X Wx e y (ev P Φ b)) : PEc X Wx e (.BinOp x (bop o) y pos) (ev P Φ (.bin o a b)) :=
  s_op2 (r := rV2 e (binD o)) ha hb (pe_op (binD_ok G.hK o) ha hb)
/-- a comparison, by values, as a value and as a test -/
theorem c_val {z : Expr} {ma mb : M D} {g : D → D → Option Bool} (hop : PE X z (tOp (rC2 e g) (tE e Wx ma) (tE e Wx mb))) : PEc X Wx e z (M.bnd ma fun a => M.bnd mb fun b => M.bnd (M.opt (g a b)) fun r => M.ret (.bl r)) := hop.imp fun σ H Q q => by
  obtain ⟨Z, B, fp, f, r, p⟩ := q
  refine tE_seq r p _ fun d f1 fp1 H1 v r1 a1 h1 p1 => ?_
  refine tE_seq r1 p1 _ fun d2 f2 fp2 H2 v2 r2 a2 h2 p2 => ?_
  obtain ⟨b, hg, p3⟩ := p2.optB
  exact ⟨own Z fp2, d, d2, b, h1.le a2.le, h2, hg, PM.fin p3 r2 (Same.refl _) _ rep_bl⟩
theorem c_tst {z : Expr} {ma mb : M D} {g : D → D → Option Bool} (hop : PT X z (tTest (tOp (rC2 e g) (tE e Wx ma) (tE e Wx mb)))) : PTc X Wx e z (M.bnd ma fun a => M.bnd mb fun b => M.bnd (M.opt (g a b)) fun r => M.ret (.bl r)) := hop.imp fun σ H Q q => by
  obtain ⟨Z, B, fp, f, r, p⟩ := q
  have p' : PM e Wx Z B fp σ H (M.bnd ma (fun a => M.bnd (M.bnd mb fun b => M.bnd (M.opt (g a b)) fun r => M.ret (.bl r)) toBool) f) (fun b _ _ H' => Q b H') := by
    rw [show M.bnd (M.bnd ma fun a => M.bnd mb fun b => M.bnd (M.opt (g a b)) fun r => M.ret (.bl r)) toBool f = M.bnd ma (fun a => M.bnd (M.bnd mb fun b => M.bnd (M.opt (g a b)) fun r => M.ret (.bl r)) toBool) f by unfold M.bnd; cases ma f <;> rfl] at p
    exact p
  refine tE_seq r p' _ fun d f1 fp1 H1 v r1 a1 h1 p1 => ?_
  have p1' : PM e Wx Z B fp1 σ H1 (M.bnd mb (fun b => M.bnd (M.bnd (M.opt (g d b)) fun r => M.ret (.bl r)) toBool) f1) (fun b _ _ H' => Q b H') := by
    rw [show M.bnd (M.bnd mb fun b => M.bnd (M.opt (g d b)) fun r => M.ret (.bl r)) toBool f1 = M.bnd mb (fun b => M.bnd (M.bnd (M.opt (g d b)) fun r => M.ret (.bl r)) toBool) f1 by unfold M.bnd; cases mb f1 <;> rfl] at p1
    exact p1
  refine tE_seq r1 p1' _ fun d2 f2 fp2 H2 v2 r2 a2 h2 p2 => ?_
  cases hg : g d d2 with
  | none => exact (show False by rw [hg] at p2; exact p2).elim
  | some b =>
    rw [hg] at p2
    refine ⟨own Z fp2, d, d2, b, h1.le a2.le, h2, hg, b, rfl, ?_⟩
    exact PM.fin (show PM e Wx Z B fp2 σ H2 (.ok b f2) _ from p2) r2 (Same.refl _)
def memForm (n : Bool) : CmpOp := if n then .NotIn else .In
theorem assocB {α β γ : Type} (m : M α) (k : α → M β) (l : β → M γ) : M.bnd (M.bnd m k) l = M.bnd m fun a => M.bnd (k a) l := by
  funext f
  unfold M.bnd
  cases m f <;> rfl
theorem s_cmp (G : Good X Wx e lv N sc) {x y : Expr} {a b : E} {o : COp} {pos : Pos} (ha : PEc X Wx e x (ev P Φ a)) (hb : PEc X Wx e y (ev P Φ b)) (hm : behindInMarks (cop o) y = false) : PEc X Wx e (.Compare x [cop o] [y] pos) (ev P Φ (.cmp o a b)) :=
  c_val (pe_cmpR (cmpD_ok G.hK G.hu64 o) ha hb hm)
theorem t_cmp (G : Good X Wx e lv N sc) {x y : Expr} {a b : E} {o : COp} {pos : Pos} (ha : PEc X Wx e x (ev P Φ a)) (hb : PEc X Wx e y (ev P Φ b)) (hm : behindInMarks (cop o) y = false) : PTc X Wx e (.Compare x [cop o] [y] pos) (ev P Φ (.cmp o a b)) :=
  c_tst (pt_cmpR (cmpD_ok G.hK G.hu64 o) ha hb hm)
/-- a test whose value is read -/
theorem t_val {x : Expr} {m : M D} (h : PEc X Wx e x m) (he : ∀ whole, isTrue x X.env whole = (do let v ← whole; standAt x.pos; holding [v] (truthy v))) : PTc X Wx e x m := (pt_val h he).imp fun σ H Q q => by
  obtain ⟨Z, B, fp, f, r, p⟩ := q
  refine tE_seq r p _ fun d f1 fp1 H1 v r1 a1 h1 p1 => ?_
  cases d with
  | bl b => unfold Rep at h1; exact ⟨b, h1, PM.fin (show PM e Wx Z B fp1 σ H1 (.ok b f1) _ from p1) r1 (Same.refl _)⟩
  | _ => exact (p1 : False).elim
theorem s_not {x : Expr} {m : M D} {pos : Pos} (h : PEc X Wx e x m) : PEc X Wx e (.UnaryOp .Not x pos) (M.bnd m fun v => M.bnd (toBool v) fun b => M.ret (.bl (!b))) := (pe_not h).imp fun σ H Q q => by
  obtain ⟨Z, B, fp, f, r, p⟩ := q
  refine tE_seq r p _ fun d f1 fp1 H1 v r1 a1 h1 p1 => ?_
  obtain ⟨b, e1, p2⟩ := p1.boolB
  subst e1
  unfold Rep at h1
  exact ⟨b, h1, PM.fin p2 r1 (Same.refl _) _ rep_bl⟩
theorem t_not {x : Expr} {m : M D} {pos : Pos} (h : PTc X Wx e x m) : PTc X Wx e (.UnaryOp .Not x pos) (M.bnd m fun v => M.bnd (toBool v) fun b => M.ret (.bl (!b))) := (pt_not h).imp fun σ H Q q => by
  obtain ⟨Z, B, fp, f, r, p⟩ := q
  have p' : PM e Wx Z B fp σ H (M.bnd (M.bnd m toBool) (fun b => M.ret (!b)) f) (fun b _ _ H' => Q b H') := by
    rw [assocB] at p
    rw [assocB]
    exact (show (fun a => M.bnd (M.bnd (toBool a) fun b => M.ret (D.bl (!b))) toBool) = (fun a => M.bnd (toBool a) fun b => M.ret (!b)) by funext a; cases a <;> rfl) ▸ p
  exact tT_seq r p' _ fun b f1 fp1 H1 r1 a1 p1 => PM.fin p1 r1 (Same.refl _)
theorem s_neg {x : Expr} {m : M D} {pos : Pos} (h : PEc X Wx e x m) : PEc X Wx e (.UnaryOp .USub x pos) (M.bnd m fun v => M.bnd (toInt v) fun i => M.ret (.int (-i))) := (pe_un un_neg h).imp fun σ H Q q => by
  obtain ⟨Z, B, fp, f, r, p⟩ := q
  refine tE_seq r p _ fun d f1 fp1 H1 v r1 a1 h1 p1 => ?_
  obtain ⟨i, e1, p2⟩ := p1.intB
  subst e1
  unfold Rep at h1
  exact ⟨i, h1, PM.fin p2 r1 (Same.refl _) _ rep_int⟩
theorem s_inv {x : Expr} {m : M D} {pos : Pos} (h : PEc X Wx e x m) : PEc X Wx e (.UnaryOp .Invert x pos) (M.bnd m fun v => M.bnd (toInt v) fun i => M.ret (.int (-i - 1))) := (pe_un un_inv h).imp fun σ H Q q => by
  obtain ⟨Z, B, fp, f, r, p⟩ := q
  refine tE_seq r p _ fun d f1 fp1 H1 v r1 a1 h1 p1 => ?_
  obtain ⟨i, e1, p2⟩ := p1.intB
  subst e1
  unfold Rep at h1
  exact ⟨i, h1, PM.fin p2 r1 (Same.refl _) _ rep_int⟩
/-! and, or, the conditional -/
theorem s_and {x : Expr} {y : Expr} {rest : List Expr} {ma mb : M D} {pos : Pos} (h : PEc X Wx e x ma) (h2 : PEc X Wx e (.BoolOp .And (y :: rest) pos) mb) : PEc X Wx e (.BoolOp .And (x :: y :: rest) pos) (M.bnd ma fun v => M.bnd (toBool v) fun b => if b then mb else M.ret (.bl false)) := (pe_and h h2).imp fun σ H Q q => by
  obtain ⟨Z, B, fp, f, r, p⟩ := q
  refine tE_seq r p _ fun d f1 fp1 H1 v r1 a1 h1 p1 => ?_
  obtain ⟨b, e1, p2⟩ := p1.boolB
  subst e1
  unfold Rep at h1
  refine ⟨b, h1, ?_⟩
  cases b with
  | true => exact iteT ⟨Z, B, fp1, f1, r1, p2⟩
  | false => exact iteF (PM.fin (show PM e Wx Z B fp1 σ H1 (.ok (D.bl false) f1) _ from p2) r1 (Same.refl _) _ rep_bl)
theorem s_or {x : Expr} {y : Expr} {rest : List Expr} {ma mb : M D} {pos : Pos} (h : PEc X Wx e x ma) (h2 : PEc X Wx e (.BoolOp .Or (y :: rest) pos) mb) : PEc X Wx e (.BoolOp .Or (x :: y :: rest) pos) (M.bnd ma fun v => M.bnd (toBool v) fun b => if b then M.ret (.bl true) else mb) := (pe_or h h2).imp fun σ H Q q => by
  obtain ⟨Z, B, fp, f, r, p⟩ := q
  refine tE_seq r p _ fun d f1 fp1 H1 v r1 a1 h1 p1 => ?_
  obtain ⟨b, e1, p2⟩ := p1.boolB
  subst e1
  unfold Rep at h1
  refine ⟨b, h1, ?_⟩
  cases b with
  | false => exact iteF ⟨Z, B, fp1, f1, r1, p2⟩
  | true => exact iteT (PM.fin (show PM e Wx Z B fp1 σ H1 (.ok (D.bl true) f1) _ from p2) r1 (Same.refl _) _ rep_bl)
abbrev PWc (X : Cx) (Wx : WX) (e : RB) (x : Expr) (m : M D) : Prop := PW X x (tT e Wx (M.bnd m toBool))
theorem w_and {x : Expr} {y : Expr} {rest : List Expr} {ma mb : M D} {pos : Pos} (h : PTc X Wx e x ma) (h2 : PWc X Wx e (.BoolOp .And (y :: rest) pos) mb) : PWc X Wx e (.BoolOp .And (x :: y :: rest) pos) (M.bnd ma fun v => M.bnd (toBool v) fun b => if b then mb else M.ret (.bl false)) := (pw_and h h2).imp fun σ H Q q => by
  obtain ⟨Z, B, fp, f, r, p⟩ := q
  have p' : PM e Wx Z B fp σ H (M.bnd (M.bnd ma toBool) (fun b => if b then M.bnd mb toBool else M.ret false) f) (fun b _ _ H' => Q b H') := by
    rw [assocB] at p
    rw [assocB]
    exact (show (fun a => M.bnd (M.bnd (toBool a) fun b => if b then mb else M.ret (D.bl false)) toBool) = (fun a => M.bnd (toBool a) fun b => if b then M.bnd mb toBool else M.ret false) by funext a; cases a <;> first | rfl | (rename_i b; cases b <;> rfl)) ▸ p
  refine tT_seq r p' _ fun b f1 fp1 H1 r1 a1 p1 => ?_
  cases b with
  | true => exact iteT ⟨Z, B, fp1, f1, r1, p1⟩
  | false => exact iteF (PM.fin (show PM e Wx Z B fp1 σ H1 (.ok false f1) _ from p1) r1 (Same.refl _))
theorem w_or {x : Expr} {y : Expr} {rest : List Expr} {ma mb : M D} {pos : Pos} (h : PTc X Wx e x ma) (h2 : PWc X Wx e (.BoolOp .Or (y :: rest) pos) mb) : PWc X Wx e (.BoolOp .Or (x :: y :: rest) pos) (M.bnd ma fun v => M.bnd (toBool v) fun b => if b then M.ret (.bl true) else mb) := (pw_or h h2).imp fun σ H Q q => by
  obtain ⟨Z, B, fp, f, r, p⟩ := q
  have p' : PM e Wx Z B fp σ H (M.bnd (M.bnd ma toBool) (fun b => if b then M.ret true else M.bnd mb toBool) f) (fun b _ _ H' => Q b H') := by
    rw [assocB] at p
    rw [assocB]
    exact (show (fun a => M.bnd (M.bnd (toBool a) fun b => if b then M.ret (D.bl true) else mb) toBool) = (fun a => M.bnd (toBool a) fun b => if b then M.ret true else M.bnd mb toBool) by funext a; cases a <;> first | rfl | (rename_i b; cases b <;> rfl)) ▸ p
  refine tT_seq r p' _ fun b f1 fp1 H1 r1 a1 p1 => ?_
  cases b with
  | false => exact iteF ⟨Z, B, fp1, f1, r1, p1⟩
  | true => exact iteT (PM.fin (show PM e Wx Z B fp1 σ H1 (.ok true f1) _ from p1) r1 (Same.refl _))
theorem s_ite {c x y : Expr} {mc ma mb : M D} {pos : Pos} (hc : PTc X Wx e c mc) (h : PEc X Wx e x ma) (h2 : PEc X Wx e y mb) : PEc X Wx e (.IfExp c x y pos) (M.bnd mc fun v => M.bnd (toBool v) fun b => if b then ma else mb) := (pe_ifExp hc h h2).imp fun σ H Q q => by
  obtain ⟨Z, B, fp, f, r, p⟩ := q
  rw [← assocB] at p
  refine tT_seq r p _ fun b f1 fp1 H1 r1 a1 p1 => ?_
  cases b with
  | true => exact iteT ⟨Z, B, fp1, f1, r1, p1⟩
  | false => exact iteF ⟨Z, B, fp1, f1, r1, p1⟩
theorem rep_isN {d : D} {v : V} {H : Hp} {W : OwnP} (r : Rep e H W d v) : decide (v = .non) = isNonD d := by
  cases d with
  | non => unfold Rep at r; subst r; rfl
  | nil => simp [Rep] at r
  | bl b => unfold Rep at r; subst r; rfl
  | int b => unfold Rep at r; subst r; rfl
  | str b => unfold Rep at r; subst r; rfl
  | fn b => unfold Rep at r; subst r; rfl
  | tup b => unfold Rep at r; obtain ⟨_, _, e1, _⟩ := r; subst e1; rfl
  | lst b => unfold Rep at r; obtain ⟨_, _, e1, _⟩ := r; subst e1; rfl
  | dK b c => unfold Rep at r; obtain ⟨_, _, e1, _⟩ := r; subst e1; rfl
  | dT b c => unfold Rep at r; obtain ⟨_, _, e1, _⟩ := r; subst e1; rfl
  | ins b c => unfold Rep at r; obtain ⟨_, _, _, e1, _⟩ := r; subst e1; rfl
  | scr b => unfold Rep at r; obtain ⟨_, e1, _⟩ := r; subst e1; rfl
theorem s_isN {x : Expr} {m : M D} {n : Bool} {j : Nat} {pos' : Pos} (h : PEc X Wx e x m) : PC X (if n then .IsNot else .Is) x (.Constant .none j pos') (tE e Wx (M.bnd m fun v => M.ret (.bl (isNonD v != n)))) := by
  cases n with
  | true =>
    refine ⟨fun pins s σ H Q I q => (pc_notN h).run pins s σ H Q I ?_⟩
    obtain ⟨Z, B, fp, f, r, p⟩ := q
    refine tE_seq r p _ fun d f1 fp1 H1 v r1 a1 h1 p1 => ?_
    have := PM.fin (show PM e Wx Z B fp1 σ H1 (.ok (D.bl (isNonD d != true)) f1) _ from p1) r1 (Same.refl _) _ rep_bl
    rw [Bool.bne_true] at this
    rw [rep_isN h1]
    exact this
  | false =>
    refine ⟨fun pins s σ H Q I q => (pc_isN h).run pins s σ H Q I ?_⟩
    obtain ⟨Z, B, fp, f, r, p⟩ := q
    refine tE_seq r p _ fun d f1 fp1 H1 v r1 a1 h1 p1 => ?_
    have := PM.fin (show PM e Wx Z B fp1 σ H1 (.ok (D.bl (isNonD d != false)) f1) _ from p1) r1 (Same.refl _) _ rep_bl
    rw [Bool.bne_false] at this
    rw [rep_isN h1]
    exact this
end
end Cr

/-! Expressions, further: membership, subscripts, displays, fields, built-ins. -/
namespace Cr
open PySem PySem.Spec L2

def isStar : Expr → Bool
  | .Starred _ _ => true
  | _ => false
theorem st_cons {x : Expr} {xs : List Expr} {env : Env} (h : isStar x = false) : starEach (x :: xs) env = (false, eval x env) :: starEach xs env := by
  cases x <;> first | rfl | cases h
theorem st_any {pos : Pos} {env : Env} : ∀ {xs : List Expr}, xs.all (fun x => !isStar x) = true → (backTo pos (starEach xs env)).any (·.1) = false
  | [], _ => rfl
  | x :: xs, h => by
    rw [List.all_cons, Bool.and_eq_true] at h
    have h1 : isStar x = false := by simpa using h.1
    rw [st_cons h1]
    show (false || (backTo pos (starEach xs env)).any (·.1)) = false
    rw [st_any h.2]
    rfl
section
variable {X : Cx} {Wx : WX} {e : RB} {lv : Nat} {N : List Str} {sc : Scope} {P : Prg} {Φ : Calls}
theorem tB_imp {m : M D} {σ : L2.St} {H : Hp} {Q : Bool → Hp → Prop} (q : tT e Wx (M.bnd m toBool) σ H Q) : tB (tE e Wx m) σ H Q := by
  obtain ⟨Z, B, fp, f, r, p⟩ := q
  refine tE_seq r p _ fun d f1 fp1 H1 v r1 a1 h1 p1 => ?_
  cases d with
  | bl b => unfold Rep at h1; exact ⟨b, h1, PM.fin (show PM e Wx Z B fp1 σ H1 (.ok b f1) _ from p1) r1 (Same.refl _)⟩
  | _ => exact (p1 : False).elim
theorem pc_opR {op : CmpOp} {r : R2} {x y : Expr} {ta tb : TE} (ho : OpR X (compareOp op) r) (ha : PE X x ta) (hb : PE X y tb) : PC X op x y (tOp r ta tb) :=
  ⟨fun pins s σ H Q I h => bin ha hb I h fun v u s2 x y H2 I2 rx ry q => ho pins s2 σ H2 x y v u Q I2 rx ry q⟩
theorem s_ofPC {op : CmpOp} {x y : Expr} {m : M D} {pos : Pos} (h : PC X op x y (tE e Wx m)) (hm : behindInMarks op y = false) : PEc X Wx e (.Compare x [op] [y] pos) m := pe_cmp h hm
theorem t_ofPC {op : CmpOp} {x y : Expr} {m : M D} {pos : Pos} (h : PC X op x y (tE e Wx m)) (hm : behindInMarks op y = false) : PTc X Wx e (.Compare x [op] [y] pos) m := (pt_cmp h hm).imp fun σ H Q q => tB_imp q
theorem memSeq_some {a b : D} {r : Bool} {n : Bool} (hs : (∃ xs, b = .tup xs) ∨ ∃ xs, b = .lst xs) (h : memD a b = some r) : (memSeq a b).map (· != n) = some (r != n) := by
  rcases hs with ⟨xs, rfl⟩ | ⟨xs, rfl⟩
  · have h' : pyIn a xs = some r := h
    show (pyIn a xs).map (· != n) = _
    rw [h']
    rfl
  · have h' : pyIn a xs = some r := h
    show (pyIn a xs).map (· != n) = _
    rw [h']
    rfl
/-- membership, any container -/
theorem op_mem (G : Good X Wx e lv N sc) (n : Bool) : OpR X (compareOp (if n then .NotIn else .In)) (fun x y H Q => ∃ W a b r, Rep e H W a x ∧ Rep e H W b y ∧ memD a b = some r ∧ Q (.bl (r != n)) H) := by
  intro pins s σ H x y v u Q I rx ry ⟨W, a, b, r, ra, rb, hg, q⟩
  by_cases hs : (∃ xs, b = .tup xs) ∨ ∃ xs, b = .lst xs
  · exact mem_ok G.hK G.hu65 n pins s σ H x y v u Q I rx ry ⟨W, a, b, r != n, ra, rb, memSeq_some hs hg, q⟩
  · obtain ⟨p, o, e1, g, e2⟩ := dmem_ok ra rb (fun xs z => hs (.inl ⟨xs, z⟩)) (fun xs z => hs (.inr ⟨xs, z⟩)) hg
    subst e1 e2
    obtain rfl : u = Value.ref p := ry
    cases n with
    | true =>
      refine d_notIn G.hu1 I g rx fun s' I' => ⟨.bl (!o.isSome), H, I', rfl, ?_⟩
      rw [Bool.bne_true] at q
      exact q
    | false =>
      refine d_in G.hu1 I g rx fun s' I' => ⟨.bl o.isSome, H, I', rfl, ?_⟩
      rw [Bool.bne_false] at q
      exact q
theorem s_mem (G : Good X Wx e lv N sc) {x y : Expr} {ma mb : M D} {n : Bool} (ha : PEc X Wx e x ma) (hb : PEc X Wx e y mb) :
    PC X (if n then .NotIn else .In) x y (tE e Wx (M.bnd ma fun a => M.bnd mb fun b => M.bnd (M.opt (memD a b)) fun r => M.ret (.bl (r != n)))) := by
  refine ⟨fun pins s σ H Q I q => (pc_opR (op_mem G n) ha hb).run pins s σ H Q I ?_⟩
  obtain ⟨Z, B, fp, f, r, p⟩ := q
  refine tE_seq r p _ fun d f1 fp1 H1 v r1 a1 h1 p1 => ?_
  refine tE_seq r1 p1 _ fun d2 f2 fp2 H2 v2 r2 a2 h2 p2 => ?_
  obtain ⟨t, hg, p3⟩ := p2.optB
  exact ⟨own Z fp2, d, d2, t, h1.le a2.le, h2, hg, PM.fin p3 r2 (Same.refl _) _ rep_bl⟩
/-! ### subscripts -/
theorem ix_all (G : Good X Wx e lv N sc) : IxR X (rV2 e idxD) := by
  intro value slice pins s σ H x y v u Q I rx ry ⟨W, a, b, d, hw, ra, rb, hg, q⟩ hs
  cases hn : ixSeq a b with
  | some d' =>
    have e1 : idxD a b = ixSeq a b := by
      cases a <;> cases b <;> first | rfl | (cases hn; done)
    exact ix_ok value slice pins s σ H x y v u Q I rx ry ⟨W, a, b, d, hw, ra, rb, by rw [← e1]; exact hg, q⟩ hs
  | none =>
    obtain ⟨p, z, e1, g, rz⟩ := dget_ok ra rb hn hg
    subst e1
    obtain rfl : v = Value.ref p := rx
    exact PyProof.Rows.tail_any (dict_typeIs I g) PySem.F.slot_dict_getitem.lookup (d_getItem G.hu1 I g ry fun w' s3 I3 rw' => ⟨z, H, I3, rw', q _ _ (Same.refl H) rz⟩) hs
theorem s_idx (G : Good X Wx e lv N sc) {x y : Expr} {ma mb : M D} {pos : Pos} (ha : PEc X Wx e x ma) (hb : PEc X Wx e y mb) (hs : PlainIx y) : PEc X Wx e (.Subscript x y pos) (M.bnd ma fun a => M.bnd mb fun b => M.opt (idxD a b)) :=
  s_op2 (r := rV2 e idxD) ha hb (pe_ix (ix_all G) ha hb hs)
/-- a slice's part -/
def tOI (e : RB) (Wx : WX) (m : M (Option Int)) : TO := fun σ H Q => ∃ Z B fp f, R e Z B fp σ H f ∧ PM e Wx Z B fp σ H (m f) (fun o _ _ H' => Q o H')
theorem o_none : PO X none (tOI e Wx (M.ret none)) := by
  refine ⟨fun pins s σ H Q I q => po_none.run pins s σ H Q I ?_⟩
  obtain ⟨Z, B, fp, f, r, p⟩ := q
  exact PM.fin p r (Same.refl H)
theorem o_some {x : Expr} {m : M D} (h : PEc X Wx e x m) : PO X (some x) (tOI e Wx (M.bnd m fun v => M.bnd (toInt v) fun i => M.ret (some i))) := by
  refine ⟨fun pins s σ H Q I q => (po_some h).run pins s σ H Q I ?_⟩
  obtain ⟨Z, B, fp, f, r, p⟩ := q
  refine tE_seq r p _ fun d f1 fp1 H1 v r1 a1 h1 p1 => ?_
  obtain ⟨i, e1, p2⟩ := p1.intB
  subst e1
  unfold Rep at h1
  exact ⟨i, h1, PM.fin p2 r1 (Same.refl _)⟩
theorem tO_seq {α β : Type} {m : M (Option Int)} {k : Option Int → M β} {Z : OwnP} {B : List (Nat × V)} {fp : List Addr} {σ : L2.St} {H : Hp} {f : Fr} {K : β → Fr → List Addr → Hp → Prop} (r : R e Z B fp σ H f) (p : PM e Wx Z B fp σ H (M.bnd m k f) K) (T : Option Int → Hp → Prop)
    (h : ∀ b f1 fp1 H1, R e Z B fp1 σ H1 f1 → Adv Z fp H fp1 H1 → PM e Wx Z B fp1 σ H1 (k b f1) K → T b H1) : tOI e Wx m σ H T := by
  refine ⟨Z, B, fp, f, r, ?_⟩
  unfold M.bnd at p
  cases q : m f with
  | ok d f1 =>
    rw [q] at p
    exact fun H1 fp1 r1 a1 => h d f1 fp1 H1 r1 a1 (p.adv a1)
  | exc c fs f1 => rw [q] at p; exact p
  | bad => rw [q] at p; exact p
theorem s_slc {x : Expr} {lo hi : Option Expr} {m : M D} {ml mh : M (Option Int)} {p2 pos : Pos} (h : PEc X Wx e x m) (hl : PO X lo (tOI e Wx ml)) (hh : PO X hi (tOI e Wx mh)) :
    PEc X Wx e (.Subscript x (.Slice lo hi none p2) pos) (M.bnd m fun a => M.bnd ml fun l => M.bnd mh fun u => M.opt (slcD a l u)) := (pe_slice (slc_ok (e := e)) h hl hh).imp fun σ H Q q => by
  obtain ⟨Z, B, fp, f, r, p⟩ := q
  refine tE_seq r p _ fun d f1 fp1 H1 v r1 a1 h1 p1 => ?_
  refine tO_seq (α := D) r1 p1 _ fun l f2 fp2 H2 r2 a2 p2 => ?_
  refine tO_seq (α := D) r2 p2 _ fun u f3 fp3 H3 r3 a3 p3 => ?_
  obtain ⟨d', hg, p4⟩ := p3.opt
  exact ⟨own Z fp3, d, d', r3.there, (h1.le a2.le).le a3.le, hg, fun v' H' s' hr => PM.fin p4 r3 s' v' hr⟩
theorem s_rev {x : Expr} {m : M D} {k : Nat} {p1 p2 p3 pos : Pos} (hK : X.K = e.K) (h : PEc X Wx e x m) :
    PEc X Wx e (.Subscript x (.Slice none none (some (.UnaryOp .USub (.Constant (.int 1) k p1) p2)) p3) pos) (M.bnd m fun a => M.opt (revD a)) := (pe_revL h).imp fun σ H Q q => by
  obtain ⟨Z, B, fp, f, r, p⟩ := q
  refine tE_seq r p _ fun d f1 fp1 H1 v r1 a1 h1 p1 => ?_
  obtain ⟨d', hg, p4⟩ := p1.opt
  cases d with
  | lst xs =>
    have e0 : D.lst xs.reverse = d' := Option.some.inj hg
    subst e0
    unfold Rep at h1
    obtain ⟨p, vs, e1, f1, q1⟩ := h1
    exact ⟨p, vs, e1, f1.sqL, fun o ho => PM.fin p4 r1 (same_new ho) _ (Rep.newL r1.there ho q1.rev)⟩
  | _ => cases hg
/-! ### displays -/
theorem a_nil : PA X [] (tA e Wx (M.ret [])) := pa_nil.imp fun σ H Q q => by
  obtain ⟨Z, B, fp, f, r, p⟩ := q
  exact PM.fin p r (Same.refl H) _ Reps.nil
theorem a_cons {x : Expr} {xs : List Expr} {m : M D} {ms : M (List D)} (h : PEc X Wx e x m) (hs : PA X xs (tA e Wx ms)) (hst : starEach (x :: xs) X.env = (false, eval x X.env) :: starEach xs X.env) :
    PA X (x :: xs) (tA e Wx (M.bnd m fun d => M.bnd ms fun ds => M.ret (d :: ds))) := (pa_cons h hs hst).imp fun σ H Q q => by
  obtain ⟨Z, B, fp, f, r, p⟩ := q
  refine tE_seq r p _ fun d f1 fp1 H1 v r1 a1 h1 p1 => ?_
  refine tA_seq r1 p1 _ fun ds f2 fp2 H2 vs r2 a2 h2 p2 => ?_
  exact PM.fin p2 r2 (Same.refl _) _ (Reps.cons (h1.le a2.le) h2)
theorem s_tup {xs : List Expr} {k : Nat} {pos : Pos} {ms : M (List D)} (h : PA X xs (tA e Wx ms)) (hl : ∀ f ds f', ms f = .ok ds f' → ds.length ≤ 1000) : PEc X Wx e (.Tuple xs k pos) (M.bnd ms fun ds => M.ret (.tup ds)) := (pe_tup h).imp fun σ H Q q => by
  obtain ⟨Z, B, fp, f, r, p⟩ := q
  refine ⟨Z, B, fp, f, r, ?_⟩
  unfold M.bnd at p
  cases q : ms f with
  | ok ds f1 =>
    rw [q] at p
    refine fun H1 fp1 r1 a1 vs hv => ⟨small_line (by have := hl f ds f1 q; rw [hv.len]; omega), fun o ho => ?_⟩
    exact PM.fin (p.adv a1) r1 (same_new ho) _ (Rep.newT r1.there ho hv)
  | exc c fs f1 => rw [q] at p; exact p
  | bad => rw [q] at p; exact p
theorem s_lst {xs : List Expr} {pos : Pos} {ms : M (List D)} (h : PA X xs (tA e Wx ms)) (hl : ∀ f ds f', ms f = .ok ds f' → ds.length ≤ 1000) : PEc X Wx e (.List xs pos) (M.bnd ms fun ds => M.ret (.lst ds)) := (pe_lst h).imp fun σ H Q q => by
  obtain ⟨Z, B, fp, f, r, p⟩ := q
  refine ⟨Z, B, fp, f, r, ?_⟩
  unfold M.bnd at p
  cases q : ms f with
  | ok ds f1 =>
    rw [q] at p
    refine fun H1 fp1 r1 a1 vs hv => ⟨small_line (by have := hl f ds f1 q; rw [hv.len]; omega), fun o ho => ?_⟩
    exact PM.fin (p.adv a1) r1 (same_new ho) _ (Rep.newL r1.there ho hv)
  | exc c fs f1 => rw [q] at p; exact p
  | bad => rw [q] at p; exact p
theorem s_dicK {pos : Pos} : PEc X Wx e (.Dict [] [] pos) (M.ret (.dK [] [])) := pe_dnewK.imp fun σ H Q q => by
  obtain ⟨Z, B, fp, f, r, p⟩ := q
  refine fun o ho => PM.fin p r (same_new ho) _ ?_
  unfold Rep
  exact ⟨o, [], rfl, ⟨not_own_new r.there ho, cont_of upd_same⟩, rfl, Reps.nil⟩
theorem s_dicT {pos : Pos} : PEc X Wx e (.Dict [] [] pos) (M.ret (.dT [] [])) := pe_dnewT.imp fun σ H Q q => by
  obtain ⟨Z, B, fp, f, r, p⟩ := q
  refine fun o ho => PM.fin p r (same_new ho) _ ?_
  unfold Rep
  exact ⟨o, [], rfl, ⟨not_own_new r.there ho, cont_of upd_same⟩, rfl, Reps.nil⟩
/-! ### built-ins -/
theorem s_biF {xs : List Expr} {x0 : Expr} {b : Bi} {x : Str} {id : String} {ms : M (List D)} {p pos : Pos} (G : Good X Wx e lv N sc) (hb : biNm b = some (.fn x id)) (hg : glB sc x = true) (hm : X.mg x = none) (hv : bootBuiltins x = some (.builtin id)) (ho : okName x = true) (h : PA X (x0 :: xs) (tA e Wx ms)) (hst : (x0 :: xs).all (fun x => !isStar x) = true) :
    PEc X Wx e (.Call (.Name x p) (x0 :: xs) [] pos) (M.bnd ms fun ds => M.opt (biD b ds)) := by
  have ho' := ho
  unfold okName at ho'
  simp only [Bool.and_eq_true, Bool.not_eq_true'] at ho'
  refine (pe_callB (bi_ok G.hK G.calm b _ hb) (show X.env.kindOf x = _ by rw [Env.kindOf, G.hsc]; exact glB_ok hg) hm hv h (fun z => by rw [z] at ho'; exact absurd ho'.2 (by decide)) ho'.1.1 (st_cons (by rw [List.all_cons, Bool.and_eq_true] at hst; simpa using hst.1)) (st_any (by rw [List.all_cons, Bool.and_eq_true] at hst; exact hst.2))).imp fun σ H Q q => ?_
  obtain ⟨Z, B, fp, f, r, p⟩ := q
  refine tA_seq r p _ fun ds f2 fp2 H2 vs r2 a2 h2 p2 => ?_
  obtain ⟨d', hg, p4⟩ := p2.opt
  exact ⟨own Z fp2, ds, d', r2.there, h2, hg, fun v' H' s' hr => PM.fin p4 r2 s' v' hr⟩
theorem s_biT {xs : List Expr} {x0 : Expr} {b : Bi} {x : Str} {T : String} {ms : M (List D)} {p pos : Pos} (G : Good X Wx e lv N sc) (hb : biNm b = some (.ty x T)) (hg : glB sc x = true) (hm : X.mg x = none) (hv : bootBuiltins x = some (.type T)) (ho : okName x = true) (h : PA X (x0 :: xs) (tA e Wx ms)) (hst : (x0 :: xs).all (fun x => !isStar x) = true) :
    PEc X Wx e (.Call (.Name x p) (x0 :: xs) [] pos) (M.bnd ms fun ds => M.opt (biD b ds)) := by
  have ho' := ho
  unfold okName at ho'
  simp only [Bool.and_eq_true, Bool.not_eq_true'] at ho'
  refine (pe_callTy (bi_ok G.hK G.calm b _ hb) (show X.env.kindOf x = _ by rw [Env.kindOf, G.hsc]; exact glB_ok hg) hm hv h (fun z => by rw [z] at ho'; exact absurd ho'.2 (by decide)) ho'.1.1 (st_cons (by rw [List.all_cons, Bool.and_eq_true] at hst; simpa using hst.1)) (st_any (by rw [List.all_cons, Bool.and_eq_true] at hst; exact hst.2))).imp fun σ H Q q => ?_
  obtain ⟨Z, B, fp, f, r, p⟩ := q
  refine tA_seq r p _ fun ds f2 fp2 H2 vs r2 a2 h2 p2 => ?_
  obtain ⟨d', hg, p4⟩ := p2.opt
  exact ⟨own Z fp2, ds, d', r2.there, h2, hg, fun v' H' s' hr => PM.fin p4 r2 s' v' hr⟩
/-- isinstance(x, T), a built-in type -/
theorem s_isi {x : Expr} {t : Ty} {T : String} {y : Str} {m : M D} {p p2 pos : Pos} (G : Good X Wx e lv N sc) (ht : tyNm t = some T) (hy : bootBuiltins y = some (.type T)) (hgy : glB sc y = true) (hmy : X.mg y = none) (hoy : okName y = true)
    (hg : glB sc "isinstance" = true) (hm : X.mg "isinstance" = none) (h : PEc X Wx e x m) (hst : starEach [x, .Name y p2] X.env = (false, eval x X.env) :: starEach [.Name y p2] X.env) :
    PEc X Wx e (.Call (.Name "isinstance" p) [x, .Name y p2] [] pos) (M.bnd m fun v => M.bnd (M.opt (isTy v t)) fun r => M.ret (.bl r)) := by
  have ho' := hoy
  unfold okName at ho'
  simp only [Bool.and_eq_true, Bool.not_eq_true'] at ho'
  have py : PE X (.Name y p2) (tC (.ty T)) := pe_bltn (show X.env.kindOf y = _ by rw [Env.kindOf, G.hsc]; exact glB_ok hgy) hmy hy rfl (fun z => by rw [z] at ho'; exact absurd ho'.2 (by decide)) ho'.1.1
  refine (pe_callB call_isi (show X.env.kindOf "isinstance" = _ by rw [Env.kindOf, G.hsc]; exact glB_ok hg) hm (by decide +kernel) (pa_cons h (pa_cons py pa_nil) hst) (by decide) (by decide) hst).imp fun σ H Q q => ?_
  obtain ⟨Z, B, fp, f, r, p⟩ := q
  refine tE_seq r p _ fun d f1 fp1 H1 v r1 a1 h1 p1 => ?_
  obtain ⟨b, hg, p2⟩ := p1.optB
  have hd : ∃ a, dNm d = some a := by
    cases d <;> first | exact ⟨_, rfl⟩ | (cases t <;> cases hg)
  obtain ⟨a, ha⟩ := hd
  rw [G.hK]
  exact ⟨v, .ty T, .type a, .type T, b, rfl, .ty T, rep_ty ha h1, isTy_kit ha ht hg, PM.fin p2 r1 (Same.refl _) _ rep_bl⟩
end
end Cr

/-! Places below a slot; fields; chains of comparisons; what the module holds. -/
namespace Cr
open PySem PySem.Spec L2

/-- what of the text the core leans on -/
structure Tab (P : Prg) (e : RE) : Prop where
  cls : ∀ c k, P.classes[c]? = some k → e.fds c = k.fields ∧ L2.Cls e.K (e.cls c) ∧ (∀ f ∈ k.fields, NoAttr e.K (e.cls c) f) ∧ k.fields.length ≤ 500 ∧ k.fields.Nodup

theorem fpos_mem : ∀ {fs : List Str} {f : Str} {j : Nat}, fpos fs f = some j → fs[j]? = some f ∧ f ∈ fs
  | [], _, _, h => by cases h
  | x :: r, f, j, h => by
    unfold fpos at h
    by_cases q : x = f
    · rw [if_pos q] at h
      cases h
      exact ⟨by rw [q]; rfl, by rw [q]; exact List.mem_cons_self⟩
    · rw [if_neg q] at h
      cases z : fpos r f with
      | none => rw [z] at h; cases h
      | some n =>
        rw [z] at h
        cases h
        obtain ⟨a, b⟩ := fpos_mem z
        exact ⟨a, List.mem_cons_of_mem _ b⟩
theorem repF_get {e : RE} {H : Hp} {W : OwnP} : ∀ {fs : List D} {ns : List Str} {gs : List (Str × V)} {j : Nat} {n : Str} {d : D}, RepF e H W fs ns gs → ns[j]? = some n → fs[j]? = some d → d ≠ .nil → ∃ v, gs.lookup n = some v ∧ Rep e H W d v
  | [], ns, gs, j, n, d, r, h1, h2, _ => by simp at h2
  | d0 :: fs, ns, gs, j, n, d, r, h1, h2, h3 => by
    unfold RepF at r
    obtain ⟨n0, r0, e1, q1, q2⟩ := r
    subst e1
    cases j with
    | zero =>
      have e1 : n0 = n := Option.some.inj h1
      have e2 : d0 = d := Option.some.inj h2
      subst e1 e2
      exact q1.resolve_left h3
    | succ j => exact repF_get q2 (by simpa using h1) (by simpa using h2) h3
theorem repOF_get {e : RE} {H : Hp} {W : OwnP} : ∀ {fs : List O} {ns : List Str} {gs : List (Str × V)} {fp : List Addr} {j : Nat} {n : Str} {o : O}, RepOF e H W fs ns gs fp → ns[j]? = some n → fs[j]? = some o → o ≠ .fz .nil → ∃ v fo, gs.lookup n = some v ∧ RepO e H W o v fo
  | [], ns, gs, fp, j, n, d, r, h1, h2, _ => by simp at h2
  | d0 :: fs, ns, gs, fp, j, n, d, r, h1, h2, h3 => by
    unfold RepOF at r
    obtain ⟨n0, r0, f1, f2, e1, e2, q1, q2⟩ := r
    subst e1
    cases j with
    | zero =>
      have e1 : n0 = n := Option.some.inj h1
      have e2 : d0 = d := Option.some.inj h2
      subst e1 e2
      rcases q1 with q1 | ⟨v, q1, q3⟩
      · exact absurd q1.1 h3
      · exact ⟨v, f1, q1, q3⟩
    | succ j => exact repOF_get q2 (by simpa using h1) (by simpa using h2) h3
theorem repOs_get {e : RE} {H : Hp} {W : OwnP} : ∀ {os : List O} {vs : List V} {fp : List Addr} {j : Nat} {o : O}, RepOs e H W os vs fp → os[j]? = some o → ∃ v fo, vs[j]? = some v ∧ RepO e H W o v fo
  | [], _, _, _, _, _, h => by simp at h
  | o0 :: os, vs, fp, j, o, r, h => by
    unfold RepOs at r
    obtain ⟨x, r0, f1, f2, e1, e2, q1, q2⟩ := r
    subst e1
    cases j with
    | zero =>
      have e2 : o0 = o := Option.some.inj h
      subst e2
      exact ⟨x, f1, rfl, q1⟩
    | succ j =>
      obtain ⟨v, fo, a, b⟩ := repOs_get q2 (show os[j]? = some o by simpa using h)
      exact ⟨v, fo, by simpa using a, b⟩
theorem repOs_len {e : RE} {H : Hp} {W : OwnP} : ∀ {os : List O} {vs : List V} {fp : List Addr}, RepOs e H W os vs fp → vs.length = os.length
  | [], _, _, h => by unfold RepOs at h; rw [h.1]; rfl
  | o :: os, vs, fp, h => by
    unfold RepOs at h
    obtain ⟨x, r, f1, f2, e1, e2, q1, q2⟩ := h
    subst e1
    rw [List.length_cons, List.length_cons, repOs_len q2]
theorem find_val {κ : Type} [DecidableEq κ] : ∀ {kvs : List (κ × V)} {k : κ} {j : Nat} {v : V}, (kvs.map (·.1)).findIdx? (fun k' => decide (k' = k)) = some j → (kvs.map (·.2))[j]? = some v → valV kvs k = some v
  | [], k, j, v, h, _ => by simp at h
  | (k', v') :: r, k, j, v, h, hv => by
    rw [List.map_cons, List.findIdx?_cons] at h
    by_cases q : k' = k
    · rw [decide_eq_true q, if_pos rfl] at h
      cases h
      have e1 : v' = v := Option.some.inj hv
      rw [valV_pos q, e1]
    · rw [decide_eq_false q, if_neg (by decide)] at h
      rw [valV_neg q]
      cases z : (r.map (·.1)).findIdx? (fun k' => decide (k' = k)) with
      | none => rw [z] at h; cases h
      | some n =>
        rw [z] at h
        cases h
        exact find_val z (by simpa using hv)

/-! ### a step's value -/
/-- v[y] is v1 -/
def IxF (K : PySem.W.Frag) (H : Hp) (v y v1 : V) : Prop := (∃ p xs i, v = .ref p ∧ y = .int i ∧ (SqL K H p xs ∨ SqT K H p xs) ∧ L2.atI xs i = some v1) ∨ ∃ p, v = .ref p ∧ DGet H p y (some v1)
theorem ixF_ok {X : Cx} (hu : X.A.units + 1 < cLine) : IxR X (fun v y H Q => ∃ v1, IxF X.K H v y v1 ∧ Q v1 H) := by
  intro value slice pins s σ H x y v u Q I rx ry ⟨v1, h, q⟩ hs
  rcases h with ⟨p, xs, i, e1, e2, h1, h2⟩ | ⟨p, e1, g⟩
  · rcases h1 with h1 | h1
    · exact ix_list value slice pins s σ H x y v u Q I rx ry ⟨p, xs, i, v1, e1, e2, h1, h2, q⟩ hs
    · exact ix_tup value slice pins s σ H x y v u Q I rx ry ⟨p, xs, i, v1, e1, e2, h1, h2, q⟩ hs
  · subst e1
    obtain rfl : v = Value.ref p := rx
    exact PyProof.Rows.tail_any (dict_typeIs I g) PySem.F.slot_dict_getitem.lookup (d_getItem hu I g ry fun w' s3 I3 rw' => ⟨v1, H, I3, rw', q⟩) hs
section
variable {e : RE} {P : Prg} {H : Hp} {W : OwnP}
theorem idx_F {a b d : D} {x y : V} (ra : Rep e H W a x) (rb : Rep e H W b y) (hg : idxD a b = some d) : ∃ v, IxF e.K H x y v ∧ Rep e H W d v := by
  cases hn : ixSeq a b with
  | some d' =>
    have e1 : idxD a b = ixSeq a b := by
      cases a <;> cases b <;> first | rfl | (cases hn; done)
    rw [e1] at hg
    cases b with
    | int i =>
      cases a with
      | tup xs =>
        unfold Rep at ra rb
        obtain ⟨p, vs, e1, f1, r1⟩ := ra
        obtain ⟨z, h1, h2⟩ := atI_reps r1 hg
        exact ⟨z, .inl ⟨p, vs, i, e1, rb, .inr f1.sqT, h1⟩, h2⟩
      | lst xs =>
        unfold Rep at ra rb
        obtain ⟨p, vs, e1, f1, r1⟩ := ra
        obtain ⟨z, h1, h2⟩ := atI_reps r1 hg
        exact ⟨z, .inl ⟨p, vs, i, e1, rb, .inl f1.sqL, h1⟩, h2⟩
      | _ => cases hg
    | _ => cases a <;> cases hg
  | none =>
    obtain ⟨p, z, e1, g, rz⟩ := dget_ok ra rb hn hg
    exact ⟨z, .inr ⟨p, e1, g⟩, rz⟩
theorem step_dK {ks : List Ky} {os : List O} {k : D} : stpO P (.dK ks os) (.ix k) = (match keyOf k with | some k => ks.findIdx? (fun k' => decide (k' = k)) | none => none) := by cases k <;> rfl
theorem step_dT {ks : List (List Ky)} {os : List O} {k : List D} : stpO P (.dT ks os) (.ix (.tup k)) = (match keysOf k with | some k => ks.findIdx? (fun k' => decide (k' = k)) | none => none) := rfl
theorem get_none {o : O} {st : List Stp} {o' : O} (hd : ∀ d, o ≠ .fz d) {s : Stp} (h : getO P o (s :: st) = some o') : ∃ j o1, stpO P o s = some j ∧ (kids o)[j]? = some o1 ∧ getO P o1 st = some o' := by
  have go : getO P o (s :: st) = (match stpO P o s with
    | some j => match (kids o)[j]? with
      | some o' => getO P o' st
      | none => none
    | none => none) := by
    cases o <;> first | rfl | exact absurd rfl (hd _)
  rw [go] at h
  cases q : stpO P o s with
  | none => rw [q] at h; cases h
  | some j =>
    rw [q] at h
    cases q2 : (kids o)[j]? with
    | none => simp only [q2] at h; cases h
    | some o1 =>
      simp only [q2] at h
      exact ⟨j, o1, rfl, q2, h⟩
/-- an index into an object -/
theorem ixO_F {o o1 : O} {d : D} {v y : V} {fo : List Addr} (r : RepO e H W o v fo) (ry : Rep e H W d y) (h : getO P o [.ix d] = some o1) : ∃ v1 f1, IxF e.K H v y v1 ∧ RepO e H W o1 v1 f1 := by
  cases o with
  | un => exact (show False by unfold RepO at r; exact r).elim
  | fz d0 =>
    have h' : (match stpD P d0 [.ix d] with | some d' => some (O.fz d') | none => none) = some o1 := h
    have e1 : stpD P d0 [.ix d] = idxD d0 d := by
      show (match idxD d0 d with | some d' => some d' | none => none) = _
      cases idxD d0 d <;> rfl
    rw [e1] at h'
    unfold RepO at r
    cases q : idxD d0 d with
    | none => rw [q] at h'; cases h'
    | some d' =>
      rw [q] at h'
      cases h'
      obtain ⟨v1, f, r1⟩ := idx_F r.2 ry q
      exact ⟨v1, [], f, by unfold RepO; exact ⟨rfl, r1⟩⟩
  | lst os =>
    obtain ⟨j, o2, h1, h2, h3⟩ := get_none (fun d z => by cases z) h
    have e2 : o2 = o1 := by
      unfold getO at h3
      cases o2 <;> first | exact Option.some.inj h3 | (unfold stpD at h3; exact Option.some.inj h3)
    subst e2
    unfold RepO at r
    obtain ⟨a, xs, fq, e1, e2, q, rs⟩ := r
    cases d with
    | int i =>
      have h1' : L2.ixN os.length i = some j := h1
      obtain ⟨v1, f1, g1, g2⟩ := repOs_get rs h2
      unfold Rep at ry
      refine ⟨v1, f1, .inl ⟨a, xs, i, e1, ry, .inl (SqL.of q), ?_⟩, g2⟩
      unfold L2.atI
      rw [repOs_len rs, h1']
      exact g1
    | _ => cases h1
  | dK ks os =>
    obtain ⟨j, o2, h1, h2, h3⟩ := get_none (fun d z => by cases z) h
    have e2 : o2 = o1 := by
      unfold getO at h3
      cases o2 <;> first | exact Option.some.inj h3 | (unfold stpD at h3; exact Option.some.inj h3)
    subst e2
    unfold RepO at r
    obtain ⟨a, kvs, fq, e1, e2, q, ek, rs⟩ := r
    rw [step_dK] at h1
    cases hk : keyOf d with
    | none => rw [hk] at h1; cases h1
    | some k =>
      rw [hk] at h1
      subst ek
      obtain ⟨v1, f1, g1, g2⟩ := repOs_get rs h2
      exact ⟨v1, f1, .inr ⟨a, e1, .inl ⟨kvs, k, .inl q, keyOf_some hk ry, (find_val h1 g1).symm⟩⟩, g2⟩
  | dT ks os =>
    obtain ⟨j, o2, h1, h2, h3⟩ := get_none (fun d z => by cases z) h
    have e2 : o2 = o1 := by
      unfold getO at h3
      cases o2 <;> first | exact Option.some.inj h3 | (unfold stpD at h3; exact Option.some.inj h3)
    subst e2
    unfold RepO at r
    obtain ⟨a, kvs, fq, e1, e2, q, ek, rs⟩ := r
    cases d with
    | tup ds =>
      rw [step_dT] at h1
      cases hk : keysOf ds with
      | none => rw [hk] at h1; cases h1
      | some k =>
        rw [hk] at h1
        subst ek
        obtain ⟨v1, f1, g1, g2⟩ := repOs_get rs h2
        unfold Rep at ry
        obtain ⟨p', us, e3, f3, r3⟩ := ry
        exact ⟨v1, f1, .inr ⟨a, e1, .inr ⟨kvs, k, p', .inl q, e3, by rw [← keysOf_some hk r3]; exact cont_tup f3.2, (find_val h1 g1).symm⟩⟩, g2⟩
    | _ => cases h1
  | ins c fs =>
    obtain ⟨j, o2, h1, h2, h3⟩ := get_none (fun d z => by cases z) h
    cases h1
/-- v.f is v1 -/
def FdF (e : RE) (H : Hp) (v : V) (f : Str) (v1 : V) : Prop := ∃ a C dx fs, v = .ref a ∧ H a = some (.ins C dx fs) ∧ L2.Cls e.K C ∧ NoAttr e.K C f ∧ fs.lookup f = some v1
theorem fldD_F (T : Tab P e) {d d1 : D} {x : V} {f : Str} (r : Rep e H W d x) (h : fldD P d f = some d1) : ∃ v, FdF e H x f v ∧ Rep e H W d1 v := by
  cases d with
  | ins c fs =>
    have h' : (match fpos (clsFields P c) f with
      | some j => match fs[j]? with
        | some .nil => none
        | r => r
      | none => none) = some d1 := h
    cases hp : fpos (clsFields P c) f with
    | none => rw [hp] at h'; cases h'
    | some j =>
      simp only [hp] at h'
      obtain ⟨m1, m2⟩ := fpos_mem hp
      unfold clsFields at m1 m2
      cases hk : P.classes[c]? with
      | none => simp [hk] at m2
      | some k =>
        simp only [hk] at m1 m2
        obtain ⟨t1, t2, t3, t4⟩ := T.cls c k hk
        have hj : fs[j]? = some d1 ∧ d1 ≠ .nil := by
          cases z : fs[j]? with
          | none => rw [z] at h'; cases h'
          | some w =>
            rw [z] at h'
            cases w <;> first | (cases h'; done) | (cases h'; exact ⟨rfl, fun q => by cases q⟩)
        unfold Rep at r
        obtain ⟨a, dx, gs, e1, f1, r1, _⟩ := r
        rw [t1] at r1
        obtain ⟨v, g1, g2⟩ := repF_get r1 m1 hj.1 hj.2
        exact ⟨v, ⟨a, e.cls c, dx, gs, e1, cont_ins f1.2, t2, t3 f m2, g1⟩, g2⟩
  | _ => cases h
theorem fdO_F (T : Tab P e) {o o1 : O} {f : Str} {v : V} {fo : List Addr} (r : RepO e H W o v fo) (hn : o1 ≠ .fz .nil) (h : getO P o [.fd f] = some o1) : ∃ v1 f1, FdF e H v f v1 ∧ RepO e H W o1 v1 f1 := by
  cases o with
  | un => exact (show False by unfold RepO at r; exact r).elim
  | fz d0 =>
    have h' : (match stpD P d0 [.fd f] with | some d' => some (O.fz d') | none => none) = some o1 := h
    have e1 : stpD P d0 [.fd f] = fldD P d0 f := by
      show (match fldD P d0 f with | some d' => some d' | none => none) = _
      cases fldD P d0 f <;> rfl
    rw [e1] at h'
    unfold RepO at r
    cases q : fldD P d0 f with
    | none => rw [q] at h'; cases h'
    | some d' =>
      rw [q] at h'
      cases h'
      obtain ⟨v1, g, r1⟩ := fldD_F T r.2 q
      exact ⟨v1, [], g, by unfold RepO; exact ⟨rfl, r1⟩⟩
  | ins c fs =>
    obtain ⟨j, o2, h1, h2, h3⟩ := get_none (fun d z => by cases z) h
    have e2 : o2 = o1 := by
      unfold getO at h3
      cases o2 <;> first | exact Option.some.inj h3 | (unfold stpD at h3; exact Option.some.inj h3)
    subst e2
    have hp : fpos (clsFields P c) f = some j := h1
    obtain ⟨m1, m2⟩ := fpos_mem hp
    unfold clsFields at m1 m2
    cases hk : P.classes[c]? with
    | none => simp [hk] at m2
    | some k =>
      simp only [hk] at m1 m2
      obtain ⟨t1, t2, t3, t4⟩ := T.cls c k hk
      unfold RepO at r
      obtain ⟨a, dx, gs, fq, e1, e2, q, r1, _⟩ := r
      rw [t1] at r1
      obtain ⟨v1, f1, g1, g2⟩ := repOF_get r1 m1 h2 hn
      exact ⟨v1, f1, ⟨a, e.cls c, dx, gs, e1, q, t2, t3 f m2, g1⟩, g2⟩
  | lst os => obtain ⟨j, o2, h1, _⟩ := get_none (fun d z => by cases z) h; cases h1
  | dK ks os => obtain ⟨j, o2, h1, _⟩ := get_none (fun d z => by cases z) h; cases h1
  | dT ks os => obtain ⟨j, o2, h1, _⟩ := get_none (fun d z => by cases z) h; cases h1
theorem stpD_app {r1 r2 : List Stp} : ∀ {d : D}, stpD P d (r1 ++ r2) = (match stpD P d r1 with | some d' => stpD P d' r2 | none => none) := by
  induction r1 with
  | nil => intro d; rfl
  | cons s r ih =>
    intro d
    cases s with
    | ix k =>
      have e1 : ∀ r : List Stp, stpD P d (.ix k :: r) = (match idxD d k with | some d' => stpD P d' r | none => none) := fun _ => rfl
      rw [List.cons_append, e1, e1]
      cases idxD d k with
      | none => rfl
      | some d' => exact ih
    | fd f =>
      have e1 : ∀ r : List Stp, stpD P d (.fd f :: r) = (match fldD P d f with | some d' => stpD P d' r | none => none) := fun _ => rfl
      rw [List.cons_append, e1, e1]
      cases fldD P d f with
      | none => rfl
      | some d' => exact ih
theorem getO_fz {d : D} {r : List Stp} : getO P (.fz d) r = (match stpD P d r with | some d' => some (.fz d') | none => none) := by cases r <;> rfl
theorem getO_app {r1 r2 : List Stp} : ∀ {o o' : O}, getO P o (r1 ++ r2) = some o' → ∃ o1, getO P o r1 = some o1 ∧ getO P o1 r2 = some o' := by
  induction r1 with
  | nil =>
    intro o o' h
    refine ⟨o, ?_, h⟩
    cases o <;> rfl
  | cons s r ih =>
    intro o o' h
    by_cases hd : ∃ d, o = .fz d
    · obtain ⟨d, rfl⟩ := hd
      rw [getO_fz, stpD_app] at h
      cases q : stpD P d (s :: r) with
      | none => rw [q] at h; cases h
      | some d' =>
        rw [q] at h
        refine ⟨.fz d', by rw [getO_fz, q], by rw [getO_fz]; exact h⟩
    · have hd' : ∀ d, o ≠ .fz d := fun d z => hd ⟨d, z⟩
      obtain ⟨j, o1, h1, h2, h3⟩ := get_none hd' h
      obtain ⟨o2, g1, g2⟩ := ih h3
      refine ⟨o2, ?_, g2⟩
      have go : getO P o (s :: r) = (match stpO P o s with
        | some j => match (kids o)[j]? with
          | some o' => getO P o' r
          | none => none
        | none => none) := by
        cases o <;> first | rfl | exact absurd rfl (hd' _)
      rw [go, h1]
      simp only [h2]
      exact g1
end
end Cr

/-! Readings of fields and places. -/
namespace Cr
open PySem PySem.Spec L2
section
variable {X : Cx} {Wx : WX} {e : RB} {lv : Nat} {N : List Str} {sc : Scope} {P : Prg} {Φ : Calls}
theorem ret_fin {α : Type} {a : α} {σ : L2.St} {H : Hp} {Z : OwnP} {B : List (Nat × V)} {fp : List Addr} {f : Fr} {K : α → Fr → List Addr → Hp → Prop}
    (r : R e Z B fp σ H f) (p : PM e Wx Z B fp σ H (M.ret a f) K) : K a f fp H := PM.fin p r (Same.refl H)
/-- a field of a frozen instance -/
theorem s_fld (T : Tab P e.toRE) (hK : X.K = e.K) {x : Expr} {f : Str} {m : M D} {pos : Pos} (h : PEc X Wx e x m) (hb : attributeBase x f X.env (eval x X.env) = eval x X.env) : PEc X Wx e (.Attribute x f pos) (M.bnd m fun a => M.opt (fldD P a f)) := (pe_fld h hb).imp fun σ H Q q => by
  obtain ⟨Z, B, fp, f, r, p⟩ := q
  refine tE_seq r p _ fun d f1 fp1 H1 v r1 a1 h1 p1 => ?_
  obtain ⟨d', hg, p2⟩ := p1.opt
  obtain ⟨v1, ⟨a, C, dx, fs, e1, e2, c1, c2, c3⟩, h2⟩ := fldD_F T h1 hg
  rw [hK]
  exact ⟨a, C, dx, fs, v1, e1, e2, c1, c2, c3, PM.fin p2 r1 (Same.refl _) v1 h2⟩
/-- a global int -/
theorem s_gint {x : Str} {i : Int} {u : Value} {pos : Pos} (G : Good X Wx e lv N sc) (hg : glB sc x = true) (ho : okName x = true) (hm : X.mg x = some u) (hu : RelV (.int i) u) : PEc X Wx e (.Name x pos) (M.ret (.int i)) := by
  have ho' := ho
  unfold okName at ho'
  simp only [Bool.and_eq_true, Bool.not_eq_true'] at ho'
  exact s_const (pe_glob (show X.env.kindOf x = _ by rw [Env.kindOf, G.hsc]; exact glB_ok hg) hm hu ho'.1.1) fun _ _ => rep_int
/-- a op b op' c -/
theorem s_chn (G : Good X Wx e lv N sc) {x y z : Expr} {ma mb mc : M D} {o o' : COp} {pos : Pos} (ha : PEc X Wx e x ma) (hb : PEc X Wx e y mb) (hc : PEc X Wx e z mc) (hm : lastMarks [cop o, cop o'] [y, z] = false) :
    PEc X Wx e (.Compare x [cop o, cop o'] [y, z] pos) (M.bnd ma fun x => M.bnd mb fun y => M.bnd (M.opt (cmpD o x y)) fun r => if r then M.bnd mc fun z => M.bnd (M.opt (cmpD o' y z)) fun r => M.ret (.bl r) else M.ret (.bl false)) :=
  (pe_chain (cmpD_ok G.hK G.hu64 o) (cmpD_ok G.hK G.hu64 o') ha hb hc hm).imp fun σ H Q q => by
  obtain ⟨Z, B, fp, f, r, p⟩ := q
  refine tE_seq r p _ fun d f1 fp1 H1 v r1 a1 h1 p1 => ?_
  refine tE_seq r1 p1 _ fun d2 f2 fp2 H2 v2 r2 a2 h2 p2 => ?_
  obtain ⟨b, hg, p3⟩ := p2.optB
  refine ⟨own Z fp2, d, d2, b, h1.le a2.le, h2, hg, b, rfl, ?_⟩
  cases b with
  | false => exact iteF (PM.fin (show PM e Wx Z B fp2 σ H2 (.ok (D.bl false) f2) _ from p3) r2 (Same.refl _) _ rep_bl)
  | true =>
    refine iteT (tE_seq r2 p3 _ fun d3 f3 fp3 H3 v3 r3 a3 h3 p3 => ?_)
    obtain ⟨b', hg', p4⟩ := p3.optB
    exact ⟨own Z fp3, d2, d3, b', h2.le a3.le, h3, hg', PM.fin p4 r3 (Same.refl _) _ rep_bl⟩

/-! ### quiet expressions and places -/
def tQ (e : RB) (q : Fr → Option D) : TE := fun σ H Q => ∃ Z B fp f d, R e Z B fp σ H f ∧ q f = some d ∧ ∀ v, Rep e H (own Z fp) d v → Q v H
/-- v is what stands at a place -/
def PlAt (P : Prg) (e : RE) (H : Hp) (W : OwnP) (f : Fr) (i : Nat) (st : List Stp) (v : V) : Prop := ∃ o0 o fo, f[i]? = some o0 ∧ getO P o0 st = some o ∧ RepO e H W o v fo
def Has (P : Prg) (f : Fr) (i : Nat) (st : List Stp) : Prop := ∃ o0 o, f[i]? = some o0 ∧ getO P o0 st = some o ∧ o ≠ .fz .nil ∧ o ≠ .un
def tPq (P : Prg) (e : RB) (i : Nat) (q : Fr → Option (List Stp)) : TE := fun σ H Q => ∃ Z B fp f st, R e Z B fp σ H f ∧ q f = some st ∧ Has P f i st ∧ ∀ v, PlAt P e.toRE H (own Z fp) f i st v → Q v H
def tPl (P : Prg) (e : RB) (Wx : WX) (i : Nat) (m : M (List Stp)) : TE := fun σ H Q => ∃ Z B fp f, R e Z B fp σ H f ∧ PM e Wx Z B fp σ H (m f) (fun st f' fp' H' => Has P f' i st ∧ ∀ v, PlAt P e.toRE H' (own Z fp') f' i st v → Q v H')
theorem R.slot {Z : OwnP} {B : List (Nat × V)} {fp : List Addr} {σ : L2.St} {H : Hp} {f : Fr} (r : R e Z B fp σ H f) {i : Nat} {o : O} (hi : f[i]? = some o) (hu : o ≠ .un) : ∃ v fo, σ[i]? = some (some v) ∧ RepO e H (own Z fp) o v fo := by
  obtain ⟨s, fo, rest, q1, q2, _⟩ := RepFr.at r.fr hi
  cases s with
  | none => cases o <;> first | exact absurd rfl hu | exact (q2 : False).elim
  | some v => exact ⟨v, fo, q1, by cases o <;> first | exact absurd rfl hu | exact q2⟩
theorem has_nil {f : Fr} {i : Nat} (h : Has P f i []) : ∃ o, f[i]? = some o ∧ o ≠ .un ∧ o ≠ .fz .nil := by
  obtain ⟨o0, o, h1, h2, h3, h4⟩ := h
  have e1 : o0 = o := by cases o0 <;> exact Option.some.inj h2
  subst e1
  exact ⟨o0, h1, h4, h3⟩
theorem get_ne {o o' : O} {s : Stp} {r : List Stp} (h : getO P o (s :: r) = some o') : o ≠ .fz .nil ∧ o ≠ .un := by
  refine ⟨fun z => ?_, fun z => ?_⟩
  · subst z
    rw [getO_fz] at h
    cases s <;> cases h
  · subst z
    obtain ⟨j, o1, h1, _⟩ := get_none (fun d z => by cases z) h
    cases s <;> cases h1
theorem has_app {f : Fr} {i : Nat} {st : List Stp} {s : Stp} (h : Has P f i (st ++ [s])) : Has P f i st := by
  obtain ⟨o0, o, h1, h2, h3, h4⟩ := h
  obtain ⟨o1, g1, g2⟩ := getO_app h2
  obtain ⟨z1, z2⟩ := get_ne g2
  exact ⟨o0, o1, h1, g1, z1, z2⟩
theorem plat_nil {Z : OwnP} {B : List (Nat × V)} {fp : List Addr} {σ : L2.St} {H : Hp} {f : Fr} {i : Nat} (r : R e Z B fp σ H f) (h : Has P f i []) : ∃ v, σ[i]? = some (some v) ∧ PlAt P e.toRE H (own Z fp) f i [] v := by
  obtain ⟨o, h1, h2, h3⟩ := has_nil h
  obtain ⟨v, fo, g1, g2⟩ := r.slot h1 h2
  exact ⟨v, g1, o, o, fo, h1, by cases o <;> rfl, g2⟩
theorem getO_snoc {r1 : List Stp} {s : Stp} : ∀ {o o1 o2 : O}, getO P o r1 = some o1 → getO P o (r1 ++ [s]) = some o2 → getO P o1 [s] = some o2 := fun h1 h2 => by
  obtain ⟨o3, g1, g2⟩ := getO_app h2
  rw [h1] at g1
  cases g1
  exact g2
theorem plat_ix {H : Hp} {W : OwnP} {f : Fr} {i : Nat} {st : List Stp} {d : D} {v y : V} (h : Has P f i (st ++ [.ix d])) (pv : PlAt P e.toRE H W f i st v) (ry : Rep e H W d y) : ∃ v1, IxF e.K H v y v1 ∧ PlAt P e.toRE H W f i (st ++ [.ix d]) v1 := by
  obtain ⟨o0, o, h1, h2, h3, h4⟩ := h
  obtain ⟨o0', o', fo, g1, g2, g3⟩ := pv
  rw [h1] at g1
  cases g1
  have h5 := getO_snoc g2 h2
  obtain ⟨v1, f1, k1, k2⟩ := ixO_F g3 ry h5
  exact ⟨v1, k1, o0, o, f1, h1, h2, k2⟩
theorem plat_fd (T : Tab P e.toRE) {H : Hp} {W : OwnP} {f : Fr} {i : Nat} {st : List Stp} {x : Str} {v : V} (h : Has P f i (st ++ [.fd x])) (pv : PlAt P e.toRE H W f i st v) : ∃ v1, FdF e H v x v1 ∧ PlAt P e.toRE H W f i (st ++ [.fd x]) v1 := by
  obtain ⟨o0, o, h1, h2, h3, h4⟩ := h
  obtain ⟨o0', o', fo, g1, g2, g3⟩ := pv
  rw [h1] at g1
  cases g1
  have h5 := getO_snoc g2 h2
  obtain ⟨v1, f1, k1, k2⟩ := fdO_F T g3 h3 h5
  exact ⟨v1, k1, o0, o, f1, h1, h2, k2⟩
theorem nameVar (G : Good X Wx e lv N sc) {i : Nat} {x : Str} {pos : Pos} (hi : N[i]? = some x) (hv : visB sc x = true) (ho : okName x = true) : PE X (.Name x pos) (tVar i) := by
  have ho' := ho
  unfold okName at ho'
  simp only [Bool.and_eq_true, Bool.not_eq_true'] at ho'
  exact pe_var (i := i) (by rw [G.hN]; exact hi) (by rw [G.hsc]; exact visB_ok hv) ho'.1.1 ho'.1.2
theorem chk_some {α : Type} {i : Nat} {k : Unit → M α} {Z : OwnP} {B : List (Nat × V)} {fp : List Addr} {σ : L2.St} {H : Hp} {f : Fr} {K : α → Fr → List Addr → Hp → Prop} (p : PM e Wx Z B fp σ H (M.bnd (chkS i) k f) K) : (∃ o, f[i]? = some o ∧ o ≠ .un) ∧ PM e Wx Z B fp σ H (k () f) K := by
  unfold M.bnd chkS at p
  cases h : f[i]? with
  | none => rw [h] at p; exact (p : False).elim
  | some o =>
    rw [h] at p
    cases o <;> first | exact (p : False).elim | exact ⟨⟨_, rfl, fun z => by cases z⟩, p⟩
theorem pq_nil (G : Good X Wx e lv N sc) {i : Nat} {x : Str} {pos : Pos} (hi : N[i]? = some x) (hv : visB sc x = true) (ho : okName x = true) : PE X (.Name x pos) (tPq P e i (psQ P .nil)) := (nameVar G hi hv ho).imp fun σ H Q q => by
  obtain ⟨Z, B, fp, f, st, r, h1, h2, p⟩ := q
  cases h1
  obtain ⟨v, g1, g2⟩ := plat_nil r h2
  exact ⟨v, g1, p v g2⟩
theorem pl_nil (G : Good X Wx e lv N sc) {i : Nat} {x : Str} {pos : Pos} (hi : N[i]? = some x) (hv : visB sc x = true) (ho : okName x = true) : PE X (.Name x pos) (tPl P e Wx i (evP P Φ i .nil)) := (nameVar G hi hv ho).imp fun σ H Q q => by
  obtain ⟨Z, B, fp, f, r, p⟩ := q
  have p' : PM e Wx Z B fp σ H (M.bnd (chkS i) (fun _ => M.ret []) f) _ := p
  obtain ⟨h1, p2⟩ := chk_some p'
  obtain ⟨h2, p3⟩ := ret_fin r p2
  obtain ⟨v, g1, g2⟩ := plat_nil r h2
  exact ⟨v, g1, p3 v g2⟩
theorem pl_ix0 (G : Good X Wx e lv N sc) {i : Nat} {x : Str} {ee : E} {y : Expr} {pos pos' : Pos} (hi : N[i]? = some x) (hv : visB sc x = true) (ho : okName x = true) (h : PEc X Wx e y (ev P Φ ee)) (hs : PlainIx y) :
    PE X (.Subscript (.Name x pos) y pos') (tPl P e Wx i (evP P Φ i (.ix .nil ee))) := (pe_ix (ixF_ok G.hu1) (nameVar G hi hv ho) h hs).imp fun σ H Q q => by
  obtain ⟨Z, B, fp, f, r, p⟩ := q
  have p' : PM e Wx Z B fp σ H (M.bnd (chkS i) (fun _ => M.bnd (ev P Φ ee) fun x => M.ret [Stp.ix x]) f) (fun st f' fp' H' => Has P f' i st ∧ ∀ (v : V), PlAt P e.toRE H' (own Z fp') f' i st v → Q v H') := p
  obtain ⟨⟨o, h1, h1'⟩, p2⟩ := chk_some p'
  obtain ⟨v, fo, g1, g2⟩ := r.slot h1 h1'
  refine ⟨v, g1, tE_seq r p2 _ fun d f1 fp1 H1 y r1 a1 hy p3 => ?_⟩
  obtain ⟨h2, p4⟩ := ret_fin r1 p3
  have h3 : Has P f1 i ([] ++ [.ix d]) := h2
  obtain ⟨v', g3, g4⟩ := plat_nil r1 (has_app h3)
  rw [g1] at g3
  cases g3
  obtain ⟨v1, k1, k2⟩ := plat_ix h3 g4 hy
  rw [G.hK]
  exact ⟨v1, k1, p4 v1 k2⟩
theorem pq_ix (G : Good X Wx e lv N sc) {i : Nat} {b y : Expr} {pos : Pos} {p0 : Ps} {ee : E} (hb : PE X b (tPq P e i (psQ P p0))) (hy : PE X y (tQ e (evQ P ee))) (hs : PlainIx y) : PE X (.Subscript b y pos) (tPq P e i (psQ P (.ix p0 ee))) := (pe_ix (ixF_ok G.hu1) hb hy hs).imp fun σ H Q q => by
  obtain ⟨Z, B, fp, f, st, r, h1, h2, p⟩ := q
  have e1 : psQ P (.ix p0 ee) f = (match psQ P p0 f with
    | some st => match evQ P ee f with
      | some d => some (st ++ [.ix d])
      | none => none
    | none => none) := by first | rfl | (rw [psQ])
  rw [e1] at h1
  cases q1 : psQ P p0 f with
  | none => rw [q1] at h1; cases h1
  | some st0 =>
    rw [q1] at h1
    cases q2 : evQ P ee f with
    | none => simp only [q2] at h1; cases h1
    | some d =>
      simp only [q2] at h1
      cases h1
      refine ⟨Z, B, fp, f, st0, r, q1, has_app h2, fun v hv => ⟨Z, B, fp, f, d, r, q2, fun y hy => ?_⟩⟩
      obtain ⟨v1, k1, k2⟩ := plat_ix h2 hv hy
      rw [G.hK]
      exact ⟨v1, k1, p v1 k2⟩
theorem fd_use (hK : X.K = e.K) {H : Hp} {v v1 : V} {x : Str} {Q : VK} (h : FdF e H v x v1) (q : Q v1 H) : ∃ a C dx fs w, v = .ref a ∧ H a = some (.ins C dx fs) ∧ L2.Cls X.K C ∧ NoAttr X.K C x ∧ fs.lookup x = some w ∧ Q w H := by
  obtain ⟨a, C, dx, fs, e1, e2, c1, c2, c3⟩ := h
  rw [hK]
  exact ⟨a, C, dx, fs, v1, e1, e2, c1, c2, c3, q⟩
theorem pq_fd (T : Tab P e.toRE) (G : Good X Wx e lv N sc) {i : Nat} {b : Expr} {x : Str} {pos : Pos} {p0 : Ps} (hb : PE X b (tPq P e i (psQ P p0))) (hba : attributeBase b x X.env (eval b X.env) = eval b X.env) : PE X (.Attribute b x pos) (tPq P e i (psQ P (.fd p0 x))) := (pe_fld hb hba).imp fun σ H Q q => by
  obtain ⟨Z, B, fp, f, st, r, h1, h2, p⟩ := q
  have e1 : psQ P (.fd p0 x) f = (match psQ P p0 f with
    | some st => some (st ++ [.fd x])
    | none => none) := by first | rfl | (rw [psQ])
  rw [e1] at h1
  cases q1 : psQ P p0 f with
  | none => rw [q1] at h1; cases h1
  | some st0 =>
    rw [q1] at h1
    cases h1
    refine ⟨Z, B, fp, f, st0, r, q1, has_app h2, fun v hv => ?_⟩
    obtain ⟨v1, k1, k2⟩ := plat_fd T h2 hv
    exact fd_use G.hK k1 (p v1 k2)
/-- a place's path, one more step that is quiet -/
theorem tPl_seq {α : Type} {i : Nat} {m : M (List Stp)} {k : List Stp → M α} {K : α → Fr → List Addr → Hp → Prop} {σ : L2.St} {H : Hp} {Z : OwnP} {B : List (Nat × V)} {fp : List Addr} {f : Fr} (r : R e Z B fp σ H f) (p : PM e Wx Z B fp σ H (M.bnd m k f) K) (T : VK)
    (h : ∀ st f1 fp1 H1, R e Z B fp1 σ H1 f1 → Adv Z fp H fp1 H1 → PM e Wx Z B fp1 σ H1 (k st f1) K → Has P f1 i st ∧ ∀ v, PlAt P e.toRE H1 (own Z fp1) f1 i st v → T v H1) : tPl P e Wx i m σ H T := by
  refine ⟨Z, B, fp, f, r, ?_⟩
  unfold M.bnd at p
  cases q : m f with
  | ok d f1 =>
    rw [q] at p
    exact fun H1 fp1 r1 a1 => h d f1 fp1 H1 r1 a1 (p.adv a1)
  | exc c fs f1 => rw [q] at p; exact p
  | bad => rw [q] at p; exact p
theorem qM_some {α β : Type} {q : Fr → Option β} {k : β → M α} {Z : OwnP} {B : List (Nat × V)} {fp : List Addr} {σ : L2.St} {H : Hp} {f : Fr} {K : α → Fr → List Addr → Hp → Prop} (p : PM e Wx Z B fp σ H (M.bnd (qM q) k f) K) : ∃ d, q f = some d ∧ PM e Wx Z B fp σ H (k d f) K := by
  unfold M.bnd qM at p
  cases h : q f with
  | none => rw [h] at p; exact (p : False).elim
  | some d => rw [h] at p; exact ⟨d, rfl, p⟩
theorem pl_ixQ (G : Good X Wx e lv N sc) {i : Nat} {b y : Expr} {pos : Pos} {m : M (List Stp)} {ee : E} (hb : PE X b (tPl P e Wx i m)) (hy : PE X y (tQ e (evQ P ee))) (hs : PlainIx y) :
    PE X (.Subscript b y pos) (tPl P e Wx i (M.bnd m fun st => M.bnd (qM (evQ P ee)) fun x => M.ret (st ++ [.ix x]))) := (pe_ix (ixF_ok G.hu1) hb hy hs).imp fun σ H Q q => by
  obtain ⟨Z, B, fp, f, r, p⟩ := q
  refine tPl_seq r p _ fun st f1 fp1 H1 r1 a1 p1 => ?_
  obtain ⟨d, q1, p2⟩ := qM_some p1
  obtain ⟨h2, p3⟩ := ret_fin r1 p2
  refine ⟨has_app h2, fun v hv => ⟨Z, B, fp1, f1, d, r1, q1, fun y hy => ?_⟩⟩
  obtain ⟨v1, k1, k2⟩ := plat_ix h2 hv hy
  rw [G.hK]
  exact ⟨v1, k1, p3 v1 k2⟩
theorem pl_fd (T : Tab P e.toRE) (G : Good X Wx e lv N sc) {i : Nat} {b : Expr} {x : Str} {pos : Pos} {m : M (List Stp)} (hb : PE X b (tPl P e Wx i m)) (hba : attributeBase b x X.env (eval b X.env) = eval b X.env) :
    PE X (.Attribute b x pos) (tPl P e Wx i (M.bnd m fun st => M.ret (st ++ [.fd x]))) := (pe_fld hb hba).imp fun σ H Q q => by
  obtain ⟨Z, B, fp, f, r, p⟩ := q
  refine tPl_seq r p _ fun st f1 fp1 H1 r1 a1 p1 => ?_
  obtain ⟨h2, p3⟩ := ret_fin r1 p1
  refine ⟨has_app h2, fun v hv => ?_⟩
  obtain ⟨v1, k1, k2⟩ := plat_fd T h2 hv
  exact fd_use G.hK k1 (p3 v1 k2)
/-- what a place holds, frozen -/
theorem s_pl {i : Nat} {b : Expr} {m : M (List Stp)} (hb : PE X b (tPl P e Wx i m)) : PEc X Wx e b (M.bnd m fun st => plVal P i st) := hb.imp fun σ H Q q => by
  obtain ⟨Z, B, fp, f, r, p⟩ := q
  refine tPl_seq r p _ fun st f1 fp1 H1 r1 a1 p1 => ?_
  unfold plVal at p1
  cases h1 : f1[i]? with
  | none => rw [h1] at p1; exact (p1 : False).elim
  | some o0 =>
    rw [h1] at p1
    cases h2 : getO P o0 st with
    | none => simp only [h2] at p1; exact (p1 : False).elim
    | some o =>
      simp only [h2] at p1
      cases o with
      | fz d =>
        have hd : d ≠ .nil := fun z => by subst z; exact (p1 : False)
        have p2 : PM e Wx Z B fp1 σ H1 (.ok d f1) (fun d _ fp' H' => ∀ v, Rep e H' (own Z fp') d v → Q v H') := by
          cases d <;> first | exact p1 | exact absurd rfl hd
        refine ⟨⟨o0, .fz d, h1, h2, fun z => hd (by cases z; rfl), fun z => by cases z⟩, fun v hv => ?_⟩
        obtain ⟨o0', o', fo, g1, g2, g3⟩ := hv
        rw [h1] at g1
        cases g1
        rw [h2] at g2
        cases g2
        unfold RepO at g3
        exact PM.fin p2 r1 (Same.refl _) v g3.2
      | _ => exact (p1 : False).elim
/-! quiet expressions -/
theorem q_var (G : Good X Wx e lv N sc) {i : Nat} {x : Str} {pos : Pos} (hi : N[i]? = some x) (hv : visB sc x = true) (ho : okName x = true) : PE X (.Name x pos) (tQ e (evQ P (.var i))) := (nameVar G hi hv ho).imp fun σ H Q q => by
  obtain ⟨Z, B, fp, f, d, r, h1, p⟩ := q
  have e1 : evQ P (.var i) f = (match f[i]? with
    | some (.fz .nil) => none
    | some (.fz d) => some d
    | _ => none) := by first | rfl | (rw [evQ])
  rw [e1] at h1
  cases h2 : f[i]? with
  | none => rw [h2] at h1; cases h1
  | some o =>
    rw [h2] at h1
    cases o with
    | fz d0 =>
      have e2 : d0 = d := by cases d0 <;> first | cases h1; done | exact Option.some.inj h1
      subst e2
      obtain ⟨v, fo, g1, g2⟩ := r.slot h2 (fun z => by cases z)
      unfold RepO at g2
      exact ⟨v, g1, p v g2.2⟩
    | _ => cases h1
theorem q_int {i : Int} {j : Nat} {pos : Pos} : PE X (.Constant (.int i) j pos) (tQ e (evQ P (.int i))) := pe_int.imp fun σ H Q q => by
  obtain ⟨Z, B, fp, f, d, r, h1, p⟩ := q
  have e1 : evQ P (.int i) f = some (.int i) := by first | rfl | (rw [evQ])
  rw [e1] at h1
  cases h1
  exact p _ rep_int
theorem q_pl {i : Nat} {b : Expr} {p0 : Ps} (hb : PE X b (tPq P e i (psQ P p0))) : PE X b (tQ e (evQ P (.pl i p0))) := hb.imp fun σ H Q q => by
  obtain ⟨Z, B, fp, f, d, r, h1, p⟩ := q
  have e1 : evQ P (.pl i p0) f = (match psQ P p0 f with
    | some st => match f[i]? with
      | some o => match getO P o st with
        | some (.fz .nil) => none
        | some (.fz d) => some d
        | _ => none
      | none => none
    | none => none) := by first | rfl | (rw [evQ])
  rw [e1] at h1
  cases q1 : psQ P p0 f with
  | none => rw [q1] at h1; cases h1
  | some st =>
    rw [q1] at h1
    cases h2 : f[i]? with
    | none => simp only [h2] at h1; cases h1
    | some o0 =>
      simp only [h2] at h1
      cases h3 : getO P o0 st with
      | none => simp only [h3] at h1; cases h1
      | some o =>
        simp only [h3] at h1
        cases o with
        | fz d0 =>
          have e2 : d0 = d ∧ d0 ≠ .nil := by cases d0 <;> first | (cases h1; done) | exact ⟨Option.some.inj h1, fun z => by cases z⟩
          obtain ⟨e2, e3⟩ := e2
          subst e2
          refine ⟨Z, B, fp, f, st, r, q1, ⟨o0, .fz d0, h2, h3, fun z => e3 (by cases z; rfl), fun z => by cases z⟩, fun v hv => ?_⟩
          obtain ⟨o0', o', fo, g1, g2, g3⟩ := hv
          rw [h2] at g1
          cases g1
          rw [h3] at g2
          cases g2
          unfold RepO at g3
          exact p v g3.2
        | _ => cases h1
/-- len(place) -/
theorem s_lenP (G : Good X Wx e lv N sc) {i : Nat} {b : Expr} {m : M (List Stp)} {pp pos : Pos} (hb : PE X b (tPl P e Wx i m)) (hg : glB sc "len" = true) (hm : X.mg "len" = none) (hst : isStar b = false) :
    PEc X Wx e (.Call (.Name "len" pp) [b] [] pos) (M.bnd m fun st => M.bnd (plTop P i st) fun x => M.opt (biD .len [x])) := by
  refine (pe_callB (bi_ok (e := e) G.hK G.calm .len _ rfl) (show X.env.kindOf "len" = _ by rw [Env.kindOf, G.hsc]; exact glB_ok hg) hm (by decide +kernel) (pa_cons hb pa_nil (st_cons hst)) (by decide) (by decide) (st_cons hst)).imp fun σ H Q q => ?_
  obtain ⟨Z, B, fp, f, r, p⟩ := q
  refine tPl_seq r p _ fun st f1 fp1 H1 r1 a1 p1 => ?_
  unfold M.bnd plTop at p1
  cases h1 : f1[i]? with
  | none => rw [h1] at p1; exact (p1 : False).elim
  | some o0 =>
    rw [h1] at p1
    cases h2 : getO P o0 st with
    | none => simp only [h2] at p1; exact (p1 : False).elim
    | some o =>
      simp only [h2] at p1
      cases h3 : topD o with
      | none => simp only [h3] at p1; exact (p1 : False).elim
      | some d =>
        simp only [h3] at p1
        obtain ⟨d', hg', p2⟩ := PM.opt p1
        have ho : o ≠ .fz .nil ∧ o ≠ .un := ⟨fun z => (by subst z; cases h3), fun z => (by subst z; cases h3)⟩
        refine ⟨⟨o0, o, h1, h2, ho.1, ho.2⟩, fun v hv => ?_⟩
        obtain ⟨o0', o', fo, g1, g2, g3⟩ := hv
        rw [h1] at g1
        cases g1
        rw [h2] at g2
        cases g2
        -- its items lie frozen; nothing is held here
        have fz0 : Rep e H1 (fun _ => False) d v := by
          have ls : Le H1 (own Z fp1) H1 (fun _ => False) := Le.shrink fun a z => z.elim
          have all : ∀ (os : List O) (vs : List V) (fq : List Addr), allFz os = true → RepOs e H1 (own Z fp1) os vs fq → Reps e H1 (fun _ => False) (fzds os) vs := fun os vs fq _ h => RepOs.frz ls (fun _ _ z => z) h
          cases o with
          | un => cases h3
          | fz d0 =>
            unfold RepO at g3
            have e2 : d0 = d := by cases d0 <;> first | (cases h3; done) | exact Option.some.inj h3
            subst e2
            exact g3.2.le ls
          | lst os =>
            have h4 : (if allFz os then some (D.lst (fzds os)) else none) = some d := h3
            obtain ⟨c1, c2⟩ := ite_some h4
            subst c2
            have g4 := RepO.frz ls (fun _ _ z => z) g3 (fun z => by cases z)
            exact g4
          | dK ks os =>
            have h4 : (if allFz os then some (D.dK ks (fzds os)) else none) = some d := h3
            obtain ⟨c1, c2⟩ := ite_some h4
            subst c2
            exact RepO.frz ls (fun _ _ z => z) g3 (fun z => by cases z)
          | dT ks os =>
            have h4 : (if allFz os then some (D.dT ks (fzds os)) else none) = some d := h3
            obtain ⟨c1, c2⟩ := ite_some h4
            subst c2
            exact RepO.frz ls (fun _ _ z => z) g3 (fun z => by cases z)
          | ins c fs => cases h3
        have hint : ∃ n : Int, d' = .int n := by cases d <;> first | (cases hg'; done) | (exact ⟨_, (Option.some.inj hg').symm⟩)
        obtain ⟨n, e5⟩ := hint
        subst e5
        exact ⟨fun _ => False, [d], .int n, fun _ z => z.elim, Reps.cons fz0 Reps.nil, hg', fun v' H' s' hr => by
          unfold Rep at hr
          subst hr
          exact PM.fin p2 r1 s' _ rep_int⟩
end
end Cr

/-! What is walked; targets; blocks' own slots; list comprehensions. -/
namespace Cr
open PySem PySem.Spec L2

def There (W : OwnP) (H : Hp) : Prop := ∀ a, W a → H a ≠ none
/-- J gives ds, one by one, while what was frozen at H1 stays -/
abbrev ItOk (e : RE) (J : L2.It) (ds : List D) (H1 : Hp) (W1 : OwnP) : Prop :=
  Walk J ds.length (fun H => ∃ W2, There W2 H ∧ Le H1 W1 H W2) (fun i H x H' => Same H H' ∧ ∀ W2, There W2 H → Le H1 W1 H W2 → ∃ d, ds[i]? = some d ∧ Rep e H' W2 d x)
def tI (e : RB) (Wx : WX) (m : M (List D)) : TI := fun σ H Rq => ∃ Z B fp f, R e Z B fp σ H f ∧ PM e Wx Z B fp σ H (m f) (fun ds f' fp' H' => ∀ J : L2.It, ItOk e.toRE J ds H' (own Z fp') → Rq J H')
section
variable {e : RB} {Wx : WX} {σ : L2.St} {H : Hp} {Z : OwnP} {B : List (Nat × V)} {fp : List Addr} {f : Fr}
theorem tI_seq {α : Type} {m : M (List D)} {k : List D → M α} {K : α → Fr → List Addr → Hp → Prop} (r : R e Z B fp σ H f) (p : PM e Wx Z B fp σ H (M.bnd m k f) K) (T : L2.It → Hp → Prop)
    (h : ∀ ds f1 fp1 H1 J, R e Z B fp1 σ H1 f1 → Adv Z fp H fp1 H1 → ItOk e.toRE J ds H1 (own Z fp1) → PM e Wx Z B fp1 σ H1 (k ds f1) K → T J H1) : tI e Wx m σ H T := by
  refine ⟨Z, B, fp, f, r, ?_⟩
  unfold M.bnd at p
  cases q : m f with
  | ok d f1 =>
    rw [q] at p
    exact fun H1 fp1 r1 a1 J hJ => h d f1 fp1 H1 J r1 a1 hJ (p.adv a1)
  | exc c fs f1 => rw [q] at p; exact p
  | bad => rw [q] at p; exact p
end
section
variable {X : Cx} {Wx : WX} {e : RB} {lv : Nat} {N : List Str} {sc : Scope} {P : Prg} {Φ : Calls}
theorem it_list {K : PySem.W.Frag} {e : RE} {a : Addr} {xs : List V} {ds : List D} {H1 : Hp} {W1 : OwnP} (hf : Fz H1 W1 a (.lst xs)) (rs : Reps e H1 W1 ds xs) : ItOk e (Itl K a) ds H1 W1 := by
  have hl := rs.len
  rw [ItOk, ← hl]
  refine (walk_list (K := K) (a := a) (xs := xs)).mono (fun H ⟨W2, _, l⟩ => (hf.le l).sqL) fun i H x H' hi _ y => ?_
  obtain ⟨e1, hx⟩ := y
  subst e1
  refine ⟨Same.refl _, fun W2 _ l => ?_⟩
  have rs2 := rs.le l
  have hi' : i < ds.length := by omega
  obtain ⟨v, g1, g2⟩ := rs2.get (show ds[i]? = some ds[i] by simp [hi'])
  rw [hx] at g1
  cases g1
  exact ⟨_, by simp [hi'], g2⟩
theorem it_tup {K : PySem.W.Frag} {e : RE} {a : Addr} {xs : List V} {ds : List D} {H1 : Hp} {W1 : OwnP} (hf : Fz H1 W1 a (.tup xs)) (rs : Reps e H1 W1 ds xs) : ItOk e (Itt K a) ds H1 W1 := by
  have hl := rs.len
  rw [ItOk, ← hl]
  refine (walk_tup (K := K) (a := a) (xs := xs)).mono (fun H ⟨W2, _, l⟩ => (hf.le l).sqT) fun i H x H' hi _ y => ?_
  obtain ⟨e1, hx⟩ := y
  subst e1
  refine ⟨Same.refl _, fun W2 _ l => ?_⟩
  have rs2 := rs.le l
  have hi' : i < ds.length := by omega
  obtain ⟨v, g1, g2⟩ := rs2.get (show ds[i]? = some ds[i] by simp [hi'])
  rw [hx] at g1
  cases g1
  exact ⟨_, by simp [hi'], g2⟩
theorem it_range {e : RE} {i j : Int} {H1 : Hp} {W1 : OwnP} : ItOk e (Itr i (j - i).toNat) (rangeD i j) H1 W1 := by
  have hl : (rangeD i j).length = (j - i).toNat := by unfold rangeD; simp
  rw [ItOk, hl]
  refine (walk_range (lo := i) (n := (j - i).toNat)).mono (fun H _ => trivial) fun k H x H' hi _ y => ?_
  obtain ⟨e1, hx⟩ := y
  subst e1 hx
  refine ⟨Same.refl _, fun W2 _ l => ⟨.int (i + (k : Nat)), ?_, rep_int⟩⟩
  unfold rangeD
  simp [hi]
/-- over a list or a tuple -/
theorem pi_seq {tg l : Expr} {tl : TE} (hl : PE X l tl) : PI X tg l (fun σ H Rq => tl σ H fun x H1 => ∃ a, x = .ref a ∧ (((∃ xs, SqL X.K H1 a xs) ∧ Rq (Itl X.K a) H1) ∨ ((∃ xs, SqT X.K H1 a xs) ∧ Rq (Itt X.K a) H1))) := by
  refine ⟨fun pins s σ H Rq I h => ?_⟩
  refine thn (hl.run pins s σ H _ I h) fun v s1 ⟨x, H1, I1, r1, a, e1, q1⟩ => ?_
  subst e1
  cases r1
  rcases q1 with ⟨⟨xs, hq⟩, q⟩ | ⟨⟨xs, hq⟩, q⟩
  · obtain ⟨its, rv, p, hz⟩ := I1.list hq
    refine wpAny_pyIter_list p.isList ?_
    refine ⟨s1.heap.objs.size, [s1.heap.objs.size], _, _, H1, rfl, I1.kept (t' := s1.toks) fun b o e => Heap.get?_push_of_some _ e, turn_list a _, ⟨_, Heap.get?_push_size _ rfl, rfl, rfl⟩, fun b hb => ?_, q⟩
    have e : b = s1.heap.objs.size := by simpa using hb
    subst e
    exact I1.fpOk (Nat.le_refl _) (I1.hok.fresh (Nat.le_refl _))
  · obtain ⟨its, rv, p, hz⟩ := I1.tuple hq
    refine wpAny_pyIter_tuple (show s1.heap.IsTuple a its.toArray from p) ?_
    refine ⟨s1.heap.objs.size, [s1.heap.objs.size], _, _, H1, rfl, I1.kept (t' := s1.toks) fun b o e => Heap.get?_push_of_some _ e, turn_tuple a _, ⟨_, Heap.get?_push_size _ rfl, rfl, rfl⟩, fun b hb => ?_, q⟩
    have e : b = s1.heap.objs.size := by simpa using hb
    subst e
    exact I1.fpOk (Nat.le_refl _) (I1.hok.fresh (Nat.le_refl _))
theorem i_seq (hK : X.K = e.K) {tg x : Expr} {m : M D} (h : PEc X Wx e x m) : PI X tg x (tI e Wx (M.bnd m fun d => M.opt (seqItems d))) := by
  refine ⟨fun pins s σ H Rq I q => (pi_seq h).run pins s σ H Rq I ?_⟩
  obtain ⟨Z, B, fp, f, r, p⟩ := q
  refine tE_seq r p _ fun d f1 fp1 H1 v r1 a1 h1 p1 => ?_
  obtain ⟨ds, hg, p2⟩ := p1.opt
  cases d with
  | tup xs =>
    cases hg
    unfold Rep at h1
    obtain ⟨a, vs, e1, f1', q1⟩ := h1
    exact ⟨a, e1, .inr ⟨⟨vs, f1'.sqT⟩, PM.fin p2 r1 (Same.refl _) _ (it_tup f1' q1)⟩⟩
  | lst xs =>
    cases hg
    unfold Rep at h1
    obtain ⟨a, vs, e1, f1', q1⟩ := h1
    exact ⟨a, e1, .inl ⟨⟨vs, f1'.sqL⟩, PM.fin p2 r1 (Same.refl _) _ (it_list f1' q1)⟩⟩
  | _ => cases hg
theorem rangeO_some {i j : Int} {ds : List D} (h : rangeO i j = some ds) : (-(2 ^ 62) ≤ i ∧ i < 2 ^ 62 ∧ -(2 ^ 62) ≤ j ∧ j < 2 ^ 62) ∧ ds = rangeD i j := by
  unfold rangeO at h
  obtain ⟨c, h⟩ := ite_some h
  simp only [Bool.and_eq_true, decide_eq_true_eq] at c
  exact ⟨⟨c.1.1, c.1.2, c.2.1, c.2.2⟩, h.symm⟩
theorem i_rng1 (G : Good X Wx e lv N sc) {tg x : Expr} {m : M D} {p pos : Pos} (hg : glB sc "range" = true) (hm : X.mg "range" = none) (h : PEc X Wx e x m) (hst : isStar x = false) :
    PI X tg (.Call (.Name "range" p) [x] [] pos) (tI e Wx (M.bnd m fun d => M.bnd (toInt d) fun n => M.opt (rangeO 0 n))) := by
  refine ⟨fun pins s σ H Rq I q => (pi_range1 (show X.env.kindOf "range" = _ by rw [Env.kindOf, G.hsc]; exact glB_ok hg) hm (pa_cons h pa_nil (st_cons hst)) (st_cons hst)).run pins s σ H Rq I ?_⟩
  obtain ⟨Z, B, fp, f, r, p⟩ := q
  refine tE_seq r p _ fun d f1 fp1 H1 v r1 a1 h1 p1 => ?_
  obtain ⟨n, e1, p2⟩ := p1.intB
  subst e1
  unfold Rep at h1
  subst h1
  obtain ⟨ds, hg, p3⟩ := p2.opt
  obtain ⟨c, e2⟩ := rangeO_some hg
  subst e2
  refine ⟨n, rfl, c.2.2.1, c.2.2.2, ?_⟩
  have := PM.fin p3 r1 (Same.refl _) (Itr 0 (n - 0).toNat) it_range
  rwa [Int.sub_zero] at this
theorem i_rng2 (G : Good X Wx e lv N sc) {tg x y : Expr} {m m2 : M D} {p pos : Pos} (hg : glB sc "range" = true) (hm : X.mg "range" = none) (h : PEc X Wx e x m) (h2 : PEc X Wx e y m2) (hst : isStar x = false) (hst2 : isStar y = false) :
    PI X tg (.Call (.Name "range" p) [x, y] [] pos) (tI e Wx (M.bnd m fun d => M.bnd m2 fun d2 => M.bnd (toInt d) fun i => M.bnd (toInt d2) fun j => M.opt (rangeO i j))) := by
  refine ⟨fun pins s σ H Rq I q => (pi_range2 (show X.env.kindOf "range" = _ by rw [Env.kindOf, G.hsc]; exact glB_ok hg) hm (pa_cons h (pa_cons h2 pa_nil (st_cons hst2)) (st_cons hst)) (by rw [st_cons hst, st_cons hst2]; rfl) (st_cons hst2)).run pins s σ H Rq I ?_⟩
  obtain ⟨Z, B, fp, f, r, p⟩ := q
  refine tE_seq r p _ fun d f1 fp1 H1 v r1 a1 h1 p1 => ?_
  refine tE_seq r1 p1 _ fun d2 f2 fp2 H2 v2 r2 a2 h2 p2 => ?_
  obtain ⟨i, e1, p3⟩ := p2.intB
  subst e1
  unfold Rep at h1
  subst h1
  obtain ⟨j, e2, p4⟩ := p3.intB
  subst e2
  unfold Rep at h2
  subst h2
  obtain ⟨ds, hg, p5⟩ := p4.opt
  obtain ⟨c, e2⟩ := rangeO_some hg
  subst e2
  exact ⟨i, j, rfl, c, PM.fin p5 r2 (Same.refl _) _ it_range⟩

/-! ### targets -/
def tgSlots : Tg → List Nat
  | .nm i => [i]
  | .tup is => is
theorem wipe_set {σ : L2.St} {i : Nat} {x : Option V} : ∀ {vs : List Nat}, i ∈ vs → wipe (σ.set i x) vs = wipe σ vs
  | [], h => by cases h
  | v :: vs, h => by
    unfold wipe
    by_cases q : i = v
    · subst q
      by_cases m : i ∈ vs
      · rw [wipe_set m]
      · have go : ∀ ws : List Nat, i ∉ ws → wipe (σ.set i x) ws = (wipe σ ws).set i x := fun ws => by
          induction ws with
          | nil => intro _; rfl
          | cons w ws ih =>
            intro hm
            unfold wipe
            rw [ih (fun z => hm (List.mem_cons_of_mem _ z)), List.set_comm]
            exact fun z => hm (by rw [z]; exact List.mem_cons_self)
        rw [go vs m, List.set_set]
    · rw [wipe_set ((List.mem_cons.mp h).resolve_left q)]
def tG (e : RB) (tg : Tg) : TG := fun v σ H Q => ∃ Z B fp f d, R e Z B fp σ H f ∧ Rep e H (own Z fp) d v ∧ ∃ f', setT tg d f = some f' ∧ ∀ σ' fp', R e Z B fp' σ' H f' → Adv Z fp H fp' H → (∀ vs, (∀ i ∈ tgSlots tg, i ∈ vs) → wipe σ' vs = wipe σ vs) → Q σ' H
def tGs (e : RB) (is : List Nat) : TGs := fun vs σ H Q => ∃ Z B fp f ds, R e Z B fp σ H f ∧ Reps e H (own Z fp) ds vs ∧ ∃ f', setNames is ds f = some f' ∧ ∀ σ' fp', R e Z B fp' σ' H f' → Adv Z fp H fp' H → (∀ vs, (∀ i ∈ is, i ∈ vs) → wipe σ' vs = wipe σ vs) → Q σ' H
/-- a name that may be stored -/
def StOk (X : Cx) (e : RB) (N : List Str) (i : Nat) (x : Str) : Prop := N[i]? = some x ∧ Loc X.env.scope x ∧ (X.fn x = true ∨ X.env.scope.names.lookup x = some .local) ∧ i ∉ e.io
theorem pin_ne {Z : OwnP} {B : List (Nat × V)} {fp : List Addr} {σ : L2.St} {H : Hp} {f : Fr} (r : R e Z B fp σ H f) {i : Nat} (h : i ∉ e.io) : ∀ p ∈ B, p.1 ≠ i := fun p hp z => h (z ▸ r.pio p hp)
theorem get_lt {f : Fr} {i : Nat} (h : i < f.length) : ∃ o, f[i]? = some o := ⟨f[i], by simp [h]⟩
theorem g_nm (G : Good X Wx e lv N sc) {i : Nat} {x : Str} {pos : Pos} (h : StOk X e N i x) : PG X (.Name x pos) (tG e (.nm i)) := by
  refine ⟨fun pins s σ H v u Q I rv q => (pg_name (i := i) G.nd (by rw [G.hN]; exact h.1) h.2.1 h.2.2.1).run pins s σ H v u Q I rv ?_⟩
  obtain ⟨Z, B, fp, f, d, r, hr, f', hs, k⟩ := q
  have hs' : (if i < f.length then some (f.set i (.fz d)) else none) = some f' := hs
  obtain ⟨hlt, e1⟩ := ite_some hs'
  subst e1
  obtain ⟨o, ho⟩ := get_lt hlt
  obtain ⟨fq, r1, a1⟩ := r.setD ho hr (pin_ne r h.2.2.2)
  exact k _ fq r1 a1 fun vs hv => wipe_set (hv i (List.mem_singleton.mpr rfl))
def NmsOk (X : Cx) (e : RB) (N : List Str) : List Nat → List Expr → Prop
  | [], [] => True
  | i :: is, x :: xs => (∃ n p, x = .Name n p ∧ StOk X e N i n) ∧ NmsOk X e N is xs
  | _, _ => False
theorem asg_cons {x : Expr} {xs : List Expr} {env : Env} (h : isStar x = false) : assignEach (x :: xs) env = (false, assign x env) :: assignEach xs env := by
  cases x <;> first | rfl | cases h
theorem gs_nms (G : Good X Wx e lv N sc) : ∀ {is : List Nat} {xs : List Expr}, NmsOk X e N is xs → PGs X xs (tGs e is) ∧ (assignEach xs X.env).length = is.length ∧ (assignEach xs X.env).findIdx? (·.1) = none
  | [], [], _ => by
    refine ⟨⟨fun pins s σ H vs us Q I rv q => pgs_nil.run pins s σ H vs us Q I rv ?_⟩, rfl, rfl⟩
    obtain ⟨Z, B, fp, f, ds, r, hr, f', hs, k⟩ := q
    cases ds with
    | nil =>
      cases hs
      unfold Reps at hr
      exact ⟨hr, k σ fp r Adv.refl fun _ _ => rfl⟩
    | cons d ds => cases hs
  | i :: is, x :: xs, h => by
    obtain ⟨⟨n, p, e1, h1⟩, h2⟩ := h
    subst e1
    obtain ⟨g1, g2, g3⟩ := gs_nms G h2
    have ec : assignEach (.Name n p :: xs) X.env = (false, assign (.Name n p) X.env) :: assignEach xs X.env := rfl
    refine ⟨⟨fun pins s σ H vs us Q I rv q => (pgs_cons (pg_name (i := i) G.nd (by rw [G.hN]; exact h1.1) h1.2.1 h1.2.2.1) g1 rfl).run pins s σ H vs us Q I rv ?_⟩, by rw [ec, List.length_cons, g2, List.length_cons], by rw [ec, List.findIdx?_cons, g3]; rfl⟩
    obtain ⟨Z, B, fp, f, ds, r, hr, f', hs, k⟩ := q
    cases ds with
    | nil => cases hs
    | cons d ds =>
      unfold Reps at hr
      obtain ⟨v, vr, e2, r1, r2⟩ := hr
      have hs' : (if i < f.length then setNames is ds (f.set i (.fz d)) else none) = some f' := hs
      by_cases hlt : i < f.length
      · rw [if_pos hlt] at hs'
        obtain ⟨o, ho⟩ := get_lt hlt
        obtain ⟨fq, r3, a3⟩ := r.setD ho r1 (pin_ne r h1.2.2.2)
        refine ⟨v, vr, e2, Z, B, fq, _, ds, r3, r2.le a3.le, f', hs', fun σ' fp' r4 a4 w4 => k σ' fp' r4 (a3.trans a4) fun vs hv => ?_⟩
        rw [w4 vs fun j hj => hv j (List.mem_cons_of_mem _ hj), wipe_set (hv i List.mem_cons_self)]
      · rw [if_neg hlt] at hs'; cases hs'
  | [], _ :: _, h => by cases h
  | _ :: _, [], h => by cases h
theorem setNames_len : ∀ {is : List Nat} {ds : List D} {f f' : Fr}, setNames is ds f = some f' → ds.length = is.length
  | [], [], _, _, _ => rfl
  | [], _ :: _, _, _, h => by cases h
  | _ :: _, [], _, _, h => by cases h
  | i :: is, d :: ds, f, f', h => by
    have hs' : (if i < f.length then setNames is ds (f.set i (.fz d)) else none) = some f' := h
    by_cases hlt : i < f.length
    · rw [if_pos hlt] at hs'
      rw [List.length_cons, List.length_cons, setNames_len hs']
    · rw [if_neg hlt] at hs'; cases hs'
theorem g_tup (G : Good X Wx e lv N sc) {is : List Nat} {xs : List Expr} {k : Nat} {pos : Pos} (h : NmsOk X e N is xs) : PG X (.Tuple xs k pos) (tG e (.tup is)) := by
  obtain ⟨g1, g2, g3⟩ := gs_nms G h
  refine ⟨fun pins s σ H v u Q I rv q => (pg_tup G.calm g1 g2 g3).run pins s σ H v u Q I rv ?_⟩
  obtain ⟨Z, B, fp, f, d, r, hr, f', hs, kk⟩ := q
  cases d with
  | tup ds =>
    have hs' : setNames is ds f = some f' := hs
    unfold Rep at hr
    obtain ⟨a, ws, e1, f1, r1⟩ := hr
    refine ⟨a, ws, e1, f1.sqT, by rw [r1.len, setNames_len hs'], Z, B, fp, f, ds, r, r1, f', hs', kk⟩
  | _ => cases hs

/-! ### a block's own slots -/
theorem R.put0 {Z : OwnP} {B : List (Nat × V)} {fp : List Addr} {σ : L2.St} {H : Hp} {f : Fr} (r : R e Z B fp σ H f) {i : Nat} {o' : O} {s' : Option V} (ho : isOwn (f.getD i .un) = false) (h : i < f.length → RepS e H (own Z fp) o' s' []) (hi : i ∉ e.io) :
    ∃ fq, R e Z B fq (σ.set i s') H (f.set i o') ∧ fq.Perm fp := by
  by_cases hlt : i < f.length
  · have ho2 : f[i]? = some f[i] := by simp [hlt]
    have e0 : f.getD i .un = f[i] := by simp [List.getD, hlt]
    obtain ⟨s, fo, rest, q1, q2, q3, q4⟩ := RepFr.at r.fr ho2
    have e1 : fo = [] := by
      rw [e0] at ho
      generalize f[i] = o at q2 ho
      cases o with
      | un => cases s <;> exact q2
      | fz d => cases s with
        | none => exact (q2 : False).elim
        | some v => exact (show RepO e.toRE H (own Z fp) (.fz d) v fo from q2).1
      | _ => cases ho
    subst e1
    obtain ⟨fq, p, z⟩ := q4 o' s' [] (h hlt)
    have p' : fq.Perm fp := p.trans q3.symm
    refine ⟨fq, ⟨by rw [own_perm p']; exact z, p'.nodup_iff.mpr r.nd, fun a ha => r.dj a (p'.mem_iff.mp ha), r.zin, fun q hq => ?_, r.pio⟩, p'⟩
    rw [List.getElem?_set_ne (Ne.symm (pin_ne r hi q hq))]
    exact r.pin q hq
  · have hl := RepFr.len r.fr
    rw [List.set_eq_of_length_le (by omega), List.set_eq_of_length_le (by omega)]
    exact ⟨fp, r, List.Perm.refl _⟩
theorem wipeF_len (f : Fr) : ∀ vs : List Nat, (wipeF vs f).length = f.length
  | [] => rfl
  | v :: vs => by unfold wipeF; rw [List.length_set, wipeF_len f vs]
theorem R.wipe {Z : OwnP} {B : List (Nat × V)} {fp : List Addr} {σ : L2.St} {H : Hp} {f : Fr} (r : R e Z B fp σ H f) : ∀ {vs : List Nat}, canWipe vs f = true → (∀ i ∈ vs, i ∉ e.io) → ∃ fq, R e Z B fq (wipe σ vs) H (wipeF vs f) ∧ fq.Perm fp
  | [], _, _ => ⟨fp, r, List.Perm.refl _⟩
  | v :: vs, h, hi => by
    unfold canWipe at h
    rw [List.all_cons, Bool.and_eq_true] at h
    obtain ⟨fq, r1, p1⟩ := R.wipe r (vs := vs) h.2 fun i m => hi i (List.mem_cons_of_mem _ m)
    have ho : isOwn ((wipeF vs f).getD v .un) = false := by
      have e1 : (wipeF vs f).getD v .un = f.getD v .un ∨ (wipeF vs f).getD v .un = .un := by
        clear r1 p1 h hi
        induction vs with
        | nil => exact .inl rfl
        | cons w ws ih =>
          unfold wipeF
          by_cases q : w = v
          · subst q
            right
            by_cases hlt : w < (wipeF ws f).length
            · simp [List.getD, hlt]
            · simp [List.getD, List.getElem?_eq_none (show ((wipeF ws f).set w O.un).length ≤ w by rw [List.length_set]; omega)]
          · have e2 : ((wipeF ws f).set w O.un).getD v .un = (wipeF ws f).getD v .un := by simp [List.getD, List.getElem?_set_ne q]
            rw [e2]
            exact ih
      rcases e1 with e1 | e1
      · rw [e1]; simpa using h.1
      · rw [e1]; rfl
    obtain ⟨fr, r2, p2⟩ := r1.put0 (o' := .un) (s' := none) ho (fun _ => RepS.un) (hi v List.mem_cons_self)
    exact ⟨fr, r2, p2.trans p1⟩
def backS : List Nat → L2.St → L2.St → L2.St
  | [], _, τ => τ
  | v :: vs, σ, τ => backS vs σ (τ.set v (σ.getD v none))
theorem backS_get (σ : L2.St) : ∀ (vs : List Nat) (τ : L2.St) (j : Nat), τ.length = σ.length → (backS vs σ τ)[j]? = if j ∈ vs then σ[j]? else τ[j]?
  | [], τ, j, _ => by simp [backS]
  | v :: vs, τ, j, h => by
    unfold backS
    rw [backS_get σ vs _ j (by rw [List.length_set, h])]
    by_cases m : j ∈ vs
    · rw [if_pos m, if_pos (List.mem_cons_of_mem _ m)]
    · rw [if_neg m]
      by_cases q : v = j
      · subst q
        rw [if_pos List.mem_cons_self]
        by_cases hlt : v < σ.length
        · rw [List.getElem?_set_self (by omega)]
          simp [List.getD, hlt]
        · rw [List.getElem?_eq_none (by rw [List.length_set]; omega), List.getElem?_eq_none (by omega)]
      · rw [List.getElem?_set_ne q, if_neg (fun z => (List.mem_cons.mp z).elim (fun z => q z.symm) m)]
theorem wipe_get (σ : L2.St) : ∀ (vs : List Nat) (j : Nat), j ∉ vs → (wipe σ vs)[j]? = σ[j]?
  | [], j, _ => rfl
  | v :: vs, j, h => by
    unfold L2.wipe
    rw [List.getElem?_set_ne (fun z => h (by rw [z]; exact List.mem_cons_self)), wipe_get σ vs j fun m => h (List.mem_cons_of_mem _ m)]
theorem backS_wipe (σ : L2.St) (vs : List Nat) : backS vs σ (L2.wipe σ vs) = σ := by
  apply List.ext_getElem?
  intro j
  rw [backS_get σ vs _ j (wipe_length σ vs)]
  by_cases m : j ∈ vs
  · rw [if_pos m]
  · rw [if_neg m, wipe_get σ vs j m]
theorem R.back {Z Z' : OwnP} {B : List (Nat × V)} {fp1 : List Addr} {σ : L2.St} {H1 H : Hp} {f1 : Fr} (r1 : R e Z' B fp1 σ H1 f1) : ∀ {vs : List Nat} {fp : List Addr} {τ : L2.St} {f : Fr}, R e Z B fp τ H f → Le H1 (own Z' fp1) H (own Z fp) → canWipe vs f1 = true → canWipe vs f = true → f.length = f1.length → (∀ i ∈ vs, i ∉ e.io) →
    ∃ fq, R e Z B fq (backS vs σ τ) H (backF vs f1 f) ∧ fq.Perm fp
  | [], fp, τ, f, r, _, _, _, _, _ => ⟨fp, r, List.Perm.refl _⟩
  | v :: vs, fp, τ, f, r, l, h1, h2, hl, hi => by
    unfold canWipe at h1 h2
    rw [List.all_cons, Bool.and_eq_true] at h1 h2
    have o1 : isOwn (f1.getD v .un) = false := by simpa using h1.1
    obtain ⟨fq, r2, p2⟩ := r.put0 (i := v) (o' := f1.getD v .un) (s' := σ.getD v none) (by simpa using h2.1) (fun hlt => by
      have hlt1 : v < f1.length := by omega
      have ho2 : f1[v]? = some f1[v] := by simp [hlt1]
      have e0 : f1.getD v .un = f1[v] := by simp [List.getD, hlt1]
      obtain ⟨s, fo, rest, q1, q2, _⟩ := RepFr.at r1.fr ho2
      have e3 : σ.getD v none = s := by simp [List.getD, q1]
      rw [e3, e0]
      rw [e0] at o1
      generalize f1[v] = o at q2 o1
      cases o with
      | un => cases s <;> rfl
      | fz d => cases s with
        | none => exact (q2 : False).elim
        | some w =>
          have q3 : RepO e.toRE H1 (own Z' fp1) (.fz d) w fo := q2
          unfold RepO at q3
          exact RepS.fz (q3.2.le l)
      | _ => cases o1) (hi v List.mem_cons_self)
    have c2 : canWipe vs (f.set v (f1.getD v .un)) = true := by
      unfold canWipe
      rw [List.all_eq_true]
      intro w hw
      have q := List.all_eq_true.mp h2.2 w hw
      by_cases z : v = w
      · subst z
        by_cases hlt : v < f.length
        · have : (f.set v (f1.getD v .un)).getD v .un = f1.getD v .un := by simp [List.getD, hlt]
          rw [this, o1]; rfl
        · have : (f.set v (f1.getD v .un)).getD v .un = .un := (by
            have hle : (f.set v (f1.getD v .un)).length ≤ v := (by rw [List.length_set]; omega)
            rw [List.getD, List.getElem?_eq_none hle]; rfl)
          rw [this]; rfl
      · have : (f.set v (f1.getD v .un)).getD w .un = f.getD w .un := by simp [List.getD, List.getElem?_set_ne z]
        rw [this]; exact q
    obtain ⟨fr, r3, p3⟩ := R.back r1 (vs := vs) r2 (by rw [own_perm p2]; exact l) h1.2 c2 (by rw [List.length_set]; exact hl) fun i m => hi i (List.mem_cons_of_mem _ m)
    exact ⟨fr, r3, p3.trans p2⟩
end
end Cr

/-! List comprehensions. -/
namespace Cr
open PySem PySem.Spec L2
def W0 : WX := fun _ _ _ _ => False
theorem bnd_ok {α β : Type} {m : M α} {k : α → M β} {f f2 : Fr} {b : β} (h : M.bnd m k f = .ok b f2) : ∃ a f1, m f = .ok a f1 ∧ k a f1 = .ok b f2 := by
  unfold M.bnd at h
  cases q : m f with
  | ok a f1 => rw [q] at h; exact ⟨a, f1, rfl, h⟩
  | exc c fs f1 => rw [q] at h; cases h
  | bad => rw [q] at h; cases h
theorem loop_cons {α : Type} {turn : D → M (List α)} {d : D} {ds : List D} {f f3 : Fr} {ys : List α} (h : lcLoop turn (d :: ds) f = .ok ys f3) : ∃ r f2 rest, turn d f = .ok r f2 ∧ lcLoop turn ds f2 = .ok rest f3 ∧ ys = r ++ rest := by
  have h' : M.bnd (turn d) (fun r => M.bnd (lcLoop turn ds) fun rest => M.ret (r ++ rest)) f = .ok ys f3 := h
  obtain ⟨r, f2, h1, h2⟩ := bnd_ok h'
  obtain ⟨rest, f4, h3, h4⟩ := bnd_ok h2
  cases h4
  exact ⟨r, f2, rest, h1, h3, rfl⟩
theorem block_ok {α : Type} {own : List Nat} {m : M α} {f f4 : Fr} {a : α} (h : block own m f = .ok a f4) : ∃ f3, m f = .ok a f3 ∧ canWipe own f = true ∧ canWipe own f3 = true ∧ f4 = backF own f (wipeF own f3) := by
  unfold block at h
  cases c : canWipe own f with
  | false => rw [c] at h; cases h
  | true =>
    rw [c] at h
    cases q : m f with
    | ok b f1 =>
      rw [q] at h
      cases c2 : canWipe own f1 with
      | false => simp only [c2] at h; cases h
      | true =>
        simp only [c2] at h
        cases h
        exact ⟨f1, rfl, rfl, c2, rfl⟩
    | exc c fs f1 => rw [q] at h; cases h
    | bad => rw [q] at h; cases h
theorem block_no {α : Type} {own : List Nat} {m : M α} {f : Fr} : (∃ a f4, block own m f = .ok a f4) ∨ block own m f = .bad := by
  unfold block
  cases canWipe own f with
  | false => exact .inr rfl
  | true => cases m f with
    | ok b f1 =>
      cases h : canWipe own f1 with
      | false => right; simp only [h]; rfl
      | true => left; exact ⟨b, _, by simp only [h]; rfl⟩
    | _ => exact .inr rfl
theorem clr_ok {own : List Nat} {f f2 : Fr} {u : Unit} (h : clrM own f = .ok u f2) : canWipe own f = true ∧ f2 = wipeF own f := by
  unfold clrM at h
  cases c : canWipe own f with
  | false => rw [c] at h; cases h
  | true => rw [c] at h; cases h; exact ⟨rfl, rfl⟩
theorem set_ok {tg : Tg} {d : D} {f f2 : Fr} {u : Unit} (h : setM tg d f = .ok u f2) : setT tg d f = some f2 := by
  unfold setM at h
  cases c : setT tg d f with
  | none => rw [c] at h; cases h
  | some g => rw [c] at h; cases h; rfl
section
variable {e : RB} {Wx : WX} {σ : L2.St} {H H' : Hp} {Z : OwnP} {B : List (Nat × V)} {fp : List Addr} {f : Fr}
theorem R.drop {fo : List Addr} (r : R e (also Z fo) B fp σ H f) : R e Z B fp σ H f :=
  ⟨RepFr.le (Le.shrink fun a ha => ha.elim (fun z => .inl (.inl z)) .inr) (fun _ _ => rfl) r.fr, r.nd, fun a ha z => r.dj a ha (.inl z), fun a z => r.zin a (.inl z), r.pin, r.pio⟩
/-- a heap that differs at one owned place that the frame has not -/
theorem R.off (r : R e Z B fp σ H f) {D : Addr} {o : HO} (hD : Z D) : R e Z B fp σ (upd H D o) f ∧ Le H (own Z fp) (upd H D o) (own Z fp) := by
  have l : Le H (own Z fp) (upd H D o) (own Z fp) := ⟨fun a u n c => ⟨n, by
    unfold cont at c ⊢
    rw [upd_ne (fun z => n (by rw [z]; exact .inl hD))]
    exact c⟩⟩
  refine ⟨⟨RepFr.le l (fun a ha => upd_ne fun z => r.dj a ha (by rw [z]; exact hD)) r.fr, r.nd, r.dj, fun a z => ?_, r.pin, r.pio⟩, l⟩
  by_cases q : a = D
  · rw [q, upd_same]; exact fun z => by cases z
  · rw [upd_ne q]; exact r.zin a z
/-- one more place, not seen before, is owned -/
theorem R.new (r : R e Z B fp σ H f) {D : Addr} {o : HO} (hD : H D = none) : R e (also Z [D]) B fp σ (upd H D o) f ∧ Le H (own Z fp) (upd H D o) (own (also Z [D]) fp) := by
  have hn : ∀ a, H a ≠ none → a ≠ D := fun a h z => h (by rw [z]; exact hD)
  have l : Le H (own Z fp) (upd H D o) (own (also Z [D]) fp) := ⟨fun a u n c => by
    have hne := hn a (cont_ne c)
    refine ⟨fun z => ?_, by unfold cont at c ⊢; rw [upd_ne hne]; exact c⟩
    rcases z with (z | z) | z
    · exact n (.inl z)
    · exact hne (List.mem_singleton.mp z)
    · exact n (.inr z)⟩
  refine ⟨⟨RepFr.le l (fun a ha => upd_ne (hn a (r.fr.there a ha))) r.fr, r.nd, fun a ha z => ?_, fun a z => ?_, r.pin, r.pio⟩, l⟩
  · rcases z with z | z
    · exact r.dj a ha z
    · exact hn a (r.fr.there a ha) (List.mem_singleton.mp z)
  · rcases z with z | z
    · rw [upd_ne (hn a (r.zin a z))]; exact r.zin a z
    · rw [List.mem_singleton.mp z, upd_same]; exact fun z => by cases z
end
section
variable {X : Cx} {Wx : WX} {e : RB} {lv : Nat} {N : List Str} {sc : Scope} {P : Prg} {Φ : Calls}
theorem wipe_in {j : Nat} (τ : L2.St) : ∀ us : List Nat, j ∈ us → (L2.wipe τ us)[j]? = if j < τ.length then some none else none
  | [], h => by cases h
  | u :: us, h => by
    unfold L2.wipe
    by_cases q : u = j
    · subst q
      by_cases hlt : u < τ.length
      · rw [List.getElem?_set_self (by rw [wipe_length]; exact hlt), if_pos hlt]
      · rw [List.getElem?_eq_none (by rw [List.length_set, wipe_length]; omega), if_neg hlt]
    · rw [List.getElem?_set_ne q, wipe_in τ us ((List.mem_cons.mp h).resolve_left fun z => q z.symm)]
theorem wipe_wipe (σ : L2.St) (vs : List Nat) : L2.wipe (L2.wipe σ vs) vs = L2.wipe σ vs := by
  apply List.ext_getElem?
  intro j
  by_cases m : j ∈ vs
  · rw [wipe_in _ _ m, wipe_in _ _ m, wipe_length]
  · rw [wipe_get _ vs j m]
/-- a list comprehension's turn -/
def lcT {α : Type} (own : List Nat) (tg : Tg) (mt : M Bool) (me : M α) : D → M (List α) := fun d => M.bnd (clrM own) fun _ => M.bnd (setM tg d) fun _ => M.bnd mt fun k => if k then M.bnd me fun y => M.ret [y] else M.ret []
theorem lcT_can {α : Type} {own : List Nat} {tg : Tg} {mt : M Bool} {me : M α} : ∀ {l : List D} {f f3 : Fr} {ys : List α}, lcLoop (lcT own tg mt me) l f = .ok ys f3 → canWipe own f3 = true → canWipe own f = true
  | [], f, f3, ys, h, c => by cases h; exact c
  | d :: l, f, f3, ys, h, c => by
    obtain ⟨r, f2, rest, h1, _⟩ := loop_cons h
    obtain ⟨_, _, h2, _⟩ := bnd_ok h1
    exact (clr_ok h2).1
structure LcI (e : RB) (Z : OwnP) (B : List (Nat × V)) (σ : L2.St) (own' : List Nat) (fp1 : List Addr) (H1 : Hp) (Dd : Addr) (turn : D → M (List D)) (xs ys : List D) (f3 : Fr) (i : Nat) (H : Hp) (fp2 : List Addr) (f2 : Fr) (accD : List D) (acc : List V) (rest : List D) : Prop where
  r : R e (also Z [Dd]) B fp2 (L2.wipe σ own') H (wipeF own' f2)
  le : Le H1 (own Z fp1) H (own (also Z [Dd]) fp2)
  z : ∀ a, Z a → H a = H1 a
  at' : H Dd = some (.lst acc)
  rs : Reps e.toRE H (own (also Z [Dd]) fp2) accD acc
  run : lcLoop turn (xs.drop i) f2 = .ok rest f3
  can : canWipe own' f2 = true
  eq : accD ++ rest = ys
theorem lc_read {tg : Tg} {mi : M (List D)} {mt : M Bool} {me : M D} {vs : List Nat} (hio : ∀ i ∈ vs, i ∉ e.io) (htg : ∀ i ∈ tgSlots tg, i ∈ vs) {σ : L2.St} {H : Hp} {Q : VK}
    (q : tE e Wx (M.bnd mi fun xs => M.bnd (block vs (lcLoop (lcT vs tg mt me) xs)) fun ys => if ys.length ≤ 100000 then M.ret (.lst ys) else M.fail) σ H Q) : tLc (tI e Wx mi) (tG e tg) (tT e W0 mt) (tE e W0 me) vs σ H Q := by
  obtain ⟨Z, B, fp, f, r, p⟩ := q
  refine tI_seq r p _ fun xs f1 fp1 H1 J r1 a1 hJ p1 => ?_
  intro Dd hDd
  -- what the block came to
  obtain ⟨ys, f4, hb⟩ := (block_no (own := vs) (m := lcLoop (lcT vs tg mt me) xs) (f := f1)).resolve_right fun hb => by
    unfold M.bnd at p1
    rw [hb] at p1
    exact p1
  have p2 : PM e Wx Z B fp1 σ H1 ((if ys.length ≤ 100000 then M.ret (D.lst ys) else M.fail) f4) (fun d _ fp' H' => ∀ v, Rep e.toRE H' (own Z fp') d v → Q v H') := by
    unfold M.bnd at p1
    rw [hb] at p1
    exact p1
  clear p1
  have hlen : ys.length ≤ 100000 := Decidable.byContradiction fun hlen => by
    rw [if_neg hlen] at p2; exact p2
  rw [if_pos hlen] at p2
  obtain ⟨f3, hrun, c1, c3, e4⟩ := block_ok hb
  subst e4
  refine lc_it hJ (fun i H => ∃ fp2 f2 accD acc rest, LcI e Z B σ vs fp1 H1 Dd (lcT vs tg mt me) xs ys f3 i H fp2 f2 accD acc rest) ?_ ?_ ?_ ?_
  · obtain ⟨r2, l2⟩ := r1.new (o := .lst []) hDd
    obtain ⟨fq, r3, p3⟩ := r2.wipe (vs := vs) c1 hio
    exact ⟨fq, f1, [], [], ys, r3, by rw [own_perm p3]; exact l2, fun a za => upd_ne (fun z => r1.zin a za (by rw [z]; exact hDd)), upd_same, Reps.nil, hrun, c1, rfl⟩
  · rintro i H2 hi2 ⟨fp2, f2, accD, acc, rest, I⟩
    exact ⟨_, I.r.there, I.le⟩
  · rintro i x H2 H3 hi2 ⟨fp2, f2, accD, acc, rest, I⟩ ⟨sm, hy⟩
    obtain ⟨d, hd, rd⟩ := hy _ I.r.there I.le
    have hdrop : xs.drop i = d :: xs.drop (i + 1) := by
      have hlt : i < xs.length := hi2
      rw [List.drop_eq_getElem_cons hlt]
      have : xs[i]? = some xs[i] := by simp [hlt]
      rw [hd] at this
      cases this
      rfl
    have run := I.run
    rw [hdrop] at run
    obtain ⟨rr, g4, rest', t1, t2, t3⟩ := loop_cons run
    obtain ⟨_, g0, k1, k2⟩ := bnd_ok t1
    obtain ⟨_, e0⟩ := clr_ok k1
    subst e0
    obtain ⟨_, g1, k3, k4⟩ := bnd_ok k2
    obtain ⟨kk, g2, k5, k6⟩ := bnd_ok k4
    have r3 := I.r.same sm
    have can4 : canWipe vs g4 = true := lcT_can t2 c3
    -- the turn's end
    have fin : ∀ (σ2 : L2.St) (H5 : Hp) (fp5 : List Addr), L2.wipe σ2 vs = L2.wipe σ vs → R e (also Z [Dd]) B fp5 σ2 H5 g4 → Adv (also Z [Dd]) fp2 H2 fp5 H5 → ∀ (add : List D) (addV : List V), rr = add → Reps e.toRE H5 (own (also Z [Dd]) fp5) add addV →
        (addV = [] → ∃ fp2 f2 accD acc rest, LcI e Z B σ vs fp1 H1 Dd (lcT vs tg mt me) xs ys f3 (i + 1) H5 fp2 f2 accD acc rest) ∧
        ∃ fp2 f2 accD acc rest, LcI e Z B σ vs fp1 H1 Dd (lcT vs tg mt me) xs ys f3 (i + 1) (upd H5 Dd (.lst (acc ++ addV))) fp2 f2 accD (acc ++ addV) rest ∧ H5 Dd = some (.lst acc) ∧ acc.length ≤ ys.length := by
      intro σ2 H5 fp5 ew r5 a5 add addV erk rsa
      subst erk
      obtain ⟨fq, r6, p6⟩ := r5.wipe (vs := vs) can4 hio
      rw [ew] at r6
      have zD : also Z [Dd] Dd := .inr (List.mem_singleton.mpr rfl)
      have atD : H5 Dd = some (.lst acc) := by rw [a5.z Dd zD]; exact I.at'
      have le5 : Le H1 (own Z fp1) H5 (own (also Z [Dd]) fq) := by rw [own_perm p6]; exact I.le.trans a5.le
      have z5 : ∀ a, Z a → H5 a = H1 a := fun a za => (a5.z a (.inl za)).trans (I.z a za)
      have rs5 : Reps e.toRE H5 (own (also Z [Dd]) fq) accD acc := by rw [own_perm p6]; exact I.rs.le a5.le
      have eq5 : (accD ++ rr) ++ rest' = ys := by rw [List.append_assoc, ← t3]; exact I.eq
      constructor
      · intro e1
        subst e1
        have e2 : rr = [] := by cases rr with
          | nil => rfl
          | cons a b => unfold Reps at rsa; obtain ⟨x, r', e3, _⟩ := rsa; cases e3
        subst e2
        exact ⟨fq, g4, accD, acc, rest', r6, le5, z5, atD, rs5, t2, can4, by simpa using eq5⟩
      · obtain ⟨r7, l7⟩ := r6.off (o := .lst (acc ++ addV)) zD
        refine ⟨fq, g4, accD ++ rr, acc, rest', ⟨r7, le5.trans l7, fun a za => ?_, upd_same, (rs5.app (by rw [own_perm p6]; exact rsa)).le l7, t2, can4, eq5⟩, atD, ?_⟩
        · rw [upd_ne (fun z => ?_)]
          · exact z5 a za
          · exact r1.zin a za (by rw [z]; exact hDd)
        · rw [I.rs.len, ← I.eq, List.length_append]; omega
    refine ⟨also Z [Dd], B, fp2, wipeF vs f2, d, r3, rd.le Le.refl, g1, set_ok k3, fun σ2 fp3 r4 a4 w4 => ?_⟩
    have ew2 : L2.wipe σ2 vs = L2.wipe σ vs := (w4 vs htg).trans (wipe_wipe σ vs)
    refine ⟨ew2, ?_⟩
    · skip
      refine ⟨also Z [Dd], B, fp3, g1, r4, ?_⟩
      rw [k5]
      intro H4 fp4 r5 a5
      have aa := (Adv.same (Z := also Z [Dd]) (fp := fp2) sm I.r.zin).trans (a4.trans a5)
      cases kk with
      | false =>
        have k6' : M.ret [] g2 = .ok rr g4 := k6
        cases k6'
        exact iteF ((fin σ2 H4 fp4 ew2 r5 aa [] [] rfl Reps.nil).1 rfl)
      | true =>
        have k6' : M.bnd me (fun y => M.ret [y]) g2 = .ok rr g4 := k6
        obtain ⟨y, g3, m1, m2⟩ := bnd_ok k6'
        cases m2
        refine iteT ⟨also Z [Dd], B, fp4, g2, r5, ?_⟩
        rw [m1]
        intro H5 fp5 r6 a6 v hv
        obtain ⟨fpx, fx, ax, acx, rx, L, q1, q2⟩ := (fin σ2 H5 fp5 ew2 r6 (aa.trans a6) [y] [v] rfl (Reps.cons hv Reps.nil)).2
        exact ⟨acx, q1, small_line' (by omega), fpx, fx, ax, acx ++ [v], rx, L⟩
  · rintro H2 ⟨fp2, f2, accD, acc, rest, I⟩
    have run := I.run
    rw [List.drop_length] at run
    have e1 : rest = [] ∧ f2 = f3 := by cases run; exact ⟨rfl, rfl⟩
    obtain ⟨e1, e2⟩ := e1
    subst e1 e2
    have eq := I.eq
    rw [List.append_nil] at eq
    subst eq
    have l1 := RepFr.len r1.fr
    have l2 := RepFr.len I.r.fr
    rw [wipe_length] at l2
    obtain ⟨fq, r4, p4⟩ := R.back r1 (vs := vs) (I.r.drop) (I.le.trans (Le.shrink fun a ha => ha.elim (fun z => .inl (.inl z)) .inr)) c1 (by
      unfold canWipe
      rw [List.all_eq_true]
      intro w hw
      have go : ∀ us : List Nat, w ∈ us → (wipeF us f2).getD w .un = .un := fun us => by
        induction us with
        | nil => intro h; cases h
        | cons u us ih =>
          intro h
          unfold wipeF
          by_cases q : u = w
          · subst q
            by_cases hlt : u < (wipeF us f2).length
            · simp [List.getD, hlt]
            · have hle : ((wipeF us f2).set u O.un).length ≤ u := (by rw [List.length_set]; omega)
              rw [List.getD, List.getElem?_eq_none hle]; rfl
          · rw [List.getD, List.getElem?_set_ne q]
            exact ih ((List.mem_cons.mp h).resolve_left fun z => q z.symm)
      rw [go vs hw]; rfl) (by omega) hio
    rw [backS_wipe] at r4
    have nD : ¬ own Z fq Dd := fun z => by
      rcases z with z | z
      · exact r1.zin Dd z hDd
      · exact I.r.dj Dd (p4.mem_iff.mp z) (.inr (List.mem_singleton.mpr rfl))
    have sh : Le H2 (own (also Z [Dd]) fp2) H2 (own Z fq) := by
      rw [own_perm p4]
      exact Le.shrink fun a ha => ha.elim (fun z => .inl (.inl z)) .inr
    refine p2 H2 fq r4 ⟨I.le.trans sh, I.z⟩ (.ref Dd) ?_
    unfold Rep
    exact ⟨Dd, acc, rfl, ⟨nD, cont_of I.at'⟩, I.rs.le sh⟩
theorem s_lc (hcalm : X.calm = true) (hnd : X.N.Nodup) {elt' tg' iter' : Expr} {ifs : List Expr} {scope : Scope} {ow : List (Str × Nat)} {pos : Pos} {tg : Tg} {mi : M (List D)} {mt : M Bool} {me : M D}
    (hi : PI X tg' iter' (tI e Wx mi)) (ok : BlkOk X.N X.env.scope scope ow) (hio : ∀ i ∈ ow.map (·.2), i ∉ e.io) (htg : ∀ i ∈ tgSlots tg, i ∈ ow.map (·.2))
    (hg : ∀ (s : Shared) (H : Hp) (C : Addr) (cl : List (Str × Addr)) (fp : List Addr), PG (X.blk s H scope (compEnvC scope cl C X.env) fp) tg' (tG e tg))
    (ht : ∀ (s : Shared) (H : Hp) (C : Addr) (cl : List (Str × Addr)) (fp : List Addr), PTs (X.blk s H scope (compEnvC scope cl C X.env) fp) ifs (tT e W0 mt))
    (he : ∀ (s : Shared) (H : Hp) (C : Addr) (cl : List (Str × Addr)) (fp : List Addr), PE (X.blk s H scope (compEnvC scope cl C X.env) fp) elt' (tE e W0 me)) (hs : ∀ x, foldedSetIterable iter' X.env x = pure x) :
    PEc X Wx e (.ListComp elt' [⟨tg', iter', ifs, 0⟩] scope pos) (M.bnd mi fun xs => M.bnd (block (ow.map (·.2)) (lcLoop (lcT (ow.map (·.2)) tg mt me) xs)) fun ys => if ys.length ≤ 100000 then M.ret (.lst ys) else M.fail) :=
  (pe_lc hcalm hnd hi ok hg ht he hs).imp fun σ H Q q => lc_read hio htg q
end
end Cr

/-! Calls of defs: what is given, what comes back. -/
namespace Cr
open PySem PySem.Spec L2

/-! ### objects of their own -/
section
variable (e : RB) (Wx : WX) (Z : OwnP) (B : List (Nat × V)) (fp : List Addr) (σ : L2.St) (H : Hp)
def PX (r : Rs O) (K : O → Fr → List Addr → List Addr → Hp → Prop) : Prop := match r with
  | .ok o f => ∀ H' fr fp', R e (also Z fr) B fp' σ H' f → Le H (own Z fp) H' (own (also Z fr) fp') → (∀ a, Z a → H' a = H a) → fr.Nodup → (∀ a ∈ fr, ¬ Z a) → K o f fr fp' H'
  | .exc c fs f => ∀ H' fp' v dx, R e Z B fp' σ H' f → Adv Z fp H fp' H' → RepX e H' (own Z fp') c fs v dx → Wx v dx σ H'
  | .bad => False
end
def tX (e : RB) (Wx : WX) (m : M O) : TE := fun σ H Q => ∃ Z B fp f, R e Z B fp σ H f ∧ PX e Wx Z B fp σ H (m f) (fun o _ fr fp' H' => ∀ v, RepO e.toRE H' (own (also Z fr) fp') o v fr → Q v H')
abbrev PXc (X : Cx) (Wx : WX) (e : RB) (x : Expr) (m : M O) : Prop := PE X x (tX e Wx m)
section
variable {X : Cx} {Wx : WX} {e : RB} {lv : Nat} {N : List Str} {sc : Scope} {P : Prg} {Φ : Calls}
theorem bnd_exc {α β : Type} {m : M α} {k : α → M β} {f : Fr} : (∃ a f1, m f = .ok a f1 ∧ M.bnd m k f = k a f1) ∨ (∃ c fs f1, m f = .exc c fs f1 ∧ M.bnd m k f = .exc c fs f1) ∨ (m f = .bad ∧ M.bnd m k f = .bad) := by
  unfold M.bnd
  cases m f with
  | ok a f1 => exact .inl ⟨a, f1, rfl, rfl⟩
  | exc c fs f1 => exact .inr (.inl ⟨c, fs, f1, rfl, rfl⟩)
  | bad => exact .inr (.inr ⟨rfl, rfl⟩)
theorem frzO_some {o : O} {d : D} (h : frzO o = some d) : d = fzd o ∧ o ≠ .un ∧ o ≠ .fz .nil := by
  cases o with
  | un => cases h
  | fz d0 => cases d0 <;> first | (cases h; done) | (cases h; exact ⟨rfl, (fun z => by cases z), (fun z => by cases z)⟩)
  | _ => cases h; exact ⟨rfl, (fun z => by cases z), (fun z => by cases z)⟩
/-- an object is frozen: it is a value -/
theorem s_frzM {x : Expr} {m : M O} (h : PXc X Wx e x m) : PEc X Wx e x (frzM m) := h.imp fun σ H Q q => by
  obtain ⟨Z, B, fp, f, r, p⟩ := q
  refine ⟨Z, B, fp, f, r, ?_⟩
  unfold frzM at p
  rcases bnd_exc (m := m) (k := fun o => M.opt (frzO o)) (f := f) with ⟨o, f1, h1, h2⟩ | ⟨c, fs, f1, h1, h2⟩ | ⟨h1, h2⟩
  · rw [h2] at p
    rw [h1]
    obtain ⟨d, hd, p⟩ := p.opt
    obtain ⟨e1, n1, n2⟩ := frzO_some hd
    subst e1
    intro H' fr fp' r1 l1 z1 nd hz v hv
    have nf : ∀ a ∈ fr, ¬ own Z fp' a := fun a ha z => by
      rcases z with z | z
      · exact hz a ha z
      · exact r1.dj a z (.inr ha)
    have sh : Le H' (own (also Z fr) fp') H' (own Z fp') := Le.shrink fun a ha => ha.elim (fun z => .inl (.inl z)) .inr
    exact p H' fp' r1.drop ⟨l1.trans sh, z1⟩ v (RepO.frz sh nf hv fun z => n2 z)
  · rw [h2] at p; rw [h1]; exact p
  · rw [h2] at p; exact (p : False).elim

/-! ### what is given -/
def RepAV (e : RE) (H : Hp) (W : OwnP) (σ : L2.St) : AV → V → Prop
  | .d d, v => Rep e H W d v
  | .io i, v => σ[i]? = some (some v)
def RepAVs (e : RE) (H : Hp) (W : OwnP) (σ : L2.St) : List AV → List V → Prop
  | [], vs => vs = []
  | a :: as, vs => ∃ v r, vs = v :: r ∧ RepAV e H W σ a v ∧ RepAVs e H W σ as r
theorem RepAVs.le {e : RE} {H H' : Hp} {W W' : OwnP} {σ : L2.St} (l : Le H W H' W') : ∀ {as : List AV} {vs : List V}, RepAVs e H W σ as vs → RepAVs e H' W' σ as vs
  | [], _, h => h
  | a :: as, vs, h => by
    obtain ⟨v, r, e1, h1, h2⟩ := h
    refine ⟨v, r, e1, ?_, RepAVs.le l h2⟩
    cases a with
    | d d => exact (show Rep e H W d v from h1).le l
    | io i => exact h1
def tAs (e : RB) (Wx : WX) (m : M (List AV)) : TA := fun σ H Q => ∃ Z B fp f, R e Z B fp σ H f ∧ PM e Wx Z B fp σ H (m f) (fun as _ fp' H' => ∀ vs, RepAVs e.toRE H' (own Z fp') σ as vs → Q vs H')
/-- the io places of what is given -/
def ioPos : List AV → Nat → List Nat
  | [], _ => []
  | .d _ :: r, k => ioPos r (k + 1)
  | .io _ :: r, k => k :: ioPos r (k + 1)
def ioV (io : List Nat) (vs : List V) : List V := io.map fun i => vs.getD i .non
def PV (σ : L2.St) : List Nat → List V → Prop
  | [], [] => True
  | p :: ps, v :: vs => σ[p]? = some (some v) ∧ PV σ ps vs
  | _, _ => False
theorem own_swap {Z : OwnP} {fo rest : List Addr} : own (own Z rest) fo = own (also Z fo) rest := by
  funext a
  refine propext ⟨fun q => ?_, fun q => ?_⟩
  · rcases q with (q | q) | q
    · exact .inl (.inl q)
    · exact .inr q
    · exact .inl (.inr q)
  · rcases q with (q | q) | q
    · exact .inl (.inl q)
    · exact .inr q
    · exact .inl (.inr q)
theorem also_also {Z : OwnP} {a b : List Addr} : also (also Z a) b = also Z (a ++ b) := by
  funext x
  refine propext ⟨fun q => ?_, fun q => ?_⟩
  · rcases q with (q | q) | q
    · exact .inl q
    · exact .inr (List.mem_append_left _ q)
    · exact .inr (List.mem_append_right _ q)
  · rcases q with q | q
    · exact .inl (.inl q)
    · rcases List.mem_append.mp q with q | q
      · exact .inl (.inr q)
      · exact .inr q
theorem take_args {e : RB} {σ : L2.St} {H : Hp} {B : List (Nat × V)} : ∀ {as : List AV} {vs : List V} {Z : OwnP} {fp : List Addr} {f f1 : Fr} {os : List O} {ps : List Nat}, R e Z B fp σ H f → RepAVs e.toRE H (own Z fp) σ as vs → takeArgs as f = some (os, ps, f1) →
    ∃ fo rest, R e (also Z fo) B rest σ H f1 ∧ fp.Perm (fo ++ rest) ∧ RepOs e.toRE H (own Z fp) os vs fo ∧ os.length = vs.length ∧
      (∀ (pre : List V), PV σ ps (ioV (ioPos as pre.length) (pre ++ vs)))
  | [], vs, Z, fp, f, f1, os, ps, r, h, t => by
    cases t
    cases h
    refine ⟨[], fp, by rw [also_nil]; exact r, List.Perm.refl _, ?_, rfl, fun _ => trivial⟩
    unfold RepOs
    exact ⟨rfl, rfl⟩
  | .d d :: as, vs, Z, fp, f, f1, os, ps, r, h, t => by
    obtain ⟨v, vr, e1, h1, h2⟩ := h
    subst e1
    have t' : (match takeArgs as f with
      | some (os, ps, f') => some (.fz d :: os, ps, f')
      | none => none) = some (os, ps, f1) := t
    cases q : takeArgs as f with
    | none => rw [q] at t'; cases t'
    | some w =>
      obtain ⟨os', ps', f'⟩ := w
      rw [q] at t'
      cases t'
      obtain ⟨fo, rest, r1, p1, q1, q2, q3⟩ := take_args r h2 q
      refine ⟨fo, rest, r1, p1, ?_, by simp [q2], fun pre => ?_⟩
      · unfold RepOs
        exact ⟨v, vr, [], fo, rfl, rfl, by unfold RepO; exact ⟨rfl, h1⟩, q1⟩
      · have := q3 (pre ++ [v])
        simpa [ioPos] using this
  | .io i :: as, vs, Z, fp, f, f1, os, ps, r, h, t => by
    obtain ⟨v, vr, e1, h1, h2⟩ := h
    subst e1
    have hσ : σ[i]? = some (some v) := h1
    have t' : (match f[i]? with
      | some .un => none
      | some o => match takeArgs as (f.set i .un) with
        | some (os, ps, f') => some (o :: os, i :: ps, f')
        | none => none
      | none => none) = some (os, ps, f1) := t
    cases hf : f[i]? with
    | none => rw [hf] at t'; cases t'
    | some o =>
      rw [hf] at t'
      by_cases hu : o = .un
      · subst hu; cases t'
      · have t2 : (match takeArgs as (f.set i .un) with
          | some (os, ps, f') => some (o :: os, i :: ps, f')
          | none => none) = some (os, ps, f1) := by cases o <;> first | exact absurd rfl hu | exact t'
        cases q : takeArgs as (f.set i .un) with
        | none => rw [q] at t2; cases t2
        | some w =>
          obtain ⟨os', ps', f'⟩ := w
          rw [q] at t2
          cases t2
          obtain ⟨s, fo0, rest0, k1, k2, k3, k4, k5, k6, k7⟩ := r.take hf
          rw [hσ] at k1
          cases k1
          obtain ⟨fo, rest, r1, p1, q1, q2, q3⟩ := take_args k7 (h2.le (by rw [k6]; exact Le.refl)) q
          refine ⟨fo0 ++ fo, rest, by rw [← also_also]; exact r1, ?_, ?_, by simp [q2], fun pre => ?_⟩
          · rw [List.append_assoc]
            exact k3.trans (List.Perm.append_left fo0 p1)
          · unfold RepOs
            refine ⟨v, vr, fo0, fo, rfl, rfl, ?_, ?_⟩
            · cases o <;> first | exact absurd rfl hu | exact k2
            · rw [k6]; exact q1
          · have := q3 (pre ++ [v])
            simp only [ioPos, ioV, List.map_cons]
            refine ⟨?_, ?_⟩
            · simpa using hσ
            · simpa [ioV] using this

/-! ### a def's promise -/
def PostC (e : RE) (Z : OwnP) (fo : List Addr) (H : Hp) (io : List Nat) (vs : List V) (r : RC) (Q : VK) (E : XK) : Prop := match r with
  | .ok o outs => ∀ H' fr fq v, RepO e H' (own Z (fr ++ fq)) o v fr → RepOs e H' (own Z (fr ++ fq)) outs (ioV io vs) fq → (fr ++ fq).Nodup → (∀ a ∈ fr ++ fq, ¬ Z a) → Le H (own Z fo) H' (own Z (fr ++ fq)) → (∀ a, Z a → H' a = H a) → Q v H'
  | .exc c fs outs => ∀ H' fq v dx, RepOs e H' (own Z fq) outs (ioV io vs) fq → fq.Nodup → (∀ a ∈ fq, ¬ Z a) → Le H (own Z fo) H' (own Z fq) → (∀ a, Z a → H' a = H a) → RepX e H' (own Z fq) c fs v dx → E v dx H'
  | .bad => False
def spOf (e : RE) (Φ : Calls) (g par : Nat) (io : List Nat) : Sp := fun vs H Q E => ∃ Z os fo, RepOs e H (own Z fo) os vs fo ∧ fo.Nodup ∧ (∀ a ∈ fo, ¬ Z a) ∧ (∀ a, Z a → H a ≠ none) ∧ os.length = par ∧ PostC e Z fo H io vs (Φ g os) Q E

/-- an object is put back where it was -/
theorem R.put {Z : OwnP} {B : List (Nat × V)} {fp : List Addr} {σ : L2.St} {H : Hp} {f : Fr} {fo : List Addr} (r : R e (also Z fo) B fp σ H f) {i : Nat} {o' : O} {v : V} (hi : i < f.length) (hσ : σ[i]? = some (some v)) (h : RepO e.toRE H (own (also Z fo) fp) o' v fo) (hu : o' ≠ .un) (hn : fo.Nodup) (hz : ∀ a ∈ fo, ¬ Z a) :
    ∃ fq, R e Z B fq σ H (f.set i o') ∧ ∀ a, own Z fq a → own (also Z fo) fp a := by
  obtain ⟨o, ho⟩ := get_lt hi
  have r0 : R e (also Z fo) [] fp σ H f := ⟨r.fr, r.nd, r.dj, r.zin, (fun p hp => by cases hp), (fun p hp => by cases hp)⟩
  have hs : RepS e.toRE H (own (also Z fo) fp) o' (some v) fo := by cases o' <;> first | exact absurd rfl hu | exact h
  obtain ⟨fq, r1, s1, _⟩ := r0.set (s' := some v) ho hs hn hz (fun p hp => by cases hp)
  rw [set_self hσ] at r1
  exact ⟨fq, ⟨r1.fr, r1.nd, r1.dj, r1.zin, r.pin, r.pio⟩, s1⟩
theorem put_all {σ : L2.St} {H : Hp} {B : List (Nat × V)} {Z : OwnP} : ∀ {ps : List Nat} {outs : List O} {ws : List V} {fq rest : List Addr} {f1 f' : Fr}, putBack ps outs f1 = some f' → R e (also Z fq) B rest σ H f1 → RepOs e.toRE H (own (also Z fq) rest) outs ws fq → fq.Nodup → (∀ a ∈ fq, ¬ Z a) →
    PV σ ps ws → ∃ fp', R e Z B fp' σ H f' ∧ ∀ a, own Z fp' a → own (also Z fq) rest a
  | [], [], ws, fq, rest, f1, f', h, r, ro, _, _, _ => by
    cases h
    unfold RepOs at ro
    obtain ⟨_, e2⟩ := ro
    subst e2
    rw [also_nil] at r ⊢
    exact ⟨rest, r, fun a h => h⟩
  | i :: ps, o :: outs, ws, fq, rest, f1, f', h, r, ro, nd, hz, hf => by
    have h' : (if i < f1.length then putBack ps outs (f1.set i o) else none) = some f' := h
    by_cases hlt : i < f1.length
    · rw [if_pos hlt] at h'
      unfold RepOs at ro
      obtain ⟨w, wr, g1, g2, e1, e2, h1, h2⟩ := ro
      subst e1 e2
      obtain ⟨hw, hf⟩ := hf
      · have ea : also Z (g1 ++ g2) = also (also Z g2) g1 := by
          rw [also_also]
          funext x
          exact propext ⟨fun q => q.elim .inl fun m => .inr (List.mem_append.mpr (List.mem_append.mp m).symm), fun q => q.elim .inl fun m => .inr (List.mem_append.mpr (List.mem_append.mp m).symm)⟩
        rw [ea] at r h1 h2
        have nd' := List.nodup_append.mp nd
        have hu : o ≠ .un := fun z => by subst z; unfold RepO at h1; exact h1
        obtain ⟨fp1, r1, s1⟩ := r.put hlt hw h1 hu nd'.1 (fun a ha z => by
          rcases z with z | z
          · exact hz a (List.mem_append_left _ ha) z
          · exact nd'.2.2 a ha a z rfl)
        obtain ⟨fp2, r2, s2⟩ := put_all h' r1 (RepOs.le (Le.shrink s1) (fun _ _ => rfl) h2) nd'.2.1 (fun a ha => hz a (List.mem_append_right _ ha)) hf
        exact ⟨fp2, r2, fun a ha => by rw [ea]; exact s1 a (s2 a ha)⟩
    · rw [if_neg hlt] at h'; cases h'
  | [], _ :: _, _, _, _, _, _, h, _, _, _, _, _ => by cases h
  | _ :: _, [], _, _, _, _, _, h, _, _, _, _, _ => by cases h
/-- a call's step -/
theorem call_step {Z : OwnP} {B : List (Nat × V)} {fp : List Addr} {σ : L2.St} {H : Hp} {f : Fr} {g : Nat} {as : List AV} {vs : List V} {io : List Nat} {par : Nat} {Q : VK} (r : R e Z B fp σ H f) (ra : RepAVs e.toRE H (own Z fp) σ as vs) (hio : ioPos as 0 = io) (hpar : as.length = par)
    (p : PX e Wx Z B fp σ H (callF Φ g as f) (fun o _ fr fp' H' => ∀ v, RepO e.toRE H' (own (also Z fr) fp') o v fr → Q v H')) : spOf e.toRE Φ g par io vs H Q (WE Wx σ) := by
  unfold callF at p
  cases ht : takeArgs as f with
  | none => rw [ht] at p; exact (p : False).elim
  | some w =>
    obtain ⟨os, ps, f1⟩ := w
    rw [ht] at p
    obtain ⟨fo, rest, r1, p1, q1, q2, q3⟩ := take_args r ra ht
    have hl : as.length = vs.length := by
      clear p r1 q1 q2 q3 ht hio hpar
      induction as generalizing vs with
      | nil => cases ra; rfl
      | cons a as ih => obtain ⟨v, vr, e1, _, h2⟩ := ra; subst e1; rw [List.length_cons, List.length_cons, ih h2]
    have eW : own Z fp = own (own Z rest) fo := by rw [own_perm p1, own_swap, ← own_also]
    have nd := List.nodup_append.mp (p1.nodup_iff.mp r.nd)
    have hf := q3 []
    rw [List.nil_append, List.length_nil, hio] at hf
    refine ⟨own Z rest, os, fo, by rw [← eW]; exact q1, nd.1, fun a ha z => ?_, fun a z => ?_, by omega, ?_⟩
    · rcases z with z | z
      · exact r.dj a (p1.mem_iff.mpr (List.mem_append_left _ ha)) z
      · exact nd.2.2 a ha a z rfl
    · rcases z with z | z
      · exact r.zin a z
      · exact r.fr.there a (p1.mem_iff.mpr (List.mem_append_right _ z))
    -- the frame behind the call, without what was given
    have base : ∀ {H' : Hp} {fx : List Addr}, Le H (own (own Z rest) fo) H' (own (own Z rest) fx) → (∀ a, own Z rest a → H' a = H a) → (∀ a ∈ fx, ¬ own Z rest a) → (∀ a ∈ fx, H' a ≠ none) → R e (also Z fx) B rest σ H' f1 := fun {H' fx} l z dj th =>
      ⟨RepFr.le (by rw [← own_swap, ← own_swap]; exact l) (fun a ha => z a (.inr ha)) r1.fr, r1.nd, fun a ha q => by
        rcases q with q | q
        · exact r1.dj a ha (.inl q)
        · exact dj a q (.inr ha), fun a q => by
        rcases q with q | q
        · rw [z a (.inl q)]; exact r.zin a q
        · exact th a q, r1.pin, r1.pio⟩
    cases hc : Φ g os with
    | bad => simp only [hc] at p; exact (p : False).elim
    | ok o outs =>
      simp only [hc] at p
      intro H' fr fq v ho hos hnd hdj hle hz
      have nn := List.nodup_append.mp hnd
      have rb := base hle hz hdj (fun a ha => (List.mem_append.mp ha).elim (RepO.there ho a) (RepOs.there hos a))
      rw [← also_also] at rb
      cases hp : putBack ps outs f1 with
      | none => rw [hp] at p; exact (p : False).elim
      | some f' =>
        rw [hp] at p
        have eW2 : own (own Z rest) (fr ++ fq) = own (also (also Z fr) fq) rest := by rw [also_also, own_swap]
        obtain ⟨fp', r2, s2⟩ := put_all hp rb (by rw [← eW2]; exact hos) nn.2.1 (fun a ha z => by
          rcases z with z | z
          · exact hdj a (List.mem_append_right _ ha) (.inl z)
          · exact nn.2.2 a z a ha rfl) hf
        have sh : Le H' (own (own Z rest) (fr ++ fq)) H' (own (also Z fr) fp') := by rw [eW2]; exact Le.shrink s2
        refine p H' fr fp' r2 (by rw [eW]; exact hle.trans sh) (fun a za => hz a (.inl za)) nn.1 (fun a ha z => hdj a (List.mem_append_left _ ha) (.inl z)) v (RepO.le sh (fun _ _ => rfl) ho)
    | exc c fs outs =>
      simp only [hc] at p
      intro H' fq v dx hos hnd hdj hle hz hx
      have rb := base hle hz hdj (fun a ha => RepOs.there hos a ha)
      cases hp : putBack ps outs f1 with
      | none => rw [hp] at p; exact (p : False).elim
      | some f' =>
        rw [hp] at p
        have eW2 : own (own Z rest) fq = own (also Z fq) rest := own_swap
        obtain ⟨fp', r2, s2⟩ := put_all hp rb (by rw [← eW2]; exact hos) hnd (fun a ha z => hdj a ha (.inl z)) hf
        have sh : Le H' (own (own Z rest) fq) H' (own Z fp') := by rw [eW2]; exact Le.shrink s2
        refine p H' fp' v dx r2 ⟨by rw [eW]; exact hle.trans sh, fun a za => hz a (.inl za)⟩ ?_
        obtain ⟨x1, x2⟩ := hx
        refine ⟨x1, ?_⟩
        cases hxf : e.xfd c with
        | none => rw [hxf] at x2; exact x2
        | some ns =>
          rw [hxf] at x2
          obtain ⟨d, gs, y1, y2, y3⟩ := x2
          exact ⟨d, gs, y1, y2.le sh, y3.le sh⟩
end
end Cr

/-! Calls, instances made. -/
namespace Cr
open PySem PySem.Spec L2
section
variable {X : Cx} {Wx : WX} {e : RB} {lv : Nat} {N : List Str} {sc : Scope} {P : Prg} {Φ : Calls}
theorem PX.adv {Z : OwnP} {B : List (Nat × V)} {fp fp1 : List Addr} {σ : L2.St} {H H1 : Hp} {r : Rs O} {K : O → Fr → List Addr → List Addr → Hp → Prop} (p : PX e Wx Z B fp σ H r K) (a : Adv Z fp H fp1 H1) : PX e Wx Z B fp1 σ H1 r K := by
  cases r with
  | ok x f => exact fun H' fr fp' r l z nd hz => p H' fr fp' r (a.le.trans l) (fun x zx => (z x zx).trans (a.z x zx)) nd hz
  | exc c fs f => exact fun H' fp' v dx r b x => p H' fp' v dx r (a.trans b) x
  | bad => exact p
theorem tAs_seq {Z : OwnP} {B : List (Nat × V)} {fp : List Addr} {σ : L2.St} {H : Hp} {f : Fr} {m : M (List AV)} {k : List AV → M O} {K : O → Fr → List Addr → List Addr → Hp → Prop} (r : R e Z B fp σ H f) (p : PX e Wx Z B fp σ H (M.bnd m k f) K) (T : List V → Hp → Prop)
    (h : ∀ as f1 fp1 H1 vs, m f = .ok as f1 → R e Z B fp1 σ H1 f1 → RepAVs e.toRE H1 (own Z fp1) σ as vs → PX e Wx Z B fp1 σ H1 (k as f1) K → T vs H1) : tAs e Wx m σ H T := by
  refine ⟨Z, B, fp, f, r, ?_⟩
  unfold M.bnd at p
  cases q : m f with
  | ok d f1 =>
    rw [q] at p
    exact fun H1 fp1 r1 a1 vs hv => h d f1 fp1 H1 vs q r1 hv (p.adv a1)
  | exc c fs f1 => rw [q] at p; exact p
  | bad => rw [q] at p; exact p
/-! what is given -/
theorem as_nil : PA X [] (tAs e Wx (M.ret [])) := pa_nil.imp fun σ H Q q => by
  obtain ⟨Z, B, fp, f, r, p⟩ := q
  exact ret_fin r p [] rfl
theorem tAsM_seq {α : Type} {Z : OwnP} {B : List (Nat × V)} {fp : List Addr} {σ : L2.St} {H : Hp} {f : Fr} {m : M (List AV)} {k : List AV → M α} {K : α → Fr → List Addr → Hp → Prop} (r : R e Z B fp σ H f) (p : PM e Wx Z B fp σ H (M.bnd m k f) K) (T : List V → Hp → Prop)
    (h : ∀ as f1 fp1 H1 vs, R e Z B fp1 σ H1 f1 → Adv Z fp H fp1 H1 → RepAVs e.toRE H1 (own Z fp1) σ as vs → PM e Wx Z B fp1 σ H1 (k as f1) K → T vs H1) : tAs e Wx m σ H T := by
  refine ⟨Z, B, fp, f, r, ?_⟩
  unfold M.bnd at p
  cases q : m f with
  | ok d f1 =>
    rw [q] at p
    exact fun H1 fp1 r1 a1 vs hv => h d f1 fp1 H1 vs r1 a1 hv (p.adv a1)
  | exc c fs f1 => rw [q] at p; exact p
  | bad => rw [q] at p; exact p
theorem as_e {x : Expr} {xs : List Expr} {m : M D} {ms : M (List AV)} (h : PEc X Wx e x m) (hs : PA X xs (tAs e Wx ms)) (hst : isStar x = false) :
    PA X (x :: xs) (tAs e Wx (M.bnd (M.bnd m fun d => M.ret (.d d)) fun a => M.bnd ms fun as => M.ret (a :: as))) := (pa_cons h hs (st_cons hst)).imp fun σ H Q q => by
  obtain ⟨Z, B, fp, f, r, p⟩ := q
  rw [assocB] at p
  refine tE_seq r p _ fun d f1 fp1 H1 v r1 a1 h1 p1 => ?_
  have p1' : PM e Wx Z B fp1 σ H1 (M.bnd ms (fun as => M.ret (AV.d d :: as)) f1) _ := p1
  refine tAsM_seq r1 p1' _ fun as f2 fp2 H2 vs r2 a2 h2 p2 => ?_
  exact ret_fin r2 p2 _ ⟨v, vs, rfl, h1.le a2.le, h2⟩
theorem as_io (G : Good X Wx e lv N sc) {i : Nat} {x : Str} {pos : Pos} {xs : List Expr} {ms : M (List AV)} (hi : N[i]? = some x) (hv : visB sc x = true) (ho : okName x = true) (hs : PA X xs (tAs e Wx ms)) :
    PA X (.Name x pos :: xs) (tAs e Wx (M.bnd (M.bnd (chkS i) fun _ => M.ret (.io i)) fun a => M.bnd ms fun as => M.ret (a :: as))) := (pa_cons (nameVar G hi hv ho) hs (st_cons rfl)).imp fun σ H Q q => by
  obtain ⟨Z, B, fp, f, r, p⟩ := q
  rw [assocB] at p
  obtain ⟨⟨o, h1, h1'⟩, p2⟩ := chk_some p
  obtain ⟨v, fo, g1, g2⟩ := r.slot h1 h1'
  refine ⟨v, g1, ?_⟩
  have p2' : PM e Wx Z B fp σ H (M.bnd ms (fun as => M.ret (AV.io i :: as)) f) (fun as _ fp' H' => ∀ vs, RepAVs e.toRE H' (own Z fp') σ as vs → Q vs H') := p2
  refine tAsM_seq r p2' _ fun as f2 fp2 H2 vs r2 a2 h2 p3 => ?_
  exact ret_fin r2 p3 _ ⟨v, vs, rfl, g1, h2⟩
/-- a call of a def -/
theorem s_call (G : Good X Wx e lv N sc) {x : Str} {p pos : Pos} {x0 : Expr} {xs : List Expr} {g par k : Nat} {io : List Nat} {f : Addr} {fd : FuncData} {ps : List Str} {ms : M (List AV)} (hg : glB sc x = true) (ho : okName x = true) (hm : X.mg x = some (.ref f))
    (hk : PySem.W.keepIn X.K (.ref f) = true) (F : FnOk X.prog X.w X.K X.mg X.base (L2.CX X.prog X.w) k f fd ps (spOf e.toRE Φ g par io)) (hb : Binds X.K fd ps []) (hr : k ≤ lv) (h : PA X (x0 :: xs) (tAs e Wx ms)) (hst : (x0 :: xs).all (fun x => !isStar x) = true)
    (hsh : ∀ f avs f', ms f = .ok avs f' → ioPos avs 0 = io ∧ avs.length = par) : PXc X Wx e (.Call (.Name x p) (x0 :: xs) [] pos) (M.bnd ms fun as => callF Φ g as) := by
  have ho' := ho
  unfold okName at ho'
  simp only [Bool.and_eq_true, Bool.not_eq_true'] at ho'
  have hst' := hst
  rw [List.all_cons, Bool.and_eq_true] at hst'
  refine (pe_callSD (E := WE Wx) (dvs := []) F (G.room.mono hr) (show X.env.kindOf x = _ by rw [Env.kindOf, G.hsc]; exact glB_ok hg) hm hk hb .nil (fun σ => passAt G.tk σ) h ho'.1.1 (st_cons (by simpa using hst'.1)) (st_any hst'.2)).imp fun σ H Q q => ?_
  obtain ⟨Z, B, fp, f, r, p⟩ := q
  refine tAs_seq r p _ fun as f1 fp1 H1 vs hok r1 ra p1 => ?_
  obtain ⟨i1, i2⟩ := hsh _ _ _ hok
  rw [List.append_nil]
  exact call_step r1 ra i1 i2 p1

/-! ### an instance is made -/
theorem run_makeS {k : Nat} {f C : Addr} {fd : FuncData} {ps : List Str} {sp : Sp} {E : St → XK} {pins : List (Addr × Obj)} {σ : L2.St} {H : Hp} {s : Shared} {Q : VK} {us : List Value} {vs : List V} (M : Mk X.K C f) (F : FnOk X.prog X.w X.K X.mg X.base (L2.CX X.prog X.w) k f fd ps sp) (hr : Room (k + 1) X.A) (hb : Binds X.K fd ps [])
    (hx : PassesAt (L2.CX X.prog X.w) X σ (E σ)) (I : Inv X pins σ H s) (r : Vals vs us)
    (h : ∀ x dx, H x = none → H dx = none → dx ≠ x → sp (.ref x :: vs) (upd (upd H dx (.own x)) x (.ins C dx [])) (fun v H2 => v = .non ∧ Q (.ref x) H2) (E σ)) :
    wpAny (model X.prog X.w) X.A (call (.ref C) us) (EP X pins σ Q) X.xe s := by
  have hq := h (s.heap.objs.size + 1) s.heap.objs.size (I.hok.fresh (Nat.le_succ _)) (I.hok.fresh (Nat.le_refl _)) (Nat.ne_of_lt (Nat.lt_succ_self _))
  have I2 := Inv.made (C := C) I
  have r2 : Vals (V.ref (s.heap.objs.size + 1) :: vs) (Value.ref (s.heap.objs.size + 1) :: us ++ []) := by rw [List.append_nil]; exact .cons rfl r
  have hl : (Value.ref (s.heap.objs.size + 1) :: us ++ []).length = ps.length := by
    have e := r2.length
    rw [F.len _ _ _ _ hq] at e
    exact e.symm
  refine wpAny_call (make_map (f := f) I.kIn M.makes M.init (beq_iff_eq.mp M.fn) (codeAny_mono (F.run _ X.stack _ _ ⟨Value.ref (s.heap.objs.size + 1) :: us, []⟩ (Value.ref (s.heap.objs.size + 1) :: us ++ []) _ _ (E σ) (hr.make C us [])
    (I2.env0.make C us []) (hb _ (Value.ref (s.heap.objs.size + 1) :: us) I2.kIn hl) r2 hq) fun r s' hq' => ?_))
  cases r with
  | error e => exact hx pins _ _ e s' I2 hq'
  | ok fl =>
    cases fl with
    | ret u =>
      obtain ⟨v, H', I3, rv, ev, q3⟩ := I2.after hq'
      subst ev
      exact ⟨rv, ⟨V.ref (s.heap.objs.size + 1), H', I3, rfl, q3⟩⟩
    | next => exact False.elim hq'
    | brk => exact False.elim hq'
    | cont => exact False.elim hq'
theorem ioPos_succ : ∀ (as : List AV) (k : Nat), ioPos as (k + 1) = (ioPos as k).map (· + 1)
  | [], _ => rfl
  | .d _ :: r, k => by rw [ioPos, ioPos, ioPos_succ r (k + 1)]
  | .io _ :: r, k => by rw [ioPos, ioPos, ioPos_succ r (k + 1)]; rfl
theorem repOF_fresh {e : RE} {H : Hp} {W : OwnP} {gs : List (Str × V)} : ∀ ns : List Str, RepOF e H W (ns.map fun _ => .fz .nil) ns gs []
  | [] => by unfold RepOF; exact ⟨rfl, rfl⟩
  | n :: ns => by
    rw [List.map_cons]
    unfold RepOF
    exact ⟨n, ns, [], [], rfl, rfl, .inl ⟨rfl, rfl⟩, repOF_fresh ns⟩
theorem make_step (T : Tab P e.toRE) {Z : OwnP} {B : List (Nat × V)} {fp : List Addr} {σ : L2.St} {H : Hp} {f : Fr} {c : Nat} {kc : Cls} {as : List AV} {vs : List V} {io : List Nat} {par : Nat} {Q : VK} (hcl : P.classes[c]? = some kc) (r : R e Z B fp σ H f) (ra : RepAVs e.toRE H (own Z fp) σ as vs) (hio : 0 :: (ioPos as 0).map (· + 1) = io) (hpar : as.length + 1 = par)
    (p : PX e Wx Z B fp σ H (newF P Φ c as f) (fun o _ fr fp' H' => ∀ v, RepO e.toRE H' (own (also Z fr) fp') o v fr → Q v H')) {x dx : Addr} (nx : H x = none) (nd' : H dx = none) (ne : dx ≠ x) :
    spOf e.toRE Φ kc.init par io (.ref x :: vs) (upd (upd H dx (.own x)) x (.ins (e.cls c) dx [])) (fun v H2 => v = .non ∧ Q (.ref x) H2) (WE Wx σ) := by
  unfold newF at p
  rw [hcl] at p
  cases ht : takeArgs as f with
  | none => simp only [ht] at p; exact (p : False).elim
  | some w =>
    obtain ⟨os, ps, f1⟩ := w
    simp only [ht] at p
    obtain ⟨fo, rest, r1, p1, q1, q2, q3⟩ := take_args r ra ht
    have hl : as.length = vs.length := by
      clear p r1 q1 q2 q3 ht hio hpar
      induction as generalizing vs with
      | nil => cases ra; rfl
      | cons a as ih => obtain ⟨v, vr, e1, _, h2⟩ := ra; subst e1; rw [List.length_cons, List.length_cons, ih h2]
    have eW : own Z fp = own (own Z rest) fo := by rw [own_perm p1, own_swap, ← own_also]
    have nd := List.nodup_append.mp (p1.nodup_iff.mp r.nd)
    have hf := q3 []
    rw [List.nil_append, List.length_nil] at hf
    have eio : ioV io (V.ref x :: vs) = V.ref x :: ioV (ioPos as 0) vs := by
      rw [← hio]
      unfold ioV
      rw [List.map_cons, List.map_map]
      rfl
    have thr : ∀ a, own Z fp a → H a ≠ none := r.there
    generalize hHn : upd (upd H dx (.own x)) x (.ins (e.cls c) dx []) = Hn
    have hn_eq : ∀ a, H a ≠ none → Hn a = H a := fun a h => by
      rw [← hHn, upd_ne (fun z => h (by rw [z]; exact nx)), upd_ne (fun z => h (by rw [z]; exact nd'))]
    have leN : Le H (own Z fp) Hn (own (own Z rest) (x :: fo)) := ⟨fun a u n cc => by
      have hne := cont_ne cc
      refine ⟨fun z => ?_, by unfold cont at cc ⊢; rw [hn_eq a hne]; exact cc⟩
      rw [eW] at n
      rcases z with z | z
      · exact n (.inl z)
      · rcases List.mem_cons.mp z with z | z
        · exact hne (by rw [z]; exact nx)
        · exact n (.inr z)⟩
    have ths : ∀ a, own Z rest a → H a ≠ none := fun a z => thr a (by rw [eW]; exact .inl z)
    refine ⟨own Z rest, freshI P c :: os, x :: fo, ?_, ?_, fun a ha z => ?_, fun a z => ?_, by rw [List.length_cons]; omega, ?_⟩
    · unfold RepOs
      refine ⟨.ref x, vs, [x], fo, rfl, rfl, ?_, RepOs.le leN (fun a ha => hn_eq a (thr a (by rw [eW]; exact .inr ha))) q1⟩
      have hfd : clsFields P c = e.fds c := by unfold clsFields; rw [hcl]; exact (T.cls c kc hcl).1.symm
      unfold freshI RepO
      refine ⟨x, dx, [], [], rfl, rfl, by rw [← hHn, upd_same], ?_, List.nodup_nil, fun p hp => by cases hp⟩
      rw [hfd]
      exact repOF_fresh _
    · refine List.nodup_cons.mpr ⟨fun m => thr x (by rw [eW]; exact .inr m) nx, nd.1⟩
    · rcases List.mem_cons.mp ha with ha | ha
      · subst ha; exact ths a z nx
      · rcases z with z | z
        · exact r.dj a (p1.mem_iff.mpr (List.mem_append_left _ ha)) z
        · exact nd.2.2 a ha a z rfl
    · rw [hn_eq a (ths a z)]; exact ths a z
    have base : ∀ {H' : Hp} {fx : List Addr}, Le Hn (own (own Z rest) (x :: fo)) H' (own (own Z rest) fx) → (∀ a, own Z rest a → H' a = Hn a) → (∀ a ∈ fx, ¬ own Z rest a) → (∀ a ∈ fx, H' a ≠ none) → R e (also Z fx) B rest σ H' f1 := fun {H' fx} l z dj th =>
      ⟨RepFr.le (by
          have l2 := leN.trans l
          rw [eW, own_swap, own_swap] at l2
          exact l2) (fun a ha => (z a (.inr ha)).trans (hn_eq a (ths a (.inr ha)))) r1.fr, r1.nd, fun a ha q => by
        rcases q with q | q
        · exact r1.dj a ha (.inl q)
        · exact dj a q (.inr ha), fun a q => by
        rcases q with q | q
        · rw [z a (.inl q), hn_eq a (ths a (.inl q))]; exact r.zin a q
        · exact th a q, r1.pin, r1.pio⟩
    unfold PostC
    cases hc : Φ kc.init (freshI P c :: os) with
    | bad => simp only [hc] at p; exact (p : False).elim
    | ok o outs =>
      simp only [hc] at p
      intro H' fr fq v ho hos hnd hdj hle hz
      cases o with
      | fz d =>
        cases d with
        | non =>
          cases outs with
          | nil => exact (p : False).elim
          | cons o outs =>
            have ho' := ho
            unfold RepO at ho'
            obtain ⟨e0, e1⟩ := ho'
            unfold Rep at e1
            subst e0
            refine ⟨e1, ?_⟩
            rw [eio] at hos
            unfold RepOs at hos
            obtain ⟨w, wr, g1, g2, e2, e3, h1, h2⟩ := hos
            obtain ⟨e4, e5⟩ := List.cons.inj e2
            subst e4 e5 e3
            rw [List.nil_append] at hnd hdj hle h1 h2
            have nn := List.nodup_append.mp hnd
            have rb := base hle hz hdj (fun a ha => (List.mem_append.mp ha).elim (RepO.there h1 a) (RepOs.there h2 a))
            rw [← also_also] at rb
            cases hp : putBack ps outs f1 with
            | none => simp only [hp] at p; exact (p : False).elim
            | some f' =>
              simp only [hp] at p
              have eW2 : own (own Z rest) (g1 ++ g2) = own (also (also Z g1) g2) rest := by rw [also_also, own_swap]
              obtain ⟨fp', r2, s2⟩ := put_all hp rb (by rw [← eW2]; exact h2) nn.2.1 (fun a ha z => by
                rcases z with z | z
                · exact hdj a (List.mem_append_right _ ha) (.inl z)
                · exact nn.2.2 a z a ha rfl) hf
              have sh : Le H' (own (own Z rest) (g1 ++ g2)) H' (own (also Z g1) fp') := by rw [eW2]; exact Le.shrink s2
              exact p H' g1 fp' r2 ((leN.trans hle).trans sh) (fun a za => (hz a (.inl za)).trans (hn_eq a (r.zin a za))) nn.1 (fun a ha z => hdj a (List.mem_append_left _ ha) (.inl z)) _ (RepO.le sh (fun _ _ => rfl) h1)
        | _ => exact (p : False).elim
      | _ => exact (p : False).elim
    | exc c' fs outs =>
      simp only [hc] at p
      cases outs with
      | nil => exact (p : False).elim
      | cons o outs =>
        intro H' fq v dx' hos hnd hdj hle hz hx
        rw [eio] at hos
        unfold RepOs at hos
        obtain ⟨w, wr, g1, g2, e2, e3, h1, h2⟩ := hos
        obtain ⟨e4, e5⟩ := List.cons.inj e2
        subst e4 e5 e3
        have nn := List.nodup_append.mp hnd
        have rb := base hle hz hdj (fun a ha => (List.mem_append.mp ha).elim (RepO.there h1 a) (RepOs.there h2 a))
        rw [← also_also] at rb
        cases hp : putBack ps outs f1 with
        | none => simp only [hp] at p; exact (p : False).elim
        | some f' =>
          simp only [hp] at p
          have eW2 : own (own Z rest) (g1 ++ g2) = own (also (also Z g1) g2) rest := by rw [also_also, own_swap]
          obtain ⟨fp', r2, s2⟩ := put_all hp rb (by rw [← eW2]; exact h2) nn.2.1 (fun a ha z => by
            rcases z with z | z
            · exact hdj a (List.mem_append_right _ ha) (.inl z)
            · exact nn.2.2 a z a ha rfl) hf
          have r3 := r2.drop
          have sh : Le H' (own (own Z rest) (g1 ++ g2)) H' (own Z fp') := by
            rw [eW2]
            exact (Le.shrink s2).trans (Le.shrink fun a ha => ha.elim (fun z => .inl (.inl z)) .inr)
          refine p H' fp' v dx' r3 ⟨(leN.trans hle).trans sh, fun a za => (hz a (.inl za)).trans (hn_eq a (r.zin a za))⟩ ?_
          obtain ⟨x1, x2⟩ := hx
          refine ⟨x1, ?_⟩
          cases hxf : e.xfd c' with
          | none => rw [hxf] at x2; exact x2
          | some ns =>
            rw [hxf] at x2
            obtain ⟨d, gs, y1, y2, y3⟩ := x2
            exact ⟨d, gs, y1, y2.le sh, y3.le sh⟩
/-- C(..) -/
theorem s_new (T : Tab P e.toRE) (G : Good X Wx e lv N sc) {x : Str} {p pos : Pos} {x0 : Expr} {xs : List Expr} {c par k : Nat} {kc : Cls} {io : List Nat} {f : Addr} {fd : FuncData} {ps : List Str} {ms : M (List AV)} (hcl : P.classes[c]? = some kc) (hg : glB sc x = true) (ho : okName x = true) (hm : X.mg x = some (.ref (e.cls c)))
    (hM : Mk X.K (e.cls c) f) (F : FnOk X.prog X.w X.K X.mg X.base (L2.CX X.prog X.w) k f fd ps (spOf e.toRE Φ kc.init par io)) (hb : Binds X.K fd ps []) (hr : k + 1 ≤ lv) (h : PA X (x0 :: xs) (tAs e Wx ms)) (hst : (x0 :: xs).all (fun x => !isStar x) = true)
    (hsh : ∀ f avs f', ms f = .ok avs f' → 0 :: (ioPos avs 0).map (· + 1) = io ∧ avs.length + 1 = par) : PXc X Wx e (.Call (.Name x p) (x0 :: xs) [] pos) (M.bnd ms fun as => newF P Φ c as) := by
  have ho' := ho
  unfold okName at ho'
  simp only [Bool.and_eq_true, Bool.not_eq_true'] at ho'
  have hst' := hst
  rw [List.all_cons, Bool.and_eq_true] at hst'
  refine ⟨fun pins s σ H Q I q => ?_⟩
  refine wpAny_Call_Name_kw (ld_glob I (show X.env.kindOf x = _ by rw [Env.kindOf, G.hsc]; exact glB_ok hg) hm ?_ ho'.1.1)
  obtain ⟨Z, B, fp, f, r, p⟩ := q
  have t : tAs e Wx ms σ H (fun vs H1 => ∀ y dx, H1 y = none → H1 dx = none → dx ≠ y → spOf e.toRE Φ kc.init par io (.ref y :: vs) (upd (upd H1 dx (.own y)) y (.ins (e.cls c) dx [])) (fun v H2 => v = .non ∧ Q (.ref y) H2) (WE Wx σ)) := by
    refine tAs_seq r p _ fun as f1 fp1 H1 vs hok r1 ra p1 y dx n1 n2 n3 => ?_
    obtain ⟨i1, i2⟩ := hsh _ _ _ hok
    exact make_step T hcl r1 ra i1 i2 p1 n1 n2 n3
  refine PySem.W.callWith_K (h₀ := X.base) I.ok.mod.kin hM.kp (thn (h.run pos pins s σ H _ I t) fun us s1 ⟨vs, H1, I1, rv, q⟩ => ⟨I1.kIn, ?_⟩) (st_cons (by simpa using hst'.1)) (st_any hst'.2)
  exact run_makeS (E := WE Wx) hM F (G.room.mono hr) hb (passAt G.tk σ) I1 rv q
end
end Cr

/-! Statements. -/
namespace Cr
open PySem PySem.Spec L2
section
variable (e : RB) (Wx : WX) (Z : OwnP) (B : List (Nat × V)) (fp : List Addr) (H : Hp)
def PSt (r : Rs Fl) (K : Ends) : Prop := match r with
  | .ok .nx f => ∀ σ' H' fp', R e Z B fp' σ' H' f → Adv Z fp H fp' H' → K.nx σ' H'
  | .ok .bk f => ∀ σ' H' fp', R e Z B fp' σ' H' f → Adv Z fp H fp' H' → K.bk σ' H'
  | .ok .ct f => ∀ σ' H' fp', R e Z B fp' σ' H' f → Adv Z fp H fp' H' → K.ct σ' H'
  | .ok (.rt o) f => ∀ σ' H' fr fp' v, R e (also Z fr) B fp' σ' H' f → Le H (own Z fp) H' (own (also Z fr) fp') → (∀ a, Z a → H' a = H a) → fr.Nodup → (∀ a ∈ fr, ¬ Z a) → RepO e.toRE H' (own (also Z fr) fp') o v fr → K.rt v H'
  | .exc c fs f => ∀ σ' H' fp' v dx, R e Z B fp' σ' H' f → Adv Z fp H fp' H' → RepX e H' (own Z fp') c fs v dx → Wx v dx σ' H'
  | .bad => False
end
def tS (e : RB) (Wx : WX) (m : M Fl) : TS := fun K σ H => ∃ Z B fp f, R e Z B fp σ H f ∧ PSt e Wx Z B fp H (m f) K
/-- a def's own context -/
structure GoodS (X : Cx) (Wx : WX) (e : RB) (lv : Nat) (N : List Str) (sc : Scope) : Prop extends Good X Wx e lv N sc where
  po : PassesOwn (model X.prog X.w) X.A X.env X.xe
  fnT : ∀ x, X.fn x = true
  stk : X.stack = X.env :: X.outer
  frm : X.env.frame = some X.env.locals
section
variable {X : Cx} {Wx : WX} {e : RB} {lv : Nat} {N : List Str} {sc : Scope} {P : Prg} {Φ : Calls} {Z : OwnP} {B : List (Nat × V)} {fp fp1 : List Addr} {σ : L2.St} {H H1 : Hp} {f : Fr} {K : Ends}
theorem PSt.adv {r : Rs Fl} (p : PSt e Wx Z B fp H r K) (a : Adv Z fp H fp1 H1) : PSt e Wx Z B fp1 H1 r K := by
  cases r with
  | ok x f => cases x with
    | rt o => exact fun σ' H' fr fp' v r l z nd hz ho => p σ' H' fr fp' v r (a.le.trans l) (fun x zx => (z x zx).trans (a.z x zx)) nd hz ho
    | nx => exact fun σ' H' fp' r b => p σ' H' fp' r (a.trans b)
    | bk => exact fun σ' H' fp' r b => p σ' H' fp' r (a.trans b)
    | ct => exact fun σ' H' fp' r b => p σ' H' fp' r (a.trans b)
  | exc c fs f => exact fun σ' H' fp' v dx r b x => p σ' H' fp' v dx r (a.trans b) x
  | bad => exact p
theorem S_nx (r : R e Z B fp σ H f) (p : PSt e Wx Z B fp H (.ok .nx f) K) : K.nx σ H := p σ H fp r Adv.refl
theorem S_E {m : M D} {k : D → M Fl} (r : R e Z B fp σ H f) (p : PSt e Wx Z B fp H (M.bnd m k f) K) (T : VK)
    (h : ∀ d f1 fp1 H1 v, R e Z B fp1 σ H1 f1 → Adv Z fp H fp1 H1 → Rep e.toRE H1 (own Z fp1) d v → PSt e Wx Z B fp1 H1 (k d f1) K → T v H1) : tE e Wx m σ H T := by
  refine ⟨Z, B, fp, f, r, ?_⟩
  unfold M.bnd at p
  cases q : m f with
  | ok d f1 =>
    rw [q] at p
    exact fun H1 fp1 r1 a1 v hv => h d f1 fp1 H1 v r1 a1 hv (p.adv a1)
  | exc c fs f1 => rw [q] at p; exact fun H' fp' v dx r' a' x => p σ H' fp' v dx r' a' x
  | bad => rw [q] at p; exact p
theorem S_T {m : M Bool} {k : Bool → M Fl} (r : R e Z B fp σ H f) (p : PSt e Wx Z B fp H (M.bnd m k f) K) (T : Bool → Hp → Prop)
    (h : ∀ d f1 fp1 H1, R e Z B fp1 σ H1 f1 → Adv Z fp H fp1 H1 → PSt e Wx Z B fp1 H1 (k d f1) K → T d H1) : tT e Wx m σ H T := by
  refine ⟨Z, B, fp, f, r, ?_⟩
  unfold M.bnd at p
  cases q : m f with
  | ok d f1 =>
    rw [q] at p
    exact fun H1 fp1 r1 a1 => h d f1 fp1 H1 r1 a1 (p.adv a1)
  | exc c fs f1 => rw [q] at p; exact fun H' fp' v dx r' a' x => p σ H' fp' v dx r' a' x
  | bad => rw [q] at p; exact p
theorem S_I {m : M (List D)} {k : List D → M Fl} (r : R e Z B fp σ H f) (p : PSt e Wx Z B fp H (M.bnd m k f) K) (T : L2.It → Hp → Prop)
    (h : ∀ d f1 fp1 H1 J, R e Z B fp1 σ H1 f1 → Adv Z fp H fp1 H1 → ItOk e.toRE J d H1 (own Z fp1) → PSt e Wx Z B fp1 H1 (k d f1) K → T J H1) : tI e Wx m σ H T := by
  refine ⟨Z, B, fp, f, r, ?_⟩
  unfold M.bnd at p
  cases q : m f with
  | ok d f1 =>
    rw [q] at p
    exact fun H1 fp1 r1 a1 J hJ => h d f1 fp1 H1 J r1 a1 hJ (p.adv a1)
  | exc c fs f1 => rw [q] at p; exact fun H' fp' v dx r' a' x => p σ H' fp' v dx r' a' x
  | bad => rw [q] at p; exact p
theorem S_A {m : M (List D)} {k : List D → M Fl} (r : R e Z B fp σ H f) (p : PSt e Wx Z B fp H (M.bnd m k f) K) (T : List V → Hp → Prop)
    (h : ∀ d f1 fp1 H1 vs, R e Z B fp1 σ H1 f1 → Adv Z fp H fp1 H1 → Reps e.toRE H1 (own Z fp1) d vs → PSt e Wx Z B fp1 H1 (k d f1) K → T vs H1) : tA e Wx m σ H T := by
  refine ⟨Z, B, fp, f, r, ?_⟩
  unfold M.bnd at p
  cases q : m f with
  | ok d f1 =>
    rw [q] at p
    exact fun H1 fp1 r1 a1 J hJ => h d f1 fp1 H1 J r1 a1 hJ (p.adv a1)
  | exc c fs f1 => rw [q] at p; exact fun H' fp' v dx r' a' x => p σ H' fp' v dx r' a' x
  | bad => rw [q] at p; exact p
theorem S_X {m : M O} {k : O → M Fl} (r : R e Z B fp σ H f) (p : PSt e Wx Z B fp H (M.bnd m k f) K) (T : VK)
    (h : ∀ o f1 fr fp1 H1 v, R e (also Z fr) B fp1 σ H1 f1 → Le H (own Z fp) H1 (own (also Z fr) fp1) → (∀ a, Z a → H1 a = H a) → fr.Nodup → (∀ a ∈ fr, ¬ Z a) → RepO e.toRE H1 (own (also Z fr) fp1) o v fr → PSt e Wx Z B fp H (k o f1) K → T v H1) : tX e Wx m σ H T := by
  refine ⟨Z, B, fp, f, r, ?_⟩
  unfold M.bnd at p
  cases q : m f with
  | ok d f1 =>
    rw [q] at p
    exact fun H1 fr fp1 r1 l1 z1 nd hz v hv => h d f1 fr fp1 H1 v r1 l1 z1 nd hz hv p
  | exc c fs f1 => rw [q] at p; exact fun H' fp' v dx r' a' x => p σ H' fp' v dx r' a' x
  | bad => rw [q] at p; exact p

abbrev PSc (X : Cx) (Wx : WX) (e : RB) (x : Stmt) (m : M Fl) : Prop := PS X x (tS e Wx m)
abbrev PSsc (X : Cx) (Wx : WX) (e : RB) (x : List Stmt) (m : M Fl) : Prop := PSs X x (tS e Wx m)
theorem ss_nil : PSsc X Wx e [] (M.ret .nx) := pss_nil.imp fun K σ H q => by
  obtain ⟨Z, B, fp, f, r, p⟩ := q
  exact S_nx r p
theorem ss_cons {x : Stmt} {xs : List Stmt} {m ms : M Fl} (h : PSc X Wx e x m) (hs : PSsc X Wx e xs ms) : PSsc X Wx e (x :: xs) (M.bnd m (flow ms)) := (pss_cons h hs).imp fun K σ H q => by
  obtain ⟨Z, B, fp, f, r, p⟩ := q
  refine ⟨Z, B, fp, f, r, ?_⟩
  unfold M.bnd at p
  cases q : m f with
  | ok x f1 =>
    rw [q] at p
    cases x with
    | nx => exact fun σ' H' fp' r1 a1 => ⟨Z, B, fp', f1, r1, PSt.adv p a1⟩
    | rt o => exact p
    | bk => exact p
    | ct => exact p
  | exc c fs f1 => rw [q] at p; exact p
  | bad => rw [q] at p; exact p
theorem s_pass {pos : Pos} : PSc X Wx e (.Pass pos) (M.ret .nx) := ps_pass.imp fun K σ H q => by
  obtain ⟨Z, B, fp, f, r, p⟩ := q
  exact S_nx r p
theorem s_brk {pos : Pos} : PSc X Wx e (.Break pos) (M.ret .bk) := ps_break.imp fun K σ H q => by
  obtain ⟨Z, B, fp, f, r, p⟩ := q
  exact p σ H fp r Adv.refl
theorem s_cont {pos : Pos} : PSc X Wx e (.Continue pos) (M.ret .ct) := ps_continue.imp fun K σ H q => by
  obtain ⟨Z, B, fp, f, r, p⟩ := q
  exact p σ H fp r Adv.refl
theorem s_ret {x : Expr} {m : M D} {pos : Pos} (h : PEc X Wx e x m) : PSc X Wx e (.Return (some x) pos) (M.bnd m fun d => M.ret (.rt (.fz d))) := (ps_ret h).imp fun K σ H q => by
  obtain ⟨Z, B, fp, f, r, p⟩ := q
  refine S_E r p _ fun d f1 fp1 H1 v r1 a1 h1 p1 => ?_
  refine p1 σ H1 [] fp1 v (by rw [also_nil]; exact r1) (by rw [also_nil]; exact Le.refl) (fun _ _ => rfl) List.nodup_nil (fun a h => by cases h) ?_
  rw [also_nil]
  unfold RepO
  exact ⟨rfl, h1⟩
theorem s_retN {pos : Pos} : PSc X Wx e (.Return none pos) (M.ret (.rt (.fz .non))) := ps_retN.imp fun K σ H q => by
  obtain ⟨Z, B, fp, f, r, p⟩ := q
  refine p σ H [] fp .non (by rw [also_nil]; exact r) (by rw [also_nil]; exact Le.refl) (fun _ _ => rfl) List.nodup_nil (fun a h => by cases h) ?_
  unfold RepO
  exact ⟨rfl, rep_non⟩
theorem s_retO {x : Expr} {m : M O} {pos : Pos} (h : PXc X Wx e x m) : PSc X Wx e (.Return (some x) pos) (M.bnd m fun o => M.ret (.rt o)) := (ps_ret h).imp fun K σ H q => by
  obtain ⟨Z, B, fp, f, r, p⟩ := q
  refine S_X r p _ fun o f1 fr fp1 H1 v r1 l1 z1 nd hz h1 p1 => ?_
  exact p1 σ H1 fr fp1 v r1 l1 z1 nd hz h1
theorem s_ex {x : Expr} {m : M D} {pos : Pos} (h : PEc X Wx e x m) (hs : swapsWith x none pos.line X.env = pure false) : PSc X Wx e (.Expr x pos) (M.bnd m fun _ => M.ret .nx) := (ps_expr h hs).imp fun K σ H q => by
  obtain ⟨Z, B, fp, f, r, p⟩ := q
  refine S_E r p _ fun d f1 fp1 H1 v r1 a1 h1 p1 => ?_
  exact S_nx r1 p1
theorem s_if {c : Expr} {a b : List Stmt} {mc : M D} {ma mb : M Fl} {pos : Pos} (hc : PTc X Wx e c mc) (ha : PSsc X Wx e a ma) (hb : PSsc X Wx e b mb) : PSc X Wx e (.If c a b pos) (M.bnd mc fun x => M.bnd (toBool x) fun r => if r then ma else mb) := (ps_if hc ha hb).imp fun K σ H q => by
  obtain ⟨Z, B, fp, f, r, p⟩ := q
  rw [← assocB] at p
  refine S_T r p _ fun b f1 fp1 H1 r1 a1 p1 => ?_
  cases b with
  | true => exact iteT ⟨Z, B, fp1, f1, r1, p1⟩
  | false => exact iteF ⟨Z, B, fp1, f1, r1, p1⟩
theorem setM_some {tg : Tg} {d : D} {k : Unit → M Fl} (p : PSt e Wx Z B fp H (M.bnd (setM tg d) k f) K) : ∃ f', setT tg d f = some f' ∧ PSt e Wx Z B fp H (k () f') K := by
  unfold M.bnd setM at p
  cases q : setT tg d f with
  | none => rw [q] at p; exact (p : False).elim
  | some f' => rw [q] at p; exact ⟨f', rfl, p⟩
theorem asg_read {tg : Tg} {m : M D} {te : TE} {Q : St → Hp → Prop} (q : tS e Wx (M.bnd m fun d => M.bnd (setM tg d) fun _ => M.ret .nx) K σ H) : tE e Wx m σ H fun x H1 => tG e tg x σ H1 K.nx := by
  obtain ⟨Z, B, fp, f, r, p⟩ := q
  refine S_E r p _ fun d f1 fp1 H1 v r1 a1 h1 p1 => ?_
  obtain ⟨f', hs, p2⟩ := setM_some p1
  exact ⟨Z, B, fp1, f1, d, r1, h1, f', hs, fun σ' fp' r2 a2 _ => S_nx r2 (p2.adv a2)⟩
theorem s_asg {tx x : Expr} {tg : Tg} {m : M D} {pos : Pos} (h : PEc X Wx e x m) (hg : PG X tx (tG e tg)) (hst : isStar tx = false) (hs : swapsWithSole [tx] x pos.line X.env = pure false) (hw : swappedStores [tx] x X.env = pure none) :
    PSc X Wx e (.Assign [tx] x pos) (M.bnd m fun d => M.bnd (setM tg d) fun _ => M.ret .nx) := (ps_asg h hg hs hw (by rw [asg_cons hst]; rfl)).imp fun K σ H q => asg_read (te := tE e Wx m) (Q := K.nx) q
/-- name = [..], on one line -/
theorem s_asgLc (G : GoodS X Wx e lv N sc) {i : Nat} {y : Str} {py spos : Pos} {elt' tg' iter' : Expr} {ifs : List Expr} {scope : Scope} {ow : List (Str × Nat)} {pos : Pos} {tg : Tg} {mi : M (List D)} {mt : M Bool} {me : M D} (hy : StOk X e N i y) (hyl : X.env.scope.names.lookup y = some .local)
    (hsw : swapsWith (.ListComp elt' [⟨tg', iter', ifs, 0⟩] scope pos) (some (.Name y py)) spos.line X.env = pure true)
    (hi : PI X tg' iter' (tI e Wx mi)) (ok : BlkOk X.N X.env.scope scope ow) (hio : ∀ i ∈ ow.map (·.2), i ∉ e.io) (htg : ∀ i ∈ tgSlots tg, i ∈ ow.map (·.2))
    (hg : ∀ (s : Shared) (H : Hp) (C : Addr) (cl : List (Str × Addr)) (fp : List Addr), PG (X.blk s H scope (compEnvC scope cl C X.env) fp) tg' (tG e tg))
    (ht : ∀ (s : Shared) (H : Hp) (C : Addr) (cl : List (Str × Addr)) (fp : List Addr), PTs (X.blk s H scope (compEnvC scope cl C X.env) fp) ifs (tT e W0 mt))
    (he : ∀ (s : Shared) (H : Hp) (C : Addr) (cl : List (Str × Addr)) (fp : List Addr), PE (X.blk s H scope (compEnvC scope cl C X.env) fp) elt' (tE e W0 me)) (hs : ∀ x, foldedSetIterable iter' X.env x = pure x) :
    PSc X Wx e (.Assign [.Name y py] (.ListComp elt' [⟨tg', iter', ifs, 0⟩] scope pos) spos) (M.bnd (M.bnd mi fun xs => M.bnd (block (ow.map (·.2)) (lcLoop (lcT (ow.map (·.2)) tg mt me) xs)) fun ys => if ys.length ≤ 100000 then M.ret (.lst ys) else M.fail) fun d => M.bnd (setM (.nm i) d) fun _ => M.ret .nx) :=
  (ps_setLc G.calm G.nd (by rw [G.hN]; exact hy.1) hyl hsw hi ok hg ht he hs).imp fun K σ H q => by
  refine lc_read hio htg ?_
  obtain ⟨Z, B, fp, f, r, p⟩ := asg_read (te := tE e Wx (M.ret .non)) (Q := K.nx) q
  refine ⟨Z, B, fp, f, r, p.mono fun d f1 fp1 H1 r1 a1 h v hv => ?_⟩
  obtain ⟨Z', B', fp', f', d', r', hr', f2, hs', k⟩ := h v hv
  have hs2 : (if i < f'.length then some (f'.set i (.fz d')) else none) = some f2 := hs'
  obtain ⟨hlt, e1⟩ := ite_some hs2
  subst e1
  obtain ⟨o, ho⟩ := get_lt hlt
  obtain ⟨fq, r1, a1⟩ := r'.setD ho hr' (pin_ne r' hy.2.2.2)
  exact k _ fq r1 a1 fun vs hv => wipe_set (hv i (List.mem_singleton.mpr rfl))
/-! loops -/
theorem for_cons {tg : Tg} {body : M Fl} {d : D} {ds : List D} : forL tg body (d :: ds) = M.bnd (setM tg d) fun _ => M.bnd body fun
    | .nx => forL tg body ds
    | .ct => forL tg body ds
    | .bk => M.ret .nx
    | .rt d => M.ret (.rt d) := rfl
theorem s_for (G : GoodS X Wx e lv N sc) {tx ix : Expr} {body : List Stmt} {tg : Tg} {mi : M (List D)} {mb : M Fl} {pos : Pos} (hi : PI X tx ix (tI e Wx mi)) (hg : PG X tx (tG e tg)) (hb : PSsc X Wx e body mb) (hs : ∀ x, foldedSetIterable ix X.env x = pure x) :
    PSc X Wx e (.For tx ix body [] pos) (M.bnd mi fun xs => forL tg mb xs) := (ps_for G.po G.calm hi hg hb hs).imp fun K σ H q => by
  obtain ⟨Z, B, fp, f, r, p⟩ := q
  refine S_I r p _ fun xs f1 fp1 H1 J r1 a1 hJ p1 => ?_
  refine for_it hJ (fun i σ H => ∃ fp f, R e Z B fp σ H f ∧ Adv Z fp1 H1 fp H ∧ PSt e Wx Z B fp H (forL tg mb (xs.drop i) f) K) ⟨fp1, f1, r1, Adv.refl, p1⟩ ?_ ?_ ?_
  · rintro i σ H hi ⟨fp, f, r, a, _⟩
    exact ⟨_, r.there, a.le⟩
  · rintro i x σ H H' hi ⟨fp, f, r, a, p⟩ ⟨sm, hy⟩
    obtain ⟨d, hd, rd⟩ := hy _ r.there a.le
    have hdrop : xs.drop i = d :: xs.drop (i + 1) := by
      rw [List.drop_eq_getElem_cons hi]
      have : xs[i]? = some xs[i] := by simp [hi]
      rw [hd] at this
      cases this
      rfl
    rw [hdrop, for_cons] at p
    obtain ⟨f', hs', p2⟩ := setM_some (p.adv (r.adv sm))
    refine ⟨Z, B, fp, f, d, r.same sm, rd, f', hs', fun σ2 fp3 r3 a3 _ => ⟨Z, B, fp3, f', r3, ?_⟩⟩
    have p3 := p2.adv a3
    have aa := (a.trans (r.adv sm)).trans a3
    clear p p2
    unfold M.bnd at p3
    cases q : mb f' with
    | ok x f2 =>
      rw [q] at p3
      cases x with
      | nx => exact fun σ' H' fp' r' a' => ⟨fp', f2, r', aa.trans a', PSt.adv p3 a'⟩
      | ct => exact fun σ' H' fp' r' a' => ⟨fp', f2, r', aa.trans a', PSt.adv p3 a'⟩
      | bk => exact p3
      | rt o => exact p3
    | exc c fs f2 => rw [q] at p3; exact p3
    | bad => rw [q] at p3; exact p3
  · rintro σ H ⟨fp, f, r, a, p⟩
    rw [List.drop_length] at p
    exact S_nx r p
theorem s_whl (G : GoodS X Wx e lv N sc) {c : Expr} {body : List Stmt} {mc : M D} {mb : M Fl} {n : Nat} {pos : Pos} (hc : PTc X Wx e c mc) (hb : PSsc X Wx e body mb) : PSc X Wx e (.While c body [] pos) (whlL (M.bnd mc toBool) mb n) := (ps_while G.po hc hb).imp fun K σ0 H0 q => by
  obtain ⟨Z, B, fp0, f0, r0, p0⟩ := q
  refine ⟨fun m σ H => ∃ fp f, R e Z B fp σ H f ∧ Adv Z fp0 H0 fp H ∧ PSt e Wx Z B fp H (whlL (M.bnd mc toBool) mb m f) K, ⟨n, fp0, f0, r0, Adv.refl, p0⟩, ?_⟩
  rintro m σ H ⟨fp, f, r, a, p⟩
  cases m with
  | zero => exact (p : False).elim
  | succ m =>
    have p' : PSt e Wx Z B fp H (M.bnd (M.bnd mc toBool) (fun b => if b then M.bnd mb fun
      | .nx => whlL (M.bnd mc toBool) mb m
      | .ct => whlL (M.bnd mc toBool) mb m
      | .bk => M.ret .nx
      | .rt d => M.ret (.rt d)
      else M.ret .nx) f) K := p
    refine S_T r p' _ fun b f1 fp1 H1 r1 a1 p1 => ?_
    cases b with
    | false => exact iteF (S_nx r1 p1)
    | true =>
      refine iteT ⟨fun σ H => ∃ fp f, R e Z B fp σ H f ∧ Adv Z fp0 H0 fp H ∧ PSt e Wx Z B fp H (whlL (M.bnd mc toBool) mb m f) K, fun σ' H' h => ⟨m, Nat.lt_succ_self m, h⟩, Z, B, fp1, f1, r1, ?_⟩
      have p3 : PSt e Wx Z B fp1 H1 (M.bnd mb (fun
        | .nx => whlL (M.bnd mc toBool) mb m
        | .ct => whlL (M.bnd mc toBool) mb m
        | .bk => M.ret .nx
        | .rt d => M.ret (.rt d)) f1) K := p1
      have aa := a.trans a1
      unfold M.bnd at p3
      cases q : mb f1 with
      | ok x f2 =>
        rw [q] at p3
        cases x with
        | nx => exact fun σ' H' fp' r' a' => ⟨fp', f2, r', aa.trans a', PSt.adv p3 a'⟩
        | ct => exact fun σ' H' fp' r' a' => ⟨fp', f2, r', aa.trans a', PSt.adv p3 a'⟩
        | bk => exact p3
        | rt o => exact p3
      | exc c fs f2 => rw [q] at p3; exact p3
      | bad => rw [q] at p3; exact p3
end
end Cr

/-! Objects of their own: made, changed. -/
namespace Cr
open PySem PySem.Spec L2
section
variable {X : Cx} {Wx : WX} {e : RB} {lv : Nat} {N : List Str} {sc : Scope} {P : Prg} {Φ : Calls} {Z : OwnP} {B : List (Nat × V)} {fp fp1 fr : List Addr} {σ : L2.St} {H H1 : Hp} {f : Fr} {K : Ends}
/-! ### made -/
theorem o_e {x : Expr} {m : M D} (h : PEc X Wx e x m) : PXc X Wx e x (M.bnd m fun d => M.ret (.fz d)) := h.imp fun σ H Q q => by
  obtain ⟨Z, B, fp, f, r, p⟩ := q
  refine ⟨Z, B, fp, f, r, ?_⟩
  unfold M.bnd at p
  cases q : m f with
  | ok d f1 =>
    rw [q] at p
    refine fun H1 fp1 r1 a1 v hv => p H1 [] fp1 (by rw [also_nil]; exact r1) (by rw [also_nil]; exact a1.le) a1.z List.nodup_nil (fun a h => by cases h) v ?_
    rw [also_nil]
    unfold RepO
    exact ⟨rfl, hv⟩
  | exc c fs f1 => rw [q] at p; exact p
  | bad => rw [q] at p; exact p
theorem repOs_fz {e : RE} {H : Hp} {W : OwnP} : ∀ {ds : List D} {vs : List V}, Reps e H W ds vs → RepOs e H W (ds.map .fz) vs []
  | [], vs, h => by
    unfold Reps at h
    unfold List.map RepOs
    exact ⟨h, rfl⟩
  | d :: ds, vs, h => by
    unfold Reps at h
    obtain ⟨x, r, e1, h1, h2⟩ := h
    rw [List.map_cons]
    unfold RepOs
    exact ⟨x, r, [], [], e1, rfl, by unfold RepO; exact ⟨rfl, h1⟩, repOs_fz h2⟩
/-- [..] of frozen things, for a place of its own -/
theorem o_lst {xs : List Expr} {pos : Pos} {ms : M (List D)} (h : PA X xs (tA e Wx ms)) (hl : ∀ f ds f', ms f = .ok ds f' → ds.length ≤ 1000) : PXc X Wx e (.List xs pos) (M.bnd ms fun ds => M.ret (.lst (ds.map .fz))) := (pe_lst h).imp fun σ H Q q => by
  obtain ⟨Z, B, fp, f, r, p⟩ := q
  refine ⟨Z, B, fp, f, r, ?_⟩
  unfold M.bnd at p
  cases q : ms f with
  | ok ds f1 =>
    rw [q] at p
    refine fun H1 fp1 r1 a1 vs hv => ⟨small_line (by have := hl f ds f1 q; rw [hv.len]; omega), fun o ho => ?_⟩
    obtain ⟨r2, l2⟩ := r1.new (o := .lst vs) ho
    refine p _ [o] fp1 r2 (a1.le.trans l2) (fun a za => ?_) (by simp) (fun a ha z => ?_) _ ?_
    · rw [upd_ne (fun z => r1.zin a za (by rw [z]; exact ho))]
      exact a1.z a za
    · rw [List.mem_singleton.mp ha] at z
      exact r1.zin o z ho
    · unfold RepO
      exact ⟨o, vs, [], rfl, rfl, upd_same, repOs_fz (hv.le l2)⟩
  | exc c fs f1 => rw [q] at p; exact p
  | bad => rw [q] at p; exact p
/-! ### an object in a slot is changed -/
theorem isOwn_form {e : RE} {H : Hp} {W : OwnP} {o : O} {v : V} {fo : List Addr} (h : RepO e H W o v fo) (ho : isOwn o = true) : ∃ a fq ho, v = .ref a ∧ fo = a :: fq ∧ H a = some ho := by
  cases o with
  | un => cases ho
  | fz d => cases ho
  | lst os => unfold RepO at h; obtain ⟨a, xs, fq, e1, e2, q, _⟩ := h; exact ⟨a, fq, _, e1, e2, q⟩
  | dK ks os => unfold RepO at h; obtain ⟨a, xs, fq, e1, e2, q, _⟩ := h; exact ⟨a, fq, _, e1, e2, q⟩
  | dT ks os => unfold RepO at h; obtain ⟨a, xs, fq, e1, e2, q, _⟩ := h; exact ⟨a, fq, _, e1, e2, q⟩
  | ins c os => unfold RepO at h; obtain ⟨a, dx, gs, fq, e1, e2, q, _⟩ := h; exact ⟨a, fq, _, e1, e2, q⟩
theorem R.less {Z' : OwnP} (r : R e Z' B fp σ H f) (h : ∀ a, Z a → Z' a) : R e Z B fp σ H f :=
  ⟨RepFr.le (Le.shrink fun a ha => ha.elim (fun z => .inl (h a z)) .inr) (fun _ _ => rfl) r.fr, r.nd, fun a ha z => r.dj a ha (h a z), fun a z => r.zin a (h a z), r.pin, r.pio⟩
theorem R.mut (r : R e (also Z fr) B fp σ H f) (nfr : fr.Nodup) (zfr : ∀ a ∈ fr, ¬ Z a) {i : Nat} {o : O} (hi : f[i]? = some o) (ho : isOwn o = true) :
    ∃ a fo, σ[i]? = some (some (.ref a)) ∧ RepO e.toRE H (own (also Z fr) fp) o (.ref a) (a :: fo) ∧ (a :: (fo ++ fr)).Nodup ∧ own (also Z fr) fp a ∧ ∀ ho' o' fx,
      (∀ b ∈ fx, b = a ∨ b ∈ fo ∨ b ∈ fr) → fx.Nodup → o' ≠ .un → RepO e.toRE (upd H a ho') (own (also Z fr) fp) o' (.ref a) fx →
        ∃ fq, R e Z B fq σ (upd H a ho') (f.set i o') ∧ Le H (own (also Z fr) fp) (upd H a ho') (own Z fq) ∧ ∀ b, Z b → upd H a ho' b = H b := by
  have hu : o ≠ .un := fun z => by subst z; cases ho
  obtain ⟨s, fo0, rest, q1, q2, q3, q4, q5, q6, q7⟩ := r.take hi
  obtain ⟨v, e1⟩ : ∃ v, s = some v := by
    cases s with
    | none => cases o <;> first | exact absurd rfl hu | exact (q2 : False).elim
    | some v => exact ⟨v, rfl⟩
  subst e1
  have q2' : RepO e.toRE H (own (also Z fr) fp) o v fo0 := by cases o <;> first | exact absurd rfl hu | exact q2
  obtain ⟨a, fo, h0, e2, e3, e4⟩ := isOwn_form q2' ho
  subst e2 e3
  have wa : own (also Z fr) fp a := by rw [q6]; exact .inl (.inr List.mem_cons_self)
  have nna : a ∉ fo := (List.nodup_cons.mp q4).1
  have nd1 : (a :: (fo ++ fr)).Nodup := by
    refine List.nodup_cons.mpr ⟨fun m => ?_, List.nodup_append.mpr ⟨(List.nodup_cons.mp q4).2, nfr, fun b hb c hc z => ?_⟩⟩
    · rcases List.mem_append.mp m with m | m
      · exact nna m
      · exact q5 a List.mem_cons_self (.inr m)
    · subst z
      exact q5 b (List.mem_cons_of_mem _ hb) (.inr hc)
  refine ⟨a, fo, q1, q2', nd1, wa, fun ho' o' fx hx nx hu' hr => ?_⟩
  obtain ⟨r2, l2⟩ := q7.off (o := ho') (D := a) (.inr List.mem_cons_self)
  have sub1 : ∀ b, also Z fx b → also (also Z fr) (a :: fo) b := fun b hb => by
    rcases hb with hb | hb
    · exact .inl (.inl hb)
    · rcases hx b hb with rfl | hb | hb
      · exact .inr List.mem_cons_self
      · exact .inr (List.mem_cons_of_mem _ hb)
      · exact .inl (.inr hb)
  have sub2 : ∀ b, own (also Z fx) rest b → own (also Z fr) fp b := fun b hb => by
    rw [q6]
    exact hb.elim (fun z => .inl (sub1 b z)) .inr
  have r3 : R e (also Z fx) B rest σ (upd H a ho') (f.set i .un) := r2.less sub1
  have hlt : i < f.length := (List.getElem?_eq_some_iff.mp hi).1
  obtain ⟨fq, r4, s4⟩ := r3.put (i := i) (o' := o') (v := .ref a) (by rw [List.length_set]; exact hlt) q1 (RepO.le (Le.shrink sub2) (fun _ _ => rfl) hr) hu' nx (fun b hb z => by
    rcases hx b hb with rfl | hb' | hb'
    · exact q5 _ List.mem_cons_self (.inl z)
    · exact q5 b (List.mem_cons_of_mem _ hb') (.inl z)
    · exact zfr b hb' z)
  rw [List.set_set] at r4
  refine ⟨fq, r4, ⟨fun b u n c => ?_⟩, fun b zb => upd_ne fun z => q5 a List.mem_cons_self (.inl (by rw [← z]; exact zb))⟩
  have h3 := l2.rd b u (by rw [← q6]; exact n) c
  exact ⟨fun z => n (sub2 b (s4 b z)), h3.2⟩
/-- an item among what an object owns, at a heap that differs at the object -/
theorem repOs_upd {W : OwnP} {a : Addr} {ho : HO} {os : List O} {vs : List V} {fq : List Addr} (wa : W a) (na : a ∉ fq) (h : RepOs e.toRE H W os vs fq) : RepOs e.toRE (upd H a ho) W os vs fq :=
  RepOs.le ⟨fun b u n c => ⟨n, by unfold cont at c ⊢; rw [upd_ne (fun z => n (by rw [z]; exact wa))]; exact c⟩⟩ (fun b hb => upd_ne fun z => na (by rw [← z]; exact hb)) h
theorem repO_upd {W : OwnP} {a : Addr} {ho : HO} {o : O} {v : V} {fq : List Addr} (wa : W a) (na : a ∉ fq) (h : RepO e.toRE H W o v fq) : RepO e.toRE (upd H a ho) W o v fq :=
  RepO.le ⟨fun b u n c => ⟨n, by unfold cont at c ⊢; rw [upd_ne (fun z => n (by rw [z]; exact wa))]; exact c⟩⟩ (fun b hb => upd_ne fun z => na (by rw [← z]; exact hb)) h
theorem repOs_snoc {e : RE} {W : OwnP} : ∀ {os : List O} {vs : List V} {fq fr : List Addr} {o : O} {v : V}, RepOs e H W os vs fq → RepO e H W o v fr → RepOs e H W (os ++ [o]) (vs ++ [v]) (fq ++ fr)
  | [], vs, fq, fr, o, v, h, ho => by
    unfold RepOs at h
    obtain ⟨e1, e2⟩ := h
    subst e1 e2
    show RepOs e H W [o] [v] fr
    unfold RepOs
    exact ⟨v, [], fr, [], rfl, by simp, ho, by unfold RepOs; exact ⟨rfl, rfl⟩⟩
  | o1 :: os, vs, fq, fr, o, v, h, ho => by
    unfold RepOs at h
    obtain ⟨x, r, f1, f2, e1, e2, h1, h2⟩ := h
    subst e1 e2
    show RepOs e H W (o1 :: (os ++ [o])) (x :: (r ++ [v])) (f1 ++ f2 ++ fr)
    unfold RepOs
    exact ⟨x, r ++ [v], f1, f2 ++ fr, rfl, by rw [List.append_assoc], h1, repOs_snoc h2 ho⟩
theorem repOs_set {e : RE} {W : OwnP} : ∀ {os : List O} {vs : List V} {fq fr : List Addr} {o : O} {v : V} {j : Nat}, RepOs e H W os vs fq → RepO e H W o v fr → (fq ++ fr).Nodup → ∃ fx, RepOs e H W (os.set j o) (vs.set j v) fx ∧ (∀ b ∈ fx, b ∈ fq ∨ b ∈ fr) ∧ fx.Nodup
  | [], vs, fq, fr, o, v, j, h, ho, nd => by
    unfold RepOs at h
    obtain ⟨e1, e2⟩ := h
    subst e1 e2
    exact ⟨[], (by unfold List.set RepOs; exact ⟨rfl, rfl⟩), (fun b hb => by cases hb), List.nodup_nil⟩
  | o1 :: os, vs, fq, fr, o, v, 0, h, ho, nd => by
    unfold RepOs at h
    obtain ⟨x, r, f1, f2, e1, e2, h1, h2⟩ := h
    subst e1 e2
    have n1 := List.nodup_append.mp nd
    have n2 := List.nodup_append.mp n1.1
    refine ⟨fr ++ f2, ?_, fun b hb => ?_, List.nodup_append.mpr ⟨n1.2.1, n2.2.1, fun b hb c hc z => ?_⟩⟩
    · show RepOs e H W (o :: os) (v :: r) (fr ++ f2)
      unfold RepOs
      exact ⟨v, r, fr, f2, rfl, rfl, ho, h2⟩
    · rcases List.mem_append.mp hb with hb | hb
      · exact .inr hb
      · exact .inl (List.mem_append_right _ hb)
    · subst z
      exact n1.2.2 b (List.mem_append_right _ hc) b hb rfl
  | o1 :: os, vs, fq, fr, o, v, j + 1, h, ho, nd => by
    unfold RepOs at h
    obtain ⟨x, r, f1, f2, e1, e2, h1, h2⟩ := h
    subst e1 e2
    have n1 := List.nodup_append.mp nd
    have n2 := List.nodup_append.mp n1.1
    obtain ⟨fx, g1, g2, g3⟩ := repOs_set (j := j) h2 ho (List.nodup_append.mpr ⟨n2.2.1, n1.2.1, fun b hb c hc z => n1.2.2 b (List.mem_append_right _ hb) c hc z⟩)
    refine ⟨f1 ++ fx, ?_, fun b hb => ?_, List.nodup_append.mpr ⟨n2.1, g3, fun b hb c hc z => ?_⟩⟩
    · show RepOs e H W (o1 :: os.set j o) (x :: r.set j v) (f1 ++ fx)
      unfold RepOs
      exact ⟨x, _, f1, fx, rfl, rfl, h1, g1⟩
    · rcases List.mem_append.mp hb with hb | hb
      · exact .inl (List.mem_append_left _ hb)
      · exact (g2 b hb).elim (fun m => .inl (List.mem_append_right _ m)) .inr
    · subst z
      rcases g2 b hc with m | m
      · exact n2.2.2 b hb b m rfl
      · exact n1.2.2 b (List.mem_append_left _ hb) b m rfl
/-- what append comes to -/
theorem app_mut (r : R e (also Z fr) B fp σ H f) (nfr : fr.Nodup) (zfr : ∀ a ∈ fr, ¬ Z a) {i : Nat} {o o' ov : O} {v : V} (hi : f[i]? = some o) (hg : appO ov o = some o') (hv : RepO e.toRE H (own (also Z fr) fp) ov v fr) :
    ∃ a xs, σ[i]? = some (some (.ref a)) ∧ H a = some (.lst xs) ∧ xs.length < 100000 ∧ ∃ fq, R e Z B fq σ (upd H a (.lst (xs ++ [v]))) (f.set i o') ∧ Le H (own (also Z fr) fp) (upd H a (.lst (xs ++ [v]))) (own Z fq) ∧ ∀ b, Z b → upd H a (.lst (xs ++ [v])) b = H b := by
  cases o with
  | lst os =>
    have hg' : (if os.length < 100000 then some (O.lst (os ++ [ov])) else none) = some o' := hg
    obtain ⟨hlen, e0⟩ := ite_some hg'
    subst e0
    obtain ⟨a, fo, k1, k2, k3, k4, k5⟩ := r.mut nfr zfr hi rfl
    unfold RepO at k2
    obtain ⟨a', xs, fq0, e1, e2, q, rs⟩ := k2
    cases e1
    cases e2
    have n2 := List.nodup_cons.mp k3
    refine ⟨a, xs, k1, q, by rw [repOs_len rs]; exact hlen, ?_⟩
    refine k5 (.lst (xs ++ [v])) (.lst (os ++ [ov])) (a :: (fo ++ fr)) (fun b hb => ?_) k3 (fun z => by cases z) ?_
    · rcases List.mem_cons.mp hb with hb | hb
      · exact .inl hb
      · exact .inr (List.mem_append.mp hb)
    · unfold RepO
      exact ⟨a, xs ++ [v], fo ++ fr, rfl, rfl, upd_same, repOs_snoc (repOs_upd k4 (fun m => n2.1 (List.mem_append_left _ m)) rs) (repO_upd k4 (fun m => n2.1 (List.mem_append_right _ m)) hv)⟩
  | _ => cases hg
theorem set_mut (r : R e (also Z fr) B fp σ H f) (nfr : fr.Nodup) (zfr : ∀ a ∈ fr, ¬ Z a) {i : Nat} {os : List O} {j : Nat} {ov : O} {v : V} (hi : f[i]? = some (.lst os)) (hv : RepO e.toRE H (own (also Z fr) fp) ov v fr) :
    ∃ a xs, σ[i]? = some (some (.ref a)) ∧ H a = some (.lst xs) ∧ xs.length = os.length ∧ ∃ fq, R e Z B fq σ (upd H a (.lst (xs.set j v))) (f.set i (.lst (os.set j ov))) ∧ Le H (own (also Z fr) fp) (upd H a (.lst (xs.set j v))) (own Z fq) ∧ ∀ b, Z b → upd H a (.lst (xs.set j v)) b = H b := by
  obtain ⟨a, fo, k1, k2, k3, k4, k5⟩ := r.mut nfr zfr hi rfl
  unfold RepO at k2
  obtain ⟨a', xs, fq0, e1, e2, q, rs⟩ := k2
  cases e1
  cases e2
  have n2 := List.nodup_cons.mp k3
  obtain ⟨fx, g1, g2, g3⟩ := repOs_set (j := j) (repOs_upd (ho := .lst (xs.set j v)) k4 (fun m => n2.1 (List.mem_append_left _ m)) rs) (repO_upd k4 (fun m => n2.1 (List.mem_append_right _ m)) hv) n2.2
  refine ⟨a, xs, k1, q, repOs_len rs, k5 (.lst (xs.set j v)) (.lst (os.set j ov)) (a :: fx) (fun b hb => ?_) (List.nodup_cons.mpr ⟨fun m => ?_, g3⟩) (fun z => by cases z) ?_⟩
  · rcases List.mem_cons.mp hb with hb | hb
    · exact .inl hb
    · exact .inr (g2 b hb)
  · exact n2.1 (List.mem_append.mpr (g2 a m))
  · unfold RepO
    exact ⟨a, _, fx, rfl, rfl, upd_same, g1⟩
end
end Cr

/-! Statements that change objects; raise. -/
namespace Cr
open PySem PySem.Spec L2
section
variable {X : Cx} {Wx : WX} {e : RB} {lv : Nat} {N : List Str} {sc : Scope} {P : Prg} {Φ : Calls} {Z : OwnP} {B : List (Nat × V)} {fp fp1 fr : List Addr} {σ : L2.St} {H H1 : Hp} {f : Fr} {K : Ends}
theorem setO1_some {i : Nat} {o : O} {k : Unit → M Fl} (p : PSt e Wx Z B fp H (M.bnd (setO1 i o) k f) K) : i < f.length ∧ PSt e Wx Z B fp H (k () (f.set i o)) K := by
  unfold M.bnd setO1 at p
  by_cases q : i < f.length
  · rw [if_pos q] at p; exact ⟨q, p⟩
  · rw [if_neg q] at p; exact (p : False).elim
/-- name = an object of its own -/
theorem s_asgO (G : Good X Wx e lv N sc) {i : Nat} {y : Str} {x : Expr} {m : M O} {py pos : Pos} (hy : StOk X e N i y) (h : PXc X Wx e x m) (hs : swapsWith x (some (.Name y py)) pos.line X.env = pure false) :
    PSc X Wx e (.Assign [.Name y py] x pos) (M.bnd m fun o => M.bnd (setO1 i o) fun _ => M.ret .nx) := (ps_set (i := i) G.nd (by rw [G.hN]; exact hy.1) hy.2.1 h hs hy.2.2.1).imp fun K σ H q => by
  obtain ⟨Z, B, fp, f, r, p⟩ := q
  refine S_X r p _ fun o f1 fr fp1 H1 v r1 l1 z1 nd hz ho p1 => ?_
  obtain ⟨hlt, p2⟩ := setO1_some p1
  obtain ⟨o0, h0⟩ := get_lt hlt
  have hs' : RepS e.toRE H1 (own (also Z fr) fp1) o (some v) fr := by
    cases o with
    | un => unfold RepO at ho; exact ho.elim
    | _ => exact ho
  obtain ⟨fq, r2, s2, _⟩ := r1.set h0 hs' nd hz (pin_ne r1 hy.2.2.2)
  exact p2 _ H1 fq r2 ⟨l1.trans (Le.shrink s2), z1⟩
theorem modR_some {i : Nat} {g : O → Option O} {k : Unit → M Fl} (p : PSt e Wx Z B fp H (M.bnd (modR i g) k f) K) : ∃ o o', f[i]? = some o ∧ g o = some o' ∧ PSt e Wx Z B fp H (k () (f.set i o')) K := by
  unfold M.bnd modR at p
  cases q : f[i]? with
  | none => rw [q] at p; exact (p : False).elim
  | some o =>
    rw [q] at p
    cases q2 : g o with
    | none => simp only [q2] at p; exact (p : False).elim
    | some o' => simp only [q2] at p; exact ⟨o, o', rfl, q2, p⟩
theorem chkL_some {i : Nat} {k : Unit → M Fl} (p : PSt e Wx Z B fp H (M.bnd (chkL i) k f) K) : (∃ os, f[i]? = some (.lst os)) ∧ PSt e Wx Z B fp H (k () f) K := by
  unfold M.bnd chkL at p
  cases q : f[i]? with
  | none => rw [q] at p; exact (p : False).elim
  | some o =>
    rw [q] at p
    cases o <;> first | exact (p : False).elim | exact ⟨⟨_, rfl⟩, p⟩
theorem chkS_some {i : Nat} {k : Unit → M Fl} (p : PSt e Wx Z B fp H (M.bnd (chkS i) k f) K) : (∃ o, f[i]? = some o ∧ o ≠ .un) ∧ PSt e Wx Z B fp H (k () f) K := by
  unfold M.bnd chkS at p
  cases q : f[i]? with
  | none => rw [q] at p; exact (p : False).elim
  | some o =>
    rw [q] at p
    cases o <;> first | exact (p : False).elim | exact ⟨⟨_, rfl, (fun z => by cases z)⟩, p⟩
/-- name.append(..) -/
theorem s_app (G : Good X Wx e lv N sc) {i : Nat} {x : Str} {y : Expr} {m : M O} {p1 ap cpos pos : Pos} (hi : N[i]? = some x) (hv : visB sc x = true) (ho : okName x = true) (h : PXc X Wx e y m) (hst : isStar y = false) (hl : (ap.endLine == cpos.line) = true) :
    PSc X Wx e (.Expr (.Call (.Attribute (.Name x p1) "append" ap) [y] [] cpos) pos) (M.bnd (M.bnd (chkL i) fun _ => M.bnd m fun v => modR i (appO v)) fun _ => M.ret .nx) := by
  refine (ps_expr (pe_bm PySem.F.plainAttrs_list PySem.F.slot_list_append PySem.F.type_list_append mt_append (nameVar G hi hv ho) (pa_cons h pa_nil (st_cons hst)) rfl (by rw [st_cons hst]; rfl) hl (st_cons hst) rfl) rfl).imp fun K σ H q => ?_
  obtain ⟨Z, B, fp, f, r, p⟩ := q
  rw [assocB] at p
  obtain ⟨⟨os, hos⟩, p2⟩ := chkL_some p
  obtain ⟨v0, fo0, k1, k2⟩ := r.slot hos (fun z => by cases z)
  have k2' := k2
  unfold RepO at k2'
  obtain ⟨a, xs, fq0, e1, e2, q, rs⟩ := k2'
  subst e1
  refine ⟨_, k1, .inl ⟨rfl, _, SqL.of q⟩, ?_⟩
  have p2' : PSt e Wx Z B fp H (M.bnd (M.bnd m fun v => modR i (appO v)) (fun _ => M.ret .nx) f) K := p2
  rw [assocB] at p2'
  refine S_X r p2' _ fun o f1 fr fp1 H1 v r1 l1 z1 nd hz hob p3 => ?_
  obtain ⟨o0, o', h0, hg, p4⟩ := modR_some p3
  obtain ⟨a', xs', w1, w2, w3, fq, r2, l2, z2⟩ := app_mut r1 nd hz h0 hg hob
  rw [k1] at w1
  cases w1
  exact ⟨a, xs', v, rfl, rfl, w2, small_line' (by omega), p4 _ _ fq r2 ⟨l1.trans l2, fun b zb => (z2 b zb).trans (z1 b zb)⟩⟩
/-- name[k] = .., a list -/
theorem S_E' {m : M D} {k : D → M Fl} (r : R e (also Z fr) B fp1 σ H1 f) (l : Le H (own Z fp) H1 (own (also Z fr) fp1)) (z : ∀ a, Z a → H1 a = H a) (p : PSt e Wx Z B fp H (M.bnd m k f) K) (T : VK)
    (h : ∀ d f1 fp2 H2 v, R e (also Z fr) B fp2 σ H2 f1 → Adv (also Z fr) fp1 H1 fp2 H2 → Rep e.toRE H2 (own (also Z fr) fp2) d v → PSt e Wx Z B fp H (k d f1) K → T v H2) : tE e Wx m σ H1 T := by
  refine ⟨also Z fr, B, fp1, f, r, ?_⟩
  unfold M.bnd at p
  cases q : m f with
  | ok d f1 =>
    rw [q] at p
    exact fun H2 fp2 r2 a2 v hv => h d f1 fp2 H2 v r2 a2 hv p
  | exc c fs f1 =>
    rw [q] at p
    refine fun H' fp' v dx r' a' x => p σ H' fp' v dx r'.drop ⟨(l.trans a'.le).trans (Le.shrink fun a ha => ha.elim (fun z => .inl (.inl z)) .inr), fun a za => (a'.z a (.inl za)).trans (z a za)⟩ ?_
    have sh : Le H' (own (also Z fr) fp') H' (own Z fp') := Le.shrink fun a ha => ha.elim (fun z => .inl (.inl z)) .inr
    obtain ⟨x1, x2⟩ := x
    refine ⟨x1, ?_⟩
    cases hxf : e.xfd c with
    | none => rw [hxf] at x2; exact x2
    | some ns =>
      rw [hxf] at x2
      obtain ⟨d, gs, y1, y2, y3⟩ := x2
      exact ⟨d, gs, y1, y2.le sh, y3.le sh⟩
  | bad => rw [q] at p; exact p
theorem s_setL (G : Good X Wx e lv N sc) {i : Nat} {x : Str} {y kx : Expr} {m : M O} {mk : M D} {p1 p2 pos : Pos} (hi : N[i]? = some x) (hv : visB sc x = true) (ho : okName x = true) (h : PXc X Wx e y m) (hk : PEc X Wx e kx mk)
    (hs : swapsWithSole [.Subscript (.Name x p1) kx p2] y pos.line X.env = pure false) (hw : swappedStores [.Subscript (.Name x p1) kx p2] y X.env = pure none) 
    (ha : ∀ v, assign (.Subscript (.Name x p1) kx p2) X.env v = (do
      let ov ← holding [v] (eval (.Name x p1) X.env)
      let iv ← holding [v, ov] (eval kx X.env)
      standAt p2
      holding [v, ov, iv] (setItem ov iv v)
      release [v, ov, iv] [])) :
    PSc X Wx e (.Assign [.Subscript (.Name x p1) kx p2] y pos) (M.bnd (M.bnd m fun v => M.bnd (chkS i) fun _ => M.bnd mk fun k => modR i (setKL k v)) fun _ => M.ret .nx) := by
  refine (ps_asg h (pg_sub (nameVar G hi hv ho) hk set_list ha) hs hw rfl).imp fun K σ H q => ?_
  obtain ⟨Z, B, fp, f, r, p⟩ := q
  rw [assocB] at p
  refine S_X r p _ fun o f1 fr fp1 H1 v r1 l1 z1 nd hz hob p2 => ?_
  rw [assocB] at p2
  obtain ⟨⟨o0, h0, h0'⟩, p3⟩ := chkS_some p2
  obtain ⟨v0, fo0, k1, _⟩ := r1.slot h0 h0'
  refine ⟨v0, k1, ?_⟩
  have p3' : PSt e Wx Z B fp H (M.bnd (M.bnd mk fun k => modR i (setKL k o)) (fun _ => M.ret .nx) f1) K := p3
  rw [assocB] at p3'
  refine S_E' r1 l1 z1 p3' _ fun d f2 fp2 H2 w r2 a2 hw' p4 => ?_
  obtain ⟨o1, o', g1, g2, p5⟩ := modR_some p4
  cases o1 with
  | lst os =>
    cases d with
    | int n =>
      have g2' : (match ixn os.length n with
        | some j => some (O.lst (os.set j o))
        | none => none) = some o' := g2
      cases hj : ixn os.length n with
      | none => rw [hj] at g2'; cases g2'
      | some j =>
        rw [hj] at g2'
        cases g2'
        have hz2 : ∀ a ∈ fr, ¬ Z a := hz
        obtain ⟨a, xs, w1, w2, w3, fq, r3, l3, z3⟩ := set_mut (j := j) r2 nd hz2 g1 (RepO.le (show Le H1 (own (also Z fr) fp1) H2 (own (also Z fr) fp2) from a2.le) (fun b hb => a2.z b (.inr hb)) hob)
        rw [k1] at w1
        cases w1
        unfold Rep at hw'
        refine ⟨a, xs, n, j, rfl, hw', w2, by rw [w3]; exact hj, p5 _ _ fq r3 ⟨(l1.trans a2.le).trans l3, fun b zb => ((z3 b zb).trans (a2.z b (.inl zb))).trans (z1 b zb)⟩⟩
    | _ => cases g2
  | _ => cases g2
/-! name op= .. -/
theorem ip_of {op : Operator} {C : Int → Int → Prop} {g : Int → Int → Int} (h : OpR X (inplaceOp op) (rI C fun i j => .int (g i j))) : PIp X op (fun x y H Q => ∃ i j, x = .int i ∧ y = .int j ∧ C i j ∧ Q (.int (g i j)) H) := fun pins s σ H x y v u Q I rx ry q => h pins s σ H x y v u Q I rx ry q
theorem ip_of0 {op : Operator} {g : Int → Int → Int} (h : OpR X (inplaceOp op) (rI0 fun i j => .int (g i j))) : PIp X op (fun x y H Q => ∃ i j, x = .int i ∧ y = .int j ∧ Q (.int (g i j)) H) := fun pins s σ H x y v u Q I rx ry q => h pins s σ H x y v u Q I rx ry q
theorem aug_ip (o : BOp) : PIp X (bop o) (fun x y H Q => ∃ i j d, x = .int i ∧ y = .int j ∧ augD o (.int i) (.int j) = some (.int d) ∧ Q (.int d) H) := by
  intro pins s σ H x y v u Q I rx ry ⟨i, j, d, e1, e2, h, q⟩
  cases o with
  | add => cases h; exact iop_add pins s σ H x y v u Q I rx ry ⟨i, j, e1, e2, q⟩
  | sub => cases h; exact iop_sub pins s σ H x y v u Q I rx ry ⟨i, j, e1, e2, q⟩
  | mul =>
    obtain ⟨c, h⟩ := ite_some h
    cases h
    exact iop_mul pins s σ H x y v u Q I rx ry ⟨i, j, e1, e2, big_ok c, q⟩
  | fdiv =>
    obtain ⟨c, h⟩ := ite_some h
    cases h
    exact iop_fdiv pins s σ H x y v u Q I rx ry ⟨i, j, e1, e2, c, q⟩
  | mod =>
    obtain ⟨c, h⟩ := ite_some h
    cases h
    exact iop_mod pins s σ H x y v u Q I rx ry ⟨i, j, e1, e2, c, q⟩
  | band => cases h; exact iop_and pins s σ H x y v u Q I rx ry ⟨i, j, e1, e2, q⟩
  | bor => cases h; exact iop_or pins s σ H x y v u Q I rx ry ⟨i, j, e1, e2, q⟩
  | bxor => cases h; exact iop_xor pins s σ H x y v u Q I rx ry ⟨i, j, e1, e2, q⟩
  | _ => cases h
theorem aug_int {o : BOp} {x y z : D} (h : augD o x y = some z) : ∃ i j d, x = .int i ∧ y = .int j ∧ z = .int d := by
  cases x with
  | int i =>
    cases y with
    | int j =>
      refine ⟨i, j, ?_⟩
      cases o with
      | add => cases h; exact ⟨_, rfl, rfl, rfl⟩
      | sub => cases h; exact ⟨_, rfl, rfl, rfl⟩
      | mul => obtain ⟨c, h⟩ := ite_some h; cases h; exact ⟨_, rfl, rfl, rfl⟩
      | fdiv => obtain ⟨c, h⟩ := ite_some h; cases h; exact ⟨_, rfl, rfl, rfl⟩
      | mod => obtain ⟨c, h⟩ := ite_some h; cases h; exact ⟨_, rfl, rfl, rfl⟩
      | band => cases h; exact ⟨_, rfl, rfl, rfl⟩
      | bor => cases h; exact ⟨_, rfl, rfl, rfl⟩
      | bxor => cases h; exact ⟨_, rfl, rfl, rfl⟩
      | _ => cases h
    | _ => cases h
  | _ => cases h
theorem rd_some (r : R e Z B fp σ H f) {i : Nat} {k : D → M Fl} (p : PSt e Wx Z B fp H (M.bnd (rdSlot i) k f) K) : ∃ d v f1 fq, σ[i]? = some (some v) ∧ R e Z B fq σ H f1 ∧ Rep e.toRE H (own Z fq) d v ∧ PSt e Wx Z B fq H (k d f1) K := by
  unfold M.bnd rdSlot at p
  cases hf : f[i]? with
  | none => rw [hf] at p; exact (p : False).elim
  | some ob =>
    rw [hf] at p
    by_cases hu : ob = .un
    · subst hu; exact (p : False).elim
    · obtain ⟨v, fq, g1, g2, g3, g4⟩ := r.freeze hf hu
      refine ⟨fzd ob, v, f.set i (.fz (fzd ob)), fq, g1, g3, g2, PSt.adv ?_ g4⟩
      cases ob with
      | un => exact absurd rfl hu
      | fz d =>
        cases d with
        | nil => exact (p : False).elim
        | _ =>
          unfold fzd
          rw [set_self hf]
          exact p
      | _ => exact p
theorem optB_some {α : Type} {o : Option α} {k : α → M Fl} (p : PSt e Wx Z B fp H (M.bnd (M.opt o) k f) K) : ∃ a, o = some a ∧ PSt e Wx Z B fp H (k a f) K := by
  cases o with
  | none => exact (p : False).elim
  | some a => exact ⟨a, rfl, p⟩
theorem s_aug (G : Good X Wx e lv N sc) {i : Nat} {x : Str} {y : Expr} {m : M D} {o : BOp} {p1 pos : Pos} (hx : StOk X e N i x) (h : PEc X Wx e y m) :
    PSc X Wx e (.AugAssign (.Name x p1) (bop o) y pos) (M.bnd (rdSlot i) fun x => M.bnd m fun y => M.bnd (M.opt (augD o x y)) fun z => M.bnd (setO1 i (.fz z)) fun _ => M.ret .nx) := (ps_aug (i := i) G.nd (by rw [G.hN]; exact hx.1) hx.2.1 h (aug_ip o) hx.2.2.1).imp fun K σ H q => by
  obtain ⟨Z, B, fp, f, r, p⟩ := q
  obtain ⟨d, v, f1, fq, g1, r1, g2, p1⟩ := rd_some r p
  refine ⟨v, g1, S_E r1 p1 _ fun d2 f2 fp2 H2 w r2 a2 h2 p2 => ?_⟩
  obtain ⟨z, hz, p3⟩ := optB_some p2
  obtain ⟨a, b, c, e1, e2, e3⟩ := aug_int hz
  subst e1 e2 e3
  unfold Rep at g2 h2
  obtain ⟨hlt, p4⟩ := setO1_some p3
  obtain ⟨o0, h0⟩ := get_lt hlt
  obtain ⟨fx, r3, a3⟩ := r2.setD (v := .int c) h0 rep_int (pin_ne r2 hx.2.2.2)
  exact ⟨a, b, c, g2, h2, hz, p4 _ H2 fx r3 a3⟩
/-! raise C('..') -/
theorem s_rse (G : GoodS X Wx e lv N sc) {x : Str} {c : Nat} {m : Str} {j : Nat} {p p2 p3 pos : Pos} {bmB : List Value} {Bc newId initId : String} (F : ExcBaseFacts Bc newId initId bmB) (q : PySem.W.excIn X.K (e.exc c) bmB newId = true) (gC : X.mg x = some (.ref (e.exc c)))
    (kC : PySem.W.keepIn X.K (.ref (e.exc c)) = true) (rs : Raises X (.ref (e.exc c))) (hg : glB sc x = true) (ho : okName x = true) (hx : e.xfd c = none) : PSc X Wx e (.Raise (some (.Call (.Name x p) [.Constant (.str m) j p2] [] p3)) none pos) (fun f => .exc c [.str m] f) := by
  have ho' := ho
  unfold okName at ho'
  simp only [Bool.and_eq_true, Bool.not_eq_true'] at ho'
  refine (ps_raise G.calm G.tk (pmk_own F q gC kC rs (show X.env.kindOf x = _ by rw [Env.kindOf, G.hsc]; exact glB_ok hg) ho'.1.1)).imp fun K σ H q => ?_
  obtain ⟨Z, B, fp, f, r, p⟩ := q
  exact p σ H fp _ _ r Adv.refl ⟨rfl, by rw [hx]⟩
end
end Cr

/-! A def keeps its promise. -/
namespace Cr
open PySem PySem.Spec L2
section
variable {e : RB} {Wx : WX} {P : Prg} {Φ : Calls}
theorem repFr_un {e : RE} {H : Hp} {W : OwnP} : ∀ n : Nat, RepFr e H W (List.replicate n .un) (List.replicate n none) []
  | 0 => by unfold List.replicate RepFr; exact ⟨rfl, rfl⟩
  | n + 1 => by
    rw [List.replicate_succ, List.replicate_succ]
    unfold RepFr
    exact ⟨none, _, [], [], rfl, rfl, RepS.un, repFr_un n⟩
theorem repFr_args {e : RE} {H : Hp} {W : OwnP} {n : Nat} : ∀ {os : List O} {vs : List V} {fo : List Addr}, RepOs e H W os vs fo → RepFr e H W (os ++ List.replicate n .un) (vs.map some ++ List.replicate n none) fo
  | [], vs, fo, h => by
    unfold RepOs at h
    obtain ⟨e1, e2⟩ := h
    subst e1 e2
    exact repFr_un n
  | o :: os, vs, fo, h => by
    unfold RepOs at h
    obtain ⟨x, r, f1, f2, e1, e2, h1, h2⟩ := h
    subst e1 e2
    show RepFr e H W (o :: (os ++ List.replicate n .un)) (some x :: (r.map some ++ List.replicate n none)) (f1 ++ f2)
    unfold RepFr
    refine ⟨some x, _, f1, f2, rfl, rfl, ?_, repFr_args h2⟩
    cases o with
    | un => unfold RepO at h1; exact h1.elim
    | _ => exact h1
theorem take_io {B : List (Nat × V)} {σ : L2.St} {H : Hp} : ∀ {io : List Nat} {Z : OwnP} {fp : List Addr} {f : Fr} {ws : List V}, R e Z B fp σ H f → io.Nodup → (outsOf io f).any isUn = false → PV σ io ws →
    ∃ fq rest, fp.Perm (fq ++ rest) ∧ RepOs e.toRE H (own Z fp) (outsOf io f) ws fq
  | [], Z, fp, f, ws, r, nd, hu, pv => by
    cases ws with
    | nil => exact ⟨[], fp, List.Perm.refl _, by unfold outsOf List.map RepOs; exact ⟨rfl, rfl⟩⟩
    | cons w ws => exact pv.elim
  | i :: io, Z, fp, f, ws, r, nd, hu, pv => by
    cases ws with
    | nil => exact pv.elim
    | cons w ws =>
      obtain ⟨pw, pv⟩ := pv
      have hu' : isUn (f.getD i .un) = false ∧ (outsOf io f).any isUn = false := by
        have h2 : (isUn (f.getD i .un) || (outsOf io f).any isUn) = false := hu
        simpa using h2
      have hlt : i < f.length := Decidable.byContradiction fun h => by
        have h3 := hu'.1
        rw [List.getD, List.getElem?_eq_none (by omega)] at h3
        cases h3
      have hi : f[i]? = some f[i] := by simp [hlt]
      have e0 : f.getD i .un = f[i] := by simp [List.getD, hlt]
      obtain ⟨s, fo, rest, q1, q2, q3, q4, q5, q6, q7⟩ := r.take hi
      rw [pw] at q1
      cases q1
      have nn := List.nodup_cons.mp nd
      have eo : outsOf io (f.set i .un) = outsOf io f := by
        unfold outsOf
        apply List.map_congr_left
        intro j hj
        have : i ≠ j := fun z => nn.1 (by rw [z]; exact hj)
        rw [List.getD, List.getElem?_set_ne this]; rfl
      obtain ⟨fq, rest', p2, r2⟩ := take_io (ws := ws) q7 nn.2 (by rw [eo]; exact hu'.2) pv
      refine ⟨fo ++ fq, rest', by rw [List.append_assoc]; exact q3.trans (List.Perm.append_left fo p2), ?_⟩
      show RepOs e.toRE H (own Z fp) (f.getD i .un :: outsOf io f) (w :: ws) (fo ++ fq)
      unfold RepOs
      refine ⟨w, ws, fo, fq, rfl, rfl, ?_, by rw [q6, ← eo]; exact r2⟩
      have h3 := hu'.1
      rw [e0] at h3 ⊢
      generalize f[i] = o at q2 h3
      cases o with
      | un => cases h3
      | _ => exact q2
theorem pv_pins {Z : OwnP} {B : List (Nat × V)} {fp : List Addr} {σ : L2.St} {H : Hp} {f : Fr} {vs : List V} : ∀ {io : List Nat}, R e Z B fp σ H f → (∀ i ∈ io, (i, vs.getD i .non) ∈ B) → PV σ io (ioV io vs)
  | [], _, _ => trivial
  | i :: io, r, h => ⟨r.pin _ (h i List.mem_cons_self), pv_pins r fun j hj => h j (List.mem_cons_of_mem _ hj)⟩
theorem fn_ok {prog : Program} {w : World} {mg : Str → Option Value} {base : Heap} {e0 : RE} {x qual : Str} {args : Arguments} {body : List Stmt} {scope : Scope} {fa : Addr} {fd : FuncData} {ps : List Str} {k g : Nat} {d : Dfn} {Φ' : Calls} (F : FunD e0.K x qual args body scope [] [] fa fd) (S : FnScope d.names ps scope) (hp : ps.length = d.par) (hn : d.par ≤ d.names.length) (hio : ∀ i ∈ d.io, i < d.par) (hnd : d.io.Nodup)
    (hΦ : ∀ os, Φ' g os = runD P Φ d os)
    (hb : ∀ (X : Cx) (Wx : WX), X.prog = prog → X.w = w → X.mg = mg → X.base = base → GoodS X Wx ⟨e0, d.io⟩ k d.names scope → PSsc X Wx ⟨e0, d.io⟩ body (exs P Φ d.body)) :
    FnOk prog w e0.K mg base (L2.CX prog w) (k + 1) fa fd ps (spOf e0 Φ' g d.par d.io) := by
  refine F.ok S (fun vs H Q E q => ?_) fun cdv A outer s H vs Q E hr hsp => ?_
  · obtain ⟨Z, os, fo, h1, _, _, _, h2, _⟩ := q
    rw [repOs_len h1, h2, hp]
  · obtain ⟨Z, os, fo, h1, h2, h3, h4, h5, h6⟩ := hsp
    have hvl : vs.length = d.par := by rw [repOs_len h1, h5]
    refine ⟨_, hb _ (fun cls dx _ H => E cls dx H) rfl rfl rfl rfl { calm := rfl, tk := takes_of rfl rfl rfl rfl, nd := S.nd, room := hr, hK := rfl, hN := rfl, hsc := rfl, po := passes_of rfl, fnT := fun _ => rfl, stk := rfl, frm := rfl }, ?_⟩
    have rr : R ⟨e0, d.io⟩ Z (d.io.map fun i => (i, vs.getD i .non)) fo (L2.start d.names vs) H (os ++ List.replicate (d.names.length - d.par) .un) := by
      refine ⟨?_, h2, h3, h4, fun p hp' => ?_, fun p hp' => ?_⟩
      · unfold L2.start
        rw [hvl]
        exact repFr_args h1
      · obtain ⟨i, hi, e1⟩ := List.mem_map.mp hp'
        subst e1
        have hlt : i < vs.length := by rw [hvl]; exact hio i hi
        unfold L2.start
        rw [List.getElem?_append_left (by simpa using hlt)]
        simp [List.getD, hlt]
      · obtain ⟨i, hi, e1⟩ := List.mem_map.mp hp'
        subst e1
        exact hi
    refine ⟨Z, _, fo, _, rr, ?_⟩
    have hpins : ∀ i ∈ d.io, (i, vs.getD i .non) ∈ d.io.map (fun i => (i, vs.getD i V.non)) := fun i hi => List.mem_map.mpr ⟨i, hi, rfl⟩
    rw [hΦ] at h6
    unfold runD at h6
    rw [if_pos h5] at h6
    unfold PSt
    cases hr' : exs P Φ d.body (os ++ List.replicate (d.names.length - d.par) .un) with
    | bad => rw [hr'] at h6; exact h6
    | exc c fs f =>
      rw [hr'] at h6
      intro σ' H' fp' v dx r' a' hx
      have h6' : PostC e0 Z fo H d.io vs (if (outsOf d.io f).any isUn then .bad else .exc c fs (outsOf d.io f)) Q E := h6
      cases hu : (outsOf d.io f).any isUn with
      | true => rw [hu] at h6'; exact h6'.elim
      | false =>
        rw [hu] at h6'
        obtain ⟨fq, rest, p1, r1⟩ := take_io r' hnd hu (pv_pins r' hpins)
        have mem : ∀ a ∈ fq, a ∈ fp' := fun a ha => p1.mem_iff.mpr (List.mem_append_left _ ha)
        have sh : Le H' (own Z fp') H' (own Z fq) := Le.shrink fun a ha => ha.elim .inl fun m => .inr (mem a m)
        refine h6' H' fq v dx (RepOs.le sh (fun _ _ => rfl) r1) (List.nodup_append.mp (p1.nodup_iff.mp r'.nd)).1 (fun a ha => r'.dj a (mem a ha)) (a'.le.trans sh) a'.z ?_
        obtain ⟨x1, x2⟩ := hx
        refine ⟨x1, ?_⟩
        cases hxf : e0.xfd c with
        | none => simp only [hxf] at x2 ⊢; exact x2
        | some ns =>
          simp only [hxf] at x2 ⊢
          obtain ⟨d, gs, y1, y2, y3⟩ := x2
          exact ⟨d, gs, y1, y2.le sh, y3.le sh⟩
    | ok fl f =>
      rw [hr'] at h6
      cases fl with
      | bk => exact h6.elim
      | ct => exact h6.elim
      | nx =>
        intro σ' H' fp' r' a'
        have h6' : PostC e0 Z fo H d.io vs (if (outsOf d.io f).any isUn then .bad else .ok (.fz .non) (outsOf d.io f)) Q E := h6
        cases hu : (outsOf d.io f).any isUn with
        | true => rw [hu] at h6'; exact h6'.elim
        | false =>
          rw [hu] at h6'
          obtain ⟨fq, rest, p1, r1⟩ := take_io r' hnd hu (pv_pins r' hpins)
          have mem : ∀ a ∈ fq, a ∈ fp' := fun a ha => p1.mem_iff.mpr (List.mem_append_left _ ha)
          have sh : Le H' (own Z fp') H' (own Z fq) := Le.shrink fun a ha => ha.elim .inl fun m => .inr (mem a m)
          exact h6' H' [] fq .non (by unfold RepO; exact ⟨rfl, rep_non⟩) (RepOs.le sh (fun _ _ => rfl) r1) (List.nodup_append.mp (p1.nodup_iff.mp r'.nd)).1 (fun a ha => r'.dj a (mem a ha)) (a'.le.trans sh) a'.z
      | rt o =>
        intro σ' H' fr fp' v r' l' z' nd' hz' ho
        have h6' : PostC e0 Z fo H d.io vs (if (outsOf d.io f).any isUn then .bad else .ok o (outsOf d.io f)) Q E := h6
        cases hu : (outsOf d.io f).any isUn with
        | true => rw [hu] at h6'; exact h6'.elim
        | false =>
          rw [hu] at h6'
          obtain ⟨fq, rest, p1, r1⟩ := take_io r' hnd hu (pv_pins r' hpins)
          have mem : ∀ a ∈ fq, a ∈ fp' := fun a ha => p1.mem_iff.mpr (List.mem_append_left _ ha)
          have sh : Le H' (own (also Z fr) fp') H' (own Z (fr ++ fq)) := Le.shrink fun a ha => by
            rcases ha with ha | ha
            · exact .inl (.inl ha)
            · rcases List.mem_append.mp ha with ha | ha
              · exact .inl (.inr ha)
              · exact .inr (mem a ha)
          refine h6' H' fr fq v (RepO.le sh (fun _ _ => rfl) ho) (RepOs.le sh (fun _ _ => rfl) r1) (List.nodup_append.mpr ⟨nd', (List.nodup_append.mp (p1.nodup_iff.mp r'.nd)).1, fun a ha b hb z => ?_⟩) (fun a ha => ?_) (l'.trans sh) z'
          · subst z
            exact r'.dj a (mem a hb) (.inr ha)
          · rcases List.mem_append.mp ha with ha | ha
            · exact hz' a ha
            · exact fun z => r'.dj a (mem a ha) (.inl z)
end
end Cr

/-! try .. except C as name. -/
namespace Cr
open PySem PySem.Spec L2
section
variable {X : Cx} {Wx : WX} {e : RB} {lv : Nat} {N : List Str} {sc : Scope} {P : Prg} {Φ : Calls} {Z : OwnP} {B : List (Nat × V)} {fp fp1 fr : List Addr} {σ : L2.St} {H H1 : Hp} {f : Fr} {K : Ends}
theorem GoodS.tr (G : GoodS X Wx e lv N sc) {W : WX} {pn : List (Addr × Obj)} {xe : Value → Shared → Prop} (tk : Takes (X.tr pn xe) W) (po : PassesOwn (model X.prog X.w) X.A X.env xe) : GoodS (X.tr pn xe) W e lv N sc :=
  { calm := G.calm, tk := tk, nd := G.nd, room := G.room, hK := G.hK, hN := G.hN, hsc := G.hsc, po := po, fnT := G.fnT, stk := G.stk, frm := G.frm }
theorem s_try (G : GoodS X Wx e lv N sc) {i ne : Nat} {n x : Str} {cv : Value} {cs : List Nat} {body suite : List Stmt} {b0 : Stmt} {mb : M Fl} {hh : Nat → List D → M Fl} {np pos pos' : Pos} {ts : Nat → Addr → TS}
    (hi : N[i]? = some n) (hln : X.env.kindOf n = some .local) (hio : i ∉ e.io) (hc : Names X x cv)
    (hex : ∀ c, c < ne → PySem.W.exmOne X.K (.ref (e.exc c)) cv = some (cs.contains c)) (hxf : ∀ c, c < ne → cs.contains c = true → e.xfd c = none)
    (hb : ∀ (W : WX) (pn : List (Addr × Obj)) (xe : Value → Shared → Prop), GoodS (X.tr pn xe) W e lv N sc → PSsc (X.tr pn xe) W e body mb)
    (hsu : ∀ (a : Addr) (oe : Obj) (c : Nat) (pn : List (Addr × Obj)), c < ne → cs.contains c = true → Zc (.ref (e.exc c)) none oe → (∃ vs, oe.data = .fields vs) → PSs (X.suite a ((a, oe) :: pn)) (b0 :: suite) (ts c a))
    (hts : ∀ (c : Nat) (fs : List D) (a : Addr) (K : Ends) (Z : OwnP) (B : List (Nat × V)) (fp : List Addr) (σ : L2.St) (H : Hp) (f : Fr), c < ne → cs.contains c = true → i < σ.length → R e Z B fp (σ.set i none) H f → PSt e Wx Z B fp H (hh c fs f) K →
      ts c a { nx := fun σ' H' => K.nx (σ'.set i none) H', rt := K.rt, bk := fun σ' H' => K.bk (σ'.set i none) H', ct := fun σ' H' => K.ct (σ'.set i none) H' } (σ.set i (some (.ref a))) H) :
    PSc X Wx e (.Try body [.ExceptHandler (some (.Name x np)) (some n) (b0 :: suite) pos'] [] [] pos) (tryM ne mb cs i hh) := by
  refine (ps_try_as (i := i) (tb := fun W => tS e W mb) (ts := fun a cls d K σ H => ∃ c, cls = .ref (e.exc c) ∧ d = none ∧ c < ne ∧ cs.contains c = true ∧ ts c a K σ H) G.stk G.frm G.nd (by rw [G.hN]; exact hi) hln hc G.tk (fun W pn xe tk po => hb W pn xe (G.tr tk po)) fun a oe cls d pn hz hf => ⟨fun pins s σ H K I q => ?_⟩).imp fun K σ H q => ?_
  · obtain ⟨c, e1, e2, h1, h2, h3⟩ := q
    subst e1 e2
    exact (hsu a oe c pn h1 h2 hz hf).run pins s σ H K I h3
  · obtain ⟨Z, B, fp, f, r, p⟩ := q
    refine ⟨Z, B, fp, f, r, ?_⟩
    unfold tryM at p
    cases hm : mb f with
    | bad => rw [hm] at p; exact p
    | ok x f1 =>
      rw [hm] at p
      cases x <;> exact p
    | exc c fs f1 =>
      rw [hm] at p
      intro σ' H' fp' v dx r' a' hx
      obtain ⟨e1, e2⟩ := hx
      have p' : PSt e Wx Z B fp H (if c < ne then (if cs.contains c then (if i < f1.length then hh c fs (f1.set i .un) else .bad) else .exc c fs f1) else .bad) K := p
      by_cases hne : c < ne
      · rw [if_pos hne] at p'
        refine ⟨cs.contains c, by rw [e1]; exact hex c hne, fun hb a ha => ?_, fun hb => ?_⟩
        · rw [hb, if_pos rfl] at p'
          have hd : dx = none := by rw [hxf c hne hb] at e2; exact e2
          refine ⟨c, e1, hd, hne, hb, ?_⟩
          have hl := RepFr.len r'.fr
          by_cases hlt : i < f1.length
          · rw [if_pos hlt] at p'
            obtain ⟨o0, h0⟩ := get_lt hlt
            have r0 : R e (also Z []) B fp' σ' H' f1 := by rw [also_nil]; exact r'
            obtain ⟨fq, r2, s2, _⟩ := r0.set (o' := .un) (s' := none) (fo := []) h0 RepS.un List.nodup_nil (fun a h => by cases h) (pin_ne r' hio)
            refine hts c fs a K Z B fq σ' H' _ hne hb (by omega) r2 (p'.adv (a'.trans ⟨Le.shrink fun b hb => ?_, fun _ _ => rfl⟩))
            have := s2 b hb
            rwa [also_nil] at this
          · rw [if_neg hlt] at p'; exact p'.elim
        · rw [hb, if_neg (by decide)] at p'
          exact p' σ' H' fp' v dx r' a' ⟨e1, e2⟩
      · rw [if_neg hne] at p'; exact p'.elim
/-! what the suites say -/
/-- the class that isinstance is asked about -/
structure ClsV (X : Cx) (y : Str) (cv : Value) (q : V) : Prop where
  pe : ∀ (a : Addr) (oe : Obj) (pn : List (Addr × Obj)) (p : Pos), PE (X.suite a ((a, oe) :: pn)) (.Name y p) (tC q)
  rel : ∀ u, RelV q u → u = cv
theorem pe_isE (G : GoodS X Wx e lv N sc) {i : Nat} {n y : Str} {cv2 : Value} {q2 : V} {C : Addr} {a : Addr} {oe : Obj} {pn : List (Addr × Obj)} {pi p1 p2 pc : Pos} (hi : N[i]? = some n) (hv : visB sc n = true) (hon : okName n = true) (hg : glB sc "isinstance" = true) (hm : X.mg "isinstance" = none)
    (C1 : ExcC X.K C) (hz : Zc (.ref C) none oe) (hf : ∃ vs, oe.data = .fields vs) (hy : ClsV X y cv2 q2) :
    PE (X.suite a ((a, oe) :: pn)) (.Call (.Name "isinstance" pi) [.Name n p1, .Name y p2] [] pc) (fun σ H Q => σ[i]? = some (some (.ref a)) ∧ ∃ b, PySem.W.kitOne X.K (.ref C) cv2 = some b ∧ Q (.bl b) H) := by
  have ho' := hon
  unfold okName at ho'
  simp only [Bool.and_eq_true, Bool.not_eq_true'] at ho'
  have pn' : PE (X.suite a ((a, oe) :: pn)) (.Name n p1) (tVar i) := pe_var (X := X.suite a ((a, oe) :: pn)) (i := i) (by show X.N[i]? = _; rw [G.hN]; exact hi) (by show Vis X.env.scope n; rw [G.hsc]; exact visB_ok hv) ho'.1.1 ho'.1.2
  refine (pe_callB (X := X.suite a ((a, oe) :: pn)) (call_isE C1 hz hf) (show X.env.kindOf "isinstance" = _ by rw [Env.kindOf, G.hsc]; exact glB_ok hg) hm (by decide +kernel) (pa_cons pn' (pa_cons (hy.pe a oe pn p2) pa_nil (st_cons rfl)) (st_cons rfl)) (by decide) (by decide) (st_cons rfl) rfl).imp fun σ H Q q => ?_
  obtain ⟨h1, b, h2, h3⟩ := q
  exact ⟨.ref a, h1, q2, cv2, b, rfl, hy.rel, h2, h3⟩
/-- .. as n: return isinstance(n, y) -/
theorem s_tryRet (G : GoodS X Wx e lv N sc) {i ne : Nat} {n x y : Str} {cv cv2 : Value} {q2 : V} {cs cs2 : List Nat} {body : List Stmt} {mb : M Fl} {np pos pos' pi p1 p2 pc pr : Pos}
    (hi : N[i]? = some n) (hv : visB sc n = true) (hon : okName n = true) (hg : glB sc "isinstance" = true) (hm : X.mg "isinstance" = none) (hln : X.env.kindOf n = some .local) (hio : i ∉ e.io) (hc : Names X x cv)
    (hex : ∀ c, c < ne → PySem.W.exmOne X.K (.ref (e.exc c)) cv = some (cs.contains c)) (hxf : ∀ c, c < ne → cs.contains c = true → e.xfd c = none ∧ ExcC X.K (e.exc c) ∧ PySem.W.kitOne X.K (.ref (e.exc c)) cv2 = some (cs2.contains c)) (hy : ClsV X y cv2 q2)
    (hb : ∀ (W : WX) (pn : List (Addr × Obj)) (xe : Value → Shared → Prop), GoodS (X.tr pn xe) W e lv N sc → PSsc (X.tr pn xe) W e body mb) :
    PSc X Wx e (.Try body [.ExceptHandler (some (.Name x np)) (some n) [.Return (some (.Call (.Name "isinstance" pi) [.Name n p1, .Name y p2] [] pc)) pr] pos'] [] [] pos) (tryM ne mb cs i fun c fs => runHs c fs (.ret (.isE cs2))) := by
  refine s_try G (ts := fun c a K σ H => σ[i]? = some (some (.ref a)) ∧ ∃ b, PySem.W.kitOne X.K (.ref (e.exc c)) cv2 = some b ∧ K.rt (.bl b) H) hi hln hio hc hex (fun c h1 h2 => (hxf c h1 h2).1) hb (fun a oe c pn h1 h2 hz hf => ?_) fun c fs a K Z B fp σ H f h1 h2 hl r p => ?_
  · exact pss_one (ps_ret (pe_isE G hi hv hon hg hm (hxf c h1 h2).2.1 hz hf hy))
  · refine ⟨by rw [List.getElem?_set_self hl], _, (hxf c h1 h2).2.2, ?_⟩
    exact p _ H [] fp (.bl (cs2.contains c)) (by rw [also_nil]; exact r) (by rw [also_nil]; exact Le.refl) (fun _ _ => rfl) List.nodup_nil (fun a h => by cases h) (by unfold RepO; exact ⟨rfl, rep_bl⟩)
/-- .. as n: if not isinstance(n, y): return False -/
theorem s_tryUnless (G : GoodS X Wx e lv N sc) {i ne : Nat} {n x y : Str} {cv cv2 : Value} {q2 : V} {cs cs2 : List Nat} {body : List Stmt} {mb : M Fl} {jf : Nat} {np pos pos' pi p1 p2 pc pr pn' pf pif : Pos}
    (hi : N[i]? = some n) (hv : visB sc n = true) (hon : okName n = true) (hg : glB sc "isinstance" = true) (hm : X.mg "isinstance" = none) (hln : X.env.kindOf n = some .local) (hio : i ∉ e.io) (hc : Names X x cv)
    (hex : ∀ c, c < ne → PySem.W.exmOne X.K (.ref (e.exc c)) cv = some (cs.contains c)) (hxf : ∀ c, c < ne → cs.contains c = true → e.xfd c = none ∧ ExcC X.K (e.exc c) ∧ PySem.W.kitOne X.K (.ref (e.exc c)) cv2 = some (cs2.contains c)) (hy : ClsV X y cv2 q2)
    (hb : ∀ (W : WX) (pn : List (Addr × Obj)) (xe : Value → Shared → Prop), GoodS (X.tr pn xe) W e lv N sc → PSsc (X.tr pn xe) W e body mb) :
    PSc X Wx e (.Try body [.ExceptHandler (some (.Name x np)) (some n) [.If (.UnaryOp .Not (.Call (.Name "isinstance" pi) [.Name n p1, .Name y p2] [] pc) pn') [.Return (some (.Constant (.bool false) jf pf)) pr] [] pif] pos'] [] [] pos) (tryM ne mb cs i fun c fs => runHs c fs (.unless (.isE cs2) (.bl false))) := by
  refine s_try G (ts := fun c a K σ H => σ[i]? = some (some (.ref a)) ∧ ∃ b, PySem.W.kitOne X.K (.ref (e.exc c)) cv2 = some b ∧ if b then K.nx σ H else K.rt (.bl false) H) hi hln hio hc hex (fun c h1 h2 => (hxf c h1 h2).1) hb (fun a oe c pn h1 h2 hz hf => ?_) fun c fs a K Z B fp σ H f h1 h2 hl r p => ?_
  · refine (pss_one (ps_if (pt_not (pt_val (pe_isE G hi hv hon hg hm (hxf c h1 h2).2.1 hz hf hy) (fun _ => rfl))) (pss_one (ps_ret pe_bl)) pss_nil)).imp fun K σ H q => ?_
    obtain ⟨q1, b, q2, q3⟩ := q
    refine ⟨q1, b, q2, b, rfl, ?_⟩
    cases b with
    | true => exact iteF (show K.nx σ H by simpa using q3)
    | false => exact iteT (show K.rt (.bl false) H by simpa using q3)
  · refine ⟨by rw [List.getElem?_set_self hl], _, (hxf c h1 h2).2.2, ?_⟩
    have p' : PSt e Wx Z B fp H ((if cs2.contains c then M.ret Fl.nx else M.ret (Fl.rt (.fz (.bl false)))) f) K := by
      have e1 : runHs c fs (.unless (.isE cs2) (.bl false)) f = (if cs2.contains c then M.ret Fl.nx else M.ret (Fl.rt (.fz (.bl false)))) f := by
        show (if cs2.contains c then M.ret Fl.nx else M.bnd (M.opt (evHE c fs (.bl false))) fun d => M.ret (.rt (.fz d))) f = _
        cases cs2.contains c <;> rfl
      rw [← e1]
      exact p
    cases hb2 : cs2.contains c with
    | true =>
      rw [hb2] at p'
      simp only [if_true]
      rw [List.set_set]
      exact p' _ H fp r Adv.refl
    | false =>
      rw [hb2] at p'
      simp only [Bool.false_eq_true, if_false]
      exact p' _ H [] fp (.bl false) (by rw [also_nil]; exact r) (by rw [also_nil]; exact Le.refl) (fun _ _ => rfl) List.nodup_nil (fun a h => by cases h) (by unfold RepO; exact ⟨rfl, rep_bl⟩)
end
end Cr

/-! Fields set; two or three names at once; list(range(..)). -/
namespace Cr
open PySem PySem.Spec L2
section
variable {X : Cx} {Wx : WX} {e : RB} {lv : Nat} {N : List Str} {sc : Scope} {P : Prg} {Φ : Calls} {Z : OwnP} {B : List (Nat × V)} {fp fp1 fr : List Addr} {σ : L2.St} {H H1 : Hp} {f : Fr} {K : Ends}
theorem repOF_put {e : RE} {W : OwnP} {x : Str} {v : V} : ∀ {os : List O} {ns : List Str} {gs : List (Str × V)} {fq : List Addr}, RepOF e H W os ns gs fq → x ∉ ns → RepOF e H W os ns (putF x v gs) fq
  | [], ns, gs, fq, h, _ => by
    unfold RepOF at h ⊢
    exact h
  | o :: os, ns, gs, fq, h, hx => by
    unfold RepOF at h ⊢
    obtain ⟨n, r, f1, f2, e1, e2, h1, h2⟩ := h
    subst e1
    refine ⟨n, r, f1, f2, rfl, e2, ?_, repOF_put h2 fun m => hx (List.mem_cons_of_mem _ m)⟩
    rcases h1 with h1 | ⟨w, h1, h3⟩
    · exact .inl h1
    · refine .inr ⟨w, ?_, h3⟩
      rw [lookup_putF, if_neg (fun z => hx (by rw [← z]; exact List.mem_cons_self))]
      exact h1
theorem repOF_set {e : RE} {W : OwnP} {x : Str} {v : V} {ov : O} : ∀ {os : List O} {ns : List Str} {gs : List (Str × V)} {fq fr : List Addr} {j : Nat}, RepOF e H W os ns gs fq → ns[j]? = some x → ns.Nodup → RepO e H W ov v fr → (fq ++ fr).Nodup →
    ∃ fx, RepOF e H W (os.set j ov) ns (putF x v gs) fx ∧ (∀ b ∈ fx, b ∈ fq ∨ b ∈ fr) ∧ fx.Nodup
  | [], ns, gs, fq, fr, j, h, hj, nd, ho, nn => by
    unfold RepOF at h
    obtain ⟨e1, e2⟩ := h
    subst e1
    simp at hj
  | o :: os, ns, gs, fq, fr, 0, h, hj, nd, ho, nn => by
    unfold RepOF at h
    obtain ⟨n, r, f1, f2, e1, e2, h1, h2⟩ := h
    subst e1 e2
    have e3 : n = x := Option.some.inj hj
    subst e3
    have n1 := List.nodup_append.mp nn
    have n2 := List.nodup_append.mp n1.1
    refine ⟨fr ++ f2, ?_, fun b hb => ?_, List.nodup_append.mpr ⟨n1.2.1, n2.2.1, fun b hb c hc z => ?_⟩⟩
    · show RepOF e H W (ov :: os) (n :: r) (putF n v gs) (fr ++ f2)
      unfold RepOF
      exact ⟨n, r, fr, f2, rfl, rfl, .inr ⟨v, by rw [lookup_putF, if_pos rfl], ho⟩, repOF_put h2 (List.nodup_cons.mp nd).1⟩
    · rcases List.mem_append.mp hb with hb | hb
      · exact .inr hb
      · exact .inl (List.mem_append_right _ hb)
    · subst z
      exact n1.2.2 b (List.mem_append_right _ hc) b hb rfl
  | o :: os, ns, gs, fq, fr, j + 1, h, hj, nd, ho, nn => by
    unfold RepOF at h
    obtain ⟨n, r, f1, f2, e1, e2, h1, h2⟩ := h
    subst e1 e2
    have n1 := List.nodup_append.mp nn
    have n2 := List.nodup_append.mp n1.1
    have hj' : r[j]? = some x := by simpa using hj
    have hne : n ≠ x := fun z => (List.nodup_cons.mp nd).1 (by rw [z]; exact List.mem_of_getElem? hj')
    obtain ⟨fx, g1, g2, g3⟩ := repOF_set (j := j) h2 hj' (List.nodup_cons.mp nd).2 ho (List.nodup_append.mpr ⟨n2.2.1, n1.2.1, fun b hb c hc z => n1.2.2 b (List.mem_append_right _ hb) c hc z⟩)
    refine ⟨f1 ++ fx, ?_, fun b hb => ?_, List.nodup_append.mpr ⟨n2.1, g3, fun b hb c hc z => ?_⟩⟩
    · show RepOF e H W (o :: os.set j ov) (n :: r) (putF x v gs) (f1 ++ fx)
      unfold RepOF
      refine ⟨n, r, f1, fx, rfl, rfl, ?_, g1⟩
      rcases h1 with h1 | ⟨w, h1, h3⟩
      · exact .inl h1
      · exact .inr ⟨w, by rw [lookup_putF, if_neg hne]; exact h1, h3⟩
    · rcases List.mem_append.mp hb with hb | hb
      · exact .inl (List.mem_append_left _ hb)
      · exact (g2 b hb).elim (fun m => .inl (List.mem_append_right _ m)) .inr
    · subst z
      rcases g2 b hc with m | m
      · exact n2.2.2 b hb b m rfl
      · exact n1.2.2 b (List.mem_append_left _ hb) b m rfl
theorem keyOk_put {ns : List Str} {x : Str} {v : V} : ∀ {gs : List (Str × V)}, KeyOk ns gs → x ∈ ns → KeyOk ns (putF x v gs) ∧ ∀ g, g ∈ (putF x v gs).map (·.1) → g = x ∨ g ∈ gs.map (·.1)
  | [], _, hx => ⟨⟨by simp [putF], fun p hp => by
      have : p = (x, v) := by simpa [putF] using hp
      rw [this]; exact hx⟩, fun g hg => .inl (by simpa [putF] using hg)⟩
  | (k, w) :: r, h, hx => by
    have h1 : KeyOk ns r := ⟨(List.nodup_cons.mp (by simpa using h.1)).2, fun p hp => h.2 p (List.mem_cons_of_mem _ hp)⟩
    have hk : k ∉ r.map (·.1) := (List.nodup_cons.mp (by simpa using h.1)).1
    rw [show putF x v ((k, w) :: r) = (if k = x then (k, v) :: r else (k, w) :: putF x v r) from rfl]
    by_cases q : k = x
    · rw [if_pos q]
      refine ⟨⟨by simpa using h.1, fun p hp => ?_⟩, fun g hg => .inr (by simpa using hg)⟩
      rcases List.mem_cons.mp hp with hp | hp
      · rw [hp]; exact h.2 (k, w) List.mem_cons_self
      · exact h1.2 p hp
    · rw [if_neg q]
      obtain ⟨i1, i2⟩ := keyOk_put (x := x) (v := v) h1 hx
      refine ⟨⟨?_, fun p hp => ?_⟩, fun g hg => ?_⟩
      · rw [List.map_cons]
        refine List.nodup_cons.mpr ⟨fun m => ?_, i1.1⟩
        rcases i2 k m with z | z
        · exact q z
        · exact hk z
      · rcases List.mem_cons.mp hp with hp | hp
        · rw [hp]; exact h.2 (k, w) List.mem_cons_self
        · exact i1.2 p hp
      · rw [List.map_cons] at hg ⊢
        rcases List.mem_cons.mp hg with z | z
        · exact .inr (List.mem_cons.mpr (.inl z))
        · exact (i2 g z).elim .inl fun m => .inr (List.mem_cons_of_mem _ m)
theorem nodup_sub : ∀ {xs ys : List Str}, xs.Nodup → (∀ x ∈ xs, x ∈ ys) → xs.length ≤ ys.length
  | [], ys, _, _ => Nat.zero_le _
  | x :: xs, ys, nd, h => by
    have n := List.nodup_cons.mp nd
    have := nodup_sub (xs := xs) (ys := ys.erase x) n.2 fun y hy => (List.mem_erase_of_ne (fun z => n.1 (by rw [← z]; exact hy))).mpr (h y (List.mem_cons_of_mem _ hy))
    rw [List.length_erase_of_mem (h x List.mem_cons_self)] at this
    have : 0 < ys.length := List.length_pos_of_mem (h x List.mem_cons_self)
    rw [List.length_cons]
    omega
theorem fset_mut (T : Tab P e.toRE) (r : R e (also Z fr) B fp σ H f) (nfr : fr.Nodup) (zfr : ∀ a ∈ fr, ¬ Z a) {i : Nat} {o o' ov : O} {x : Str} {v : V} (hi : f[i]? = some o) (hg : fsetO P x ov o = some o') (hv : RepO e.toRE H (own (also Z fr) fp) ov v fr) :
    ∃ a C dx gs, σ[i]? = some (some (.ref a)) ∧ H a = some (.ins C dx gs) ∧ L2.Cls e.K C ∧ NoAttr e.K C x ∧ gs.length < 1000 ∧ ∃ fq, R e Z B fq σ (upd H a (.ins C dx (putF x v gs))) (f.set i o') ∧ Le H (own (also Z fr) fp) (upd H a (.ins C dx (putF x v gs))) (own Z fq) ∧ ∀ b, Z b → upd H a (.ins C dx (putF x v gs)) b = H b := by
  cases o with
  | ins c fs =>
    have hg' : (match fpos (clsFields P c) x with
      | some j => if j < fs.length then some (O.ins c (fs.set j ov)) else none
      | none => none) = some o' := hg
    cases hp : fpos (clsFields P c) x with
    | none => rw [hp] at hg'; cases hg'
    | some j =>
      simp only [hp] at hg'
      obtain ⟨hlt, e0⟩ := ite_some hg'
      subst e0
      obtain ⟨m1, m2⟩ := fpos_mem hp
      unfold clsFields at m1 m2
      cases hk : P.classes[c]? with
      | none => simp [hk] at m2
      | some kc =>
        simp only [hk] at m1 m2
        obtain ⟨t1, t2, t3, t4, t5⟩ := T.cls c kc hk
        obtain ⟨a, fo, k1, k2, k3, k4, k5⟩ := r.mut nfr zfr hi rfl
        unfold RepO at k2
        obtain ⟨a', dx, gs, fq0, e1, e2, q, rs, ko⟩ := k2
        cases e1
        cases e2
        have n2 := List.nodup_cons.mp k3
        rw [t1] at rs ko
        have lU : Le H (own (also Z fr) fp) (upd H a (.ins (e.cls c) dx (putF x v gs))) (own (also Z fr) fp) := ⟨fun b u n c => ⟨n, by unfold cont at c ⊢; rw [upd_ne (fun z => n (by rw [z]; exact k4))]; exact c⟩⟩
        have rs2 := RepOF.le lU (fun b hb => upd_ne fun z => n2.1 (List.mem_append_left _ (by rw [← z]; exact hb))) rs
        obtain ⟨fx, g1, g2, g3⟩ := repOF_set (x := x) rs2 m1 t5 (repO_upd k4 (fun m => n2.1 (List.mem_append_right _ m)) hv) n2.2
        refine ⟨a, e.cls c, dx, gs, k1, q, t2, t3 x m2, ?_, k5 (.ins (e.cls c) dx (putF x v gs)) (.ins c (fs.set j ov)) (a :: fx) (fun b hb => ?_) (List.nodup_cons.mpr ⟨fun m => ?_, g3⟩) (fun z => by cases z) ?_⟩
        · have := nodup_sub ko.1 (ys := kc.fields) fun g hg => by
            obtain ⟨p, hp, e3⟩ := List.mem_map.mp hg
            rw [← e3]; exact ko.2 p hp
          rw [List.length_map] at this
          omega
        · rcases List.mem_cons.mp hb with hb | hb
          · exact .inl hb
          · exact .inr (g2 b hb)
        · exact n2.1 (List.mem_append.mpr (g2 a m))
        · unfold RepO
          exact ⟨a, dx, _, fx, rfl, rfl, upd_same, by rw [t1]; exact g1, by rw [t1]; exact (keyOk_put ko m2).1⟩
  | _ => cases hg
/-- name.x = .. -/
theorem s_fset (T : Tab P e.toRE) (G : Good X Wx e lv N sc) {i : Nat} {n x : Str} {y : Expr} {m : M O} {p1 p2 pos : Pos} (hi : N[i]? = some n) (hv : visB sc n = true) (ho : okName n = true) (h : PXc X Wx e y m) (hs : swapsWith y (some (.Attribute (.Name n p1) x p2)) pos.line X.env = pure false) :
    PSc X Wx e (.Assign [.Attribute (.Name n p1) x p2] y pos) (M.bnd (M.bnd m fun v => M.bnd (chkS i) fun _ => modR i (fsetO P x v)) fun _ => M.ret .nx) := by
  refine (ps_fld (nameVar G hi hv ho) h hs).imp fun K σ H q => ?_
  obtain ⟨Z, B, fp, f, r, p⟩ := q
  rw [assocB] at p
  refine S_X r p _ fun o f1 fr fp1 H1 v r1 l1 z1 nd hz hob p2 => ?_
  rw [assocB] at p2
  obtain ⟨⟨o0, h0, h0'⟩, p3⟩ := chkS_some p2
  obtain ⟨o1, o', g1, g2, p5⟩ := modR_some p3
  obtain ⟨a, C, dx, gs, w1, w2, w3, w4, w5, fq, r2, l2, z2⟩ := fset_mut T r1 nd hz g1 g2 hob
  refine ⟨_, w1, a, C, dx, gs, rfl, w2, by rw [G.hK]; exact w3, by rw [G.hK]; exact w4, w5, p5 _ _ fq r2 ⟨l1.trans l2, fun b zb => (z2 b zb).trans (z1 b zb)⟩⟩
/-- a, b = x, y of two local names -/
theorem s_par2 (G : Good X Wx e lv N sc) {i j : Nat} {n n2 : Str} {a b : Expr} {ms : M (List D)} {px py pt pos : Pos} {kt k2 : Nat} {pt2 : Pos} (h1 : StOk X e N i n) (h2 : StOk X e N j n2) (hij : i ≠ j) (hx : X.env.scope.names.lookup n = some .local) (hy : X.env.scope.names.lookup n2 = some .local)
    (h : PA X [a, b] (tA e Wx ms)) (hw : swappedStores [.Tuple [.Name n px, .Name n2 py] kt pt] (.Tuple [a, b] k2 pt2) X.env = pure (some [n, n2])) :
    PSc X Wx e (.Assign [.Tuple [.Name n px, .Name n2 py] kt pt] (.Tuple [a, b] k2 pt2) pos) (M.bnd (M.bnd ms fun ds => M.ret (.tup ds)) fun d => M.bnd (setM (.tup [i, j]) d) fun _ => M.ret .nx) := by
  refine (ps_par G.calm G.nd (by rw [G.hN]; exact h1.1) (by rw [G.hN]; exact h2.1) hij hx hy h hw rfl).imp fun K σ H q => ?_
  obtain ⟨Z, B, fp, f, r, p⟩ := q
  rw [assocB] at p
  refine S_A r p _ fun ds f1 fp1 H1 vs r1 a1 hr p1 => ?_
  have p1' : PSt e Wx Z B fp1 H1 (M.bnd (setM (.tup [i, j]) (.tup ds)) (fun _ => M.ret .nx) f1) K := p1
  obtain ⟨f', hs, p2⟩ := setM_some p1'
  have hs' : setNames [i, j] ds f1 = some f' := hs
  have hl := setNames_len hs'
  match ds, hl, hr, hs' with
  | [d1, d2], _, hr, hs' =>
    unfold Reps at hr
    obtain ⟨v, vr, e1, g1, hr1⟩ := hr
    unfold Reps at hr1
    obtain ⟨w, wr, e2, g2, hr2⟩ := hr1
    unfold Reps at hr2
    subst hr2
    subst e2
    subst e1
    have e3 : (if i < f1.length then (if j < (f1.set i (.fz d1)).length then some ((f1.set i (.fz d1)).set j (.fz d2)) else none) else none) = some f' := hs'
    by_cases hlt : i < f1.length
    · rw [if_pos hlt] at e3
      obtain ⟨hlt2, e4⟩ := ite_some e3
      subst e4
      obtain ⟨o0, h0⟩ := get_lt hlt
      obtain ⟨fq, r2, a2⟩ := r1.setD h0 g1 (pin_ne r1 h1.2.2.2)
      obtain ⟨o3, h3⟩ := get_lt hlt2
      obtain ⟨fq2, r3, a3⟩ := r2.setD h3 (g2.le a2.le) (pin_ne r2 h2.2.2.2)
      exact ⟨v, w, rfl, p2 _ H1 fq2 r3 (a2.trans a3)⟩
    · rw [if_neg hlt] at e3; cases e3
end
end Cr

/-! Dict comprehensions, keys ints or texts. -/
namespace Cr
open PySem PySem.Spec L2
theorem dc_it {J : L2.It} {n : Nat} {G : Hp → Prop} {Y : Nat → Hp → V → Hp → Prop} (w : Walk J n G Y) {g : TG} {tt : TT} {tk tv : TE} {vs : List Nat} {σ : L2.St} {H1 : Hp} {Dd : Addr} {Qd : Hp → Prop} (Pv : Nat → Hp → Prop) (h0 : Pv 0 (upd H1 Dd (.dK []))) (hG : ∀ i H, i ≤ n → Pv i H → G H)
    (hs : ∀ i x H H', i < n → Pv i H → Y i H x H' → g x (L2.wipe σ vs) H' fun σ2 H2 => L2.wipe σ2 vs = L2.wipe σ vs ∧ tt σ2 H2 fun b H3 =>
      if b = true then tk σ2 H3 fun y H4 => tv σ2 H4 fun z H5 => ∃ kvs k, y = kV k ∧ H5 Dd = some (.dK kvs) ∧ kvs.length < sizeLine ∧ Pv (i + 1) (upd H5 Dd (.dK (putK kvs k z))) else Pv (i + 1) H3) (hd : ∀ H, Pv n H → Qd H) :
    ∃ W : Nat → Nat → Hp → Prop, (∃ m, W 0 m (upd H1 Dd (.dK []))) ∧ ∀ i m H, W i m H →
      (J.stop i H ∧ Qd H) ∨ (J.go i H ∧ ∃ Nx : Hp → Prop, (∀ H', Nx H' → ∃ m', m' < m ∧ W (i + 1) m' H') ∧ ∀ x H', J.yld i H x H' → g x (L2.wipe σ vs) H' fun σ2 H2 => L2.wipe σ2 vs = L2.wipe σ vs ∧ tt σ2 H2 fun b H3 =>
        if b = true then tk σ2 H3 fun y H4 => tv σ2 H4 fun z H5 => ∃ kvs k, y = kV k ∧ H5 Dd = some (.dK kvs) ∧ kvs.length < sizeLine ∧ Nx (upd H5 Dd (.dK (putK kvs k z))) else Nx H3) := by
  refine ⟨fun i m H => m = n - i ∧ i ≤ n ∧ Pv i H, ⟨n, by simp, Nat.zero_le _, h0⟩, ?_⟩
  rintro i m H ⟨rfl, hi, p⟩
  have q := hG i H hi p
  by_cases hlt : i < n
  · exact .inr ⟨w.goes i H hlt q, Pv (i + 1), fun H' p' => ⟨n - (i + 1), by omega, rfl, hlt, p'⟩, fun x H' y => hs i x H H' hlt p (w.yields i H x H' hlt q y)⟩
  · have e : i = n := by omega
    subst e
    exact .inl ⟨w.stops H q, hd H p⟩
section
variable {X : Cx} {Wx : WX} {e : RB} {lv : Nat} {N : List Str} {sc : Scope} {P : Prg} {Φ : Calls}
theorem any_keys {κ : Type} [DecidableEq κ] (kvs : List (κ × V)) (k : κ) : (kvs.any fun kv => decide (kv.1 = k)) = khas (kvs.map (·.1)) k := by
  unfold khas
  rw [List.any_map]
  rfl
theorem map_repl {κ : Type} [DecidableEq κ] {e : RE} {H : Hp} {W : OwnP} {k : κ} {d : D} {v : V} (hv : Rep e H W d v) : ∀ {kvs : List (κ × V)} {ds : List D}, Reps e H W ds (kvs.map (·.2)) →
    (kvs.map fun kv => if kv.1 = k then (kv.1, v) else kv).map (·.1) = kvs.map (·.1) ∧ Reps e H W (krepl (kvs.map (·.1)) ds k d) ((kvs.map fun kv => if kv.1 = k then (kv.1, v) else kv).map (·.2))
  | [], ds, h => by
    have e1 : ds = [] := by
      cases ds with
      | nil => rfl
      | cons a b => unfold Reps at h; obtain ⟨_, _, e1, _⟩ := h; cases e1
    subst e1
    exact ⟨rfl, Reps.nil⟩
  | (k', w) :: r, ds, h => by
    cases ds with
    | nil => unfold Reps at h; cases h
    | cons d0 ds =>
      rw [List.map_cons] at h
      unfold Reps at h
      obtain ⟨x, q, e1, h1, h2⟩ := h
      obtain ⟨e2, e3⟩ := List.cons.inj e1
      subst e2 e3
      obtain ⟨i1, i2⟩ := map_repl (k := k) hv h2
      have ek : krepl (((k', w) :: r).map (·.1)) (d0 :: ds) k d = (if k' = k then d else d0) :: krepl (r.map (·.1)) ds k d := rfl
      rw [ek]
      by_cases q : k' = k
      · refine ⟨?_, ?_⟩
        · rw [List.map_cons, List.map_cons, if_pos q, i1]; rfl
        · rw [List.map_cons, List.map_cons, if_pos q, if_pos q]
          exact Reps.cons hv i2
      · refine ⟨?_, ?_⟩
        · rw [List.map_cons, List.map_cons, if_neg q, i1]; rfl
        · rw [List.map_cons, List.map_cons, if_neg q, if_neg q]
          exact Reps.cons h1 i2
theorem put_rep {κ : Type} [DecidableEq κ] {e : RE} {H : Hp} {W : OwnP} {k : κ} {d : D} {v : V} {kvs : List (κ × V)} {ds : List D} (hv : Rep e H W d v) (h : Reps e H W ds (kvs.map (·.2))) :
    (putK kvs k v).map (·.1) = (kput (kvs.map (·.1)) ds k d).1 ∧ Reps e H W (kput (kvs.map (·.1)) ds k d).2 ((putK kvs k v).map (·.2)) := by
  unfold putK kput
  rw [any_keys]
  cases hh : khas (kvs.map (·.1)) k with
  | true =>
    rw [if_pos rfl, if_pos rfl]
    exact map_repl hv h
  | false =>
    rw [if_neg (by decide), if_neg (by decide)]
    rw [List.map_append, List.map_append]
    exact ⟨rfl, h.app (Reps.cons hv Reps.nil)⟩
theorem dputs_app {tk : Bool} : ∀ {a b : List (D × D)} {x : D}, dputs tk (a ++ b) x = (match dputs tk a x with | some y => dputs tk b y | none => none)
  | [], b, x => rfl
  | (k, v) :: a, b, x => by
    have e1 : ∀ c : List (D × D), dputs tk ((k, v) :: c) x = (match dput tk x k v with | some acc' => dputs tk c acc' | none => none) := fun _ => rfl
    rw [List.cons_append, e1, e1]
    cases dput tk x k v with
    | none => rfl
    | some y => exact dputs_app
theorem dput_K {ks : List Ky} {vs : List D} {k v d : D} (h : dput false (.dK ks vs) k v = some d) : ∃ k', keyOf k = some k' ∧ d = .dK (kput ks vs k' v).1 (kput ks vs k' v).2 := by
  have h' : (match keyOf k with
    | some k => some (D.dK (kput ks vs k v).1 (kput ks vs k v).2)
    | none => none) = some d := h
  cases q : keyOf k with
  | none => rw [q] at h'; cases h'
  | some k' => rw [q] at h'; cases h'; exact ⟨k', rfl, rfl⟩
theorem dputs_K : ∀ {ps : List (D × D)} {ks : List Ky} {vs : List D} {d : D}, dputs false ps (.dK ks vs) = some d → ∃ ks' vs', d = .dK ks' vs'
  | [], ks, vs, d, h => by cases h; exact ⟨ks, vs, rfl⟩
  | (k, v) :: ps, ks, vs, d, h => by
    have h' : (match dput false (.dK ks vs) k v with | some acc' => dputs false ps acc' | none => none) = some d := h
    cases q : dput false (.dK ks vs) k v with
    | none => rw [q] at h'; cases h'
    | some d1 =>
      rw [q] at h'
      obtain ⟨k', _, e1⟩ := dput_K q
      subst e1
      exact dputs_K h'
def dcT (own : List Nat) (tg : Tg) (mt : M Bool) (mk mv : M D) : D → M (List (D × D)) := fun d => M.bnd (clrM own) fun _ => M.bnd (setM tg d) fun _ => M.bnd mt fun k => if k then M.bnd mk fun x => M.bnd mv fun y => M.ret [(x, y)] else M.ret []
theorem dcT_can {own : List Nat} {tg : Tg} {mt : M Bool} {mk mv : M D} : ∀ {l : List D} {f f3 : Fr} {ys : List (D × D)}, lcLoop (dcT own tg mt mk mv) l f = .ok ys f3 → canWipe own f3 = true → canWipe own f = true
  | [], f, f3, ys, h, c => by cases h; exact c
  | d :: l, f, f3, ys, h, c => by
    obtain ⟨r, f2, rest, h1, _⟩ := loop_cons h
    obtain ⟨_, _, h2, _⟩ := bnd_ok h1
    exact (clr_ok h2).1
structure DcI (e : RB) (Z : OwnP) (B : List (Nat × V)) (σ : L2.St) (own' : List Nat) (fp1 : List Addr) (H1 : Hp) (Dd : Addr) (turn : D → M (List (D × D))) (xs : List D) (ys : List (D × D)) (f3 : Fr) (i : Nat) (H : Hp) (fp2 : List Addr) (f2 : Fr) (accP : List (D × D)) (ds : List D) (kvs : List (L2.Key × V)) (rest : List (D × D)) : Prop where
  r : R e (also Z [Dd]) B fp2 (L2.wipe σ own') H (wipeF own' f2)
  le : Le H1 (own Z fp1) H (own (also Z [Dd]) fp2)
  z : ∀ a, Z a → H a = H1 a
  at' : H Dd = some (.dK kvs)
  rs : Reps e.toRE H (own (also Z [Dd]) fp2) ds (kvs.map (·.2))
  put : dputs false accP (.dK [] []) = some (.dK (kvs.map (·.1)) ds)
  len : kvs.length ≤ accP.length
  run : lcLoop turn (xs.drop i) f2 = .ok rest f3
  can : canWipe own' f2 = true
  eq : accP ++ rest = ys
theorem dc_read {tg : Tg} {mi : M (List D)} {mt : M Bool} {mk mv : M D} {vs : List Nat} (hio : ∀ i ∈ vs, i ∉ e.io) (htg : ∀ i ∈ tgSlots tg, i ∈ vs) {σ : L2.St} {H : Hp} {Q : VK}
    (q : tE e Wx (M.bnd mi fun xs => M.bnd (block vs (lcLoop (dcT vs tg mt mk mv) xs)) fun ys => M.opt (dcFin false ys)) σ H Q) : tDc (tI e Wx mi) (tG e tg) (tT e W0 mt) (tE e W0 mk) (tE e W0 mv) vs σ H Q := by
  obtain ⟨Z, B, fp, f, r, p⟩ := q
  refine tI_seq r p _ fun xs f1 fp1 H1 J r1 a1 hJ p1 => ?_
  intro Dd hDd
  obtain ⟨ys, f4, hb⟩ := (block_no (own := vs) (m := lcLoop (dcT vs tg mt mk mv) xs) (f := f1)).resolve_right fun hb => by
    unfold M.bnd at p1
    rw [hb] at p1
    exact p1
  have p2 : PM e Wx Z B fp1 σ H1 (M.opt (dcFin false ys) f4) (fun d _ fp' H' => ∀ v, Rep e.toRE H' (own Z fp') d v → Q v H') := by
    unfold M.bnd at p1
    rw [hb] at p1
    exact p1
  clear p1
  obtain ⟨dd, hdd, p3⟩ := p2.opt
  clear p2
  unfold dcFin at hdd
  have hlen : ys.length ≤ 100000 := Decidable.byContradiction fun hlen => by
    rw [if_neg hlen] at hdd; cases hdd
  rw [if_pos hlen] at hdd
  have hdd' : dputs false ys (.dK [] []) = some dd := hdd
  obtain ⟨f3, hrun, c1, c3, e4⟩ := block_ok hb
  subst e4
  refine dc_it hJ (fun i H => ∃ fp2 f2 accP ds kvs rest, DcI e Z B σ vs fp1 H1 Dd (dcT vs tg mt mk mv) xs ys f3 i H fp2 f2 accP ds kvs rest) ?_ ?_ ?_ ?_
  · obtain ⟨r2, l2⟩ := r1.new (o := .dK []) hDd
    obtain ⟨fq, r3, p3⟩ := r2.wipe (vs := vs) c1 hio
    exact ⟨fq, f1, [], [], [], ys, r3, by rw [own_perm p3]; exact l2, fun a za => upd_ne (fun z => r1.zin a za (by rw [z]; exact hDd)), upd_same, Reps.nil, rfl, Nat.le_refl _, hrun, c1, rfl⟩
  · rintro i H2 hi2 ⟨fp2, f2, accP, ds, kvs, rest, I⟩
    exact ⟨_, I.r.there, I.le⟩
  · rintro i x H2 H3 hi2 ⟨fp2, f2, accP, ds, kvs, rest, I⟩ ⟨sm, hy⟩
    obtain ⟨d, hd, rd⟩ := hy _ I.r.there I.le
    have hdrop : xs.drop i = d :: xs.drop (i + 1) := by
      have hlt : i < xs.length := hi2
      rw [List.drop_eq_getElem_cons hlt]
      have : xs[i]? = some xs[i] := by simp [hlt]
      rw [hd] at this
      cases this
      rfl
    have run := I.run
    rw [hdrop] at run
    obtain ⟨rr, g4, rest', t1, t2, t3⟩ := loop_cons run
    obtain ⟨_, g0, k1, k2⟩ := bnd_ok t1
    obtain ⟨_, e0⟩ := clr_ok k1
    subst e0
    obtain ⟨_, g1, k3, k4⟩ := bnd_ok k2
    obtain ⟨kk, g2, k5, k6⟩ := bnd_ok k4
    have r3 := I.r.same sm
    have can4 : canWipe vs g4 = true := dcT_can t2 c3
    have zD : also Z [Dd] Dd := .inr (List.mem_singleton.mpr rfl)
    refine ⟨also Z [Dd], B, fp2, wipeF vs f2, d, r3, rd.le Le.refl, g1, set_ok k3, fun σ2 fp3 r4 a4 w4 => ?_⟩
    have ew2 : L2.wipe σ2 vs = L2.wipe σ vs := (w4 vs htg).trans (wipe_wipe σ vs)
    refine ⟨ew2, also Z [Dd], B, fp3, g1, r4, ?_⟩
    rw [k5]
    intro H4 fp4 r5 a5
    have aa := (Adv.same (Z := also Z [Dd]) (fp := fp2) sm I.r.zin).trans (a4.trans a5)
    cases kk with
    | false =>
      have k6' : M.ret [] g2 = .ok rr g4 := k6
      cases k6'
      obtain ⟨fq, r6, p6⟩ := r5.wipe (vs := vs) can4 hio
      rw [ew2] at r6
      exact iteF ⟨fq, _, accP, ds, kvs, rest', r6, by rw [own_perm p6]; exact I.le.trans aa.le, fun a za => (aa.z a (.inl za)).trans (I.z a za), by rw [aa.z Dd zD]; exact I.at', by rw [own_perm p6]; exact I.rs.le aa.le, I.put, I.len, t2, can4, by rw [← I.eq, t3]; rfl⟩
    | true =>
      have k6' : M.bnd mk (fun x => M.bnd mv fun y => M.ret [(x, y)]) g2 = .ok rr g4 := k6
      obtain ⟨kd, g3, m1, m2⟩ := bnd_ok k6'
      obtain ⟨vd, g5, m3, m4⟩ := bnd_ok m2
      cases m4
      refine iteT ⟨also Z [Dd], B, fp4, g2, r5, ?_⟩
      rw [m1]
      intro H5 fp5 r6 a6 kv hkv
      refine ⟨also Z [Dd], B, fp5, g3, r6, ?_⟩
      rw [m3]
      intro H6 fp6 r7 a7 vv hvv
      have ab := aa.trans (a6.trans a7)
      -- the pairs so far, one more
      have eq5 : (accP ++ [(kd, vd)]) ++ rest' = ys := by rw [List.append_assoc, ← I.eq, t3]
      have hall := hdd'
      rw [← eq5, dputs_app] at hall
      cases hpre : dputs false (accP ++ [(kd, vd)]) (.dK [] []) with
      | none => rw [hpre] at hall; cases hall
      | some d1 =>
        have hpre' := hpre
        rw [dputs_app, I.put] at hpre'
        have hone : (match dput false (.dK (kvs.map (·.1)) ds) kd vd with | some acc' => some acc' | none => none) = some d1 := hpre'
        have hone' : dput false (.dK (kvs.map (·.1)) ds) kd vd = some d1 := by
          cases q : dput false (.dK (kvs.map (·.1)) ds) kd vd with
          | none => rw [q] at hone; cases hone
          | some z => rw [q] at hone; exact hone
        obtain ⟨k', hk', e1⟩ := dput_K hone'
        obtain ⟨fq, r8, p8⟩ := r7.wipe (vs := vs) can4 hio
        rw [ew2] at r8
        have atD : H6 Dd = some (.dK kvs) := by rw [ab.z Dd zD]; exact I.at'
        have rs6 : Reps e.toRE H6 (own (also Z [Dd]) fq) ds (kvs.map (·.2)) := by rw [own_perm p8]; exact I.rs.le ab.le
        obtain ⟨u1, u2⟩ := put_rep (k := k') (show Rep e.toRE H6 (own (also Z [Dd]) fq) vd vv by rw [own_perm p8]; exact hvv) rs6
        obtain ⟨r9, l9⟩ := r8.off (o := .dK (putK kvs k' vv)) zD
        have hl2 : kvs.length ≤ ys.length := by rw [← I.eq, List.length_append]; have := I.len; omega
        refine ⟨kvs, k', keyOf_some hk' hkv, atD, small_line' (by omega), fq, g4, accP ++ [(kd, vd)], _, putK kvs k' vv, rest', r9, ?_, fun a za => ?_, upd_same, u2.le l9, ?_, ?_, t2, can4, eq5⟩
        · have l6 : Le H1 (own Z fp1) H6 (own (also Z [Dd]) fq) := by rw [own_perm p8]; exact I.le.trans ab.le
          exact l6.trans l9
        · rw [upd_ne (fun z => r1.zin a za (by rw [z]; exact hDd))]
          exact (ab.z a (.inl za)).trans (I.z a za)
        · rw [hpre, e1, u1]
        · have := length_putK kvs k' vv
          rw [List.length_append, List.length_singleton]
          have := I.len
          omega
  · rintro H2 ⟨fp2, f2, accP, ds, kvs, rest, I⟩
    have run := I.run
    rw [List.drop_length] at run
    have e1 : rest = [] ∧ f2 = f3 := by cases run; exact ⟨rfl, rfl⟩
    obtain ⟨e1, e2⟩ := e1
    subst e1 e2
    have eq := I.eq
    rw [List.append_nil] at eq
    subst eq
    have l1 := RepFr.len r1.fr
    have l2 := RepFr.len I.r.fr
    rw [wipe_length] at l2
    obtain ⟨fq, r4, p4⟩ := R.back r1 (vs := vs) (I.r.drop) (I.le.trans (Le.shrink fun a ha => ha.elim (fun z => .inl (.inl z)) .inr)) c1 (by
      unfold canWipe
      rw [List.all_eq_true]
      intro w hw
      have go : ∀ us : List Nat, w ∈ us → (wipeF us f2).getD w .un = .un := fun us => by
        induction us with
        | nil => intro h; cases h
        | cons u us ih =>
          intro h
          unfold wipeF
          by_cases q : u = w
          · subst q
            by_cases hlt : u < (wipeF us f2).length
            · simp [List.getD, hlt]
            · have hle : ((wipeF us f2).set u O.un).length ≤ u := (by rw [List.length_set]; omega)
              rw [List.getD, List.getElem?_eq_none hle]; rfl
          · rw [List.getD, List.getElem?_set_ne q]
            exact ih ((List.mem_cons.mp h).resolve_left fun z => q z.symm)
      rw [go vs hw]; rfl) (by omega) hio
    rw [backS_wipe] at r4
    have nD : ¬ own Z fq Dd := fun z => by
      rcases z with z | z
      · exact r1.zin Dd z hDd
      · exact I.r.dj Dd (p4.mem_iff.mp z) (.inr (List.mem_singleton.mpr rfl))
    have sh : Le H2 (own (also Z [Dd]) fp2) H2 (own Z fq) := by
      rw [own_perm p4]
      exact Le.shrink fun a ha => ha.elim (fun z => .inl (.inl z)) .inr
    refine p3 H2 fq r4 ⟨I.le.trans sh, I.z⟩ (.ref Dd) ?_
    have e5 : dd = .dK (kvs.map (·.1)) ds := by
      have := I.put
      rw [hdd'] at this
      exact Option.some.inj this
    rw [e5]
    unfold Rep
    exact ⟨Dd, kvs, rfl, ⟨nD, cont_of I.at'⟩, rfl, I.rs.le sh⟩
theorem s_dc (hcalm : X.calm = true) (hnd : X.N.Nodup) {kx vx tg' iter' : Expr} {ifs : List Expr} {scope : Scope} {ow : List (Str × Nat)} {pos : Pos} {tg : Tg} {mi : M (List D)} {mt : M Bool} {mk mv : M D}
    (hi : PI X tg' iter' (tI e Wx mi)) (ok : BlkOk X.N X.env.scope scope ow) (hio : ∀ i ∈ ow.map (·.2), i ∉ e.io) (htg : ∀ i ∈ tgSlots tg, i ∈ ow.map (·.2))
    (hg : ∀ (s : Shared) (H : Hp) (C : Addr) (cl : List (Str × Addr)) (fp : List Addr), PG (X.blk s H scope (compEnvC scope cl C X.env) fp) tg' (tG e tg))
    (ht : ∀ (s : Shared) (H : Hp) (C : Addr) (cl : List (Str × Addr)) (fp : List Addr), PTs (X.blk s H scope (compEnvC scope cl C X.env) fp) ifs (tT e W0 mt))
    (hk : ∀ (s : Shared) (H : Hp) (C : Addr) (cl : List (Str × Addr)) (fp : List Addr), PE (X.blk s H scope (compEnvC scope cl C X.env) fp) kx (tE e W0 mk))
    (he : ∀ (s : Shared) (H : Hp) (C : Addr) (cl : List (Str × Addr)) (fp : List Addr), PE (X.blk s H scope (compEnvC scope cl C X.env) fp) vx (tE e W0 mv)) (hs : ∀ x, foldedSetIterable iter' X.env x = pure x) :
    PEc X Wx e (.DictComp kx vx [⟨tg', iter', ifs, 0⟩] scope pos) (M.bnd mi fun xs => M.bnd (block (ow.map (·.2)) (lcLoop (dcT (ow.map (·.2)) tg mt mk mv) xs)) fun ys => M.opt (dcFin false ys)) :=
  (pe_dc hcalm hnd hi ok hg ht hk he hs).imp fun σ H Q q => dc_read hio htg q
/-- name = {..}, on one line -/
theorem ps_setDc {i : Nat} {y : Str} {py : Pos} {kx vx tg iter : Expr} {ifs : List Expr} {scope : Scope} {own : List (Str × Nat)} {pos spos : Pos} {wi : TI} {g : TG} {tt : TT} {tk tv : TE} (hc : X.calm = true) (hN : X.N.Nodup) (hy : X.N[i]? = some y) (hyl : X.env.scope.names.lookup y = some .local)
    (hsw : swapsWith (.DictComp kx vx [⟨tg, iter, ifs, 0⟩] scope pos) (some (.Name y py)) spos.line X.env = pure true) (hi : PI X tg iter wi) (ok : BlkOk X.N X.env.scope scope own)
    (hg : ∀ (s : Shared) (H : Hp) (C : Addr) (cl : List (Str × Addr)) (fp : List Addr), PG (X.blk s H scope (compEnvC scope cl C X.env) fp) tg g) (ht : ∀ (s : Shared) (H : Hp) (C : Addr) (cl : List (Str × Addr)) (fp : List Addr), PTs (X.blk s H scope (compEnvC scope cl C X.env) fp) ifs tt)
    (hk : ∀ (s : Shared) (H : Hp) (C : Addr) (cl : List (Str × Addr)) (fp : List Addr), PE (X.blk s H scope (compEnvC scope cl C X.env) fp) kx tk)
    (he : ∀ (s : Shared) (H : Hp) (C : Addr) (cl : List (Str × Addr)) (fp : List Addr), PE (X.blk s H scope (compEnvC scope cl C X.env) fp) vx tv) (hs : ∀ x, foldedSetIterable iter X.env x = pure x) :
    PS X (.Assign [.Name y py] (.DictComp kx vx [⟨tg, iter, ifs, 0⟩] scope pos) spos) (tAsg (tDc wi g tt tk tv (own.map (·.2))) (gName i)) := by
  refine ⟨fun pins s σ H D I h => ?_⟩
  rw [exec_Assign_Name_used _ _ _ _ hsw]
  refine wpAny_bind (wpAny_standAt (wpAny_bind ?_))
  show wpAny _ X.A (do let _ ← comprehension (.DictComp kx vx [⟨tg, iter, ifs, 0⟩] scope pos) scope X.env (firstIterPos [⟨tg, iter, ifs, 0⟩] pos) newDict false (eval iter X.env) (some (assign (.Name y py) X.env))) _ _ s
  have h : tDc wi g tt tk tv (own.map (·.2)) σ H (fun x H1 => gName i x σ H1 D.nx) := h
  refine wpAny_bind (thn (dc_core (Qf := fun _ s' => SP X pins D .next s') hc hN I hi ok hg ht hk he hs h fun L C s' m H' I' q hn f => ?_) fun _ s' hq => wpAny_pure (wpAny_pure hq))
  show wpAny _ _ (assign (.Name y py) X.env (.ref L)) _ _ _
  refine wpAny_assign_Name (store_ok2 (v := V.ref L) I' hN hy (.inl hyl) rfl (fun s2 I2 ⟨a, sb, ha⟩ => ?_) (.inr hyl))
  obtain ⟨f0, f1, f2, f3, f4, f5⟩ := f
  have haC : C ≠ a := by
    rcases ha with z | z
    · rw [z]; exact f1
    · exact fun e => f4 y a z e.symm
  refine ⟨m, hn.sameBut sb haC, fun h3 sb3 => ?_⟩
  exact ⟨_, H', I2.turned (t' := s2.toks) (fun b o hb e => (sb3.2 b hb).trans e) f0 f1 f3 f4 f5, q⟩
end
end Cr

/-! list(range(..)), tuple(range(..)); a name set to a dict comprehension. -/
namespace Cr
open PySem PySem.Spec L2
section
variable {X : Cx} {Wx : WX} {e : RB} {lv : Nat} {N : List Str} {sc : Scope} {P : Prg} {Φ : Calls}
theorem lrD_some {t : Bool} {i j : Int} {d : D} (h : lrD t i j = some d) : RgOk i j ∧ d = (if t then .tup (rangeD i j) else .lst (rangeD i j)) := by
  unfold lrD at h
  obtain ⟨c, h⟩ := ite_some h
  simp only [Bool.and_eq_true, decide_eq_true_eq] at c
  exact ⟨⟨c.1.1.1, c.1.1.2, c.1.2.1, c.1.2.2, by have := c.2; omega⟩, h.symm⟩
theorem reps_rg {e : RE} {H : Hp} {W : OwnP} {i j : Int} : Reps e H W (rangeD i j) (rgV i j) := by
  unfold rangeD rgV
  generalize List.range (j - i).toNat = l
  induction l with
  | nil => exact Reps.nil
  | cons k l ih =>
    rw [List.map_cons, List.map_cons]
    exact Reps.cons rep_int ih
theorem lr_fin {σ : L2.St} {H H1 : Hp} {Z : OwnP} {B : List (Nat × V)} {fp : List Addr} {f : Fr} {t : Bool} {i j : Int} {Q : VK} (r : R e Z B fp σ H f) (p : PM e Wx Z B fp σ H (M.opt (lrD t i j) f) (fun d _ fp' H' => ∀ v, Rep e.toRE H' (own Z fp') d v → Q v H')) :
    RgOk i j ∧ ∀ q, H q = none → Q (.ref q) (upd H q (if t then .tup (rgV i j) else .lst (rgV i j))) := by
  obtain ⟨d, hd, p2⟩ := p.opt
  obtain ⟨ok, e1⟩ := lrD_some hd
  subst e1
  refine ⟨ok, fun q hq => ?_⟩
  cases t with
  | true => exact PM.fin p2 r (same_new hq) _ (Rep.newT r.there hq reps_rg)
  | false => exact PM.fin p2 r (same_new hq) _ (Rep.newL r.there hq reps_rg)
theorem s_lrng1 (G : Good X Wx e lv N sc) {x : Expr} {m : M D} {t : Bool} {p p2 pos pos2 : Pos} (hg : glB sc "range" = true) (hm : X.mg "range" = none) (hg2 : glB sc (if t then "tuple" else "list") = true) (hm2 : X.mg (if t then "tuple" else "list") = none) (h : PEc X Wx e x m) (hst : isStar x = false) :
    PEc X Wx e (.Call (.Name (if t then "tuple" else "list") p) [.Call (.Name "range" p2) [x] [] pos2] [] pos) (M.bnd m fun d => M.bnd (toInt d) fun n => M.opt (lrD t 0 n)) := by
  have hr := prg_1 (X := X) (p := p2) (pos := pos2) (show X.env.kindOf "range" = _ by rw [Env.kindOf, G.hsc]; exact glB_ok hg) hm h (st_cons hst)
  cases t with
  | true =>
    refine (pe_tupRg G.calm (show X.env.kindOf "tuple" = _ by rw [Env.kindOf, G.hsc]; exact glB_ok hg2) hm2 hr (st_cons rfl)).imp fun σ H Q q => ?_
    obtain ⟨Z, B, fp, f, r, p⟩ := q
    refine tE_seq r p _ fun d f1 fp1 H1 v r1 a1 h1 p1 => ?_
    obtain ⟨n, e1, p2⟩ := p1.intB
    subst e1
    unfold Rep at h1
    exact ⟨n, h1, lr_fin (H1 := H1) (t := true) r1 p2⟩
  | false =>
    refine (pe_listRg G.calm (show X.env.kindOf "list" = _ by rw [Env.kindOf, G.hsc]; exact glB_ok hg2) hm2 hr (st_cons rfl)).imp fun σ H Q q => ?_
    obtain ⟨Z, B, fp, f, r, p⟩ := q
    refine tE_seq r p _ fun d f1 fp1 H1 v r1 a1 h1 p1 => ?_
    obtain ⟨n, e1, p2⟩ := p1.intB
    subst e1
    unfold Rep at h1
    exact ⟨n, h1, lr_fin (H1 := H1) (t := false) r1 p2⟩
/-- a statement's value, stored in a name -/
theorem asgN_read {i : Nat} {y : Str} {m : M D} {K : Ends} {σ : L2.St} {H : Hp} (hy : StOk X e N i y) (q : tS e Wx (M.bnd m fun d => M.bnd (setM (.nm i) d) fun _ => M.ret .nx) K σ H) : tE e Wx m σ H fun x H1 => gName i x σ H1 K.nx := by
  obtain ⟨Z, B, fp, f, r, p⟩ := asg_read (te := tE e Wx (M.ret .non)) (Q := K.nx) q
  refine ⟨Z, B, fp, f, r, p.mono fun d f1 fp1 H1 r1 a1 h v hv => ?_⟩
  obtain ⟨Z', B', fp', f', d', r', hr', f2, hs', k⟩ := h v hv
  have hs2 : (if i < f'.length then some (f'.set i (.fz d')) else none) = some f2 := hs'
  obtain ⟨hlt, e1⟩ := ite_some hs2
  subst e1
  obtain ⟨o, ho⟩ := get_lt hlt
  obtain ⟨fq, r1, a1⟩ := r'.setD ho hr' (pin_ne r' hy.2.2.2)
  exact k _ fq r1 a1 fun vs hv => wipe_set (hv i (List.mem_singleton.mpr rfl))
theorem s_asgDc (G : GoodS X Wx e lv N sc) {i : Nat} {y : Str} {py spos : Pos} {kx vx tg' iter' : Expr} {ifs : List Expr} {scope : Scope} {ow : List (Str × Nat)} {pos : Pos} {tg : Tg} {mi : M (List D)} {mt : M Bool} {mk mv : M D} (hy : StOk X e N i y) (hyl : X.env.scope.names.lookup y = some .local)
    (hsw : swapsWith (.DictComp kx vx [⟨tg', iter', ifs, 0⟩] scope pos) (some (.Name y py)) spos.line X.env = pure true)
    (hi : PI X tg' iter' (tI e Wx mi)) (ok : BlkOk X.N X.env.scope scope ow) (hio : ∀ i ∈ ow.map (·.2), i ∉ e.io) (htg : ∀ i ∈ tgSlots tg, i ∈ ow.map (·.2))
    (hg : ∀ (s : Shared) (H : Hp) (C : Addr) (cl : List (Str × Addr)) (fp : List Addr), PG (X.blk s H scope (compEnvC scope cl C X.env) fp) tg' (tG e tg))
    (ht : ∀ (s : Shared) (H : Hp) (C : Addr) (cl : List (Str × Addr)) (fp : List Addr), PTs (X.blk s H scope (compEnvC scope cl C X.env) fp) ifs (tT e W0 mt))
    (hk : ∀ (s : Shared) (H : Hp) (C : Addr) (cl : List (Str × Addr)) (fp : List Addr), PE (X.blk s H scope (compEnvC scope cl C X.env) fp) kx (tE e W0 mk))
    (he : ∀ (s : Shared) (H : Hp) (C : Addr) (cl : List (Str × Addr)) (fp : List Addr), PE (X.blk s H scope (compEnvC scope cl C X.env) fp) vx (tE e W0 mv)) (hs : ∀ x, foldedSetIterable iter' X.env x = pure x) :
    PSc X Wx e (.Assign [.Name y py] (.DictComp kx vx [⟨tg', iter', ifs, 0⟩] scope pos) spos) (M.bnd (M.bnd mi fun xs => M.bnd (block (ow.map (·.2)) (lcLoop (dcT (ow.map (·.2)) tg mt mk mv) xs)) fun ys => M.opt (dcFin false ys)) fun d => M.bnd (setM (.nm i) d) fun _ => M.ret .nx) :=
  (ps_setDc G.calm G.nd (by rw [G.hN]; exact hy.1) hyl hsw hi ok hg ht hk he hs).imp fun K σ H q => dc_read hio htg (asgN_read hy q)
/-! what is good within a block -/
theorem Good.blk (G : Good X Wx e lv N sc) {s : Shared} {H : Hp} {scope : Scope} {C : Addr} {cl : List (Str × Addr)} {fp : List Addr} : Good (X.blk s H scope (compEnvC scope cl C X.env) fp) W0 e lv N (relS scope sc) :=
  { calm := G.calm, tk := takes0, nd := G.nd, room := G.room, hK := G.hK, hN := G.hN, hsc := by rw [← G.hsc]; rfl }
end
end Cr

/-! Does a text of the core say what the program's text says? -/
namespace Cr
open PySem PySem.Spec L2
structure Ct where
  P : Prg
  N : List Str
  io : List Nat
  sc : Scope
  fnb : Str → Bool
def Ct.blk (c : Ct) (scope : Scope) : Ct := { c with sc := relS scope c.sc, fnb := fun x => scope.names.lookup x == some .cell }
def nmB (c : Ct) (i : Nat) (x : Str) : Bool := decide (c.N[i]? = some x) && (visB c.sc x && okName x)
def glbB (c : Ct) (x : Str) : Bool := glB c.sc x && okName x
/-- a built-in's name -/
def bltB (c : Ct) (x : Str) : Bool := glbB c x && c.P.blt.contains x
def stB (c : Ct) (i : Nat) (x : Str) : Bool := decide (c.N[i]? = some x) && ((match c.sc.names.lookup x with
  | some .local => true
  | some .cell => c.fnb x
  | _ => false) && !c.io.contains i)
def stsB (c : Ct) : List Nat → List Expr → Bool
  | [], [] => true
  | i :: is, x :: xs => (match x with
    | .Name n _ => stB c i n
    | _ => false) && stsB c is xs
  | _, _ => false
def tgB (c : Ct) (t : Tg) (x : Expr) : Bool := match t with
  | .nm i => match x with
    | .Name n _ => stB c i n
    | _ => false
  | .tup is => match x with
    | .Tuple xs _ _ => stsB c is xs
    | _ => false
def plainIxB : Expr → Bool
  | .Slice _ _ _ _ => false
  | _ => true
def baseB : Expr → Bool
  | .Call (.Name id _) [] [] _ => id != ("super" : Str)
  | _ => true
def foldB : Expr → Bool
  | .Set _ _ _ => false
  | _ => true
def isIf : Expr → Bool
  | .IfExp _ _ _ _ => true
  | _ => false
def isBo : Expr → Bool
  | .BoolOp _ _ _ => true
  | _ => false
def esLen : Es → Nat
  | .nil => 0
  | .cons _ r => esLen r + 1
def asLen : As → Nat
  | .nil => 0
  | .cons _ r => asLen r + 1
def ioS : As → Nat → List Nat
  | .nil, _ => []
  | .cons (.e _) r, k => ioS r (k + 1)
  | .cons (.io _) r, k => k :: ioS r (k + 1)
def bltStr : Ty → Option Str
  | .int => some "int" | .bool => some "bool" | .tuple => some "tuple" | .list => some "list" | .str => some "str" | .cls _ => none
def Dfn.isFn (d : Dfn) : Bool := decide (d.nm = d.qual)
mutual
def agE : E → Ct → Expr → Bool
  | .var i => fun c x => match x with
    | .Name y _ => nmB c i y
    | _ => false
  | .non => fun _ x => match x with
    | .Constant .none _ _ => true
    | _ => false
  | .bl b => fun _ x => match x with
    | .Constant (.bool b') _ _ => decide (b = b')
    | _ => false
  | .int i => fun _ x => match x with
    | .Constant (.int j) _ _ => decide (i = j)
    | _ => false
  | .str s => fun _ x => match x with
    | .Constant (.str t) _ _ => decide (s = t)
    | _ => false
  | .gint y i => fun c x => match x with
    | .Name z _ => decide (y = z) && (glbB c y && c.P.gints.contains (y, i))
    | _ => false
  | .bin o a b => fun c x => match x with
    | .BinOp l op r _ => decide (op = bop o) && (agE a c l && agE b c r)
    | _ => false
  | .neg a => fun c x => match x with
    | .UnaryOp op y _ => decide (op = .USub) && agE a c y
    | _ => false
  | .inv a => fun c x => match x with
    | .UnaryOp op y _ => decide (op = .Invert) && agE a c y
    | _ => false
  | .not a => fun c x => match x with
    | .UnaryOp op y _ => decide (op = .Not) && (!isIf y && agE a c y)
    | _ => false
  | .cmp o a b => fun c x => match x with
    | .Compare l [op] [r] _ => (decide (op = cop o) && !behindInMarks op r) && (agE a c l && agE b c r)
    | _ => false
  | .chn o o' a b d => fun c x => match x with
    | .Compare l [op, op'] [y, z] _ => (decide (op = cop o) && (decide (op' = cop o') && !lastMarks [op, op'] [y, z])) && (agE a c l && (agE b c y && agE d c z))
    | _ => false
  | .isN n a => fun c x => match x with
    | .Compare l [op] [.Constant .none _ _] _ => decide (op = if n then .IsNot else .Is) && agE a c l
    | _ => false
  | .mem n a b => fun c x => match x with
    | .Compare l [op] [r] _ => (decide (op = if n then .NotIn else .In) && !behindInMarks op r) && (agE a c l && agE b c r)
    | _ => false
  | .and a b => fun c x => match x with
    | .BoolOp op (y :: z :: r) pos => (decide (op = .And) && !isIf y) && (agE a c y && (match r with
      | [] => !isIf z && agE b c z
      | _ => agE b c (.BoolOp .And (z :: r) pos)))
    | _ => false
  | .or a b => fun c x => match x with
    | .BoolOp op (y :: z :: r) pos => (decide (op = .Or) && !isIf y) && (agE a c y && (match r with
      | [] => !isIf z && agE b c z
      | _ => agE b c (.BoolOp .Or (z :: r) pos)))
    | _ => false
  | .ite q a b => fun c x => match x with
    | .IfExp t y z _ => (!isIf t && agE q c t) && (agE a c y && agE b c z)
    | _ => false
  | .tup es => fun c x => match x with
    | .Tuple xs _ _ => decide (esLen es ≤ 1000) && agEs es c xs
    | _ => false
  | .lst es => fun c x => match x with
    | .List xs _ => decide (esLen es ≤ 1000) && agEs es c xs
    | _ => false
  | .dic tk .nil => fun _ x => match x with
    | .Dict [] [] _ => true
    | _ => false
  | .idx a b => fun c x => match x with
    | .Subscript l r _ => plainIxB r && (agE a c l && agE b c r)
    | _ => false
  | .slc a lo hi => fun c x => match x with
    | .Subscript l (.Slice lo' hi' none _) _ => agE a c l && (agO lo c lo' && agO hi c hi')
    | _ => false
  | .fld a f => fun c x => match x with
    | .Attribute l g _ => (decide (f = g) && baseB l) && agE a c l
    | _ => false
  | .pl i p => fun c x => agP p i c x
  | .lrng1 t a => fun c x => match x with
    | .Call (.Name f _) [.Call (.Name g _) [y] [] _] [] _ => (decide (f = if t then "tuple" else "list") && (decide (g = "range") && (bltB c f && bltB c g))) && (!isStar y && agE a c y)
    | _ => false
  | .lc elt tg it ts own => fun c x => match x with
    | .ListComp el [⟨t, i, ifs, isA⟩] scope _ => (decide (isA = 0) && (foldB i && (blkC c.N c.sc scope (own.map fun k => (c.N.getD k Str.empty, k)) && (own.all (fun k => !c.io.contains k) && ((tgSlots tg).all (fun k => own.contains k) && tgB (c.blk scope) tg t))))) &&
        (agI it c i && (agT ts (c.blk scope) ifs && agE elt (c.blk scope) el))
    | _ => false
  | .dc false k v tg it ts own => fun c x => match x with
    | .DictComp kx vx [⟨t, i, ifs, isA⟩] scope _ => (decide (isA = 0) && (foldB i && (blkC c.N c.sc scope (own.map fun k => (c.N.getD k Str.empty, k)) && (own.all (fun k => !c.io.contains k) && ((tgSlots tg).all (fun k => own.contains k) && tgB (c.blk scope) tg t))))) &&
        (agI it c i && (agT ts (c.blk scope) ifs && (agE k (c.blk scope) kx && agE v (c.blk scope) vx)))
    | _ => false
  | .call g as => fun c x => match x with
    | .Call (.Name f _) (y :: ys) [] _ => (match c.P.defs[g]? with
      | some d => decide (f = d.nm) && (d.isFn && (glbB c f && (decide (ioS as 0 = d.io) && decide (asLen as = d.par))))
      | none => false) && ((y :: ys).all (fun x => !isStar x) && agAs as c (y :: ys))
    | _ => false
  | .new k as => fun c x => match x with
    | .Call (.Name f _) (y :: ys) [] _ => (match c.P.classes[k]? with
      | some kc => (match c.P.defs[kc.init]? with
        | some d => decide (f = kc.nm) && (glbB c f && (decide (0 :: (ioS as 0).map (· + 1) = d.io) && decide (asLen as + 1 = d.par)))
        | none => false)
      | none => false) && ((y :: ys).all (fun x => !isStar x) && agAs as c (y :: ys))
    | _ => false
  | .bi b es => fun c x => match x with
    | .Call (.Name f _) (y :: ys) [] _ => (match biNm b with
      | some (.fn x id) => decide (f = x) && decide (bootBuiltins x = some (.builtin id))
      | some (.ty x T) => decide (f = x) && decide (bootBuiltins x = some (.type T))
      | none => false) && (bltB c f && ((y :: ys).all (fun x => !isStar x) && agEs es c (y :: ys)))
    | _ => false
  | .biP .len i p .nil => fun c x => match x with
    | .Call (.Name f _) [y] [] _ => (decide (f = "len") && bltB c f) && (!isStar y && agP p i c y)
    | _ => false
  | .isi a t => fun c x => match x with
    | .Call (.Name f _) [y, .Name z _] [] _ => (decide (f = "isinstance") && (bltB c f && (bltB c z && decide (bltStr t = some z)))) && (!isStar y && agE a c y)
    | _ => false
  | _ => fun _ _ => false
def agO : Eo → Ct → Option Expr → Bool
  | .none => fun _ x => x.isNone
  | .some e => fun c x => match x with
    | some y => agE e c y
    | none => false
def agT : Eo → Ct → List Expr → Bool
  | .none => fun _ x => x.isEmpty
  | .some e => fun c x => match x with
    | [y] => !isIf y && agE e c y
    | _ => false
def agEs : Es → Ct → List Expr → Bool
  | .nil => fun _ xs => xs.isEmpty
  | .cons e r => fun c xs => match xs with
    | x :: xs => !isStar x && (agE e c x && agEs r c xs)
    | [] => false
def agA : Ar → Ct → Expr → Bool
  | .e e => fun c x => agE e c x
  | .io i => fun c x => match x with
    | .Name y _ => nmB c i y
    | _ => false
def agAs : As → Ct → List Expr → Bool
  | .nil => fun _ xs => xs.isEmpty
  | .cons a r => fun c xs => match xs with
    | x :: xs => !isStar x && (agA a c x && agAs r c xs)
    | [] => false
def agI : It → Ct → Expr → Bool
  | .e a => fun c x => agE a c x
  | .rng1 a => fun c x => match x with
    | .Call (.Name f _) [y] [] _ => (decide (f = "range") && bltB c f) && (!isStar y && agE a c y)
    | _ => false
  | .rng2 a b => fun c x => match x with
    | .Call (.Name f _) [y, z] [] _ => (decide (f = "range") && bltB c f) && ((!isStar y && !isStar z) && (agE a c y && agE b c z))
    | _ => false
  | _ => fun _ _ => false
def agP : Ps → Nat → Ct → Expr → Bool
  | .nil => fun i c x => match x with
    | .Name y _ => nmB c i y
    | _ => false
  | .ix .nil e => fun i c x => match x with
    | .Subscript (.Name y _) z _ => nmB c i y && (plainIxB z && agE e c z)
    | _ => false
  | .ix p e => fun i c x => match x with
    | .Subscript l z _ => agP p i c l && (plainIxB z && agQ e c z)
    | _ => false
  | .fd p f => fun i c x => match x with
    | .Attribute l g _ => (decide (f = g) && baseB l) && agP p i c l
    | _ => false
/-- quiet -/
def agQ : E → Ct → Expr → Bool
  | .var i => fun c x => match x with
    | .Name y _ => nmB c i y
    | _ => false
  | .int i => fun _ x => match x with
    | .Constant (.int j) _ _ => decide (i = j)
    | _ => false
  | .pl i p => fun c x => agPQ p i c x
  | _ => fun _ _ => false
def agPQ : Ps → Nat → Ct → Expr → Bool
  | .nil => fun i c x => match x with
    | .Name y _ => nmB c i y
    | _ => false
  | .ix p e => fun i c x => match x with
    | .Subscript l z _ => agPQ p i c l && (plainIxB z && agQ e c z)
    | _ => false
  | .fd p f => fun i c x => match x with
    | .Attribute l g _ => (decide (f = g) && baseB l) && agPQ p i c l
    | _ => false
end
end Cr

/-! What agrees is read by its action: expressions. -/
namespace Cr
open PySem PySem.Spec L2
/-- what the program's text gives -/
structure Fa (prog : Program) (w : World) (mg : Str → Option Value) (base : Heap) (P : Prg) (e : RE) (Φ : Calls) (k : Nat) : Prop where
  tab : Tab P e
  blt : ∀ x, x ∈ P.blt → mg x = none
  gi : ∀ x i, (x, i) ∈ P.gints → ∃ u, mg x = some u ∧ RelV (.int i) u
  fn : ∀ g d, P.defs[g]? = some d → d.isFn = true → ∃ fa fd ps, mg d.nm = some (.ref fa) ∧ PySem.W.keepIn e.K (.ref fa) = true ∧ FnOk prog w e.K mg base (L2.CX prog w) k fa fd ps (spOf e Φ g d.par d.io) ∧ Binds e.K fd ps []
  cl : ∀ c kc d, P.classes[c]? = some kc → P.defs[kc.init]? = some d → ∃ fi fd ps, mg kc.nm = some (.ref (e.cls c)) ∧ Mk e.K (e.cls c) fi ∧ FnOk prog w e.K mg base (L2.CX prog w) k fi fd ps (spOf e Φ kc.init d.par d.io) ∧ Binds e.K fd ps []
structure GoodC (X : Cx) (Wx : WX) (e : RB) (lv : Nat) (c : Ct) (Φ : Calls) (k : Nat) : Prop extends Good X Wx e lv c.N c.sc where
  fa : Fa X.prog X.w X.mg X.base c.P e.toRE Φ k
  lev : k + 1 ≤ lv
  io : e.io = c.io
  fnb : ∀ x, c.fnb x = true → X.fn x = true
theorem GoodC.blk {X : Cx} {Wx : WX} {e : RB} {lv : Nat} {c : Ct} {Φ : Calls} {k : Nat} (G : GoodC X Wx e lv c Φ k) {s : Shared} {H : Hp} {scope : Scope} {C : Addr} {cl : List (Str × Addr)} {fp : List Addr} : GoodC (X.blk s H scope (compEnvC scope cl C X.env) fp) W0 e lv (c.blk scope) Φ k :=
  { toGood := G.toGood.blk, fa := G.fa, lev := G.lev, io := G.io, fnb := fun x h => h }
theorem and2 {a b : Bool} (h : (a && b) = true) : a = true ∧ b = true := by simpa using h
theorem not1 {a : Bool} (h : (!a) = true) : a = false := by simpa using h
section
variable {X : Cx} {Wx : WX} {e : RB} {lv : Nat} {c : Ct} {Φ : Calls} {k : Nat}
theorem nmB_ok {i : Nat} {x : Str} (h : nmB c i x = true) : c.N[i]? = some x ∧ visB c.sc x = true ∧ okName x = true := by
  unfold nmB at h
  obtain ⟨h1, h2⟩ := and2 h
  obtain ⟨h3, h4⟩ := and2 h2
  exact ⟨of_decide_eq_true h1, h3, h4⟩
theorem bltB_ok (G : GoodC X Wx e lv c Φ k) {x : Str} (h : bltB c x = true) : glB c.sc x = true ∧ okName x = true ∧ X.mg x = none := by
  unfold bltB glbB at h
  obtain ⟨h1, h2⟩ := and2 h
  obtain ⟨h3, h4⟩ := and2 h1
  exact ⟨h3, h4, G.fa.blt x (List.contains_iff_mem.mp h2)⟩
theorem stB_ok (G : GoodC X Wx e lv c Φ k) {i : Nat} {x : Str} (h : stB c i x = true) : StOk X e c.N i x := by
  unfold stB at h
  obtain ⟨h1, h2⟩ := and2 h
  obtain ⟨h3, h4⟩ := and2 h2
  refine ⟨of_decide_eq_true h1, ?_, ?_, ?_⟩
  · rw [G.hsc]
    split at h3
    · exact .inl (by assumption)
    · exact .inr (by assumption)
    · cases h3
  · rw [G.hsc]
    split at h3
    · exact .inr (by assumption)
    · exact .inl (G.fnb x h3)
    · cases h3
  · rw [G.io]
    intro m
    have := not1 h4
    rw [List.contains_iff_mem.mpr m] at this
    cases this
theorem stsB_ok (G : GoodC X Wx e lv c Φ k) : ∀ {is : List Nat} {xs : List Expr}, stsB c is xs = true → NmsOk X e c.N is xs
  | [], [], _ => trivial
  | [], _ :: _, h => by cases h
  | _ :: _, [], h => by cases h
  | i :: is, x :: xs, h => by
    unfold stsB at h
    obtain ⟨h1, h2⟩ := and2 h
    cases x <;> first | (cases h1; done) | exact ⟨⟨_, _, rfl, stB_ok G h1⟩, stsB_ok G h2⟩
theorem tgB_ok (G : GoodC X Wx e lv c Φ k) {t : Tg} {x : Expr} (h : tgB c t x = true) : PG X x (tG e t) := by
  cases t with
  | nm i =>
    cases x <;> first | (cases h; done) | exact g_nm G.toGood (stB_ok G h)
  | tup is =>
    cases x <;> first | (cases h; done) | exact g_tup G.toGood (stsB_ok G h)
theorem plainIxB_ok {x : Expr} (h : plainIxB x = true) : PlainIx x := by
  intro o i
  cases x <;> first | rfl | cases h
theorem baseB_ok {x : Expr} {f : Str} {env : Env} {whole : Sem Value} (h : baseB x = true) : attributeBase x f env whole = whole := by
  cases x with
  | Call g as ks p =>
    cases as with
    | cons a r => cases g <;> rfl
    | nil =>
      cases ks with
      | cons a r => cases g <;> rfl
      | nil =>
        cases g with
        | Name id q => exact abase_call h
        | _ => rfl
  | _ => rfl
theorem foldB_ok {x : Expr} {env : Env} (h : foldB x = true) : ∀ v, foldedSetIterable x env v = pure v := by
  intro v
  cases x <;> first | rfl | cases h
theorem t_chn (G : Good X Wx e lv N sc) {x y z : Expr} {ma mb mc : M D} {o o' : COp} {pos : Pos} (ha : PEc X Wx e x ma) (hb : PEc X Wx e y mb) (hc : PEc X Wx e z mc) (hm : lastMarks [cop o, cop o'] [y, z] = false) :
    PTc X Wx e (.Compare x [cop o, cop o'] [y, z] pos) (M.bnd ma fun x => M.bnd mb fun y => M.bnd (M.opt (cmpD o x y)) fun r => if r then M.bnd mc fun z => M.bnd (M.opt (cmpD o' y z)) fun r => M.ret (.bl r) else M.ret (.bl false)) :=
  (pt_chain (cmpD_ok G.hK G.hu64 o) (cmpD_ok G.hK G.hu64 o') ha hb hc hm).imp fun σ H Q q => by
  obtain ⟨Z, B, fp, f, r, p⟩ := q
  rw [assocB] at p
  refine tE_seq r p _ fun d f1 fp1 H1 v r1 a1 h1 p1 => ?_
  rw [assocB] at p1
  refine tE_seq r1 p1 _ fun d2 f2 fp2 H2 v2 r2 a2 h2 p2 => ?_
  rw [assocB] at p2
  obtain ⟨b, hg, p3⟩ := p2.optB
  refine ⟨own Z fp2, d, d2, b, h1.le a2.le, h2, hg, b, rfl, ?_⟩
  cases b with
  | false =>
    refine iteF ⟨false, rfl, PM.fin (show PM e Wx Z B fp2 σ H2 (.ok false f2) _ from p3) r2 (Same.refl _)⟩
  | true =>
    have p3' : PM e Wx Z B fp2 σ H2 (M.bnd (M.bnd mc fun z => M.bnd (M.opt (cmpD o' d2 z)) fun r => M.ret (.bl r)) toBool f2) (fun b _ _ H' => Q b H') := p3
    rw [assocB] at p3'
    refine iteT (tE_seq r2 p3' _ fun d3 f3 fp3 H3 v3 r3 a3 h3 p4 => ?_)
    rw [assocB] at p4
    obtain ⟨b', hg', p5⟩ := p4.optB
    exact ⟨own Z fp3, d2, d3, b', h2.le a3.le, h3, hg', b', rfl, PM.fin (show PM e Wx Z B fp3 σ H3 (.ok b' f3) _ from p5) r3 (Same.refl _)⟩
end
end Cr

/-! The induction over expressions. -/
namespace Cr
open PySem PySem.Spec L2
structure Cl (X : Cx) (Wx : WX) (e : RB) (x : Expr) (m : M D) : Prop where
  v : PEc X Wx e x m
  t : isIf x = false → PTc X Wx e x m
  w : isBo x = true → PWc X Wx e x m
def plT : Expr → Bool
  | .BoolOp _ _ _ => false
  | .UnaryOp op _ _ => decide (op ≠ .Not)
  | .IfExp _ _ _ _ => false
  | .Compare _ _ _ _ => false
  | _ => true
theorem plT_ok {x : Expr} {env : Env} (h : plT x = true) : ∀ whole, isTrue x env whole = (do let v ← whole; standAt x.pos; holding [v] (truthy v)) := by
  intro whole
  cases x with
  | UnaryOp op y p => cases op <;> first | rfl | exact absurd (show false = true from h) (by decide)
  | BoolOp _ _ _ => cases h
  | IfExp _ _ _ _ => cases h
  | Compare _ _ _ _ => cases h
  | _ => rfl
theorem Cl.plain {X : Cx} {Wx : WX} {e : RB} {x : Expr} {m : M D} (h : PEc X Wx e x m) (hp : plT x = true) : Cl X Wx e x m :=
  ⟨h, fun _ => t_val h (plT_ok hp), fun hb => by cases x <;> first | (cases hb; done) | cases hp⟩
theorem evs_len {P : Prg} {Φ : Calls} : ∀ (es : Es) {f : Fr} {ds : List D} {f' : Fr}, evs P Φ es f = .ok ds f' → ds.length = esLen es
  | .nil, f, ds, f', h => by cases h; rfl
  | .cons a r, f, ds, f', h => by
    have h' : M.bnd (ev P Φ a) (fun x => M.bnd (evs P Φ r) fun xs => M.ret (x :: xs)) f = .ok ds f' := h
    obtain ⟨x, f1, _, h2⟩ := bnd_ok h'
    obtain ⟨xs, f2, h3, h4⟩ := bnd_ok h2
    cases h4
    rw [List.length_cons, evs_len r h3]
    rfl
theorem evAs_shape {P : Prg} {Φ : Calls} : ∀ (as : As) {f : Fr} {vs : List AV} {f' : Fr} (k : Nat), evAs P Φ as f = .ok vs f' → ioPos vs k = ioS as k ∧ vs.length = asLen as
  | .nil, f, vs, f', k, h => by cases h; exact ⟨rfl, rfl⟩
  | .cons a r, f, vs, f', k, h => by
    have h' : M.bnd (evAr P Φ a) (fun x => M.bnd (evAs P Φ r) fun xs => M.ret (x :: xs)) f = .ok vs f' := h
    obtain ⟨x, f1, h1, h2⟩ := bnd_ok h'
    obtain ⟨xs, f2, h3, h4⟩ := bnd_ok h2
    cases h4
    obtain ⟨i1, i2⟩ := evAs_shape r (k + 1) h3
    cases a with
    | e b =>
      have h1' : M.bnd (ev P Φ b) (fun x => M.ret (AV.d x)) f = .ok x f1 := h1
      obtain ⟨d, f5, _, h6⟩ := bnd_ok h1'
      cases h6
      exact ⟨i1, by rw [List.length_cons, i2]; rfl⟩
    | io i =>
      have h1' : M.bnd (chkS i) (fun _ => M.ret (AV.io i)) f = .ok x f1 := h1
      obtain ⟨d, f5, _, h6⟩ := bnd_ok h1'
      cases h6
      exact ⟨by show k :: ioPos xs (k + 1) = _; rw [i1]; rfl, by rw [List.length_cons, i2]; rfl⟩
mutual
theorem sndE : ∀ (a : E) {X : Cx} {Wx : WX} {e : RB} {lv : Nat} {c : Ct} {Φ : Calls} {k : Nat} {x : Expr}, GoodC X Wx e lv c Φ k → agE a c x = true → Cl X Wx e x (ev c.P Φ a)
  | .var i, X, Wx, e, lv, c, Φ, k, x, G, h => by
    cases x with
    | Name y p =>
      obtain ⟨h1, h2, h3⟩ := nmB_ok h
      exact .plain (s_var G.toGood h1 h2 h3) rfl
    | _ => cases h
  | .non, X, Wx, e, lv, c, Φ, k, x, G, h => by
    cases x with
    | Constant v j p => cases v <;> first | (cases h; done) | exact .plain (s_const pe_non fun _ _ => rep_non) rfl
    | _ => cases h
  | .bl b, X, Wx, e, lv, c, Φ, k, x, G, h => by
    cases x with
    | Constant v j p => cases v <;> first | (cases h; done) | (obtain rfl := of_decide_eq_true h; exact .plain (s_const pe_bl fun _ _ => rep_bl) rfl)
    | _ => cases h
  | .int i, X, Wx, e, lv, c, Φ, k, x, G, h => by
    cases x with
    | Constant v j p => cases v <;> first | (cases h; done) | (obtain rfl := of_decide_eq_true h; exact .plain (s_const pe_int fun _ _ => rep_int) rfl)
    | _ => cases h
  | .str i, X, Wx, e, lv, c, Φ, k, x, G, h => by
    cases x with
    | Constant v j p => cases v <;> first | (cases h; done) | (obtain rfl := of_decide_eq_true h; exact .plain (s_const pe_str fun _ _ => rep_str) rfl)
    | _ => cases h
  | .gint y i, X, Wx, e, lv, c, Φ, k, x, G, h => by
    cases x with
    | Name z p =>
      obtain ⟨h1, h2⟩ := and2 h
      obtain ⟨h3, h4⟩ := and2 h2
      obtain ⟨h5, h6⟩ := and2 h3
      obtain rfl := of_decide_eq_true h1
      obtain ⟨u, g1, g2⟩ := G.fa.gi y i (List.contains_iff_mem.mp h4)
      exact .plain (s_gint G.toGood h5 h6 g1 g2) rfl
    | _ => cases h
  | .bin o a b, X, Wx, e, lv, c, Φ, k, x, G, h => by
    cases x with
    | BinOp l op r p =>
      obtain ⟨h1, h2⟩ := and2 h
      obtain ⟨h3, h4⟩ := and2 h2
      obtain rfl := of_decide_eq_true h1
      exact .plain (s_bin G.toGood (sndE a G h3).v (sndE b G h4).v) rfl
    | _ => cases h
  | .neg a, X, Wx, e, lv, c, Φ, k, x, G, h => by
    cases x with
    | UnaryOp op y p =>
      obtain ⟨h1, h2⟩ := and2 h
      obtain rfl := of_decide_eq_true h1
      exact .plain (s_neg (sndE a G h2).v) rfl
    | _ => cases h
  | .inv a, X, Wx, e, lv, c, Φ, k, x, G, h => by
    cases x with
    | UnaryOp op y p =>
      obtain ⟨h1, h2⟩ := and2 h
      obtain rfl := of_decide_eq_true h1
      exact .plain (s_inv (sndE a G h2).v) rfl
    | _ => cases h
  | .not a, X, Wx, e, lv, c, Φ, k, x, G, h => by
    cases x with
    | UnaryOp op y p =>
      obtain ⟨h1, h2⟩ := and2 h
      obtain ⟨h3, h4⟩ := and2 h2
      obtain rfl := of_decide_eq_true h1
      have q := sndE a G h4
      exact ⟨s_not q.v, fun _ => t_not (q.t (not1 h3)), fun z => by cases z⟩
    | _ => cases h
  | .cmp o a b, X, Wx, e, lv, c, Φ, k, x, G, h => by
    cases x with
    | Compare l ops rs p =>
      match ops, rs, h with
      | [op], [r], h =>
        obtain ⟨h1, h2⟩ := and2 h
        obtain ⟨h3, h4⟩ := and2 h1
        obtain ⟨h5, h6⟩ := and2 h2
        obtain rfl := of_decide_eq_true h3
        have qa := sndE a G h5
        have qb := sndE b G h6
        exact ⟨s_cmp G.toGood qa.v qb.v (not1 h4), fun _ => t_cmp G.toGood qa.v qb.v (not1 h4), fun z => by cases z⟩
      | [], _, h => cases h
      | _ :: _ :: _, _, h => cases h
      | [_], [], h => cases h
      | [_], _ :: _ :: _, h => cases h
    | _ => cases h
  | .ite q a b, X, Wx, e, lv, c, Φ, k, x, G, h => by
    cases x with
    | IfExp t y z p =>
      obtain ⟨h1, h2⟩ := and2 h
      obtain ⟨h3, h4⟩ := and2 h1
      obtain ⟨h5, h6⟩ := and2 h2
      exact ⟨s_ite ((sndE q G h4).t (not1 h3)) (sndE a G h5).v (sndE b G h6).v, (fun z => by cases z), (fun z => by cases z)⟩
    | _ => cases h
  | .chn o o' a b d, X, Wx, e, lv, c, Φ, k, x, G, h => by
    cases x with
    | Compare l ops rs p =>
      match ops, rs, h with
      | [op, op'], [y, z], h =>
        obtain ⟨h1, h2⟩ := and2 h
        obtain ⟨h3, h4⟩ := and2 h1
        obtain ⟨h5, h6⟩ := and2 h4
        obtain ⟨h7, h8⟩ := and2 h2
        obtain ⟨h9, h10⟩ := and2 h8
        obtain rfl := of_decide_eq_true h3
        obtain rfl := of_decide_eq_true h5
        have qa := sndE a G h7
        have qb := sndE b G h9
        have qd := sndE d G h10
        exact ⟨s_chn G.toGood qa.v qb.v qd.v (not1 h6), fun _ => t_chn G.toGood qa.v qb.v qd.v (not1 h6), fun z => by cases z⟩
      | [], _, h => cases h
      | [_], _, h => cases h
      | _ :: _ :: _ :: _, _, h => cases h
      | [_, _], [], h => cases h
      | [_, _], [_], h => cases h
      | [_, _], _ :: _ :: _ :: _, h => cases h
    | _ => cases h
  | .isN n a, X, Wx, e, lv, c, Φ, k, x, G, h => by
    unfold agE at h
    split at h
    · rename_i l op j pj p
      obtain ⟨h1, h2⟩ := and2 h
      obtain rfl := of_decide_eq_true h1
      have q := s_isN (n := n) (j := j) (pos' := pj) (sndE a G h2).v
      exact ⟨s_ofPC q rfl, fun _ => t_ofPC q rfl, fun z => by cases z⟩
    · cases h
  | .mem n a b, X, Wx, e, lv, c, Φ, k, x, G, h => by
    cases x with
    | Compare l ops rs p =>
      match ops, rs, h with
      | [op], [r], h =>
        obtain ⟨h1, h2⟩ := and2 h
        obtain ⟨h3, h4⟩ := and2 h1
        obtain ⟨h5, h6⟩ := and2 h2
        obtain rfl := of_decide_eq_true h3
        have q := s_mem (n := n) G.toGood (sndE a G h5).v (sndE b G h6).v
        exact ⟨s_ofPC q (not1 h4), fun _ => t_ofPC q (not1 h4), fun z => by cases z⟩
      | [], _, h => cases h
      | _ :: _ :: _, _, h => cases h
      | [_], [], h => cases h
      | [_], _ :: _ :: _, h => cases h
    | _ => cases h
  | .and a b, X, Wx, e, lv, c, Φ, k, x, G, h => by
    cases x with
    | BoolOp op vs p =>
      match vs, h with
      | [y, z], h =>
        obtain ⟨h1, h2⟩ := and2 h
        obtain ⟨h3, h4⟩ := and2 h1
        obtain ⟨h5, h6⟩ := and2 h2
        obtain ⟨h7, h8⟩ := and2 h6
        obtain rfl := of_decide_eq_true h3
        have qa := sndE a G h5
        have qb := sndE b G h8
        have w : PWc X Wx e (.BoolOp .And [y, z] p) _ := w_and (qa.t (not1 h4)) (pw_and1 (pos := p) (qb.t (not1 h7)))
        exact ⟨s_and qa.v (pe_one qb.v), fun _ => w.pt, fun _ => w⟩
      | y :: z :: z2 :: r, h =>
        obtain ⟨h1, h2⟩ := and2 h
        obtain ⟨h3, h4⟩ := and2 h1
        obtain ⟨h5, h6⟩ := and2 h2
        obtain rfl := of_decide_eq_true h3
        have qa := sndE a G h5
        have qb := sndE b G h6
        have w : PWc X Wx e (.BoolOp .And (y :: z :: z2 :: r) p) _ := w_and (qa.t (not1 h4)) (qb.w rfl)
        exact ⟨s_and qa.v qb.v, fun _ => w.pt, fun _ => w⟩
      | [], h => cases h
      | [_], h => cases h
    | _ => cases h
  | .or a b, X, Wx, e, lv, c, Φ, k, x, G, h => by
    cases x with
    | BoolOp op vs p =>
      match vs, h with
      | [y, z], h =>
        obtain ⟨h1, h2⟩ := and2 h
        obtain ⟨h3, h4⟩ := and2 h1
        obtain ⟨h5, h6⟩ := and2 h2
        obtain ⟨h7, h8⟩ := and2 h6
        obtain rfl := of_decide_eq_true h3
        have qa := sndE a G h5
        have qb := sndE b G h8
        have w : PWc X Wx e (.BoolOp .Or [y, z] p) _ := w_or (qa.t (not1 h4)) (pw_or1 (pos := p) (qb.t (not1 h7)))
        exact ⟨s_or qa.v (pe_one qb.v), fun _ => w.pt, fun _ => w⟩
      | y :: z :: z2 :: r, h =>
        obtain ⟨h1, h2⟩ := and2 h
        obtain ⟨h3, h4⟩ := and2 h1
        obtain ⟨h5, h6⟩ := and2 h2
        obtain rfl := of_decide_eq_true h3
        have qa := sndE a G h5
        have qb := sndE b G h6
        have w : PWc X Wx e (.BoolOp .Or (y :: z :: z2 :: r) p) _ := w_or (qa.t (not1 h4)) (qb.w rfl)
        exact ⟨s_or qa.v qb.v, fun _ => w.pt, fun _ => w⟩
      | [], h => cases h
      | [_], h => cases h
    | _ => cases h
  | .tup es, X, Wx, e, lv, c, Φ, k, x, G, h => by
    cases x with
    | Tuple xs j p =>
      obtain ⟨h1, h2⟩ := and2 h
      have := of_decide_eq_true h1
      exact .plain (s_tup (sndEs es G h2).1 fun f ds f' hh => by rw [evs_len es hh]; exact this) rfl
    | _ => cases h
  | .lst es, X, Wx, e, lv, c, Φ, k, x, G, h => by
    cases x with
    | List xs p =>
      obtain ⟨h1, h2⟩ := and2 h
      have := of_decide_eq_true h1
      exact .plain (s_lst (sndEs es G h2).1 fun f ds f' hh => by rw [evs_len es hh]; exact this) rfl
    | _ => cases h
  | .idx a b, X, Wx, e, lv, c, Φ, k, x, G, h => by
    cases x with
    | Subscript l r p =>
      obtain ⟨h1, h2⟩ := and2 h
      obtain ⟨h3, h4⟩ := and2 h2
      exact .plain (s_idx G.toGood (sndE a G h3).v (sndE b G h4).v (plainIxB_ok h1)) rfl
    | _ => cases h
  | .fld a f, X, Wx, e, lv, c, Φ, k, x, G, h => by
    cases x with
    | Attribute l g p =>
      obtain ⟨h1, h2⟩ := and2 h
      obtain ⟨h3, h4⟩ := and2 h1
      obtain rfl := of_decide_eq_true h3
      exact .plain (s_fld G.fa.tab G.hK (sndE a G h2).v (baseB_ok h4)) rfl
    | _ => cases h
  | .slc a lo hi, X, Wx, e, lv, c, Φ, k, x, G, h => by
    unfold agE at h
    split at h
    · rename_i l lo' hi' p2 p
      obtain ⟨h1, h2⟩ := and2 h
      obtain ⟨h3, h4⟩ := and2 h2
      exact .plain (s_slc (sndE a G h1).v (sndO lo G h3) (sndO hi G h4)) rfl
    · cases h
  | .dic tk .nil, X, Wx, e, lv, c, Φ, k, x, G, h => by
    unfold agE at h
    split at h
    · cases tk with
      | false => exact .plain s_dicK rfl
      | true => exact .plain s_dicT rfl
    · cases h
  | .pl i p, X, Wx, e, lv, c, Φ, k, x, G, h => by
    have h' : agP p i c x = true := h
    have q := sndP p i G h'
    exact .plain (s_pl q.1) q.2
  | .lrng1 t a, X, Wx, e, lv, c, Φ, k, x, G, h => by
    unfold agE at h
    split at h
    · rename_i f pf g pg y p2 p
      obtain ⟨h1, h2⟩ := and2 h
      obtain ⟨h3, h4⟩ := and2 h1
      obtain ⟨h5, h6⟩ := and2 h4
      obtain ⟨h7, h8⟩ := and2 h6
      obtain ⟨h9, h10⟩ := and2 h2
      obtain rfl := of_decide_eq_true h3
      obtain rfl := of_decide_eq_true h5
      obtain ⟨f1, f2, f3⟩ := bltB_ok G h7
      obtain ⟨g1, g2, g3⟩ := bltB_ok G h8
      cases t with
      | true => exact .plain (s_lrng1 (t := true) G.toGood g1 g3 f1 f3 (sndE a G h10).v (not1 h9)) rfl
      | false => exact .plain (s_lrng1 (t := false) G.toGood g1 g3 f1 f3 (sndE a G h10).v (not1 h9)) rfl
    · cases h
  | .call g as, X, Wx, e, lv, c, Φ, k, x, G, h => by
    unfold agE at h
    split at h
    · rename_i f pf y ys p
      obtain ⟨h1, h2⟩ := and2 h
      obtain ⟨h3, h4⟩ := and2 h2
      split at h1
      · rename_i d hd
        obtain ⟨h5, h6⟩ := and2 h1
        obtain ⟨h7, h8⟩ := and2 h6
        obtain ⟨h9, h10⟩ := and2 h8
        obtain ⟨h11, h12⟩ := and2 h10
        obtain rfl := of_decide_eq_true h5
        unfold glbB at h9
        obtain ⟨h13, h14⟩ := and2 h9
        have e1 := of_decide_eq_true h11
        have e2 := of_decide_eq_true h12
        obtain ⟨fa, fd, ps, w1, w2, w3, w4⟩ := G.fa.fn g d hd h7
        refine .plain (s_frzM (s_call G.toGood h13 h14 w1 (by rw [G.hK]; exact w2) (by rw [G.hK]; exact w3) (by rw [G.hK]; exact w4) (by have := G.lev; omega) (sndAs as G h4) h3 fun f vs f' hh => ?_)) rfl
        obtain ⟨s1, s2⟩ := evAs_shape as 0 hh
        exact ⟨s1.trans e1, s2.trans e2⟩
      · cases h1
    · cases h
  | .new kc as, X, Wx, e, lv, c, Φ, k, x, G, h => by
    unfold agE at h
    split at h
    · rename_i f pf y ys p
      obtain ⟨h1, h2⟩ := and2 h
      obtain ⟨h3, h4⟩ := and2 h2
      split at h1
      · rename_i kk hk
        split at h1
        · rename_i d hd
          obtain ⟨h5, h6⟩ := and2 h1
          obtain ⟨h7, h8⟩ := and2 h6
          obtain ⟨h9, h10⟩ := and2 h8
          obtain rfl := of_decide_eq_true h5
          unfold glbB at h7
          obtain ⟨h13, h14⟩ := and2 h7
          have e1 := of_decide_eq_true h9
          have e2 := of_decide_eq_true h10
          obtain ⟨fi, fd, ps, w1, w2, w3, w4⟩ := G.fa.cl kc kk d hk hd
          refine .plain (s_frzM (s_new G.fa.tab G.toGood hk h13 h14 w1 (by rw [G.hK]; exact w2) (by rw [G.hK]; exact w3) (by rw [G.hK]; exact w4) G.lev (sndAs as G h4) h3 fun f vs f' hh => ?_)) rfl
          obtain ⟨s1, s2⟩ := evAs_shape as 0 hh
          exact ⟨by rw [s1]; exact e1, by rw [s2]; exact e2⟩
        · cases h1
      · cases h1
    · cases h
  | .bi b es, X, Wx, e, lv, c, Φ, k, x, G, h => by
    unfold agE at h
    split at h
    · rename_i f pf y ys p
      obtain ⟨h1, h2⟩ := and2 h
      obtain ⟨h3, h4⟩ := and2 h2
      obtain ⟨h5, h6⟩ := and2 h4
      obtain ⟨f1, f2, f3⟩ := bltB_ok G h3
      split at h1
      · rename_i nm id hb
        obtain ⟨h7, h8⟩ := and2 h1
        obtain rfl := of_decide_eq_true h7
        exact .plain (s_biF G.toGood hb f1 f3 (of_decide_eq_true h8) f2 (sndEs es G h6).1 h5) rfl
      · rename_i nm id hb
        obtain ⟨h7, h8⟩ := and2 h1
        obtain rfl := of_decide_eq_true h7
        exact .plain (s_biT G.toGood hb f1 f3 (of_decide_eq_true h8) f2 (sndEs es G h6).1 h5) rfl
      · cases h1
    · cases h
  | .biP bb i p es, X, Wx, e, lv, c, Φ, k, x, G, h => by
    cases bb <;> cases es <;> first | (cases h; done) | skip
    unfold agE at h
    split at h
    · rename_i f pf y pp
      obtain ⟨h1, h2⟩ := and2 h
      obtain ⟨h3, h4⟩ := and2 h1
      obtain ⟨h5, h6⟩ := and2 h2
      obtain rfl := of_decide_eq_true h3
      obtain ⟨f1, f2, f3⟩ := bltB_ok G h4
      exact .plain (s_lenP G.toGood (sndP p i G h6).1 f1 f3 (not1 h5)) rfl
    · cases h
  | .isi a t, X, Wx, e, lv, c, Φ, k, x, G, h => by
    unfold agE at h
    split at h
    · rename_i f pf y z pz p
      obtain ⟨h1, h2⟩ := and2 h
      obtain ⟨h3, h4⟩ := and2 h1
      obtain ⟨h5, h6⟩ := and2 h4
      obtain ⟨h7, h8⟩ := and2 h6
      obtain ⟨h9, h10⟩ := and2 h2
      obtain rfl := of_decide_eq_true h3
      obtain ⟨f1, f2, f3⟩ := bltB_ok G h5
      obtain ⟨g1, g2, g3⟩ := bltB_ok G h7
      have e1 := of_decide_eq_true h8
      have q := (sndE a G h10).v
      cases t <;> first
        | (cases e1; done)
        | (cases e1
           exact .plain (s_isi G.toGood rfl (by decide +kernel) g1 g3 (by decide +kernel) f1 f3 q (st_cons (not1 h9))) rfl)
    · cases h
  | .lc elt tg it ts own, X, Wx, e, lv, c, Φ, k, x, G, h => by
    unfold agE at h
    split at h
    · rename_i el t i ifs isA scope p
      obtain ⟨h1, h2⟩ := and2 h
      obtain ⟨h3, h4⟩ := and2 h1
      obtain ⟨h5, h6⟩ := and2 h4
      obtain ⟨h7, h8⟩ := and2 h6
      obtain ⟨h9, h10⟩ := and2 h8
      obtain ⟨h11, h12⟩ := and2 h10
      obtain ⟨h13, h14⟩ := and2 h2
      obtain ⟨h15, h16⟩ := and2 h14
      obtain rfl := of_decide_eq_true h3
      have eo : (own.map fun k => (c.N.getD k Str.empty, k)).map (·.2) = own := by rw [List.map_map]; exact List.map_id' own
      have hio : ∀ i ∈ own, i ∉ e.io := fun i hi m => by
        rw [G.io] at m
        have := not1 (List.all_eq_true.mp h9 i hi)
        rw [List.contains_iff_mem.mpr m] at this
        cases this
      have htg : ∀ i ∈ tgSlots tg, i ∈ own := fun i hi => List.contains_iff_mem.mp (List.all_eq_true.mp h11 i hi)
      have q := s_lc (ow := own.map fun k => (c.N.getD k Str.empty, k)) (pos := p) G.calm G.nd (sndI it t G h13) (by rw [G.hN, G.hsc]; exact blkOk_by h7) (by rw [eo]; exact hio) (by rw [eo]; exact htg) (fun s H C cl fp => tgB_ok G.blk h12) (fun s H C cl fp => sndT ts G.blk h15) (fun s H C cl fp => (sndE elt G.blk h16).v) (foldB_ok h5)
      rw [eo] at q
      exact .plain q rfl
    · cases h
  | .dc tk kk v tg it ts own, X, Wx, e, lv, c, Φ, k, x, G, h => by
    cases tk with
    | true => cases h
    | false =>
    unfold agE at h
    split at h
    · rename_i kx vx t i ifs isA scope p
      obtain ⟨h1, h2⟩ := and2 h
      obtain ⟨h3, h4⟩ := and2 h1
      obtain ⟨h5, h6⟩ := and2 h4
      obtain ⟨h7, h8⟩ := and2 h6
      obtain ⟨h9, h10⟩ := and2 h8
      obtain ⟨h11, h12⟩ := and2 h10
      obtain ⟨h13, h14⟩ := and2 h2
      obtain ⟨h15, h16⟩ := and2 h14
      obtain ⟨h17, h18⟩ := and2 h16
      obtain rfl := of_decide_eq_true h3
      have eo : (own.map fun k => (c.N.getD k Str.empty, k)).map (·.2) = own := by rw [List.map_map]; exact List.map_id' own
      have hio : ∀ i ∈ own, i ∉ e.io := fun i hi m => by
        rw [G.io] at m
        have := not1 (List.all_eq_true.mp h9 i hi)
        rw [List.contains_iff_mem.mpr m] at this
        cases this
      have htg : ∀ i ∈ tgSlots tg, i ∈ own := fun i hi => List.contains_iff_mem.mp (List.all_eq_true.mp h11 i hi)
      have q := s_dc (ow := own.map fun k => (c.N.getD k Str.empty, k)) (pos := p) G.calm G.nd (sndI it t G h13) (by rw [G.hN, G.hsc]; exact blkOk_by h7) (by rw [eo]; exact hio) (by rw [eo]; exact htg) (fun s H C cl fp => tgB_ok G.blk h12) (fun s H C cl fp => sndT ts G.blk h15) (fun s H C cl fp => (sndE kk G.blk h17).v) (fun s H C cl fp => (sndE v G.blk h18).v) (foldB_ok h5)
      rw [eo] at q
      exact .plain q rfl
    · cases h
  | .dic tk (.cons a b r), X, Wx, e, lv, c, Φ, k, x, G, h => by cases h
  | .fn _, X, Wx, e, lv, c, Φ, k, x, G, h => by cases h
  | .memP _ _ _ _, X, Wx, e, lv, c, Φ, k, x, G, h => by cases h
  | .memR1 _ _ _, X, Wx, e, lv, c, Φ, k, x, G, h => by cases h
  | .rev _, X, Wx, e, lv, c, Φ, k, x, G, h => by cases h
  | .lrng2 _ _ _, X, Wx, e, lv, c, Φ, k, x, G, h => by cases h
  | .frz _ _, X, Wx, e, lv, c, Φ, k, x, G, h => by cases h
  | .slcP _ _ _ _, X, Wx, e, lv, c, Φ, k, x, G, h => by cases h
  | .lc2 _ _ _ _ _ _ _ _ _, X, Wx, e, lv, c, Φ, k, x, G, h => by cases h
  | .dc2 _ _ _ _ _ _ _ _ _ _ _, X, Wx, e, lv, c, Φ, k, x, G, h => by cases h
  | .callV _ _, X, Wx, e, lv, c, Φ, k, x, G, h => by cases h
  | .meth _ _ _, X, Wx, e, lv, c, Φ, k, x, G, h => by cases h
  | .sortK _ _ _ _, X, Wx, e, lv, c, Φ, k, x, G, h => by cases h
  | .bestK _ _ _ _, X, Wx, e, lv, c, Φ, k, x, G, h => by cases h
  | .pop _ _, X, Wx, e, lv, c, Φ, k, x, G, h => by cases h
  | .popA _ _ _, X, Wx, e, lv, c, Φ, k, x, G, h => by cases h
  | .popK _ _ _ _, X, Wx, e, lv, c, Φ, k, x, G, h => by cases h
theorem sndT : ∀ (o : Eo) {X : Cx} {Wx : WX} {e : RB} {lv : Nat} {c : Ct} {Φ : Calls} {k : Nat} {xs : List Expr}, GoodC X Wx e lv c Φ k → agT o c xs = true → PTs X xs (tT e Wx (evt c.P Φ o))
  | .none, X, Wx, e, lv, c, Φ, k, xs, G, h => by
    cases xs with
    | nil =>
      refine ⟨fun pins s σ H Q I q => pts_nil.run pins s σ H Q I ?_⟩
      obtain ⟨Z, B, fp, f, r, p⟩ := q
      exact PM.fin (show PM e Wx Z B fp σ H (.ok true f) _ from p) r (Same.refl _)
    | cons y ys => cases h
  | .some a, X, Wx, e, lv, c, Φ, k, xs, G, h => by
    match xs, h with
    | [y], h =>
      obtain ⟨h1, h2⟩ := and2 h
      exact pts_one ((sndE a G h2).t (not1 h1))
    | [], h => cases h
    | _ :: _ :: _, h => cases h
theorem sndI : ∀ (it : It) (tgx : Expr) {X : Cx} {Wx : WX} {e : RB} {lv : Nat} {c : Ct} {Φ : Calls} {k : Nat} {x : Expr}, GoodC X Wx e lv c Φ k → agI it c x = true → PI X tgx x (tI e Wx (evI c.P Φ it))
  | .e a, tgx, X, Wx, e, lv, c, Φ, k, x, G, h => i_seq G.hK (sndE a G h).v
  | .rng1 a, tgx, X, Wx, e, lv, c, Φ, k, x, G, h => by
    unfold agI at h
    split at h
    · rename_i f pf y p
      obtain ⟨h1, h2⟩ := and2 h
      obtain ⟨h3, h4⟩ := and2 h1
      obtain ⟨h5, h6⟩ := and2 h2
      obtain rfl := of_decide_eq_true h3
      obtain ⟨f1, f2, f3⟩ := bltB_ok G h4
      exact i_rng1 G.toGood f1 f3 (sndE a G h6).v (not1 h5)
    · cases h
  | .rng2 a b, tgx, X, Wx, e, lv, c, Φ, k, x, G, h => by
    unfold agI at h
    split at h
    · rename_i f pf y z p
      obtain ⟨h1, h2⟩ := and2 h
      obtain ⟨h3, h4⟩ := and2 h1
      obtain ⟨h5, h6⟩ := and2 h2
      obtain ⟨h7, h8⟩ := and2 h5
      obtain ⟨h9, h10⟩ := and2 h6
      obtain rfl := of_decide_eq_true h3
      obtain ⟨f1, f2, f3⟩ := bltB_ok G h4
      exact i_rng2 G.toGood f1 f3 (sndE a G h9).v (sndE b G h10).v (not1 h7) (not1 h8)
    · cases h
  | .rng3 _ _ _, tgx, X, Wx, e, lv, c, Φ, k, x, G, h => by cases h
  | .enum _, tgx, X, Wx, e, lv, c, Φ, k, x, G, h => by cases h
  | .zip _ _, tgx, X, Wx, e, lv, c, Φ, k, x, G, h => by cases h
theorem sndO : ∀ (o : Eo) {X : Cx} {Wx : WX} {e : RB} {lv : Nat} {c : Ct} {Φ : Calls} {k : Nat} {x : Option Expr}, GoodC X Wx e lv c Φ k → agO o c x = true → PO X x (tOI e Wx (evo c.P Φ o))
  | .none, X, Wx, e, lv, c, Φ, k, x, G, h => by
    cases x with
    | none => exact o_none
    | some y => cases h
  | .some a, X, Wx, e, lv, c, Φ, k, x, G, h => by
    cases x with
    | none => cases h
    | some y => exact o_some (sndE a G h).v
theorem sndAs : ∀ (as : As) {X : Cx} {Wx : WX} {e : RB} {lv : Nat} {c : Ct} {Φ : Calls} {k : Nat} {xs : List Expr}, GoodC X Wx e lv c Φ k → agAs as c xs = true → PA X xs (tAs e Wx (evAs c.P Φ as))
  | .nil, X, Wx, e, lv, c, Φ, k, xs, G, h => by
    cases xs with
    | nil => exact as_nil
    | cons x xs => cases h
  | .cons (.e a) r, X, Wx, e, lv, c, Φ, k, xs, G, h => by
    cases xs with
    | nil => cases h
    | cons x xs =>
      obtain ⟨h1, h2⟩ := and2 h
      obtain ⟨h3, h4⟩ := and2 h2
      exact as_e (sndE a G h3).v (sndAs r G h4) (not1 h1)
  | .cons (.io i) r, X, Wx, e, lv, c, Φ, k, xs, G, h => by
    cases xs with
    | nil => cases h
    | cons x xs =>
      obtain ⟨h1, h2⟩ := and2 h
      obtain ⟨h3, h4⟩ := and2 h2
      cases x with
      | Name y p =>
        obtain ⟨n1, n2, n3⟩ := nmB_ok h3
        exact as_io G.toGood n1 n2 n3 (sndAs r G h4)
      | _ => cases h3
theorem sndP : ∀ (p : Ps) (i : Nat) {X : Cx} {Wx : WX} {e : RB} {lv : Nat} {c : Ct} {Φ : Calls} {k : Nat} {x : Expr}, GoodC X Wx e lv c Φ k → agP p i c x = true → PE X x (tPl c.P e Wx i (evP c.P Φ i p)) ∧ plT x = true
  | .nil, i, X, Wx, e, lv, c, Φ, k, x, G, h => by
    unfold agP at h
    split at h
    · obtain ⟨n1, n2, n3⟩ := nmB_ok h
      exact ⟨pl_nil G.toGood n1 n2 n3, rfl⟩
    · cases h
  | .ix .nil a, i, X, Wx, e, lv, c, Φ, k, x, G, h => by
    unfold agP at h
    split at h
    · obtain ⟨h1, h2⟩ := and2 h
      obtain ⟨h3, h4⟩ := and2 h2
      obtain ⟨n1, n2, n3⟩ := nmB_ok h1
      exact ⟨pl_ix0 G.toGood n1 n2 n3 (sndE a G h4).v (plainIxB_ok h3), rfl⟩
    · cases h
  | .ix (.ix p b) a, i, X, Wx, e, lv, c, Φ, k, x, G, h => by
    unfold agP at h
    split at h
    · obtain ⟨h1, h2⟩ := and2 h
      obtain ⟨h3, h4⟩ := and2 h2
      exact ⟨pl_ixQ G.toGood (sndP (.ix p b) i G h1).1 (sndQ a G h4) (plainIxB_ok h3), rfl⟩
    · cases h
  | .ix (.fd p b) a, i, X, Wx, e, lv, c, Φ, k, x, G, h => by
    unfold agP at h
    split at h
    · obtain ⟨h1, h2⟩ := and2 h
      obtain ⟨h3, h4⟩ := and2 h2
      exact ⟨pl_ixQ G.toGood (sndP (.fd p b) i G h1).1 (sndQ a G h4) (plainIxB_ok h3), rfl⟩
    · cases h
  | .fd p f, i, X, Wx, e, lv, c, Φ, k, x, G, h => by
    unfold agP at h
    split at h
    · obtain ⟨h1, h2⟩ := and2 h
      obtain ⟨h3, h4⟩ := and2 h1
      obtain rfl := of_decide_eq_true h3
      exact ⟨pl_fd G.fa.tab G.toGood (sndP p i G h2).1 (baseB_ok h4), rfl⟩
    · cases h
theorem sndQ : ∀ (a : E) {X : Cx} {Wx : WX} {e : RB} {lv : Nat} {c : Ct} {Φ : Calls} {k : Nat} {x : Expr}, GoodC X Wx e lv c Φ k → agQ a c x = true → PE X x (tQ e (evQ c.P a))
  | .var i, X, Wx, e, lv, c, Φ, k, x, G, h => by
    unfold agQ at h
    split at h
    · obtain ⟨n1, n2, n3⟩ := nmB_ok h
      exact q_var G.toGood n1 n2 n3
    · cases h
  | .int i, X, Wx, e, lv, c, Φ, k, x, G, h => by
    unfold agQ at h
    split at h
    · obtain rfl := of_decide_eq_true h
      exact q_int
    · cases h
  | .pl i p, X, Wx, e, lv, c, Φ, k, x, G, h => q_pl (sndPQ p i G h)
  | .non, X, Wx, e, lv, c, Φ, k, x, G, h => by cases h
  | .bl _, X, Wx, e, lv, c, Φ, k, x, G, h => by cases h
  | .str _, X, Wx, e, lv, c, Φ, k, x, G, h => by cases h
  | .gint _ _, X, Wx, e, lv, c, Φ, k, x, G, h => by cases h
  | .fn _, X, Wx, e, lv, c, Φ, k, x, G, h => by cases h
  | .bin _ _ _, X, Wx, e, lv, c, Φ, k, x, G, h => by cases h
  | .neg _, X, Wx, e, lv, c, Φ, k, x, G, h => by cases h
  | .inv _, X, Wx, e, lv, c, Φ, k, x, G, h => by cases h
  | .not _, X, Wx, e, lv, c, Φ, k, x, G, h => by cases h
  | .cmp _ _ _, X, Wx, e, lv, c, Φ, k, x, G, h => by cases h
  | .chn _ _ _ _ _, X, Wx, e, lv, c, Φ, k, x, G, h => by cases h
  | .isN _ _, X, Wx, e, lv, c, Φ, k, x, G, h => by cases h
  | .mem _ _ _, X, Wx, e, lv, c, Φ, k, x, G, h => by cases h
  | .memP _ _ _ _, X, Wx, e, lv, c, Φ, k, x, G, h => by cases h
  | .memR1 _ _ _, X, Wx, e, lv, c, Φ, k, x, G, h => by cases h
  | .and _ _, X, Wx, e, lv, c, Φ, k, x, G, h => by cases h
  | .or _ _, X, Wx, e, lv, c, Φ, k, x, G, h => by cases h
  | .ite _ _ _, X, Wx, e, lv, c, Φ, k, x, G, h => by cases h
  | .tup _, X, Wx, e, lv, c, Φ, k, x, G, h => by cases h
  | .lst _, X, Wx, e, lv, c, Φ, k, x, G, h => by cases h
  | .dic _ _, X, Wx, e, lv, c, Φ, k, x, G, h => by cases h
  | .idx _ _, X, Wx, e, lv, c, Φ, k, x, G, h => by cases h
  | .slc _ _ _, X, Wx, e, lv, c, Φ, k, x, G, h => by cases h
  | .rev _, X, Wx, e, lv, c, Φ, k, x, G, h => by cases h
  | .lrng1 _ _, X, Wx, e, lv, c, Φ, k, x, G, h => by cases h
  | .lrng2 _ _ _, X, Wx, e, lv, c, Φ, k, x, G, h => by cases h
  | .fld _ _, X, Wx, e, lv, c, Φ, k, x, G, h => by cases h
  | .frz _ _, X, Wx, e, lv, c, Φ, k, x, G, h => by cases h
  | .slcP _ _ _ _, X, Wx, e, lv, c, Φ, k, x, G, h => by cases h
  | .lc _ _ _ _ _, X, Wx, e, lv, c, Φ, k, x, G, h => by cases h
  | .lc2 _ _ _ _ _ _ _ _ _, X, Wx, e, lv, c, Φ, k, x, G, h => by cases h
  | .dc _ _ _ _ _ _ _, X, Wx, e, lv, c, Φ, k, x, G, h => by cases h
  | .dc2 _ _ _ _ _ _ _ _ _ _ _, X, Wx, e, lv, c, Φ, k, x, G, h => by cases h
  | .call _ _, X, Wx, e, lv, c, Φ, k, x, G, h => by cases h
  | .callV _ _, X, Wx, e, lv, c, Φ, k, x, G, h => by cases h
  | .new _ _, X, Wx, e, lv, c, Φ, k, x, G, h => by cases h
  | .meth _ _ _, X, Wx, e, lv, c, Φ, k, x, G, h => by cases h
  | .bi _ _, X, Wx, e, lv, c, Φ, k, x, G, h => by cases h
  | .biP _ _ _ _, X, Wx, e, lv, c, Φ, k, x, G, h => by cases h
  | .sortK _ _ _ _, X, Wx, e, lv, c, Φ, k, x, G, h => by cases h
  | .bestK _ _ _ _, X, Wx, e, lv, c, Φ, k, x, G, h => by cases h
  | .isi _ _, X, Wx, e, lv, c, Φ, k, x, G, h => by cases h
  | .pop _ _, X, Wx, e, lv, c, Φ, k, x, G, h => by cases h
  | .popA _ _ _, X, Wx, e, lv, c, Φ, k, x, G, h => by cases h
  | .popK _ _ _ _, X, Wx, e, lv, c, Φ, k, x, G, h => by cases h
theorem sndPQ : ∀ (p : Ps) (i : Nat) {X : Cx} {Wx : WX} {e : RB} {lv : Nat} {c : Ct} {Φ : Calls} {k : Nat} {x : Expr}, GoodC X Wx e lv c Φ k → agPQ p i c x = true → PE X x (tPq c.P e i (psQ c.P p))
  | .nil, i, X, Wx, e, lv, c, Φ, k, x, G, h => by
    unfold agPQ at h
    split at h
    · obtain ⟨n1, n2, n3⟩ := nmB_ok h
      exact pq_nil G.toGood n1 n2 n3
    · cases h
  | .ix p a, i, X, Wx, e, lv, c, Φ, k, x, G, h => by
    unfold agPQ at h
    split at h
    · obtain ⟨h1, h2⟩ := and2 h
      obtain ⟨h3, h4⟩ := and2 h2
      exact pq_ix G.toGood (sndPQ p i G h1) (sndQ a G h4) (plainIxB_ok h3)
    · cases h
  | .fd p f, i, X, Wx, e, lv, c, Φ, k, x, G, h => by
    unfold agPQ at h
    split at h
    · obtain ⟨h1, h2⟩ := and2 h
      obtain ⟨h3, h4⟩ := and2 h1
      obtain rfl := of_decide_eq_true h3
      exact pq_fd G.fa.tab G.toGood (sndPQ p i G h2) (baseB_ok h4)
    · cases h
theorem sndEs : ∀ (es : Es) {X : Cx} {Wx : WX} {e : RB} {lv : Nat} {c : Ct} {Φ : Calls} {k : Nat} {xs : List Expr}, GoodC X Wx e lv c Φ k → agEs es c xs = true → PA X xs (tA e Wx (evs c.P Φ es)) ∧ xs.all (fun x => !isStar x) = true
  | .nil, X, Wx, e, lv, c, Φ, k, xs, G, h => by
    cases xs with
    | nil => exact ⟨a_nil, rfl⟩
    | cons x xs => cases h
  | .cons a r, X, Wx, e, lv, c, Φ, k, xs, G, h => by
    cases xs with
    | nil => cases h
    | cons x xs =>
      obtain ⟨h1, h2⟩ := and2 h
      obtain ⟨h3, h4⟩ := and2 h2
      obtain ⟨q1, q2⟩ := sndEs r G h4
      exact ⟨a_cons (sndE a G h3).v q1 (st_cons (not1 h1)), by rw [List.all_cons, h1, q2]; rfl⟩
end
end Cr

/-! Statements: agreement. -/
namespace Cr
open PySem PySem.Spec L2
/-- is the value a comprehension on the name's line? (then the store is swapped in) -/
def swB (c : Ct) (y : Str) (py : Pos) (x : Expr) : Bool := match x with
  | .ListComp _ _ s p | .DictComp _ _ _ s p => (match c.sc.names.lookup y with | some .local => true | _ => false) && (py.line == p.line && !(s.names.any fun (n, k) => n == y && (k == .local || k == .cell)))
  | _ => false
def cmpB : Expr → Bool
  | .ListComp _ _ _ _ => true
  | .SetComp _ _ _ _ => true
  | .DictComp _ _ _ _ _ => true
  | _ => false
def tupB : Expr → Bool
  | .Tuple _ _ _ => true
  | _ => false
/-- all of them frozen -/
def fzEs : OEs → Option Es
  | .nil => some .nil
  | .cons (.e a) r => match fzEs r with
    | some es => some (.cons a es)
    | none => none
  | _ => none
def agOE : OE → Ct → Expr → Bool
  | .e a => fun c x => agE a c x
  | .lst es => fun c x => match x with
    | .List xs _ => match fzEs es with
      | some es => decide (esLen es ≤ 1000) && agEs es c xs
      | none => false
    | _ => false
  | .call g as => fun c x => match x with
    | .Call (.Name f _) (y :: ys) [] _ => (match c.P.defs[g]? with
      | some d => decide (f = d.nm) && (d.isFn && (glbB c f && (decide (ioS as 0 = d.io) && decide (asLen as = d.par))))
      | none => false) && ((y :: ys).all (fun x => !isStar x) && agAs as c (y :: ys))
    | _ => false
  | .new k as => fun c x => match x with
    | .Call (.Name f _) (y :: ys) [] _ => (match c.P.classes[k]? with
      | some kc => (match c.P.defs[kc.init]? with
        | some d => decide (f = kc.nm) && (glbB c f && (decide (0 :: (ioS as 0).map (· + 1) = d.io) && decide (asLen as + 1 = d.par)))
        | none => false)
      | none => false) && ((y :: ys).all (fun x => !isStar x) && agAs as c (y :: ys))
    | _ => false
  | _ => fun _ _ => false
theorem evOs_fz {P : Prg} {Φ : Calls} : ∀ (es : OEs) {es' : Es}, fzEs es = some es' → ∀ f, evOs P Φ es f = (M.bnd (evs P Φ es') fun ds => M.ret (ds.map .fz)) f
  | .nil, es', h, f => by cases h; rfl
  | .cons (.e a) r, es', h, f => by
    have h' : (match fzEs r with
      | some es => some (Es.cons a es)
      | none => none) = some es' := h
    cases q : fzEs r with
    | none => rw [q] at h'; cases h'
    | some es1 =>
      rw [q] at h'
      cases h'
      have ih := evOs_fz (P := P) (Φ := Φ) r q
      show M.bnd (M.bnd (ev P Φ a) fun d => M.ret (O.fz d)) (fun x => M.bnd (evOs P Φ r) fun xs => M.ret (x :: xs)) f = M.bnd (M.bnd (ev P Φ a) fun x => M.bnd (evs P Φ es1) fun xs => M.ret (x :: xs)) (fun ds => M.ret (ds.map .fz)) f
      rw [assocB, assocB]
      unfold M.bnd
      cases ev P Φ a f with
      | exc c fs f1 => rfl
      | bad => rfl
      | ok d f1 =>
        have := ih f1
        unfold M.bnd at this
        simp only [M.ret]
        rw [this]
        cases evs P Φ es1 f1 <;> rfl
  | .cons (.lst _) r, es', h, f => by cases h
  | .cons (.rep _ _) r, es', h, f => by cases h
  | .cons (.lc _ _ _ _ _) r, es', h, f => by cases h
  | .cons (.copy _) r, es', h, f => by cases h
  | .cons (.dic _) r, es', h, f => by cases h
  | .cons (.new _ _) r, es', h, f => by cases h
  | .cons (.call _ _) r, es', h, f => by cases h
theorem sndOE : ∀ (o : OE) {X : Cx} {Wx : WX} {e : RB} {lv : Nat} {c : Ct} {Φ : Calls} {k : Nat} {x : Expr}, GoodC X Wx e lv c Φ k → agOE o c x = true → PXc X Wx e x (evO c.P Φ o)
  | .e a, X, Wx, e, lv, c, Φ, k, x, G, h => o_e (sndE a G h).v
  | .lst es, X, Wx, e, lv, c, Φ, k, x, G, h => by
    simp only [agOE] at h
    split at h
    · split at h
      · rename_i es1 hz
        obtain ⟨h1, h2⟩ := and2 h
        have hl := of_decide_eq_true h1
        have q := o_lst (pos := by assumption) (sndEs es1 G h2).1 fun f ds f' hh => by rw [evs_len es1 hh]; exact hl
        have e1 : evO c.P Φ (.lst es) = M.bnd (evs c.P Φ es1) fun ds => M.ret (.lst (ds.map .fz)) := by
          funext f
          show M.bnd (evOs c.P Φ es) (fun os => M.ret (O.lst os)) f = _
          unfold M.bnd
          rw [evOs_fz es hz f]
          unfold M.bnd
          cases evs c.P Φ es1 f <;> rfl
        rw [e1]
        exact q
      · cases h
    · cases h
  | .call g as, X, Wx, e, lv, c, Φ, k, x, G, h => by
    simp only [agOE] at h
    split at h
    · rename_i f pf y ys p
      obtain ⟨h1, h2⟩ := and2 h
      obtain ⟨h3, h4⟩ := and2 h2
      split at h1
      · rename_i d hd
        obtain ⟨h5, h6⟩ := and2 h1
        obtain ⟨h7, h8⟩ := and2 h6
        obtain ⟨h9, h10⟩ := and2 h8
        obtain ⟨h11, h12⟩ := and2 h10
        obtain rfl := of_decide_eq_true h5
        unfold glbB at h9
        obtain ⟨h13, h14⟩ := and2 h9
        have e1 := of_decide_eq_true h11
        have e2 := of_decide_eq_true h12
        obtain ⟨fa, fd, ps, w1, w2, w3, w4⟩ := G.fa.fn g d hd h7
        refine s_call G.toGood h13 h14 w1 (by rw [G.hK]; exact w2) (by rw [G.hK]; exact w3) (by rw [G.hK]; exact w4) (by have := G.lev; omega) (sndAs as G h4) h3 fun f vs f' hh => ?_
        obtain ⟨s1, s2⟩ := evAs_shape as 0 hh
        exact ⟨s1.trans e1, s2.trans e2⟩
      · cases h1
    · cases h
  | .new kc as, X, Wx, e, lv, c, Φ, k, x, G, h => by
    simp only [agOE] at h
    split at h
    · rename_i f pf y ys p
      obtain ⟨h1, h2⟩ := and2 h
      obtain ⟨h3, h4⟩ := and2 h2
      split at h1
      · rename_i kk hk
        split at h1
        · rename_i d hd
          obtain ⟨h5, h6⟩ := and2 h1
          obtain ⟨h7, h8⟩ := and2 h6
          obtain ⟨h9, h10⟩ := and2 h8
          obtain rfl := of_decide_eq_true h5
          unfold glbB at h7
          obtain ⟨h13, h14⟩ := and2 h7
          have e1 := of_decide_eq_true h9
          have e2 := of_decide_eq_true h10
          obtain ⟨fi, fd, ps, w1, w2, w3, w4⟩ := G.fa.cl kc kk d hk hd
          refine s_new G.fa.tab G.toGood hk h13 h14 w1 (by rw [G.hK]; exact w2) (by rw [G.hK]; exact w3) (by rw [G.hK]; exact w4) G.lev (sndAs as G h4) h3 fun f vs f' hh => ?_
          obtain ⟨s1, s2⟩ := evAs_shape as 0 hh
          exact ⟨by rw [s1]; exact e1, by rw [s2]; exact e2⟩
        · cases h1
      · cases h1
    · cases h
  | .rep _ _, X, Wx, e, lv, c, Φ, k, x, G, h => by cases h
  | .lc _ _ _ _ _, X, Wx, e, lv, c, Φ, k, x, G, h => by cases h
  | .copy _, X, Wx, e, lv, c, Φ, k, x, G, h => by cases h
  | .dic _, X, Wx, e, lv, c, Φ, k, x, G, h => by cases h
end Cr

/-! Statements: agreement, and what agrees is read by its action. -/
namespace Cr
open PySem PySem.Spec L2
/-- what of the text the exceptions lean on; ne: how many there are -/
structure FxOk (mg : Str → Option Value) (P : Prg) (e : RE) : Prop where
  tr : ∀ y cs, (y, cs) ∈ P.tr → ∃ cv, (mg y = some cv ∨ (mg y = none ∧ bootBuiltins y = some cv ∧ y ≠ "__name__")) ∧ ∀ c, c < P.excs.length → PySem.W.exmOne e.K (.ref (e.exc c)) cv = some (cs.contains c)
  kit : ∀ y cs, (y, cs) ∈ P.kit → ∃ cv q, RelV q cv ∧ (∀ u, RelV q u → u = cv) ∧ (mg y = some cv ∨ (mg y = none ∧ bootBuiltins y = some cv ∧ y ≠ "__name__")) ∧ ∀ c, c < P.excs.length → PySem.W.kitOne e.K (.ref (e.exc c)) cv = some (cs.contains c)
  ex : ∀ c n, P.excs[c]? = some n → mg n = some (.ref (e.exc c)) ∧ PySem.W.keepIn e.K (.ref (e.exc c)) = true ∧ e.xfd c = none ∧ ExcC e.K (e.exc c) ∧
    PySem.W.subIn e.K (.ref (e.exc c)) (.type "BaseException") = some true ∧ PySem.W.typeIn e.K (.ref (e.exc c)) = some (.type "type") ∧ ∃ Bc newId initId bmB, ExcBaseFacts Bc newId initId bmB ∧ PySem.W.excIn e.K (e.exc c) bmB newId = true
structure GoodT (X : Cx) (Wx : WX) (e : RB) (lv : Nat) (c : Ct) (Φ : Calls) (k : Nat) : Prop extends GoodC X Wx e lv c Φ k where
  po : PassesOwn (model X.prog X.w) X.A X.env X.xe
  fnT : ∀ x, X.fn x = true
  stk : X.stack = X.env :: X.outer
  frm : X.env.frame = some X.env.locals
  kind : X.env.scope.kind = .function
  fx : FxOk X.mg c.P e.toRE
theorem GoodT.s {X : Cx} {Wx : WX} {e : RB} {lv : Nat} {c : Ct} {Φ : Calls} {k : Nat} (G : GoodT X Wx e lv c Φ k) : GoodS X Wx e lv c.N c.sc :=
  { toGood := G.toGood, po := G.po, fnT := G.fnT, stk := G.stk, frm := G.frm }
theorem cmpB_ok {x : Expr} (h : cmpB x = false) {t : Option Expr} {l : Nat} {env : Env} : swapsWith x t l env = pure false := by
  cases x <;> first | rfl | cases h
theorem tupB_ok {x : Expr} (h : tupB x = false) {t : Expr} {env : Env} : swappedStores [t] x env = pure none := by
  cases x <;> first | (cases h; done) | (cases t <;> rfl)
def swOk (c : Ct) (y : Str) (py : Pos) (x : Expr) : Bool := match x with
  | .ListComp _ _ s p => (match c.sc.names.lookup y with | some .local => true | _ => false) && ((py.line == p.line) && ((s.names.any fun (n, k) => n == y && (k == .local || k == .cell)) == false))
  | _ => false
/-- the value is no comprehension that is swapped in -/
def swF (c : Ct) (y : Str) (py : Pos) (x : Expr) : Bool := match x with
  | .ListComp _ _ s p => !((match c.sc.names.lookup y with | some .local => true | _ => false) && (py.line == p.line)) || (s.names.any fun (n, k) => n == y && (k == .local || k == .cell))
  | .DictComp _ _ _ s p => !((match c.sc.names.lookup y with | some .local => true | _ => false) && (py.line == p.line)) || (s.names.any fun (n, k) => n == y && (k == .local || k == .cell))
  | .SetComp _ _ _ _ => false
  | _ => true
theorem swF_ok {c : Ct} {y : Str} {py : Pos} {x : Expr} {l : Nat} {env : Env} (hsc : env.scope = c.sc) (h : swF c y py x = true) : swapsWith x (some (.Name y py)) l env = pure false := by
  have key : ∀ {s : Scope} {p : Pos}, (!((match c.sc.names.lookup y with | some .local => true | _ => false) && (py.line == p.line)) || (s.names.any fun (n, k) => n == y && (k == .local || k == .cell))) = true →
      (env.blockKind == .function && env.kindOf y == some .local && py.line == p.line && !(s.names.any fun (n, k) => n == y && (k == .local || k == .cell))) = false := by
    intro s p h
    have ek : env.kindOf y = c.sc.names.lookup y := by rw [Env.kindOf, hsc]
    rw [ek]
    cases ha : (s.names.any fun (n, k) => n == y && (k == .local || k == .cell)) with
    | true => simp
    | false =>
      rw [ha] at h
      cases hl : (py.line == p.line) with
      | false => simp
      | true =>
        rw [hl] at h
        cases q : c.sc.names.lookup y with
        | none => simp
        | some k =>
          rw [q] at h
          cases k <;> first | (cases h; done) | (cases (env.blockKind == .function) <;> rfl)
  cases x with
  | ListComp a b s p =>
    unfold swapsWith
    exact congrArg pure (key h)
  | DictComp a b d s p =>
    unfold swapsWith
    exact congrArg pure (key h)
  | SetComp a b s p => cases h
  | _ => rfl
theorem swD_true {kx vx : Expr} {gs : List Comprehension} {scope : Scope} {pos py : Pos} {y : Str} {l : Nat} {env : Env} (hk : env.scope.kind = .function) (hy : env.scope.names.lookup y = some .local) (hl : (py.line == pos.line) = true)
    (ha : (scope.names.any fun (n, k) => n == y && (k == .local || k == .cell)) = false) : swapsWith (.DictComp kx vx gs scope pos) (some (.Name y py)) l env = pure true := by
  have ky : env.kindOf y = some .local := hy
  have hb : env.blockKind = .function := by unfold Env.blockKind; rw [hk]; rfl
  unfold swapsWith
  simp only [hb, ky, ha, Expr.pos, hl]
  rfl
theorem swp_ok {a b : Expr} {n n2 : Str} {px py pt : Pos} {kt k2 : Nat} {pt2 : Pos} {env : Env} (hne : (n2 == n) = false) (ha : isStar a = false) (hb : isStar b = false) (hk : env.scope.kind = .function)
    (h1 : env.scope.names.lookup n = some .local) (h2 : env.scope.names.lookup n2 = some .local) (hf : ([a, b].all (foldedForSure 8)) = false) (hc : ([a, b].all (constantsAlone 8)) = false) (hl : (py.line == px.line) = true) :
    swappedStores [.Tuple [.Name n px, .Name n2 py] kt pt] (.Tuple [a, b] k2 pt2) env = pure (some [n, n2]) := by
  have k1 : env.kindOf n = some .local := h1
  have k2' : env.kindOf n2 = some .local := h2
  have hb' : env.blockKind = .function := by unfold Env.blockKind; rw [hk]; rfl
  have hd : [n, n2].eraseDups.length = 2 := by simp [List.eraseDups, List.eraseDupsBy, List.eraseDupsBy.loop, hne]
  unfold swappedStores
  simp only [hb', hf, hc, Expr.pos, List.head?, Option.map, Option.getD, List.filterMap, k1, k2', hl, beq_self_eq_true, Bool.and_true, if_true]
  refine (if_neg (fun z => by cases z)).trans ((if_neg ?_).trans ((if_neg ?_).trans ((if_neg (by decide)).trans (if_neg (by decide)))))
  · cases a <;> first | (cases ha; done) | (cases b <;> first | (cases hb; done) | (intro z; cases z; done))
  · rw [hd]
    intro z
    cases z
def par2B (t : Tg) (v : E) (c : Ct) (tx y : Expr) : Bool := match t, v with
  | .tup [i, j], .tup es => (match tx, y with
    | .Tuple [.Name n px, .Name n2 py] _ _, .Tuple [a, b] _ _ => (stB c i n && stB c j n2) && ((!decide (i = j) && !(n2 == n)) && (((match c.sc.names.lookup n with | some .local => true | _ => false) && (match c.sc.names.lookup n2 with | some .local => true | _ => false)) &&
        (((!isStar a && !isStar b) && (!([a, b].all (foldedForSure 8)) && !([a, b].all (constantsAlone 8)))) && ((py.line == px.line) && agEs es c [a, b]))))
    | _, _ => false)
  | _, _ => false
def isEB (c : Ct) (n : Str) (cs : List Nat) (x : Expr) : Bool := match x with
  | .Call (.Name f _) [.Name n1 _, .Name y _] [] _ => (decide (f = "isinstance") && bltB c f) && (decide (n1 = n) && (glbB c y && c.P.kit.contains (y, cs)))
  | _ => false
def hsB (h : Hs) (c : Ct) (n : Str) (xs : List Stmt) : Bool := match h with
  | .ret (.isE cs) => (match xs with
    | [.Return (some x) _] => isEB c n cs x
    | _ => false)
  | .unless (.isE cs) (.bl false) => (match xs with
    | [.If (.UnaryOp .Not x _) [.Return (some (.Constant (.bool false) _ _)) _] [] _] => isEB c n cs x
    | _ => false)
  | _ => false
theorem locB {c : Ct} {n : Str} (h : (match c.sc.names.lookup n with | some .local => true | _ => false) = true) : c.sc.names.lookup n = some .local := by
  split at h
  · assumption
  · cases h
section
variable {X : Cx} {Wx : WX} {e : RB} {lv : Nat} {c : Ct} {Φ : Calls} {k : Nat}
theorem GoodT.tr (G : GoodT X Wx e lv c Φ k) {W : WX} {pn : List (Addr × Obj)} {xe : Value → Shared → Prop} (G' : GoodS (X.tr pn xe) W e lv c.N c.sc) : GoodT (X.tr pn xe) W e lv c Φ k :=
  { toGood := G'.toGood, fa := G.fa, lev := G.lev, io := G.io, fnb := G.fnb, po := G'.po, fnT := G'.fnT, stk := G'.stk, frm := G'.frm, kind := G.kind, fx := G.fx }
theorem par2_ok (G : GoodT X Wx e lv c Φ k) {t : Tg} {v : E} {tx y : Expr} {pos : Pos} (h : par2B t v c tx y = true) : PSc X Wx e (.Assign [tx] y pos) (M.bnd (ev c.P Φ v) fun d => M.bnd (setM t d) fun _ => M.ret .nx) := by
  unfold par2B at h
  split at h
  · rename_i i j es
    split at h
    · rename_i n px n2 py kt pt a b k2 pt2
      obtain ⟨h1, h2⟩ := and2 h
      obtain ⟨h3, h4⟩ := and2 h1
      obtain ⟨h5, h6⟩ := and2 h2
      obtain ⟨h7, h8⟩ := and2 h5
      obtain ⟨h9, h10⟩ := and2 h6
      obtain ⟨h11, h12⟩ := and2 h9
      obtain ⟨h13, h14⟩ := and2 h10
      obtain ⟨h15, h16⟩ := and2 h13
      obtain ⟨h17, h18⟩ := and2 h15
      obtain ⟨h19, h20⟩ := and2 h16
      obtain ⟨h21, h22⟩ := and2 h14
      have l1 : X.env.scope.names.lookup n = some .local := by rw [G.hsc]; exact locB h11
      have l2 : X.env.scope.names.lookup n2 = some .local := by rw [G.hsc]; exact locB h12
      exact s_par2 G.toGood (stB_ok G.toGoodC h3) (stB_ok G.toGoodC h4) (of_decide_eq_false (not1 h7)) l1 l2 (sndEs es G.toGoodC h22).1 (swp_ok (not1 h8) (not1 h17) (not1 h18) G.kind l1 l2 (not1 h19) (not1 h20) h21)
    · cases h
  · cases h
theorem isEB_ok (G : GoodT X Wx e lv c Φ k) {n : Str} {cs : List Nat} {x : Expr} (h : isEB c n cs x = true) : ∃ pi p1 y p2 pc cv q, x = .Call (.Name "isinstance" pi) [.Name n p1, .Name y p2] [] pc ∧ glB c.sc "isinstance" = true ∧ X.mg "isinstance" = none ∧ ClsV X y cv q ∧ ∀ d, d < c.P.excs.length → PySem.W.kitOne X.K (.ref (e.exc d)) cv = some (cs.contains d) := by
  unfold isEB at h
  split at h
  · rename_i f pi n1 p1 y p2 pc
    obtain ⟨h1, h2⟩ := and2 h
    obtain ⟨h3, h4⟩ := and2 h1
    obtain ⟨h5, h6⟩ := and2 h2
    obtain ⟨h7, h8⟩ := and2 h6
    obtain rfl := of_decide_eq_true h3
    obtain rfl := of_decide_eq_true h5
    obtain ⟨g1, g2, g3⟩ := bltB_ok G.toGoodC h4
    obtain ⟨cv, q, x1, x2, x3, x4⟩ := G.fx.kit y cs (List.contains_iff_mem.mp h8)
    unfold glbB at h7
    obtain ⟨h9, h10⟩ := and2 h7
    have ho' := h10
    unfold okName at ho'
    simp only [Bool.and_eq_true, Bool.not_eq_true'] at ho'
    have hgl : X.env.kindOf y = none ∨ X.env.kindOf y = X.env.kindOf y := .inr rfl
    refine ⟨pi, p1, y, p2, pc, cv, q, rfl, g1, g3, ⟨fun a oe pn p => ?_, x2⟩, fun d hd => by rw [G.hK]; exact x4 d hd⟩
    rcases x3 with x3 | ⟨x3, x5, x6⟩
    · exact pe_glob (X := X.suite a ((a, oe) :: pn)) (show X.env.kindOf y = _ by rw [Env.kindOf, G.hsc]; exact glB_ok h9) x3 x1 ho'.1.1
    · exact pe_bltn (X := X.suite a ((a, oe) :: pn)) (show X.env.kindOf y = _ by rw [Env.kindOf, G.hsc]; exact glB_ok h9) x3 x5 x1 x6 ho'.1.1
  · cases h
end
mutual
def agS : S → Ct → Stmt → Bool
  | .asg t v => fun c x => match x with
    | .Assign [tx] y _ => if tupB y then par2B t v c tx y else (tgB c t tx && !isStar tx) && (!cmpB y && agE v c y)
    | _ => false
  | .try b cs ko h => fun c x => match x with
    | .Try body [.ExceptHandler (some (.Name y _)) (some n) hb _] [] [] _ => (match ko with
      | some i => (decide (c.N[i]? = some n) && (visB c.sc n && okName n)) && ((match c.sc.names.lookup n with | some .local => true | _ => false) && !c.io.contains i)
      | none => false) && ((glbB c y && c.P.tr.contains (y, cs)) && (hsB h c n hb && agSs b c body))
    | _ => false
  | .asgL i v => fun c x => match x with
    | .Assign [.Name y py] y2 _ => if swF c y py y2 then stB c i y && agE v c y2 else match y2 with
      | .ListComp el gs scope p => (stB c i y && ((match c.sc.names.lookup y with | some .local => true | _ => false) && ((py.line == p.line) && !(scope.names.any fun (n, k) => n == y && (k == .local || k == .cell))))) && (match v with
        | .lc elt tg it ts own => agE (.lc elt tg it ts own) c (.ListComp el gs scope p)
        | _ => false)
      | .DictComp kx vx gs scope p => (stB c i y && ((match c.sc.names.lookup y with | some .local => true | _ => false) && ((py.line == p.line) && !(scope.names.any fun (n, k) => n == y && (k == .local || k == .cell))))) && (match v with
        | .dc false kk vv tg it ts own => agE (.dc false kk vv tg it ts own) c (.DictComp kx vx gs scope p)
        | _ => false)
      | _ => false
    | _ => false
  | .asgO i o => fun c x => match x with
    | .Assign [.Name y _] v _ => stB c i y && (!cmpB v && agOE o c v)
    | _ => false
  | .rse k es => fun c x => match x with
    | .Raise (some (.Call (.Name y _) [.Constant (.str m) _ _] [] _)) none _ => decide (c.P.excs[k]? = some y) && (glbB c y && (match es with
      | .cons (.str m') .nil => decide (m' = m)
      | _ => false))
    | _ => false
  | .ex v => fun c x => match x with
    | .Expr y _ => !cmpB y && agE v c y
    | _ => false
  | .ret v => fun c x => match x with
    | .Return (some y) _ => agE v c y
    | _ => false
  | .retO o => fun c x => match x with
    | .Return (some y) _ => agOE o c y
    | _ => false
  | .retN => fun _ x => match x with
    | .Return none _ => true
    | _ => false
  | .ite q a b => fun c x => match x with
    | .If t ya yb _ => (!isIf t && agE q c t) && (agSs a c ya && agSs b c yb)
    | _ => false
  | .for t it b => fun c x => match x with
    | .For tx ix yb [] _ => (tgB c t tx && foldB ix) && (agI it c ix && agSs b c yb)
    | _ => false
  | .whl q b => fun c x => match x with
    | .While t yb [] _ => (!isIf t && agE q c t) && agSs b c yb
    | _ => false
  | .aug i o v => fun c x => match x with
    | .AugAssign (.Name y _) op z _ => (stB c i y && decide (op = bop o)) && agE v c z
    | _ => false
  | .mu i .nil (.app o) => fun c x => match x with
    | .Expr (.Call (.Attribute (.Name y _) f ap) [z] [] cp) _ => (decide (f = "append") && nmB c i y) && ((!isStar z && (ap.endLine == cp.line)) && agOE o c z)
    | _ => false
  | .mu i .nil (.set kk o) => fun c x => match x with
    | .Assign [.Subscript (.Name y _) kx _] v _ => (nmB c i y && plainIxB kx) && (agE kk c kx && agOE o c v)
    | _ => false
  | .mu i .nil (.fset g o) => fun c x => match x with
    | .Assign [.Attribute (.Name y _) f _] v _ => (decide (f = g) && nmB c i y) && agOE o c v
    | _ => false
  | .brk => fun _ x => match x with
    | .Break _ => true
    | _ => false
  | .cont => fun _ x => match x with
    | .Continue _ => true
    | _ => false
  | .pass => fun _ x => match x with
    | .Pass _ => true
    | _ => false
  | _ => fun _ _ => false
def agSs : Ss → Ct → List Stmt → Bool
  | .nil => fun _ xs => xs.isEmpty
  | .cons s r => fun c xs => match xs with
    | x :: xs => agS s c x && agSs r c xs
    | [] => false
end
mutual
theorem sndS : ∀ (s : S) {X : Cx} {Wx : WX} {e : RB} {lv : Nat} {c : Ct} {Φ : Calls} {k : Nat} {x : Stmt}, GoodT X Wx e lv c Φ k → agS s c x = true → PSc X Wx e x (exS c.P Φ s)
  | .asg t v, X, Wx, e, lv, c, Φ, k, x, G, h => by
    unfold agS at h
    split at h
    · rename_i tx y sp
      by_cases q : tupB y = true
      · rw [if_pos q] at h
        exact par2_ok G h
      · rw [if_neg q] at h
        obtain ⟨h1, h2⟩ := and2 h
        obtain ⟨h3, h4⟩ := and2 h1
        obtain ⟨h5, h6⟩ := and2 h2
        exact s_asg (sndE v G.toGoodC h6).v (tgB_ok G.toGoodC h3) (not1 h4) (cmpB_ok (not1 h5)) (tupB_ok (by simpa using q))
    · cases h
  | .asgL i v, X, Wx, e, lv, c, Φ, k, x, G, h => by
    unfold agS at h
    split at h
    · rename_i y py y2 sp
      by_cases qf : swF c y py y2 = true
      · rw [if_pos qf] at h
        obtain ⟨h1, h2⟩ := and2 h
        have hw : swappedStores [.Name y py] y2 X.env = pure none := by cases y2 <;> rfl
        exact s_asg (tg := .nm i) (sndE v G.toGoodC h2).v (g_nm G.toGood (stB_ok G.toGoodC h1)) rfl (swF_ok (l := sp.line) G.hsc qf) hw
      rw [if_neg qf] at h
      split at h
      · rename_i el gs scope p
        obtain ⟨g1, hE0⟩ := and2 h
        split at hE0
        case h_2 => cases hE0
        rename_i elt tg it ts own
        have hE := hE0
        obtain ⟨g2, g3⟩ := and2 g1
        obtain ⟨g4, g5⟩ := and2 g3
        obtain ⟨g6, g7⟩ := and2 g5
        have hloc : X.env.scope.names.lookup y = some .local := by
          rw [G.hsc]
          split at g4
          · assumption
          · cases g4
        unfold agE at hE
        split at hE
        · rename_i el' t' i' ifs' isA scope' p' heq
          cases heq
          obtain ⟨h1, h2⟩ := and2 hE
          obtain ⟨h3, h4⟩ := and2 h1
          obtain ⟨h5, h6⟩ := and2 h4
          obtain ⟨h7, h8⟩ := and2 h6
          obtain ⟨h9, h10⟩ := and2 h8
          obtain ⟨h11, h12⟩ := and2 h10
          obtain ⟨h13, h14⟩ := and2 h2
          obtain ⟨h15, h16⟩ := and2 h14
          obtain rfl := of_decide_eq_true h3
          have eo : (own.map fun k => (c.N.getD k Str.empty, k)).map (·.2) = own := by rw [List.map_map]; exact List.map_id' own
          have hio : ∀ i ∈ own, i ∉ e.io := fun i hi m => by
            rw [G.io] at m
            have := not1 (List.all_eq_true.mp h9 i hi)
            rw [List.contains_iff_mem.mpr m] at this
            cases this
          have htg : ∀ i ∈ tgSlots tg, i ∈ own := fun i hi => List.contains_iff_mem.mp (List.all_eq_true.mp h11 i hi)
          have q := s_asgLc (ow := own.map fun k => (c.N.getD k Str.empty, k)) (py := py) (spos := sp) (pos := p) G.s (stB_ok G.toGoodC g2) hloc (sw_true G.kind hloc g6 (not1 g7)) (sndI it _ G.toGoodC h13) (by rw [G.hN, G.hsc]; exact blkOk_by h7) (by rw [eo]; exact hio) (by rw [eo]; exact htg) (fun s H C cl fp => tgB_ok G.toGoodC.blk h12) (fun s H C cl fp => sndT ts G.toGoodC.blk h15) (fun s H C cl fp => (sndE elt G.toGoodC.blk h16).v) (foldB_ok h5)
          rw [eo] at q
          exact q
        · cases hE
      · rename_i kx vx gs scope p
        obtain ⟨g1, hE0⟩ := and2 h
        split at hE0
        case h_2 => cases hE0
        rename_i kk vv tg it ts own
        have hE := hE0
        obtain ⟨g2, g3⟩ := and2 g1
        obtain ⟨g4, g5⟩ := and2 g3
        obtain ⟨g6, g7⟩ := and2 g5
        have hloc : X.env.scope.names.lookup y = some .local := by
          rw [G.hsc]
          split at g4
          · assumption
          · cases g4
        unfold agE at hE
        split at hE
        · rename_i kx' vx' t' i' ifs' isA scope' p' heq
          cases heq
          obtain ⟨h1, h2⟩ := and2 hE
          obtain ⟨h3, h4⟩ := and2 h1
          obtain ⟨h5, h6⟩ := and2 h4
          obtain ⟨h7, h8⟩ := and2 h6
          obtain ⟨h9, h10⟩ := and2 h8
          obtain ⟨h11, h12⟩ := and2 h10
          obtain ⟨h13, h14⟩ := and2 h2
          obtain ⟨h15, h16⟩ := and2 h14
          obtain ⟨h17, h18⟩ := and2 h16
          obtain rfl := of_decide_eq_true h3
          have eo : (own.map fun k => (c.N.getD k Str.empty, k)).map (·.2) = own := by rw [List.map_map]; exact List.map_id' own
          have hio : ∀ i ∈ own, i ∉ e.io := fun i hi m => by
            rw [G.io] at m
            have := not1 (List.all_eq_true.mp h9 i hi)
            rw [List.contains_iff_mem.mpr m] at this
            cases this
          have htg : ∀ i ∈ tgSlots tg, i ∈ own := fun i hi => List.contains_iff_mem.mp (List.all_eq_true.mp h11 i hi)
          have q := s_asgDc (ow := own.map fun k => (c.N.getD k Str.empty, k)) (py := py) (spos := sp) (pos := p) G.s (stB_ok G.toGoodC g2) hloc (swD_true G.kind hloc g6 (not1 g7)) (sndI it _ G.toGoodC h13) (by rw [G.hN, G.hsc]; exact blkOk_by h7) (by rw [eo]; exact hio) (by rw [eo]; exact htg) (fun s H C cl fp => tgB_ok G.toGoodC.blk h12) (fun s H C cl fp => sndT ts G.toGoodC.blk h15) (fun s H C cl fp => (sndE kk G.toGoodC.blk h17).v) (fun s H C cl fp => (sndE vv G.toGoodC.blk h18).v) (foldB_ok h5)
          rw [eo] at q
          exact q
        · cases hE
      · cases h
    · cases h
  | .asgO i o, X, Wx, e, lv, c, Φ, k, x, G, h => by
    unfold agS at h
    split at h
    · obtain ⟨h1, h2⟩ := and2 h
      obtain ⟨h3, h4⟩ := and2 h2
      exact s_asgO G.toGood (stB_ok G.toGoodC h1) (sndOE o G.toGoodC h4) (cmpB_ok (not1 h3))
    · cases h
  | .ex v, X, Wx, e, lv, c, Φ, k, x, G, h => by
    unfold agS at h
    split at h
    · obtain ⟨h1, h2⟩ := and2 h
      exact s_ex (sndE v G.toGoodC h2).v (cmpB_ok (not1 h1))
    · cases h
  | .ret v, X, Wx, e, lv, c, Φ, k, x, G, h => by
    unfold agS at h
    split at h
    · exact s_ret (sndE v G.toGoodC h).v
    · cases h
  | .retO o, X, Wx, e, lv, c, Φ, k, x, G, h => by
    unfold agS at h
    split at h
    · exact s_retO (sndOE o G.toGoodC h)
    · cases h
  | .retN, X, Wx, e, lv, c, Φ, k, x, G, h => by
    unfold agS at h
    split at h
    · exact s_retN
    · cases h
  | .ite q a b, X, Wx, e, lv, c, Φ, k, x, G, h => by
    unfold agS at h
    split at h
    · obtain ⟨h1, h2⟩ := and2 h
      obtain ⟨h3, h4⟩ := and2 h1
      obtain ⟨h5, h6⟩ := and2 h2
      exact s_if ((sndE q G.toGoodC h4).t (not1 h3)) (sndSs a G h5) (sndSs b G h6)
    · cases h
  | .for t it b, X, Wx, e, lv, c, Φ, k, x, G, h => by
    unfold agS at h
    split at h
    · obtain ⟨h1, h2⟩ := and2 h
      obtain ⟨h3, h4⟩ := and2 h1
      obtain ⟨h5, h6⟩ := and2 h2
      exact s_for G.s (sndI it _ G.toGoodC h5) (tgB_ok G.toGoodC h3) (sndSs b G h6) (foldB_ok h4)
    · cases h
  | .whl q b, X, Wx, e, lv, c, Φ, k, x, G, h => by
    unfold agS at h
    split at h
    · obtain ⟨h1, h2⟩ := and2 h
      obtain ⟨h3, h4⟩ := and2 h1
      exact s_whl G.s ((sndE q G.toGoodC h4).t (not1 h3)) (sndSs b G h2)
    · cases h
  | .aug i o v, X, Wx, e, lv, c, Φ, k, x, G, h => by
    unfold agS at h
    split at h
    · obtain ⟨h1, h2⟩ := and2 h
      obtain ⟨h3, h4⟩ := and2 h1
      obtain rfl := of_decide_eq_true h4
      exact s_aug G.toGood (stB_ok G.toGoodC h3) (sndE v G.toGoodC h2).v
    · cases h
  | .brk, X, Wx, e, lv, c, Φ, k, x, G, h => by
    unfold agS at h
    split at h
    · exact s_brk
    · cases h
  | .cont, X, Wx, e, lv, c, Φ, k, x, G, h => by
    unfold agS at h
    split at h
    · exact s_cont
    · cases h
  | .pass, X, Wx, e, lv, c, Φ, k, x, G, h => by
    unfold agS at h
    split at h
    · exact s_pass
    · cases h
  | .parO _ _, X, Wx, e, lv, c, Φ, k, x, G, h => by cases h
  | .parS _ _, X, Wx, e, lv, c, Φ, k, x, G, h => by cases h
  | .mu i .nil (.app o), X, Wx, e, lv, c, Φ, k, x, G, h => by
    unfold agS at h
    split at h
    · obtain ⟨h1, h2⟩ := and2 h
      obtain ⟨h3, h4⟩ := and2 h1
      obtain ⟨h5, h6⟩ := and2 h2
      obtain ⟨h7, h8⟩ := and2 h5
      obtain rfl := of_decide_eq_true h3
      obtain ⟨n1, n2, n3⟩ := nmB_ok h4
      exact s_app G.toGood n1 n2 n3 (sndOE o G.toGoodC h6) (not1 h7) h8
    · cases h
  | .mu i .nil (.set kk o), X, Wx, e, lv, c, Φ, k, x, G, h => by
    unfold agS at h
    split at h
    · rename_i y p1 kx p2 v pos
      obtain ⟨h1, h2⟩ := and2 h
      obtain ⟨h3, h4⟩ := and2 h1
      obtain ⟨h5, h6⟩ := and2 h2
      obtain ⟨n1, n2, n3⟩ := nmB_ok h3
      exact s_setL G.toGood n1 n2 n3 (sndOE o G.toGoodC h6) (sndE kk G.toGoodC h5).v (by cases v <;> rfl) (by cases v <;> rfl) (by intro v; cases kx <;> first | rfl | cases h4)
    · cases h
  | .mu i .nil (.fset g o), X, Wx, e, lv, c, Φ, k, x, G, h => by
    unfold agS at h
    split at h
    · rename_i y p1 f p2 v pos
      obtain ⟨h1, h2⟩ := and2 h
      obtain ⟨h3, h4⟩ := and2 h1
      obtain rfl := of_decide_eq_true h3
      obtain ⟨n1, n2, n3⟩ := nmB_ok h4
      exact s_fset G.fa.tab G.toGood n1 n2 n3 (sndOE o G.toGoodC h2) (by cases v <;> rfl)
    · cases h
  | .mu i (.ix _ _) _, X, Wx, e, lv, c, Φ, k, x, G, h => by cases h
  | .mu i (.fd _ _) _, X, Wx, e, lv, c, Φ, k, x, G, h => by cases h
  | .mu i .nil (.aug _ _ _), X, Wx, e, lv, c, Φ, k, x, G, h => by cases h
  | .mu i .nil (.ext _), X, Wx, e, lv, c, Φ, k, x, G, h => by cases h
  | .mu i .nil (.ins _ _), X, Wx, e, lv, c, Φ, k, x, G, h => by cases h
  | .mu i .nil (.rem _), X, Wx, e, lv, c, Φ, k, x, G, h => by cases h
  | .mu i .nil (.faug _ _ _), X, Wx, e, lv, c, Φ, k, x, G, h => by cases h
  | .mu i .nil (.upd _), X, Wx, e, lv, c, Φ, k, x, G, h => by cases h
  | .rse j es, X, Wx, e, lv, c, Φ, k, x, G, h => by
    unfold agS at h
    split at h
    · obtain ⟨h1, h2⟩ := and2 h
      obtain ⟨h3, h4⟩ := and2 h2
      have e1 := of_decide_eq_true h1
      unfold glbB at h3
      obtain ⟨h5, h6⟩ := and2 h3
      split at h4
      · obtain rfl := of_decide_eq_true h4
        obtain ⟨x1, x2, x3, x4, x5, x6, Bc, nI, iI, bm, x7, x8⟩ := G.fx.ex j _ e1
        exact s_rse G.s x7 (by rw [G.hK]; exact x8) x1 (by rw [G.hK]; exact x2) (raises_own (by rw [G.hK]; exact x5) (by rw [G.hK]; exact x6)) h5 h6 x3
      · cases h4
    · cases h
  | .try b cs ko hs, X, Wx, e, lv, c, Φ, k, x, G, h => by
    unfold agS at h
    split at h
    · rename_i body y np n hb pos' pos
      obtain ⟨h1, h2⟩ := and2 h
      obtain ⟨h3, h4⟩ := and2 h2
      obtain ⟨h5, h6⟩ := and2 h3
      obtain ⟨h7, h8⟩ := and2 h4
      split at h1
      · rename_i i
        obtain ⟨g1, g2⟩ := and2 h1
        obtain ⟨g3, g4⟩ := and2 g1
        obtain ⟨g5, g6⟩ := and2 g4
        obtain ⟨g7, g8⟩ := and2 g2
        have hi := of_decide_eq_true g3
        have hln : X.env.kindOf n = some .local := by
          show X.env.scope.names.lookup n = _
          rw [G.hsc]; exact locB g7
        have hio : i ∉ e.io := by
          rw [G.io]
          intro m
          have := not1 g8
          rw [List.contains_iff_mem.mpr m] at this
          cases this
        obtain ⟨cv, x1, x2⟩ := G.fx.tr y cs (List.contains_iff_mem.mp h6)
        unfold glbB at h5
        obtain ⟨h9, h10⟩ := and2 h5
        have ho' := h10
        unfold okName at ho'
        simp only [Bool.and_eq_true, Bool.not_eq_true'] at ho'
        have hc : Names X y cv := ⟨show X.env.kindOf y = _ by rw [Env.kindOf, G.hsc]; exact glB_ok h9, ho'.1.1, x1⟩
        have hb' : ∀ (W : WX) (pn : List (Addr × Obj)) (xe : Value → Shared → Prop), GoodS (X.tr pn xe) W e lv c.N c.sc → PSsc (X.tr pn xe) W e body (exs c.P Φ b) := fun W pn xe G' => sndSs b (G.tr G') h8
        unfold hsB at h7
        split at h7
        · split at h7
          · obtain ⟨pi, p1, y2, p2, pc, cv2, q2, e1, e2, e3, e4, e5⟩ := isEB_ok G h7
            subst e1
            exact s_tryRet G.s hi g5 g6 e2 e3 hln hio hc (fun d hd => by rw [G.hK]; exact x2 d hd) (fun d hd hm => by
              obtain ⟨n0, hn0⟩ : ∃ n0, c.P.excs[d]? = some n0 := ⟨_, List.getElem?_eq_getElem hd⟩
              obtain ⟨y1, y2', y3, y4, y5⟩ := G.fx.ex d _ hn0
              exact ⟨y3, by rw [G.hK]; exact y4, e5 d hd⟩) e4 hb'
          · cases h7
        · split at h7
          · obtain ⟨pi, p1, y2, p2, pc, cv2, q2, e1, e2, e3, e4, e5⟩ := isEB_ok G h7
            subst e1
            exact s_tryUnless G.s hi g5 g6 e2 e3 hln hio hc (fun d hd => by rw [G.hK]; exact x2 d hd) (fun d hd hm => by
              obtain ⟨n0, hn0⟩ : ∃ n0, c.P.excs[d]? = some n0 := ⟨_, List.getElem?_eq_getElem hd⟩
              obtain ⟨y1, y2', y3, y4, y5⟩ := G.fx.ex d _ hn0
              exact ⟨y3, by rw [G.hK]; exact y4, e5 d hd⟩) e4 hb'
          · cases h7
        · cases h7
      · cases h1
    · cases h
theorem sndSs : ∀ (s : Ss) {X : Cx} {Wx : WX} {e : RB} {lv : Nat} {c : Ct} {Φ : Calls} {k : Nat} {xs : List Stmt}, GoodT X Wx e lv c Φ k → agSs s c xs = true → PSsc X Wx e xs (exs c.P Φ s)
  | .nil, X, Wx, e, lv, c, Φ, k, xs, G, h => by
    cases xs with
    | nil => exact ss_nil
    | cons y ys => cases h
  | .cons s r, X, Wx, e, lv, c, Φ, k, xs, G, h => by
    cases xs with
    | nil => cases h
    | cons y ys =>
      obtain ⟨h1, h2⟩ := and2 h
      exact ss_cons (sndS s G h1) (sndSs r G h2)
end
end Cr

/-! The head: what the text's top has left, read by one Bool; every def keeps its promise; the law. -/
namespace Cr
open PySem PySem.Spec L2
/-! ### the facts, one Bool -/
/-- what an exception's name stands for -/
def cvB (K : PySem.W.Frag) (y : Str) : Option Value := match PySem.W.nsIn K mainGlobals y with
  | some (some (.ref a)) => some (.ref a)
  | some none => (match bootBuiltins y with
    | some (.type t) => if y = "__name__" then none else some (.type t)
    | _ => none)
  | _ => none
theorem cvB_ok {K : PySem.W.Frag} {h : Heap} {mg : Str → Option Value} {y : Str} {cv : Value} (X : K.In h) (G : h.Ns mainGlobals mg) (c : cvB K y = some cv) :
    ∃ q, RelV q cv ∧ (∀ u, RelV q u → u = cv) ∧ (mg y = some cv ∨ (mg y = none ∧ bootBuiltins y = some cv ∧ y ≠ "__name__")) := by
  unfold cvB at c
  split at c
  · rename_i a hn
    cases c
    exact ⟨.ref a, rfl, fun u hu => hu, .inl (PySem.W.mg_of X G hn)⟩
  · rename_i hn
    split at c
    · rename_i t hb
      by_cases q : y = "__name__"
      · rw [if_pos q] at c; cases c
      · rw [if_neg q] at c
        cases c
        exact ⟨.ty t, rfl, fun u hu => hu, .inr ⟨PySem.W.mg_none_of X G hn, hb, q⟩⟩
    · cases c
  · cases c
def exA (K : PySem.W.Frag) (P : Prg) (c : Nat) : Addr := He.ga K (P.excs.getD c Str.empty)
def trB (K : PySem.W.Frag) (P : Prg) (p : Str × List Nat) : Bool := match cvB K p.1 with
  | some cv => (List.range P.excs.length).all fun c => decide (PySem.W.exmOne K (.ref (exA K P c)) cv = some (p.2.contains c))
  | none => false
def kitB (K : PySem.W.Frag) (P : Prg) (p : Str × List Nat) : Bool := match cvB K p.1 with
  | some cv => (List.range P.excs.length).all fun c => decide (PySem.W.kitOne K (.ref (exA K P c)) cv = some (p.2.contains c))
  | none => false
def clsB (K : PySem.W.Frag) (k : Cls) : Bool := ((He.Fa.glo k.nm).ok K && (He.Fa.cls k.nm).ok K) && (k.fields.all (fun f => (He.Fa.noat k.nm f).ok K) && (He.Fa.mkr k.nm).ok K)
def excC (K : PySem.W.Frag) (D : Addr) : Bool :=
  (He.eqO (PySem.W.findIn K (.ref D) "__getattribute__") (some (some (.builtin "BaseException.__getattribute__"))) && He.eqO (PySem.W.findIn K (.ref D) "__getattr__") (some none)) &&
  ((decide (PySem.W.subIn K (.ref D) (.type "BaseException") = some true) && PySem.W.hasDictIn K D) &&
  ((He.eqO (PySem.W.findIn K (.ref D) "__class__") (some (some (.builtin "object.__class__"))) && He.eqO (PySem.W.specialIn K (.builtin "object.__class__") "__get__") (some (some (.builtin "getset_descriptor.__get__")))) &&
  (decide (PySem.W.takesIn K (.builtin "object.__class__") = some true) && decide (PySem.W.mroIn K D (.type "object") = some true))))
theorem excC_ok {K : PySem.W.Frag} {D : Addr} (h : excC K D = true) : ExcC K D := by
  obtain ⟨h1, h2⟩ := and2 h
  obtain ⟨h3, h4⟩ := and2 h1
  obtain ⟨h5, h6⟩ := and2 h2
  obtain ⟨h7, h8⟩ := and2 h5
  obtain ⟨h9, h10⟩ := and2 h6
  obtain ⟨h11, h12⟩ := and2 h9
  obtain ⟨h13, h14⟩ := and2 h10
  exact ⟨He.eqO_ok h3, He.eqO_ok h4, of_decide_eq_true h7, h8, He.eqO_ok h11, He.eqO_ok h12, of_decide_eq_true h13, of_decide_eq_true h14⟩
def exB (K : PySem.W.Frag) (x : Str) : Bool := ((He.Fa.glo x).ok K && (He.Fa.exc x).ok K) && excC K (He.ga K x)
def factsB (P : Prg) (K : PySem.W.Frag) : Bool :=
  ((P.blt.all fun x => (He.Fa.free x).ok K) && (P.gints.all fun p => (He.Fa.int p.1 p.2).ok K)) &&
  (((P.defs.all fun d => !d.isFn || (He.Fa.glo d.nm).ok K) && P.classes.all (clsB K)) &&
  (P.excs.all (exB K) && (P.tr.all (trB K P) && P.kit.all (kitB K P))))
/-! ### the defs' texts -/
def clsBody (s : Stmt) : List Stmt := match s with
  | .ClassDef _ _ _ b _ _ _ _ _ _ _ => b
  | _ => []
structure DefT where
  cls : Option Str
  args : Arguments
  ps : List Str
  body : List Stmt
  scope : Scope
def DefT.at_ (t : DefT) (nm : Str) : Str × Option Str := match t.cls with
  | none => (nm, none)
  | some C => (C, some nm)
def ddOf (d : Dfn) (t : DefT) : He.DefD := ⟨t.at_ d.nm, d.nm, d.qual, t.args, t.body, t.scope, [], []⟩
def dds (P : Prg) (ts : List DefT) : List He.DefD := List.zipWith ddOf P.defs ts
def ctOf (P : Prg) (d : Dfn) (t : DefT) : Ct := { P := P, N := d.names, io := d.io, sc := t.scope, fnb := fun _ => true }
/-- a def's frame -/
def frB (d : Dfn) (t : DefT) : Bool :=
  ((decide (t.ps.length = d.par) && decide (d.par ≤ d.names.length)) && ((d.io.all fun i => decide (i < d.par)) && decide d.io.Nodup)) &&
  (((decide (t.scope.kind = .function) && (!t.scope.isCoroutine && !t.scope.isGenerator)) && (decide d.names.Nodup && decide (d.names.take t.ps.length = t.ps))) &&
  (((t.ps.all fun x => decide (t.scope.names.lookup x = some .local) || decide (t.scope.names.lookup x = some .cell)) && (t.scope.names.all fun y => !decide (y.2 = .free))) && (d.isFn == t.cls.isNone)))
def BindOk (d : Dfn) (t : DefT) : Prop := ∀ (kV doc pm : Value) (an : Option Addr) (cdv ct : Value) (us : List Value), us.length = t.ps.length → bindArgs (PySem.W.fnOf d.nm d.qual t.args t.body t.scope .none kV doc pm an cdv ct) ⟨us, []⟩ = pure (t.ps.zip us)
/-- every def's text is its core -/
def AllOk (P : Prg) : List Dfn → List DefT → Prop
  | [], [] => True
  | d :: ds, t :: ts => (frB d t = true ∧ agSs d.body (ctOf P d t) t.body = true ∧ BindOk d t) ∧ AllOk P ds ts
  | _, _ => False
def initB (P : Prg) (ts : List DefT) : Bool := P.classes.all fun k => (decide (k.fields.length ≤ 500) && decide k.fields.Nodup) && (match P.defs[k.init]?, ts[k.init]? with
  | some d, some t => decide (t.cls = some k.nm) && decide (d.nm = "__init__")
  | _, _ => false)
theorem AllOk.at {P : Prg} : ∀ {ds : List Dfn} {ts : List DefT} {g : Nat} {d : Dfn}, AllOk P ds ts → ds[g]? = some d → ∃ t, ts[g]? = some t ∧ frB d t = true ∧ agSs d.body (ctOf P d t) t.body = true ∧ BindOk d t
  | [], [], g, d, _, h => by simp at h
  | d :: ds, t :: ts, 0, d', h, e => by
    cases e
    exact ⟨t, rfl, h.1⟩
  | d :: ds, t :: ts, g + 1, d', h, e => AllOk.at (ds := ds) (ts := ts) h.2 e
  | [], _ :: _, g, d, h, _ => h.elim
  | _ :: _, [], g, d, h, _ => h.elim
theorem scope_ok {d : Dfn} {t : DefT} (h : frB d t = true) : FnScope d.names t.ps t.scope ∧ t.ps.length = d.par ∧ d.par ≤ d.names.length ∧ (∀ i ∈ d.io, i < d.par) ∧ d.io.Nodup ∧ t.scope.kind = .function ∧ d.isFn = t.cls.isNone := by
  obtain ⟨h1, h2⟩ := and2 h
  obtain ⟨h3, h4⟩ := and2 h1
  obtain ⟨h5, h6⟩ := and2 h3
  obtain ⟨h7, h8⟩ := and2 h4
  obtain ⟨h9, h10⟩ := and2 h2
  obtain ⟨h11, h12⟩ := and2 h9
  obtain ⟨h13, h14⟩ := and2 h11
  obtain ⟨h15, h16⟩ := and2 h14
  obtain ⟨h17, h18⟩ := and2 h12
  obtain ⟨h19, h20⟩ := and2 h10
  obtain ⟨h21, h22⟩ := and2 h19
  refine ⟨⟨of_decide_eq_true h13, not1 h15, not1 h16, of_decide_eq_true h17, of_decide_eq_true h18, fun x hx => ?_, fun y hy => ?_⟩, of_decide_eq_true h5, of_decide_eq_true h6, fun i hi => of_decide_eq_true (List.all_eq_true.mp h7 i hi), of_decide_eq_true h8, of_decide_eq_true h13, eq_of_beq h20⟩
  · have := List.all_eq_true.mp h21 x hx
    simpa using this
  · have := List.all_eq_true.mp h22 y hy
    simpa using this
/-! ### the Hook -/
abbrev AlB : Type := Bool × List He.FnW
def obsB (P : Prg) (ts : List DefT) (K : PySem.W.Frag) : AlB := (factsB P K && (dds P ts).all fun d => d.ok K, (dds P ts).map fun d => He.fnW K d.at_)
def valB (P : Prg) (ts : List DefT) : AlB := (true, (dds P ts).map He.DefD.val)
def SaysB (P : Prg) (ts : List DefT) (K : PySem.W.Frag) : Prop := obsB P ts K = valB P ts
def obsBG (n : Nat) (P : Prg) (ts : List DefT) (g : Addr → Option Obj) : AlB := obsB P ts (He.frG g (He.asD g n))
def hookB (n : Nat) (P : Prg) (ts : List DefT) : PySem.W.Hook where
  α := AlB
  obs := fun s => obsBG n P ts s.heap.get?
  val := fun _ => valB P ts
  says := fun _ h => ∃ K : PySem.W.Frag, K.In h ∧ SaysB P ts K
  of := fun _ _ e => ⟨_, He.frG_in, e⟩
  keeps := fun _ _ _ ⟨K, hK, c⟩ k => ⟨K, PySem.W.Frag.In.keeps hK k, c⟩
theorem obsBG_eq {n : Nat} {P : Prg} {ts : List DefT} {g : Addr → Option Obj} {s : Shared} (h : ∀ a, g a = s.heap.get? a) : obsBG n P ts g = (hookB n P ts).obs s := by
  have e : g = s.heap.get? := funext h
  rw [e] <;> rfl
section
variable {P : Prg} {ts : List DefT} {K : PySem.W.Frag}
theorem SaysB.facts (c : SaysB P ts K) : factsB P K = true := (and2 (show (factsB P K && (dds P ts).all fun d => d.ok K) = true from congrArg (fun z : AlB => z.1) c)).1
theorem dds_at : ∀ {ds : List Dfn} {ts : List DefT} {g : Nat} {d : Dfn} {t : DefT}, ds[g]? = some d → ts[g]? = some t → (List.zipWith ddOf ds ts)[g]? = some (ddOf d t) := fun h1 h2 => by
  rw [List.getElem?_zipWith, h1, h2]
theorem SaysB.def_ (c : SaysB P ts K) {g : Nat} {d : Dfn} {t : DefT} (hd : P.defs[g]? = some d) (ht : ts[g]? = some t) : ∃ fd, FunD K d.nm d.qual t.args t.body t.scope [] [] (He.fAd K (t.at_ d.nm)) fd := by
  have h : (dds P ts)[g]? = some (ddOf d t) := dds_at hd ht
  have c2 := (and2 (show (factsB P K && (dds P ts).all fun d => d.ok K) = true from congrArg (fun z : AlB => z.1) c)).2
  have e : (dds P ts).map (fun d => He.fnW K d.at_) = (dds P ts).map He.DefD.val := congrArg (fun z : AlB => z.2) c
  have e2 : ((dds P ts).map fun d => He.fnW K d.at_)[g]? = ((dds P ts).map He.DefD.val)[g]? := by rw [e]
  rw [List.getElem?_map, List.getElem?_map, h] at e2
  exact He.DefD.funD (Option.some.inj e2) (List.all_eq_true.mp c2 _ (List.mem_of_getElem? h))
end
/-! ### the addresses -/
def reOf (P : Prg) (K : PySem.W.Frag) : RE := { K := K, cls := fun c => He.ga K ((P.classes[c]?.map (·.nm)).getD Str.empty), fnA := fun g => He.ga K ((P.defs[g]?.map (·.nm)).getD Str.empty), fds := fun c => (P.classes[c]?.map (·.fields)).getD [], exc := exA K P, xfd := fun _ => none }
section
variable {prog : Program} {w : World} {mg : Str → Option Value} {base h : Heap} {P : Prg} {ts : List DefT} {K : PySem.W.Frag}
theorem tab_of (c : factsB P K = true) (hi : initB P ts = true) : Tab P (reOf P K) := ⟨fun i k hk => by
  obtain ⟨c1, c2⟩ := and2 c
  obtain ⟨c3, c4⟩ := and2 c2
  obtain ⟨c5, c6⟩ := and2 c3
  have q := List.all_eq_true.mp c6 k (List.mem_of_getElem? hk)
  obtain ⟨q1, q2⟩ := and2 q
  obtain ⟨q3, q4⟩ := and2 q1
  obtain ⟨q5, q6⟩ := and2 q2
  have z := List.all_eq_true.mp hi k (List.mem_of_getElem? hk)
  obtain ⟨z1, z2⟩ := and2 z
  obtain ⟨z3, z4⟩ := and2 z1
  have en : (reOf P K).cls i = He.ga K k.nm := by
    show He.ga K ((P.classes[i]?.map (·.nm)).getD Str.empty) = _
    rw [hk]; rfl
  refine ⟨?_, ?_, fun f hf => ?_, of_decide_eq_true z3, of_decide_eq_true z4⟩
  · show (P.classes[i]?.map (·.fields)).getD [] = _
    rw [hk]; rfl
  · rw [en]; exact He.cls_ok q4
  · rw [en]; exact He.noat_ok (List.all_eq_true.mp q5 f hf)⟩
theorem fx_of (X : K.In h) (G : h.Ns mainGlobals mg) (c : factsB P K = true) : FxOk mg P (reOf P K) := by
  obtain ⟨c1, c2⟩ := and2 c
  obtain ⟨c3, c4⟩ := and2 c2
  obtain ⟨c5, c6⟩ := and2 c4
  obtain ⟨c7, c8⟩ := and2 c6
  refine ⟨fun y cs hy => ?_, fun y cs hy => ?_, fun i n hn => ?_⟩
  · have q := List.all_eq_true.mp c7 _ hy
    unfold trB at q
    split at q
    · rename_i cv hcv
      obtain ⟨qv, x1, x2, x3⟩ := cvB_ok X G hcv
      exact ⟨cv, x3, fun d hd => of_decide_eq_true (List.all_eq_true.mp q d (List.mem_range.mpr hd))⟩
    · cases q
  · have q := List.all_eq_true.mp c8 _ hy
    unfold kitB at q
    split at q
    · rename_i cv hcv
      obtain ⟨qv, x1, x2, x3⟩ := cvB_ok X G hcv
      exact ⟨cv, qv, x1, x2, x3, fun d hd => of_decide_eq_true (List.all_eq_true.mp q d (List.mem_range.mpr hd))⟩
    · cases q
  · have q := List.all_eq_true.mp c5 n (List.mem_of_getElem? hn)
    obtain ⟨q1, q2⟩ := and2 q
    obtain ⟨q3, q4⟩ := and2 q1
    obtain ⟨y1, y2, y3, y4⟩ := He.exc_ok q4
    have en : (reOf P K).exc i = He.ga K n := by
      show He.ga K (P.excs.getD i Str.empty) = _
      rw [List.getD, hn]; rfl
    rw [en]
    exact ⟨He.glo_ok X G q3, y2, rfl, excC_ok q2, y3, y4, _, _, _, _, PySem.F.excBase_ValueError, y1⟩
/-- every def keeps its promise, at every depth -/
theorem all_ok (X : K.In h) (G : h.Ns mainGlobals mg) (c : SaysB P ts K) (ha : AllOk P P.defs ts) (hi : initB P ts = true) : ∀ (n g : Nat) (d : Dfn) (t : DefT), P.defs[g]? = some d → ts[g]? = some t →
    ∃ fd, FunD K d.nm d.qual t.args t.body t.scope [] [] (He.fAd K (t.at_ d.nm)) fd ∧ FnOk prog w K mg base (L2.CX prog w) (2 * n) (He.fAd K (t.at_ d.nm)) fd t.ps (spOf (reOf P K) (run P n) g d.par d.io)
  | 0, g, d, t, hd, ht => by
    obtain ⟨fd, F⟩ := c.def_ hd ht
    exact ⟨fd, F, ⟨fun vs H Q E q => by
      obtain ⟨_, _, _, _, _, _, _, _, z⟩ := q
      exact z.elim, fun A outer s H args us vs Q E _ _ _ _ q => by
      obtain ⟨_, _, _, _, _, _, _, _, z⟩ := q
      exact z.elim⟩⟩
  | n + 1, g, d, t, hd, ht => by
    obtain ⟨fd, F⟩ := c.def_ hd ht
    obtain ⟨t', ht', fr, ag, bi⟩ := ha.at hd
    have et : t' = t := Option.some.inj (ht'.symm.trans ht)
    subst et
    obtain ⟨S, s1, s2, s3, s4, s5, s6⟩ := scope_ok fr
    have cf := c.facts
    have cf' := cf
    obtain ⟨c1, c2⟩ := and2 cf'
    obtain ⟨c3, c4⟩ := and2 c2
    obtain ⟨c5, c6⟩ := and2 c3
    obtain ⟨c7, c8⟩ := and2 c1
    have ih := all_ok X G c ha hi n
    refine ⟨fd, F, fn_ok (e0 := reOf P K) (P := P) (Φ := run P n) (k := 2 * n + 1) F S s1 s2 s3 s4 (fun os => ?_) fun Y Wx e1 e2 e3 e4 GS => ?_⟩
    · show (match P.defs[g]? with
        | some d => runD P (run P n) d os
        | none => .bad) = _
      rw [hd]
    · subst e1 e2 e3 e4
      have fa : Fa Y.prog Y.w Y.mg Y.base P (reOf P K) (run P n) (2 * n) := {
        tab := tab_of cf hi
        blt := fun x hx => He.free_ok X G (List.all_eq_true.mp c7 x hx)
        gi := fun x i hx => by
          obtain ⟨tk, hm⟩ := He.int_ok X G (List.all_eq_true.mp c8 _ hx)
          exact ⟨_, hm, tk, rfl⟩
        fn := fun g' d' hd' hf => by
          obtain ⟨t', ht', fr', ag', bi'⟩ := ha.at hd'
          obtain ⟨fd', F', O'⟩ := ih g' d' t' hd' ht'
          obtain ⟨S', s1', s2', s3', s4', s5', s6'⟩ := scope_ok fr'
          have hg := List.all_eq_true.mp c5 d' (List.mem_of_getElem? hd')
          rw [hf] at hg
          have hcl : t'.cls = none := by
            rw [hf] at s6'
            cases q : t'.cls with
            | none => rfl
            | some C => rw [q] at s6'; cases s6'
          have ea : He.fAd K (t'.at_ d'.nm) = He.ga K d'.nm := by unfold DefT.at_; rw [hcl]; rfl
          rw [ea] at F' O'
          exact ⟨_, fd', t'.ps, He.glo_ok X G hg, F'.kp, O', F'.bindsN bi'⟩
        cl := fun i k d' hk hd' => by
          obtain ⟨t', ht', fr', ag', bi'⟩ := ha.at hd'
          obtain ⟨fd', F', O'⟩ := ih k.init d' t' hd' ht'
          have q := List.all_eq_true.mp c6 k (List.mem_of_getElem? hk)
          obtain ⟨q1, q2⟩ := and2 q
          obtain ⟨q3, q4⟩ := and2 q1
          obtain ⟨q5, q6⟩ := and2 q2
          have z := List.all_eq_true.mp hi k (List.mem_of_getElem? hk)
          obtain ⟨z1, z2⟩ := and2 z
          rw [hd', ht'] at z2
          obtain ⟨z3, z4⟩ := and2 z2
          have en : (reOf P K).cls i = He.ga K k.nm := by
            show He.ga K ((P.classes[i]?.map (·.nm)).getD Str.empty) = _
            rw [hk]; rfl
          have ea : He.fAd K (t'.at_ d'.nm) = He.ma K (He.ga K k.nm) "__init__" := by
            unfold DefT.at_
            rw [of_decide_eq_true z3, of_decide_eq_true z4]; rfl
          rw [ea] at F' O'
          exact ⟨_, fd', t'.ps, by rw [en]; exact He.glo_ok X G q3, by rw [en]; exact He.mkr_ok q6, O', F'.bindsN bi'⟩ }
      refine sndSs d.body (c := ctOf P d t') (k := 2 * n) (Φ := run P n) { toGood := GS.toGood, fa := fa, lev := Nat.le_refl _, io := rfl, fnb := fun x _ => GS.fnT x, po := GS.po, fnT := GS.fnT, stk := GS.stk, frm := GS.frm, kind := ?_, fx := fx_of X G cf } ag
      rw [GS.hsc]
      exact s5
end
/-- the law's promise -/
theorem law_ok {e : RE} {Φ : Calls} {g : Nat} {H : Hp} {a : Addr} {ns : List Int} (hO : Only H) (hS : SqL e.K H a (ns.map V.int)) (hr : Φ g [.fz (.scr ns)] = .ok (.fz (.bl true)) []) : spOf e Φ g 1 [] [.ref a] H (fun v _ => v = .bl true) fun _ _ _ => False := by
  refine ⟨fun _ => False, [.fz (.scr ns)], [], ?_, List.nodup_nil, (fun a h => by cases h), (fun a h => h.elim), rfl, ?_⟩
  · unfold RepOs
    refine ⟨.ref a, [], [], [], rfl, rfl, ?_, by unfold RepOs; exact ⟨rfl, rfl⟩⟩
    unfold RepO
    refine ⟨rfl, ?_⟩
    unfold Rep
    refine ⟨a, rfl, ?_⟩
    rcases hS with h | h
    · rcases h with h | ⟨o, h⟩
      · rcases hO a with q | ⟨o, xs, q⟩
        · rw [q] at h; cases h
        · rw [q] at h; cases h
      · exact .inl ⟨o, (fun z => z.elim id (fun m => by cases m)), cont_of h⟩
    · exact .inr h
  · rw [hr]
    intro H' fr fq v h1 h2 h3 h4 h5 h6
    unfold RepO at h1
    obtain ⟨_, h1⟩ := h1
    unfold Rep at h1
    exact h1
theorem funD_one {K : PySem.W.Frag} {x qual : Str} {ar : Arguments} {body : List Stmt} {sc : Scope} {f : Addr} {fd fd' : FuncData} (F : FunD K x qual ar body sc [] [] f fd) (F' : FunD K x qual ar body sc [] [] f fd') : fd' = fd := by
  obtain ⟨_, _, _, _, _, _, _, _, _, _, _, l1, _⟩ := F.ex
  obtain ⟨_, _, _, _, _, _, _, _, _, _, _, l2, _⟩ := F'.ex
  have := Option.some.inj (l2.symm.trans l1)
  injection this with _ _ h _
  injection h
theorem law_end {prog : Program} {w : World} {mg : Str → Option Value} {h : Heap} {P : Prg} {ts : List DefT} {K : PySem.W.Frag} {fa : Addr} (X : K.In h) (G : h.Ns mainGlobals mg) (c : SaysB P ts K) (ha : AllOk P P.defs ts) (hi : initB P ts = true) {n g : Nat} {d : Dfn} {t : DefT} (hd : P.defs[g]? = some d) (ht : ts[g]? = some t)
    (hmg : mg d.nm = some (.ref fa)) (hp : t.ps = [("script" : Str)]) (hpar : d.par = 1) (hio : d.io = []) (hf : d.isFn = true) (hr : ∀ ns : List Int, ns.length ≤ 63 → run P n g [.fz (.scr ns)] = .ok (.fz (.bl true)) []) :
    ∃ (K : PySem.W.Frag) (fd : FuncData) (sp : Sp), K.In h ∧ (∀ (s : Shared) (u : Value), BindsTo s fd ⟨[u], []⟩ [("script", u)]) ∧ (∀ (H : Hp) (a : Addr) (ns : List Int), ns.length ≤ 63 → Only H → SqL K H a (ns.map V.int) → sp [.ref a] H (fun v _ => v = .bl true) fun _ _ _ => False) ∧
      ∀ base : Heap, K.In base → base.Ns mainGlobals mg → FnOk prog w K mg base (L2.CX prog w) (2 * n) fa fd ["script"] sp := by
  obtain ⟨t', ht', fr, ag, bi⟩ := ha.at hd
  have et : t' = t := Option.some.inj (ht'.symm.trans ht)
  subst et
  obtain ⟨S, s1, s2, s3, s4, s5, s6⟩ := scope_ok fr
  obtain ⟨fd, F⟩ := c.def_ hd ht
  have cf := c.facts
  obtain ⟨c1, c2⟩ := and2 cf
  obtain ⟨c3, c4⟩ := and2 c2
  obtain ⟨c5, c6⟩ := and2 c3
  have hg := List.all_eq_true.mp c5 d (List.mem_of_getElem? hd)
  rw [hf] at hg
  have hcl : t'.cls = none := by
    rw [hf] at s6
    cases q : t'.cls with
    | none => rfl
    | some C => rw [q] at s6; cases s6
  have ea : He.fAd K (t'.at_ d.nm) = fa := by
    have e1 : He.fAd K (t'.at_ d.nm) = He.ga K d.nm := by unfold DefT.at_; rw [hcl]; rfl
    have e2 := (He.glo_ok X G hg).symm.trans hmg
    rw [e1]
    injection Option.some.inj e2
  refine ⟨K, fd, spOf (reOf P K) (run P n) g 1 [], X, fun s u => ?_, fun H a ns hl hO hS => law_ok hO hS (hr ns hl), fun base X' G' => ?_⟩
  · have := F.bindsA bi s [u] (by rw [hp]; rfl)
    rw [hp] at this
    exact this
  · obtain ⟨fd', F', O⟩ := all_ok (prog := prog) (w := w) (base := base) X G c ha hi n g d t' hd ht
    have e1 := funD_one F F'
    subst e1
    rw [ea, hp, hpar, hio] at O
    exact O
theorem walk_ofB {l : PySem.W.OpenLaw} {n k : Nat} {q : Program} {loose : List Str} {XP : (Str → Option Value) → Heap → Prop} {YP : World → Heap → Prop} {d : DefRec} {x : Str}
    (hn : l.most = some n) (hn2 : n ≤ sizeLine) (hdf : d.params.defaults = []) (hr : Room k callerA)
    (F : ∀ (w : World) (mg : Str → Option Value) (fa : Addr) (h : Heap), YP w h → h.Ns mainGlobals mg → mg d.name = some (.ref fa) →
      ∃ (K : PySem.W.Frag) (fd : FuncData) (sp : Sp), K.In h ∧ (∀ (s : Shared) (u : Value), BindsTo s fd ⟨[u], []⟩ [(x, u)]) ∧
        (∀ (H : Hp) (a : Addr) (ns : List Int), ns.length ≤ n → Only H → SqL K H a (ns.map V.int) → sp [.ref a] H (fun v _ => v = .bl true) fun _ _ _ => False) ∧
        ∀ base : Heap, K.In base → base.Ns mainGlobals mg → FnOk l.prog w K mg base (L2.CX l.prog w) k fa fd [x] sp) :
    PySem.W.WalkO q loose XP YP l.row.toRowW d [] (fun f vs => PySem.call f vs) := by
  refine Att.attach_call hn hdf fun w s₀ s₁ mg mb fa o pm cd doc a vs ns G Y ho hd hcd hmg hobj hints hlen hg => ?_
  obtain ⟨K, fd, sp, KX, hb, hsp, hF⟩ := F w mg fa _ Y G.T.g hmg
  exact law_call KX G.T.g G.T.b G.T.builtins G.T.nolimit hg hobj hints (Nat.le_trans hlen hn2) hr hF hb (fun H hO hS => hsp H a ns hlen hO hS) fun H e s' h => by
    obtain ⟨_, _, _, _, _, _, _, _, _, _, _, _, z⟩ := h
    exact z
end Cr

/-! What a run of the core does, said from behind: rules to step through a text. -/
namespace Cw0
open PySem Cr
abbrev XQ := Nat → List D → Fr → Prop
def WX {α : Type} (m : M α) (f : Fr) (Q : α → Fr → Prop) (E : XQ) : Prop := match m f with
  | .ok a f' => Q a f'
  | .exc c fs f' => E c fs f'
  | .bad => False
def OptK {α : Type} (o : Option α) (k : α → Prop) : Prop := match o with
  | some a => k a
  | none => False
def RdK (o : Option O) (i : Nat) (f : Fr) (Q : D → Fr → Prop) : Prop := match o with
  | some (.fz .nil) => False
  | some (.fz d) => Q d f
  | some .un => False
  | some o => Q (fzd o) (f.set i (.fz (fzd o)))
  | none => False
def ChkK (o : Option O) (q : Prop) : Prop := match o with
  | some .un => False
  | some _ => q
  | none => False
def ValK (o : Option O) (k : D → Prop) : Prop := match o with
  | some (.fz .nil) => False
  | some (.fz d) => k d
  | _ => False
def LstK (o : Option O) (q : Prop) : Prop := match o with
  | some (.lst _) => q
  | _ => False
def BlK (d : D) (k : Bool → Prop) : Prop := match d with
  | .bl b => k b
  | _ => False
def InK (d : D) (k : Int → Prop) : Prop := match d with
  | .int i => k i
  | _ => False
def FlK (x : Fl) (a b : Prop) : Prop := match x with
  | .nx => a
  | _ => b
def RcK (r : RC) (k : O → List O → Prop) (E : Nat → List D → List O → Prop) : Prop := match r with
  | .ok o os => k o os
  | .exc c fs os => E c fs os
  | .bad => False
def LoK (x : Fl) (a : Prop) (b : Prop) (k : O → Prop) : Prop := match x with
  | .nx => a
  | .ct => a
  | .bk => b
  | .rt o => k o
section
variable {P : Prg} {Φ : Calls} {f : Fr} {E : XQ} {α β : Type}
theorem OptK_s {a : α} {k : α → Prop} : OptK (some a) k = k a := rfl
theorem RdK_bl {b : Bool} {i : Nat} {Q : D → Fr → Prop} : RdK (some (.fz (.bl b))) i f Q = Q (.bl b) f := rfl
theorem RdK_int {b : Int} {i : Nat} {Q : D → Fr → Prop} : RdK (some (.fz (.int b))) i f Q = Q (.int b) f := rfl
theorem RdK_str {b : Str} {i : Nat} {Q : D → Fr → Prop} : RdK (some (.fz (.str b))) i f Q = Q (.str b) f := rfl
theorem RdK_non {i : Nat} {Q : D → Fr → Prop} : RdK (some (.fz .non)) i f Q = Q .non f := rfl
theorem RdK_tup {b : List D} {i : Nat} {Q : D → Fr → Prop} : RdK (some (.fz (.tup b))) i f Q = Q (.tup b) f := rfl
theorem RdK_lst {b : List D} {i : Nat} {Q : D → Fr → Prop} : RdK (some (.fz (.lst b))) i f Q = Q (.lst b) f := rfl
theorem RdK_dK {b : List Ky} {v : List D} {i : Nat} {Q : D → Fr → Prop} : RdK (some (.fz (.dK b v))) i f Q = Q (.dK b v) f := rfl
theorem RdK_dT {b : List (List Ky)} {v : List D} {i : Nat} {Q : D → Fr → Prop} : RdK (some (.fz (.dT b v))) i f Q = Q (.dT b v) f := rfl
theorem RdK_ins {c : Nat} {v : List D} {i : Nat} {Q : D → Fr → Prop} : RdK (some (.fz (.ins c v))) i f Q = Q (.ins c v) f := rfl
theorem RdK_fn {c : Nat} {i : Nat} {Q : D → Fr → Prop} : RdK (some (.fz (.fn c))) i f Q = Q (.fn c) f := rfl
theorem RdK_scr {c : List Int} {i : Nat} {Q : D → Fr → Prop} : RdK (some (.fz (.scr c))) i f Q = Q (.scr c) f := rfl
theorem RdK_d {d : D} {i : Nat} {Q : D → Fr → Prop} (h : d ≠ .nil) : RdK (some (.fz d)) i f Q = Q d f := by cases d <;> first | rfl | exact absurd rfl h
theorem RdK_ol {os : List O} {i : Nat} {Q : D → Fr → Prop} : RdK (some (.lst os)) i f Q = Q (.lst (fzds os)) (f.set i (.fz (.lst (fzds os)))) := by
  show Q (fzd (.lst os)) (f.set i (.fz (fzd (.lst os)))) = _
  unfold fzd
  rfl
theorem ChkK_fz {d : D} {q : Prop} : ChkK (some (.fz d)) q = q := rfl
theorem ChkK_l {os : List O} {q : Prop} : ChkK (some (.lst os)) q = q := rfl
theorem ChkK_i {c : Nat} {os : List O} {q : Prop} : ChkK (some (.ins c os)) q = q := rfl
theorem ChkK_k {ks : List Ky} {os : List O} {q : Prop} : ChkK (some (.dK ks os)) q = q := rfl
theorem ChkK_t {ks : List (List Ky)} {os : List O} {q : Prop} : ChkK (some (.dT ks os)) q = q := rfl
theorem ValK_d {d : D} {k : D → Prop} (h : d ≠ .nil) : ValK (some (.fz d)) k = k d := by cases d <;> first | rfl | exact absurd rfl h
theorem ValK_int {d : Int} {k : D → Prop} : ValK (some (.fz (.int d))) k = k (.int d) := rfl
theorem ValK_bl {d : Bool} {k : D → Prop} : ValK (some (.fz (.bl d))) k = k (.bl d) := rfl
theorem ValK_lst {d : List D} {k : D → Prop} : ValK (some (.fz (.lst d))) k = k (.lst d) := rfl
theorem ValK_tup {d : List D} {k : D → Prop} : ValK (some (.fz (.tup d))) k = k (.tup d) := rfl
theorem LstK_l {os : List O} {q : Prop} : LstK (some (.lst os)) q = q := rfl
theorem BlK_b {b : Bool} {k : Bool → Prop} : BlK (.bl b) k = k b := rfl
theorem InK_i {b : Int} {k : Int → Prop} : InK (.int b) k = k b := rfl
theorem FlK_nx {a b : Prop} : FlK .nx a b = a := rfl
theorem FlK_ct {a b : Prop} : FlK .ct a b = b := rfl
theorem FlK_bk {a b : Prop} : FlK .bk a b = b := rfl
theorem FlK_rt {o : O} {a b : Prop} : FlK (.rt o) a b = b := rfl
theorem RcK_ok {o : O} {os : List O} {k : O → List O → Prop} {E : Nat → List D → List O → Prop} : RcK (.ok o os) k E = k o os := rfl
theorem RcK_exc {c : Nat} {fs : List D} {os : List O} {k : O → List O → Prop} {E : Nat → List D → List O → Prop} : RcK (.exc c fs os) k E = E c fs os := rfl
theorem LoK_nx {a b : Prop} {k : O → Prop} : LoK .nx a b k = a := rfl
theorem LoK_ct {a b : Prop} {k : O → Prop} : LoK .ct a b k = a := rfl
theorem LoK_bk {a b : Prop} {k : O → Prop} : LoK .bk a b k = b := rfl
theorem LoK_rt {o : O} {a b : Prop} {k : O → Prop} : LoK (.rt o) a b k = k o := rfl
/-! ### the parts -/
theorem w_bnd {m : M α} {k : α → M β} {Q : β → Fr → Prop} : WX (M.bnd m k) f Q E = WX m f (fun a f' => WX (k a) f' Q E) E := by
  unfold WX M.bnd
  cases m f <;> rfl
theorem w_ret {a : α} {Q : α → Fr → Prop} : WX (M.ret a) f Q E = Q a f := rfl
theorem w_opt {o : Option α} {Q : α → Fr → Prop} : WX (M.opt o) f Q E = OptK o fun a => Q a f := by
  unfold WX M.opt OptK
  cases o <;> rfl
theorem w_fail {Q : α → Fr → Prop} : WX (M.fail : M α) f Q E = False := rfl
theorem w_ite {b : Bool} {m1 m2 : M α} {Q : α → Fr → Prop} : WX (if b = true then m1 else m2) f Q E = if b = true then WX m1 f Q E else WX m2 f Q E := by cases b <;> rfl
theorem w_itp {p : Prop} [Decidable p] {m1 m2 : M α} {Q : α → Fr → Prop} : WX (if p then m1 else m2) f Q E = if p then WX m1 f Q E else WX m2 f Q E := by
  by_cases h : p
  · rw [if_pos h, if_pos h]
  · rw [if_neg h, if_neg h]
theorem w_tb {d : D} {Q : Bool → Fr → Prop} : WX (toBool d) f Q E = BlK d fun b => Q b f := by cases d <;> rfl
theorem w_ti {d : D} {Q : Int → Fr → Prop} : WX (toInt d) f Q E = InK d fun b => Q b f := by cases d <;> rfl
theorem w_rd {i : Nat} {Q : D → Fr → Prop} : WX (rdSlot i) f Q E = RdK f[i]? i f Q := by
  unfold WX rdSlot
  cases f[i]? with
  | none => rfl
  | some o => cases o with
    | fz d => cases d <;> rfl
    | _ => rfl
theorem w_chk {i : Nat} {Q : Unit → Fr → Prop} : WX (chkS i) f Q E = ChkK f[i]? (Q () f) := by
  unfold WX chkS
  cases f[i]? with
  | none => rfl
  | some o => cases o <;> rfl
theorem w_chkL {i : Nat} {Q : Unit → Fr → Prop} : WX (chkL i) f Q E = LstK f[i]? (Q () f) := by
  unfold WX chkL
  cases f[i]? with
  | none => rfl
  | some o => cases o <;> rfl
theorem w_plVal {i : Nat} {st : List Stp} {Q : D → Fr → Prop} : WX (plVal P i st) f Q E = OptK f[i]? fun o => ValK (getO P o st) fun d => Q d f := by
  unfold WX plVal OptK
  cases f[i]? with
  | none => rfl
  | some o =>
    dsimp only
    cases getO P o st with
    | none => rfl
    | some o => cases o with
      | fz d => cases d <;> rfl
      | _ => rfl
theorem w_plTop {i : Nat} {st : List Stp} {Q : D → Fr → Prop} : WX (plTop P i st) f Q E = OptK f[i]? fun o => OptK (getO P o st) fun o => OptK (topD o) fun d => Q d f := by
  unfold WX plTop OptK
  cases f[i]? with
  | none => rfl
  | some o =>
    dsimp only
    cases getO P o st with
    | none => rfl
    | some o =>
      dsimp only
      cases topD o <;> rfl
theorem w_q {q : Fr → Option α} {Q : α → Fr → Prop} : WX (qM q) f Q E = OptK (q f) fun a => Q a f := by
  unfold WX qM OptK
  cases q f <;> rfl
theorem w_setM {t : Tg} {d : D} {Q : Unit → Fr → Prop} : WX (setM t d) f Q E = OptK (setT t d f) fun f' => Q () f' := by
  unfold WX setM OptK
  cases setT t d f <;> rfl
theorem w_setO1 {i : Nat} {o : O} {Q : Unit → Fr → Prop} : WX (setO1 i o) f Q E = if i < f.length then Q () (f.set i o) else False := by
  unfold WX setO1
  by_cases h : i < f.length
  · simp only [if_pos h]
  · simp only [if_neg h]
theorem w_modR {i : Nat} {g : O → Option O} {Q : Unit → Fr → Prop} : WX (modR i g) f Q E = OptK f[i]? fun o => OptK (g o) fun o' => Q () (f.set i o') := by
  unfold WX modR OptK
  cases f[i]? with
  | none => rfl
  | some o =>
    dsimp only
    cases g o <;> rfl
theorem w_clr {own : List Nat} {Q : Unit → Fr → Prop} : WX (clrM own) f Q E = if canWipe own f = true then Q () (wipeF own f) else False := by
  unfold WX clrM
  cases h : canWipe own f <;> rfl
theorem w_frz {m : M O} {Q : D → Fr → Prop} : WX (frzM m) f Q E = WX m f (fun o f' => OptK (frzO o) fun d => Q d f') E := by
  unfold frzM
  rw [w_bnd]
  congr 1
  funext o f'
  exact w_opt
/-! ### expressions -/
theorem w_var {i : Nat} {Q : D → Fr → Prop} : WX (ev P Φ (.var i)) f Q E = RdK f[i]? i f Q := w_rd
theorem w_non {Q : D → Fr → Prop} : WX (ev P Φ .non) f Q E = Q .non f := rfl
theorem w_bl {b : Bool} {Q : D → Fr → Prop} : WX (ev P Φ (.bl b)) f Q E = Q (.bl b) f := rfl
theorem w_int {b : Int} {Q : D → Fr → Prop} : WX (ev P Φ (.int b)) f Q E = Q (.int b) f := rfl
theorem w_str {b : Str} {Q : D → Fr → Prop} : WX (ev P Φ (.str b)) f Q E = Q (.str b) f := rfl
theorem w_gint {x : Str} {b : Int} {Q : D → Fr → Prop} : WX (ev P Φ (.gint x b)) f Q E = Q (.int b) f := rfl
theorem w_bin {o : BOp} {a b : Cr.E} {Q : D → Fr → Prop} : WX (ev P Φ (.bin o a b)) f Q E = WX (ev P Φ a) f (fun x f1 => WX (ev P Φ b) f1 (fun y f2 => OptK (binD o x y) fun z => Q z f2) E) E := by
  show WX (M.bnd (ev P Φ a) fun x => M.bnd (ev P Φ b) fun y => M.opt (binD o x y)) f Q E = _
  simp only [w_bnd, w_opt]
theorem w_neg {a : Cr.E} {Q : D → Fr → Prop} : WX (ev P Φ (.neg a)) f Q E = WX (ev P Φ a) f (fun x f1 => InK x fun i => Q (.int (-i)) f1) E := by
  show WX (M.bnd (ev P Φ a) fun x => M.bnd (toInt x) fun i => M.ret (.int (-i))) f Q E = _
  simp only [w_bnd, w_ti, w_ret]
theorem w_inv {a : Cr.E} {Q : D → Fr → Prop} : WX (ev P Φ (.inv a)) f Q E = WX (ev P Φ a) f (fun x f1 => InK x fun i => Q (.int (-i - 1)) f1) E := by
  show WX (M.bnd (ev P Φ a) fun x => M.bnd (toInt x) fun i => M.ret (.int (-i - 1))) f Q E = _
  simp only [w_bnd, w_ti, w_ret]
theorem w_not {a : Cr.E} {Q : D → Fr → Prop} : WX (ev P Φ (.not a)) f Q E = WX (ev P Φ a) f (fun x f1 => BlK x fun i => Q (.bl (!i)) f1) E := by
  show WX (M.bnd (ev P Φ a) fun x => M.bnd (toBool x) fun i => M.ret (.bl (!i))) f Q E = _
  simp only [w_bnd, w_tb, w_ret]
theorem w_cmp {o : COp} {a b : Cr.E} {Q : D → Fr → Prop} : WX (ev P Φ (.cmp o a b)) f Q E = WX (ev P Φ a) f (fun x f1 => WX (ev P Φ b) f1 (fun y f2 => OptK (cmpD o x y) fun z => Q (.bl z) f2) E) E := by
  show WX (M.bnd (ev P Φ a) fun x => M.bnd (ev P Φ b) fun y => M.bnd (M.opt (cmpD o x y)) fun r => M.ret (.bl r)) f Q E = _
  simp only [w_bnd, w_opt, w_ret]
theorem w_chn {o o' : COp} {a b c : Cr.E} {Q : D → Fr → Prop} : WX (ev P Φ (.chn o o' a b c)) f Q E = WX (ev P Φ a) f (fun x f1 => WX (ev P Φ b) f1 (fun y f2 => OptK (cmpD o x y) fun r =>
    if r = true then WX (ev P Φ c) f2 (fun z f3 => OptK (cmpD o' y z) fun r => Q (.bl r) f3) E else Q (.bl false) f2) E) E := by
  show WX (M.bnd (ev P Φ a) fun x => M.bnd (ev P Φ b) fun y => M.bnd (M.opt (cmpD o x y)) fun r =>
      if r then M.bnd (ev P Φ c) fun z => M.bnd (M.opt (cmpD o' y z)) fun r => M.ret (.bl r) else M.ret (.bl false)) f Q E = _
  simp only [w_bnd, w_opt, w_ret, w_ite]
theorem w_isN {n : Bool} {a : Cr.E} {Q : D → Fr → Prop} : WX (ev P Φ (.isN n a)) f Q E = WX (ev P Φ a) f (fun x f1 => Q (.bl (isNonD x != n)) f1) E := by
  show WX (M.bnd (ev P Φ a) fun x => M.ret (.bl (isNonD x != n))) f Q E = _
  simp only [w_bnd, w_ret]
theorem w_mem {n : Bool} {a b : Cr.E} {Q : D → Fr → Prop} : WX (ev P Φ (.mem n a b)) f Q E = WX (ev P Φ a) f (fun x f1 => WX (ev P Φ b) f1 (fun y f2 => OptK (memD x y) fun z => Q (.bl (z != n)) f2) E) E := by
  show WX (M.bnd (ev P Φ a) fun x => M.bnd (ev P Φ b) fun y => M.bnd (M.opt (memD x y)) fun r => M.ret (.bl (r != n))) f Q E = _
  simp only [w_bnd, w_opt, w_ret]
theorem w_andE {a b : Cr.E} {Q : D → Fr → Prop} : WX (ev P Φ (.and a b)) f Q E = WX (ev P Φ a) f (fun x f1 => BlK x fun r => if r = true then WX (ev P Φ b) f1 Q E else Q (.bl false) f1) E := by
  show WX (M.bnd (ev P Φ a) fun x => M.bnd (toBool x) fun r => if r then ev P Φ b else M.ret (.bl false)) f Q E = _
  simp only [w_bnd, w_tb, w_ret, w_ite]
theorem w_orE {a b : Cr.E} {Q : D → Fr → Prop} : WX (ev P Φ (.or a b)) f Q E = WX (ev P Φ a) f (fun x f1 => BlK x fun r => if r = true then Q (.bl true) f1 else WX (ev P Φ b) f1 Q E) E := by
  show WX (M.bnd (ev P Φ a) fun x => M.bnd (toBool x) fun r => if r then M.ret (.bl true) else ev P Φ b) f Q E = _
  simp only [w_bnd, w_tb, w_ret, w_ite]
theorem w_ife {c a b : Cr.E} {Q : D → Fr → Prop} : WX (ev P Φ (.ite c a b)) f Q E = WX (ev P Φ c) f (fun x f1 => BlK x fun r => if r = true then WX (ev P Φ a) f1 Q E else WX (ev P Φ b) f1 Q E) E := by
  show WX (M.bnd (ev P Φ c) fun x => M.bnd (toBool x) fun r => if r then ev P Φ a else ev P Φ b) f Q E = _
  simp only [w_bnd, w_tb, w_ite]
theorem w_tup {es : Es} {Q : D → Fr → Prop} : WX (ev P Φ (.tup es)) f Q E = WX (evs P Φ es) f (fun xs f1 => Q (.tup xs) f1) E := by
  show WX (M.bnd (evs P Φ es) fun xs => M.ret (.tup xs)) f Q E = _
  simp only [w_bnd, w_ret]
theorem w_lst {es : Es} {Q : D → Fr → Prop} : WX (ev P Φ (.lst es)) f Q E = WX (evs P Φ es) f (fun xs f1 => Q (.lst xs) f1) E := by
  show WX (M.bnd (evs P Φ es) fun xs => M.ret (.lst xs)) f Q E = _
  simp only [w_bnd, w_ret]
theorem w_idx {a b : Cr.E} {Q : D → Fr → Prop} : WX (ev P Φ (.idx a b)) f Q E = WX (ev P Φ a) f (fun x f1 => WX (ev P Φ b) f1 (fun y f2 => OptK (idxD x y) fun z => Q z f2) E) E := by
  show WX (M.bnd (ev P Φ a) fun x => M.bnd (ev P Φ b) fun y => M.opt (idxD x y)) f Q E = _
  simp only [w_bnd, w_opt]
theorem w_eoN {Q : Option Int → Fr → Prop} : WX (evo P Φ .none) f Q E = Q none f := rfl
theorem w_eoS {e : Cr.E} {Q : Option Int → Fr → Prop} : WX (evo P Φ (.some e)) f Q E = WX (ev P Φ e) f (fun x f1 => InK x fun i => Q (some i) f1) E := by
  show WX (M.bnd (ev P Φ e) fun x => M.bnd (toInt x) fun i => M.ret (some i)) f Q E = _
  simp only [w_bnd, w_ti, w_ret]
theorem w_slc {a : Cr.E} {lo hi : Eo} {Q : D → Fr → Prop} : WX (ev P Φ (.slc a lo hi)) f Q E = WX (ev P Φ a) f (fun x f1 => WX (evo P Φ lo) f1 (fun l f2 => WX (evo P Φ hi) f2 (fun h f3 => OptK (slcD x l h) fun z => Q z f3) E) E) E := by
  show WX (M.bnd (ev P Φ a) fun x => M.bnd (evo P Φ lo) fun l => M.bnd (evo P Φ hi) fun h => M.opt (slcD x l h)) f Q E = _
  simp only [w_bnd, w_opt]
theorem w_lrng1 {t : Bool} {a : Cr.E} {Q : D → Fr → Prop} : WX (ev P Φ (.lrng1 t a)) f Q E = WX (ev P Φ a) f (fun x f1 => InK x fun n => OptK (lrD t 0 n) fun z => Q z f1) E := by
  show WX (M.bnd (ev P Φ a) fun x => M.bnd (toInt x) fun n => M.opt (lrD t 0 n)) f Q E = _
  simp only [w_bnd, w_ti, w_opt]
theorem w_fld {a : Cr.E} {x : Str} {Q : D → Fr → Prop} : WX (ev P Φ (.fld a x)) f Q E = WX (ev P Φ a) f (fun d f1 => OptK (fldD P d x) fun z => Q z f1) E := by
  show WX (M.bnd (ev P Φ a) fun d => M.opt (fldD P d x)) f Q E = _
  simp only [w_bnd, w_opt]
theorem w_pl {i : Nat} {p : Ps} {Q : D → Fr → Prop} : WX (ev P Φ (.pl i p)) f Q E = WX (evP P Φ i p) f (fun st f1 => OptK f1[i]? fun o => ValK (getO P o st) fun d => Q d f1) E := by
  show WX (M.bnd (evP P Φ i p) fun st => plVal P i st) f Q E = _
  simp only [w_bnd, w_plVal]
theorem w_call {g : Nat} {as : As} {Q : D → Fr → Prop} : WX (ev P Φ (.call g as)) f Q E = WX (evAs P Φ as) f (fun vs f1 => WX (callF Φ g vs) f1 (fun o f2 => OptK (frzO o) fun d => Q d f2) E) E := by
  show WX (frzM (M.bnd (evAs P Φ as) fun vs => callF Φ g vs)) f Q E = _
  simp only [w_frz, w_bnd]
theorem w_new {c : Nat} {as : As} {Q : D → Fr → Prop} : WX (ev P Φ (.new c as)) f Q E = WX (evAs P Φ as) f (fun vs f1 => WX (newF P Φ c vs) f1 (fun o f2 => OptK (frzO o) fun d => Q d f2) E) E := by
  show WX (frzM (M.bnd (evAs P Φ as) fun vs => newF P Φ c vs)) f Q E = _
  simp only [w_frz, w_bnd]
theorem w_bi {b : Bi} {es : Es} {Q : D → Fr → Prop} : WX (ev P Φ (.bi b es)) f Q E = WX (evs P Φ es) f (fun xs f1 => OptK (biD b xs) fun z => Q z f1) E := by
  show WX (M.bnd (evs P Φ es) fun xs => M.opt (biD b xs)) f Q E = _
  simp only [w_bnd, w_opt]
theorem w_biP {b : Bi} {i : Nat} {p : Ps} {Q : D → Fr → Prop} : WX (ev P Φ (.biP b i p .nil)) f Q E = WX (evP P Φ i p) f (fun st f1 => OptK f1[i]? fun o => OptK (getO P o st) fun o => OptK (topD o) fun x => OptK (biD b [x]) fun z => Q z f1) E := by
  show WX (M.bnd (evP P Φ i p) fun st => M.bnd (plTop P i st) fun x => M.opt (biD b [x])) f Q E = _
  simp only [w_bnd, w_plTop, w_opt]
theorem w_isi {a : Cr.E} {t : Ty} {Q : D → Fr → Prop} : WX (ev P Φ (.isi a t)) f Q E = WX (ev P Φ a) f (fun x f1 => OptK (isTy x t) fun z => Q (.bl z) f1) E := by
  show WX (M.bnd (ev P Φ a) fun x => M.bnd (M.opt (isTy x t)) fun r => M.ret (.bl r)) f Q E = _
  simp only [w_bnd, w_opt, w_ret]
theorem w_lc {elt : Cr.E} {tg : Tg} {it : It} {ts : Eo} {own : List Nat} {Q : D → Fr → Prop} : WX (ev P Φ (.lc elt tg it ts own)) f Q E =
    WX (evI P Φ it) f (fun xs f1 => WX (block own (lcLoop (fun d => M.bnd (clrM own) fun _ => M.bnd (setM tg d) fun _ => M.bnd (evt P Φ ts) fun k => if k then M.bnd (ev P Φ elt) fun e => M.ret [e] else M.ret []) xs)) f1 (fun ys f2 => if ys.length ≤ 100000 then Q (.lst ys) f2 else False) E) E := by
  show WX (M.bnd (evI P Φ it) fun xs => M.bnd (block own (lcLoop (fun d => M.bnd (clrM own) fun _ => M.bnd (setM tg d) fun _ => M.bnd (evt P Φ ts) fun k => if k then M.bnd (ev P Φ elt) fun e => M.ret [e] else M.ret []) xs)) fun ys => if ys.length ≤ 100000 then M.ret (.lst ys) else M.fail) f Q E = _
  simp only [w_bnd, w_itp, w_ret, w_fail]
theorem w_dc {tk : Bool} {k v : Cr.E} {tg : Tg} {it : It} {ts : Eo} {own : List Nat} {Q : D → Fr → Prop} : WX (ev P Φ (.dc tk k v tg it ts own)) f Q E =
    WX (evI P Φ it) f (fun xs f1 => WX (block own (lcLoop (fun d => M.bnd (clrM own) fun _ => M.bnd (setM tg d) fun _ => M.bnd (evt P Φ ts) fun t => if t then M.bnd (ev P Φ k) fun x => M.bnd (ev P Φ v) fun y => M.ret [(x, y)] else M.ret []) xs)) f1 (fun ys f2 => OptK (dcFin tk ys) fun d => Q d f2) E) E := by
  show WX (M.bnd (evI P Φ it) fun xs => M.bnd (block own (lcLoop (fun d => M.bnd (clrM own) fun _ => M.bnd (setM tg d) fun _ => M.bnd (evt P Φ ts) fun t => if t then M.bnd (ev P Φ k) fun x => M.bnd (ev P Φ v) fun y => M.ret [(x, y)] else M.ret []) xs)) fun ys => M.opt (dcFin tk ys)) f Q E = _
  simp only [w_bnd, w_opt]
theorem w_esN {Q : List D → Fr → Prop} : WX (evs P Φ .nil) f Q E = Q [] f := rfl
theorem w_esC {e : Cr.E} {r : Es} {Q : List D → Fr → Prop} : WX (evs P Φ (.cons e r)) f Q E = WX (ev P Φ e) f (fun x f1 => WX (evs P Φ r) f1 (fun xs f2 => Q (x :: xs) f2) E) E := by
  show WX (M.bnd (ev P Φ e) fun x => M.bnd (evs P Φ r) fun xs => M.ret (x :: xs)) f Q E = _
  simp only [w_bnd, w_ret]
theorem w_etN {Q : Bool → Fr → Prop} : WX (evt P Φ .none) f Q E = Q true f := rfl
theorem w_etS {e : Cr.E} {Q : Bool → Fr → Prop} : WX (evt P Φ (.some e)) f Q E = WX (ev P Φ e) f (fun x f1 => BlK x fun b => Q b f1) E := by
  show WX (M.bnd (ev P Φ e) toBool) f Q E = _
  simp only [w_bnd, w_tb]
theorem w_arE {e : Cr.E} {Q : AV → Fr → Prop} : WX (evAr P Φ (.e e)) f Q E = WX (ev P Φ e) f (fun x f1 => Q (.d x) f1) E := by
  show WX (M.bnd (ev P Φ e) fun x => M.ret (.d x)) f Q E = _
  simp only [w_bnd, w_ret]
theorem w_arI {i : Nat} {Q : AV → Fr → Prop} : WX (evAr P Φ (.io i)) f Q E = ChkK f[i]? (Q (.io i) f) := by
  show WX (M.bnd (chkS i) fun _ => M.ret (.io i)) f Q E = _
  simp only [w_bnd, w_ret, w_chk]
theorem w_asN {Q : List AV → Fr → Prop} : WX (evAs P Φ .nil) f Q E = Q [] f := rfl
theorem w_asC {a : Ar} {r : As} {Q : List AV → Fr → Prop} : WX (evAs P Φ (.cons a r)) f Q E = WX (evAr P Φ a) f (fun x f1 => WX (evAs P Φ r) f1 (fun xs f2 => Q (x :: xs) f2) E) E := by
  show WX (M.bnd (evAr P Φ a) fun x => M.bnd (evAs P Φ r) fun xs => M.ret (x :: xs)) f Q E = _
  simp only [w_bnd, w_ret]
theorem w_iE {a : Cr.E} {Q : List D → Fr → Prop} : WX (evI P Φ (.e a)) f Q E = WX (ev P Φ a) f (fun x f1 => OptK (seqItems x) fun xs => Q xs f1) E := by
  show WX (M.bnd (ev P Φ a) fun x => M.opt (seqItems x)) f Q E = _
  simp only [w_bnd, w_opt]
theorem w_iR1 {a : Cr.E} {Q : List D → Fr → Prop} : WX (evI P Φ (.rng1 a)) f Q E = WX (ev P Φ a) f (fun x f1 => InK x fun n => OptK (rangeO 0 n) fun xs => Q xs f1) E := by
  show WX (M.bnd (ev P Φ a) fun x => M.bnd (toInt x) fun n => M.opt (rangeO 0 n)) f Q E = _
  simp only [w_bnd, w_ti, w_opt]
theorem w_iR2 {a b : Cr.E} {Q : List D → Fr → Prop} : WX (evI P Φ (.rng2 a b)) f Q E = WX (ev P Φ a) f (fun x f1 => WX (ev P Φ b) f1 (fun y f2 => InK x fun i => InK y fun j => OptK (rangeO i j) fun xs => Q xs f2) E) E := by
  show WX (M.bnd (ev P Φ a) fun x => M.bnd (ev P Φ b) fun y => M.bnd (toInt x) fun i => M.bnd (toInt y) fun j => M.opt (rangeO i j)) f Q E = _
  simp only [w_bnd, w_ti, w_opt]
theorem w_pN {i : Nat} {Q : List Stp → Fr → Prop} : WX (evP P Φ i .nil) f Q E = ChkK f[i]? (Q [] f) := by
  show WX (M.bnd (chkS i) fun _ => M.ret []) f Q E = _
  simp only [w_bnd, w_ret, w_chk]
theorem w_pX {i : Nat} {e : Cr.E} {Q : List Stp → Fr → Prop} : WX (evP P Φ i (.ix .nil e)) f Q E = ChkK f[i]? (WX (ev P Φ e) f (fun x f1 => Q [.ix x] f1) E) := by
  show WX (M.bnd (chkS i) fun _ => M.bnd (ev P Φ e) fun x => M.ret [.ix x]) f Q E = _
  simp only [w_bnd, w_ret, w_chk]
theorem w_pXX {i : Nat} {p : Ps} {e e' : Cr.E} {Q : List Stp → Fr → Prop} : WX (evP P Φ i (.ix (.ix p e') e)) f Q E = WX (evP P Φ i (.ix p e')) f (fun st f1 => OptK (evQ P e f1) fun x => Q (st ++ [.ix x]) f1) E := by
  show WX (M.bnd (evP P Φ i (.ix p e')) fun st => M.bnd (qM (evQ P e)) fun x => M.ret (st ++ [.ix x])) f Q E = _
  simp only [w_bnd, w_ret, w_q]
theorem w_pFX {i : Nat} {p : Ps} {x : Str} {e : Cr.E} {Q : List Stp → Fr → Prop} : WX (evP P Φ i (.ix (.fd p x) e)) f Q E = WX (evP P Φ i (.fd p x)) f (fun st f1 => OptK (evQ P e f1) fun x => Q (st ++ [.ix x]) f1) E := by
  show WX (M.bnd (evP P Φ i (.fd p x)) fun st => M.bnd (qM (evQ P e)) fun x => M.ret (st ++ [.ix x])) f Q E = _
  simp only [w_bnd, w_ret, w_q]
theorem w_pF {i : Nat} {p : Ps} {x : Str} {Q : List Stp → Fr → Prop} : WX (evP P Φ i (.fd p x)) f Q E = WX (evP P Φ i p) f (fun st f1 => Q (st ++ [.fd x]) f1) E := by
  show WX (M.bnd (evP P Φ i p) fun st => M.ret (st ++ [.fd x])) f Q E = _
  simp only [w_bnd, w_ret]
/-! ### calls -/
theorem w_callF {g : Nat} {vs : List AV} {Q : O → Fr → Prop} : WX (callF Φ g vs) f Q E = OptK (takeArgs vs f) fun t => RcK (Φ g t.1) (fun o outs => OptK (putBack t.2.1 outs t.2.2) fun f2 => Q o f2) fun c fs outs => OptK (putBack t.2.1 outs t.2.2) fun f2 => E c fs f2 := by
  unfold WX callF OptK
  cases takeArgs vs f with
  | none => rfl
  | some t =>
    obtain ⟨os, ps, f1⟩ := t
    dsimp only
    unfold RcK
    cases Φ g os with
    | bad => rfl
    | ok o outs =>
      dsimp only
      cases putBack ps outs f1 <;> rfl
    | exc c fs outs =>
      dsimp only
      cases putBack ps outs f1 <;> rfl
/-! ### objects -/
theorem w_oe {e : Cr.E} {Q : O → Fr → Prop} : WX (evO P Φ (.e e)) f Q E = WX (ev P Φ e) f (fun d f1 => Q (.fz d) f1) E := by
  show WX (M.bnd (ev P Φ e) fun d => M.ret (.fz d)) f Q E = _
  simp only [w_bnd, w_ret]
theorem w_ol {es : OEs} {Q : O → Fr → Prop} : WX (evO P Φ (.lst es)) f Q E = WX (evOs P Φ es) f (fun os f1 => Q (.lst os) f1) E := by
  show WX (M.bnd (evOs P Φ es) fun os => M.ret (.lst os)) f Q E = _
  simp only [w_bnd, w_ret]
theorem w_ocall {g : Nat} {as : As} {Q : O → Fr → Prop} : WX (evO P Φ (.call g as)) f Q E = WX (evAs P Φ as) f (fun vs f1 => WX (callF Φ g vs) f1 Q E) E := by
  show WX (M.bnd (evAs P Φ as) fun vs => callF Φ g vs) f Q E = _
  simp only [w_bnd]
theorem w_onew {g : Nat} {as : As} {Q : O → Fr → Prop} : WX (evO P Φ (.new g as)) f Q E = WX (evAs P Φ as) f (fun vs f1 => WX (newF P Φ g vs) f1 Q E) E := by
  show WX (M.bnd (evAs P Φ as) fun vs => newF P Φ g vs) f Q E = _
  simp only [w_bnd]
theorem w_osN {Q : List O → Fr → Prop} : WX (evOs P Φ .nil) f Q E = Q [] f := rfl
theorem w_osC {o : OE} {r : OEs} {Q : List O → Fr → Prop} : WX (evOs P Φ (.cons o r)) f Q E = WX (evO P Φ o) f (fun x f1 => WX (evOs P Φ r) f1 (fun xs f2 => Q (x :: xs) f2) E) E := by
  show WX (M.bnd (evO P Φ o) fun x => M.bnd (evOs P Φ r) fun xs => M.ret (x :: xs)) f Q E = _
  simp only [w_bnd, w_ret]
/-! ### statements -/
theorem w_ssN {Q : Fl → Fr → Prop} : WX (exs P Φ .nil) f Q E = Q .nx f := rfl
theorem w_ssC {s : S} {r : Ss} {Q : Fl → Fr → Prop} : WX (exs P Φ (.cons s r)) f Q E = WX (exS P Φ s) f (fun fl f1 => FlK fl (WX (exs P Φ r) f1 Q E) (Q fl f1)) E := by
  show WX (M.bnd (exS P Φ s) (flow (exs P Φ r))) f Q E = _
  rw [w_bnd]
  congr 1
  funext fl f1
  cases fl <;> rfl
theorem w_asg {t : Tg} {e : Cr.E} {Q : Fl → Fr → Prop} : WX (exS P Φ (.asg t e)) f Q E = WX (ev P Φ e) f (fun d f1 => OptK (setT t d f1) fun f2 => Q .nx f2) E := by
  show WX (M.bnd (ev P Φ e) fun d => M.bnd (setM t d) fun _ => M.ret .nx) f Q E = _
  simp only [w_bnd, w_setM, w_ret]
theorem w_asgL {i : Nat} {e : Cr.E} {Q : Fl → Fr → Prop} : WX (exS P Φ (.asgL i e)) f Q E = WX (ev P Φ e) f (fun d f1 => OptK (setT (.nm i) d f1) fun f2 => Q .nx f2) E := by
  show WX (M.bnd (ev P Φ e) fun d => M.bnd (setM (.nm i) d) fun _ => M.ret .nx) f Q E = _
  simp only [w_bnd, w_setM, w_ret]
theorem w_asgO {i : Nat} {o : OE} {Q : Fl → Fr → Prop} : WX (exS P Φ (.asgO i o)) f Q E = WX (evO P Φ o) f (fun x f1 => if i < f1.length then Q .nx (f1.set i x) else False) E := by
  show WX (M.bnd (evO P Φ o) fun x => M.bnd (setO1 i x) fun _ => M.ret .nx) f Q E = _
  simp only [w_bnd, w_setO1, w_ret]
theorem w_app {i : Nat} {o : OE} {Q : Fl → Fr → Prop} : WX (exS P Φ (.mu i .nil (.app o))) f Q E = LstK f[i]? (WX (evO P Φ o) f (fun v f1 => OptK f1[i]? fun x => OptK (appO v x) fun x' => Q .nx (f1.set i x')) E) := by
  show WX (M.bnd (M.bnd (chkL i) fun _ => M.bnd (evO P Φ o) fun v => modR i (appO v)) fun _ => M.ret .nx) f Q E = _
  simp only [w_bnd, w_chkL, w_modR, w_ret]
theorem w_set {i : Nat} {k : Cr.E} {o : OE} {Q : Fl → Fr → Prop} : WX (exS P Φ (.mu i .nil (.set k o))) f Q E = WX (evO P Φ o) f (fun v f1 => ChkK f1[i]? (WX (ev P Φ k) f1 (fun x f2 => OptK f2[i]? fun y => OptK (setKL x v y) fun y' => Q .nx (f2.set i y')) E)) E := by
  show WX (M.bnd (M.bnd (evO P Φ o) fun v => M.bnd (chkS i) fun _ => M.bnd (ev P Φ k) fun x => modR i (setKL x v)) fun _ => M.ret .nx) f Q E = _
  simp only [w_bnd, w_chk, w_modR, w_ret]
theorem w_fset {i : Nat} {g : Str} {o : OE} {Q : Fl → Fr → Prop} : WX (exS P Φ (.mu i .nil (.fset g o))) f Q E = WX (evO P Φ o) f (fun v f1 => ChkK f1[i]? (OptK f1[i]? fun y => OptK (fsetO P g v y) fun y' => Q .nx (f1.set i y'))) E := by
  show WX (M.bnd (M.bnd (evO P Φ o) fun v => M.bnd (chkS i) fun _ => modR i (fsetO P g v)) fun _ => M.ret .nx) f Q E = _
  simp only [w_bnd, w_chk, w_modR, w_ret]
theorem w_aug {i : Nat} {o : BOp} {e : Cr.E} {Q : Fl → Fr → Prop} : WX (exS P Φ (.aug i o e)) f Q E = RdK f[i]? i f fun x f1 => WX (ev P Φ e) f1 (fun y f2 => OptK (augD o x y) fun z => if i < f2.length then Q .nx (f2.set i (.fz z)) else False) E := by
  show WX (M.bnd (rdSlot i) fun x => M.bnd (ev P Φ e) fun y => M.bnd (M.opt (augD o x y)) fun z => M.bnd (setO1 i (.fz z)) fun _ => M.ret .nx) f Q E = _
  simp only [w_bnd, w_rd, w_opt, w_setO1, w_ret]
theorem w_ex {e : Cr.E} {Q : Fl → Fr → Prop} : WX (exS P Φ (.ex e)) f Q E = WX (ev P Φ e) f (fun _ f1 => Q .nx f1) E := by
  show WX (M.bnd (ev P Φ e) fun _ => M.ret .nx) f Q E = _
  simp only [w_bnd, w_ret]
theorem w_retE {e : Cr.E} {Q : Fl → Fr → Prop} : WX (exS P Φ (.ret e)) f Q E = WX (ev P Φ e) f (fun d f1 => Q (.rt (.fz d)) f1) E := by
  show WX (M.bnd (ev P Φ e) fun d => M.ret (.rt (.fz d))) f Q E = _
  simp only [w_bnd, w_ret]
theorem w_retN {Q : Fl → Fr → Prop} : WX (exS P Φ .retN) f Q E = Q (.rt (.fz .non)) f := rfl
theorem w_retO {o : OE} {Q : Fl → Fr → Prop} : WX (exS P Φ (.retO o)) f Q E = WX (evO P Φ o) f (fun x f1 => Q (.rt x) f1) E := by
  show WX (M.bnd (evO P Φ o) fun x => M.ret (.rt x)) f Q E = _
  simp only [w_bnd, w_ret]
theorem w_if {c : Cr.E} {a b : Ss} {Q : Fl → Fr → Prop} : WX (exS P Φ (.ite c a b)) f Q E = WX (ev P Φ c) f (fun x f1 => BlK x fun r => if r = true then WX (exs P Φ a) f1 Q E else WX (exs P Φ b) f1 Q E) E := by
  show WX (M.bnd (ev P Φ c) fun x => M.bnd (toBool x) fun r => if r then exs P Φ a else exs P Φ b) f Q E = _
  simp only [w_bnd, w_tb, w_ite]
theorem w_for {t : Tg} {it : It} {b : Ss} {Q : Fl → Fr → Prop} : WX (exS P Φ (.for t it b)) f Q E = WX (evI P Φ it) f (fun xs f1 => WX (forL t (exs P Φ b) xs) f1 Q E) E := by
  show WX (M.bnd (evI P Φ it) fun xs => forL t (exs P Φ b) xs) f Q E = _
  simp only [w_bnd]
theorem w_rse {c : Nat} {es : Es} {Q : Fl → Fr → Prop} : WX (exS P Φ (.rse c es)) f Q E = WX (evs P Φ es) f (fun fs f1 => E c fs f1) E := by
  show WX (M.bnd (evs P Φ es) fun fs => fun f => .exc c fs f) f Q E = _
  rw [w_bnd]
  rfl
theorem w_try {b : Ss} {cs : List Nat} {i : Nat} {h : Hs} {Q : Fl → Fr → Prop} : WX (exS P Φ (.try b cs (some i) h)) f Q E = WX (exs P Φ b) f Q fun c fs f1 => if c < P.excs.length then (if cs.contains c = true then (if i < f1.length then WX (runHs c fs h) (f1.set i .un) Q E else False) else E c fs f1) else False := by
  show WX (tryM P.excs.length (exs P Φ b) cs i fun c fs => runHs c fs h) f Q E = _
  unfold WX tryM
  cases exs P Φ b f with
  | ok a f1 => rfl
  | bad => rfl
  | exc c fs f1 =>
    dsimp only
    by_cases h1 : c < P.excs.length
    · rw [if_pos h1, if_pos h1]
      cases h2 : cs.contains c with
      | false => rfl
      | true =>
        by_cases h3 : i < f1.length
        · simp only [if_pos h3]; rfl
        · simp only [if_neg h3]; rfl
    · rw [if_neg h1, if_neg h1]
theorem w_brk {Q : Fl → Fr → Prop} : WX (exS P Φ .brk) f Q E = Q .bk f := rfl
theorem w_cont {Q : Fl → Fr → Prop} : WX (exS P Φ .cont) f Q E = Q .ct f := rfl
theorem w_pass {Q : Fl → Fr → Prop} : WX (exS P Φ .pass) f Q E = Q .nx f := rfl
theorem w_hret {c : Nat} {fs : List D} {e : HE} {Q : Fl → Fr → Prop} : WX (runHs c fs (.ret e)) f Q E = OptK (evHE c fs e) fun d => Q (.rt (.fz d)) f := by
  show WX (M.bnd (M.opt (evHE c fs e)) fun d => M.ret (.rt (.fz d))) f Q E = _
  simp only [w_bnd, w_opt, w_ret]
theorem w_hunl {c : Nat} {fs : List D} {e r : HE} {Q : Fl → Fr → Prop} : WX (runHs c fs (.unless e r)) f Q E = OptK (evHE c fs e) fun d => BlK d fun b => if b = true then Q .nx f else OptK (evHE c fs r) fun d => Q (.rt (.fz d)) f := by
  show WX (M.bnd (M.opt (evHE c fs e)) fun d => M.bnd (toBool d) fun b => if b then M.ret .nx else M.bnd (M.opt (evHE c fs r)) fun d => M.ret (.rt (.fz d))) f Q E = _
  simp only [w_bnd, w_opt, w_ret, w_tb, w_ite]
theorem w_fN {t : Tg} {b : M Fl} {Q : Fl → Fr → Prop} : WX (forL t b []) f Q E = Q .nx f := rfl
theorem w_fC {t : Tg} {b : M Fl} {d : D} {ds : List D} {Q : Fl → Fr → Prop} : WX (forL t b (d :: ds)) f Q E = OptK (setT t d f) fun f1 => WX b f1 (fun fl f2 => LoK fl (WX (forL t b ds) f2 Q E) (Q .nx f2) fun o => Q (.rt o) f2) E := by
  show WX (M.bnd (setM t d) fun _ => M.bnd b fun
    | .nx => forL t b ds
    | .ct => forL t b ds
    | .bk => M.ret .nx
    | .rt d => M.ret (.rt d)) f Q E = _
  simp only [w_bnd, w_setM]
  congr 1
  funext f1
  congr 1
  funext fl f2
  cases fl <;> rfl
theorem w_lN {t : D → M (List α)} {Q : List α → Fr → Prop} : WX (lcLoop t []) f Q E = Q [] f := rfl
theorem w_lC {t : D → M (List α)} {d : D} {ds : List D} {Q : List α → Fr → Prop} : WX (lcLoop t (d :: ds)) f Q E = WX (t d) f (fun r f1 => WX (lcLoop t ds) f1 (fun rest f2 => Q (r ++ rest) f2) E) E := by
  show WX (M.bnd (t d) fun r => M.bnd (lcLoop t ds) fun rest => M.ret (r ++ rest)) f Q E = _
  simp only [w_bnd, w_ret]
theorem w_block {own : List Nat} {m : M α} {Q : α → Fr → Prop} (h : canWipe own f = true) (hm : WX m f (fun a f1 => canWipe own f1 = true ∧ Q a (backF own f (wipeF own f1))) fun _ _ _ => False) : WX (block own m) f Q E := by
  unfold WX block
  rw [if_pos h]
  unfold WX at hm
  cases q : m f with
  | ok a f1 =>
    rw [q] at hm
    obtain ⟨h1, h2⟩ := hm
    dsimp only
    rw [if_pos h1]
    exact h2
  | exc c fs f1 => rw [q] at hm; exact hm.elim
  | bad => rw [q] at hm; exact hm.elim
/-! ### from behind to an equation -/
theorem WX.mono {m : M α} {Q Q' : α → Fr → Prop} {E' : XQ} (h : WX m f Q E) (hq : ∀ a f', Q a f' → Q' a f') (he : ∀ c fs f', E c fs f' → E' c fs f') : WX m f Q' E' := by
  unfold WX at h ⊢
  cases q : m f with
  | ok a f1 => rw [q] at h; exact hq _ _ h
  | exc c fs f1 => rw [q] at h; exact he _ _ _ h
  | bad => rw [q] at h; exact h
/-- a def's run -/
def FinK (io : List Nat) (k : O → List O → Prop) (fl : Fl) (f : Fr) : Prop := match fl with
  | .nx => (outsOf io f).any isUn = false ∧ k (.fz .non) (outsOf io f)
  | .rt o => (outsOf io f).any isUn = false ∧ k o (outsOf io f)
  | _ => False
theorem w_run {d : Dfn} {os : List O} {k : O → List O → Prop} {E : Nat → List D → List O → Prop} (hl : os.length = d.par) (h : WX (exs P Φ d.body) (os ++ List.replicate (d.names.length - d.par) .un) (FinK d.io k) fun c fs f1 => (outsOf d.io f1).any isUn = false ∧ E c fs (outsOf d.io f1)) : RcK (runD P Φ d os) k E := by
  unfold runD
  rw [if_pos hl]
  unfold WX at h
  cases q : exs P Φ d.body (os ++ List.replicate (d.names.length - d.par) .un) with
  | bad => rw [q] at h; exact h
  | exc c fs f1 =>
    rw [q] at h
    obtain ⟨h1, h2⟩ := h
    show RcK (if (outsOf d.io f1).any isUn then .bad else .exc c fs (outsOf d.io f1)) k E
    rw [h1]
    exact h2
  | ok fl f1 =>
    rw [q] at h
    cases fl with
    | nx =>
      obtain ⟨h1, h2⟩ := h
      show RcK (if (outsOf d.io f1).any isUn then .bad else .ok (.fz .non) (outsOf d.io f1)) k E
      rw [h1]
      exact h2
    | rt o =>
      obtain ⟨h1, h2⟩ := h
      show RcK (if (outsOf d.io f1).any isUn then .bad else .ok o (outsOf d.io f1)) k E
      rw [h1]
      exact h2
    | bk => exact h.elim
    | ct => exact h.elim
theorem RcK.ok_eq {r : RC} {o : O} {os : List O} (h : RcK r (fun o' os' => o' = o ∧ os' = os) fun _ _ _ => False) : r = .ok o os := by
  cases r with
  | ok a b => obtain ⟨h1, h2⟩ := h; rw [h1, h2]
  | exc c fs os => exact h.elim
  | bad => exact h.elim
theorem RcK.exc_eq {r : RC} {c : Nat} {fs : List D} {os : List O} (h : RcK r (fun _ _ => False) fun c' fs' os' => c' = c ∧ fs' = fs ∧ os' = os) : r = .exc c fs os := by
  cases r with
  | ok a b => exact h.elim
  | exc c fs os => obtain ⟨h1, h2, h3⟩ := h; rw [h1, h2, h3]
  | bad => exact h.elim
theorem run_s {n g : Nat} {d : Dfn} {os : List O} (h : P.defs[g]? = some d) : run P (n + 1) g os = runD P (run P n) d os := by
  show (match P.defs[g]? with
    | some d => runD P (run P n) d os
    | none => .bad) = _
  rw [h]
end
end Cw0

/-! What a run of the core does, said from behind: rules to step through a text. -/
namespace Cw
open PySem Cr
abbrev XQ := Nat → List D → Fr → Prop
theorem nr {α : Sort u} {a b : α} (h : a = b) : a = b := h
/-- what a tag names is left as it is when the rest is made plain -/
inductive Tk {α : Type} (a : α) : Type where
  | mk | no
@[irreducible] def WX {α : Type} (m : M α) (f : Fr) (Q : α → Fr → Prop) (E : XQ) (_ : Tk (m, Q, E) := .mk) : Prop := Cw0.WX m f Q E
theorem WX_eq {α : Type} (m : M α) (f : Fr) (Q : α → Fr → Prop) (E : XQ)  : WX m f Q E = Cw0.WX m f Q E := by
  unfold WX
  rfl
def OptK {α : Type} (o : Option α) (k : α → Prop) (_ : Tk k := .mk) : Prop := Cw0.OptK o k
theorem OptK_eq {α : Type} (o : Option α) (k : α → Prop)  : OptK o k = Cw0.OptK o k := nr rfl
def RdK (o : Option O) (i : Nat) (f : Fr) (Q : D → Fr → Prop) (_ : Tk (i, f, Q) := .mk) : Prop := Cw0.RdK o i f Q
theorem RdK_eq (o : Option O) (i : Nat) (f : Fr) (Q : D → Fr → Prop)  : RdK o i f Q = Cw0.RdK o i f Q := nr rfl
def ChkK (o : Option O) (q : Prop) (_ : Tk (fun _ : Unit => q) := .mk) : Prop := Cw0.ChkK o q
theorem ChkK_eq (o : Option O) (q : Prop)  : ChkK o q = Cw0.ChkK o q := nr rfl
def ValK (o : Option O) (k : D → Prop) (_ : Tk k := .mk) : Prop := Cw0.ValK o k
theorem ValK_eq (o : Option O) (k : D → Prop)  : ValK o k = Cw0.ValK o k := nr rfl
def LstK (o : Option O) (q : Prop) (_ : Tk (fun _ : Unit => q) := .mk) : Prop := Cw0.LstK o q
theorem LstK_eq (o : Option O) (q : Prop)  : LstK o q = Cw0.LstK o q := nr rfl
def BlK (d : D) (k : Bool → Prop) (_ : Tk k := .mk) : Prop := Cw0.BlK d k
theorem BlK_eq (d : D) (k : Bool → Prop)  : BlK d k = Cw0.BlK d k := nr rfl
def InK (d : D) (k : Int → Prop) (_ : Tk k := .mk) : Prop := Cw0.InK d k
theorem InK_eq (d : D) (k : Int → Prop)  : InK d k = Cw0.InK d k := nr rfl
def FlK (x : Fl) (a b : Prop) (_ : Tk (fun _ : Unit => (a, b)) := .mk) : Prop := Cw0.FlK x a b
theorem FlK_eq (x : Fl) (a b : Prop)  : FlK x a b = Cw0.FlK x a b := nr rfl
def RcK (r : RC) (k : O → List O → Prop) (E : Nat → List D → List O → Prop) (_ : Tk (k, E) := .mk) : Prop := Cw0.RcK r k E
theorem RcK_eq (r : RC) (k : O → List O → Prop) (E : Nat → List D → List O → Prop)  : RcK r k E = Cw0.RcK r k E := nr rfl
def LoK (x : Fl) (a : Prop) (b : Prop) (k : O → Prop) (_ : Tk (fun _ : Unit => (a, b, k)) := .mk) : Prop := Cw0.LoK x a b k
theorem LoK_eq (x : Fl) (a : Prop) (b : Prop) (k : O → Prop)  : LoK x a b k = Cw0.LoK x a b k := nr rfl
section
variable {P : Prg} {Φ : Calls} {f : Fr} {E : XQ} {α β : Type}
theorem OptK_s {a : α} {k : α → Prop} : OptK (some a) k = k a := by
  simp only [WX_eq, OptK_eq, RdK_eq, ChkK_eq, ValK_eq, LstK_eq, BlK_eq, InK_eq, FlK_eq, RcK_eq, LoK_eq] at *
  exact Cw0.OptK_s
theorem RdK_bl {b : Bool} {i : Nat} {Q : D → Fr → Prop} : RdK (some (.fz (.bl b))) i f Q = Q (.bl b) f := by
  simp only [WX_eq, OptK_eq, RdK_eq, ChkK_eq, ValK_eq, LstK_eq, BlK_eq, InK_eq, FlK_eq, RcK_eq, LoK_eq] at *
  exact Cw0.RdK_bl
theorem RdK_int {b : Int} {i : Nat} {Q : D → Fr → Prop} : RdK (some (.fz (.int b))) i f Q = Q (.int b) f := by
  simp only [WX_eq, OptK_eq, RdK_eq, ChkK_eq, ValK_eq, LstK_eq, BlK_eq, InK_eq, FlK_eq, RcK_eq, LoK_eq] at *
  exact Cw0.RdK_int
theorem RdK_str {b : Str} {i : Nat} {Q : D → Fr → Prop} : RdK (some (.fz (.str b))) i f Q = Q (.str b) f := by
  simp only [WX_eq, OptK_eq, RdK_eq, ChkK_eq, ValK_eq, LstK_eq, BlK_eq, InK_eq, FlK_eq, RcK_eq, LoK_eq] at *
  exact Cw0.RdK_str
theorem RdK_non {i : Nat} {Q : D → Fr → Prop} : RdK (some (.fz .non)) i f Q = Q .non f := by
  simp only [WX_eq, OptK_eq, RdK_eq, ChkK_eq, ValK_eq, LstK_eq, BlK_eq, InK_eq, FlK_eq, RcK_eq, LoK_eq] at *
  exact Cw0.RdK_non
theorem RdK_tup {b : List D} {i : Nat} {Q : D → Fr → Prop} : RdK (some (.fz (.tup b))) i f Q = Q (.tup b) f := by
  simp only [WX_eq, OptK_eq, RdK_eq, ChkK_eq, ValK_eq, LstK_eq, BlK_eq, InK_eq, FlK_eq, RcK_eq, LoK_eq] at *
  exact Cw0.RdK_tup
theorem RdK_lst {b : List D} {i : Nat} {Q : D → Fr → Prop} : RdK (some (.fz (.lst b))) i f Q = Q (.lst b) f := by
  simp only [WX_eq, OptK_eq, RdK_eq, ChkK_eq, ValK_eq, LstK_eq, BlK_eq, InK_eq, FlK_eq, RcK_eq, LoK_eq] at *
  exact Cw0.RdK_lst
theorem RdK_dK {b : List Ky} {v : List D} {i : Nat} {Q : D → Fr → Prop} : RdK (some (.fz (.dK b v))) i f Q = Q (.dK b v) f := by
  simp only [WX_eq, OptK_eq, RdK_eq, ChkK_eq, ValK_eq, LstK_eq, BlK_eq, InK_eq, FlK_eq, RcK_eq, LoK_eq] at *
  exact Cw0.RdK_dK
theorem RdK_dT {b : List (List Ky)} {v : List D} {i : Nat} {Q : D → Fr → Prop} : RdK (some (.fz (.dT b v))) i f Q = Q (.dT b v) f := by
  simp only [WX_eq, OptK_eq, RdK_eq, ChkK_eq, ValK_eq, LstK_eq, BlK_eq, InK_eq, FlK_eq, RcK_eq, LoK_eq] at *
  exact Cw0.RdK_dT
theorem RdK_ins {c : Nat} {v : List D} {i : Nat} {Q : D → Fr → Prop} : RdK (some (.fz (.ins c v))) i f Q = Q (.ins c v) f := by
  simp only [WX_eq, OptK_eq, RdK_eq, ChkK_eq, ValK_eq, LstK_eq, BlK_eq, InK_eq, FlK_eq, RcK_eq, LoK_eq] at *
  exact Cw0.RdK_ins
theorem RdK_fn {c : Nat} {i : Nat} {Q : D → Fr → Prop} : RdK (some (.fz (.fn c))) i f Q = Q (.fn c) f := by
  simp only [WX_eq, OptK_eq, RdK_eq, ChkK_eq, ValK_eq, LstK_eq, BlK_eq, InK_eq, FlK_eq, RcK_eq, LoK_eq] at *
  exact Cw0.RdK_fn
theorem RdK_scr {c : List Int} {i : Nat} {Q : D → Fr → Prop} : RdK (some (.fz (.scr c))) i f Q = Q (.scr c) f := by
  simp only [WX_eq, OptK_eq, RdK_eq, ChkK_eq, ValK_eq, LstK_eq, BlK_eq, InK_eq, FlK_eq, RcK_eq, LoK_eq] at *
  exact Cw0.RdK_scr
theorem RdK_d {d : D} {i : Nat} {Q : D → Fr → Prop} (h : d ≠ .nil) : RdK (some (.fz d)) i f Q = Q d f := by
  simp only [RdK_eq]
  exact Cw0.RdK_d (i := i) h
theorem RdK_ol {os : List O} {i : Nat} {Q : D → Fr → Prop} : RdK (some (.lst os)) i f Q = Q (.lst (fzds os)) (f.set i (.fz (.lst (fzds os)))) := by
  simp only [WX_eq, OptK_eq, RdK_eq, ChkK_eq, ValK_eq, LstK_eq, BlK_eq, InK_eq, FlK_eq, RcK_eq, LoK_eq] at *
  exact Cw0.RdK_ol
theorem ChkK_fz {d : D} {q : Prop} : ChkK (some (.fz d)) q = q := by
  simp only [WX_eq, OptK_eq, RdK_eq, ChkK_eq, ValK_eq, LstK_eq, BlK_eq, InK_eq, FlK_eq, RcK_eq, LoK_eq] at *
  exact Cw0.ChkK_fz
theorem ChkK_l {os : List O} {q : Prop} : ChkK (some (.lst os)) q = q := by
  simp only [WX_eq, OptK_eq, RdK_eq, ChkK_eq, ValK_eq, LstK_eq, BlK_eq, InK_eq, FlK_eq, RcK_eq, LoK_eq] at *
  exact Cw0.ChkK_l
theorem ChkK_i {c : Nat} {os : List O} {q : Prop} : ChkK (some (.ins c os)) q = q := by
  simp only [WX_eq, OptK_eq, RdK_eq, ChkK_eq, ValK_eq, LstK_eq, BlK_eq, InK_eq, FlK_eq, RcK_eq, LoK_eq] at *
  exact Cw0.ChkK_i
theorem ChkK_k {ks : List Ky} {os : List O} {q : Prop} : ChkK (some (.dK ks os)) q = q := by
  simp only [WX_eq, OptK_eq, RdK_eq, ChkK_eq, ValK_eq, LstK_eq, BlK_eq, InK_eq, FlK_eq, RcK_eq, LoK_eq] at *
  exact Cw0.ChkK_k
theorem ChkK_t {ks : List (List Ky)} {os : List O} {q : Prop} : ChkK (some (.dT ks os)) q = q := by
  simp only [WX_eq, OptK_eq, RdK_eq, ChkK_eq, ValK_eq, LstK_eq, BlK_eq, InK_eq, FlK_eq, RcK_eq, LoK_eq] at *
  exact Cw0.ChkK_t
theorem ValK_d {d : D} {k : D → Prop} (h : d ≠ .nil) : ValK (some (.fz d)) k = k d := by
  simp only [WX_eq, OptK_eq, RdK_eq, ChkK_eq, ValK_eq, LstK_eq, BlK_eq, InK_eq, FlK_eq, RcK_eq, LoK_eq] at *
  exact Cw0.ValK_d h
theorem ValK_int {d : Int} {k : D → Prop} : ValK (some (.fz (.int d))) k = k (.int d) := by
  simp only [WX_eq, OptK_eq, RdK_eq, ChkK_eq, ValK_eq, LstK_eq, BlK_eq, InK_eq, FlK_eq, RcK_eq, LoK_eq] at *
  exact Cw0.ValK_int
theorem ValK_bl {d : Bool} {k : D → Prop} : ValK (some (.fz (.bl d))) k = k (.bl d) := by
  simp only [WX_eq, OptK_eq, RdK_eq, ChkK_eq, ValK_eq, LstK_eq, BlK_eq, InK_eq, FlK_eq, RcK_eq, LoK_eq] at *
  exact Cw0.ValK_bl
theorem ValK_lst {d : List D} {k : D → Prop} : ValK (some (.fz (.lst d))) k = k (.lst d) := by
  simp only [WX_eq, OptK_eq, RdK_eq, ChkK_eq, ValK_eq, LstK_eq, BlK_eq, InK_eq, FlK_eq, RcK_eq, LoK_eq] at *
  exact Cw0.ValK_lst
theorem ValK_tup {d : List D} {k : D → Prop} : ValK (some (.fz (.tup d))) k = k (.tup d) := by
  simp only [WX_eq, OptK_eq, RdK_eq, ChkK_eq, ValK_eq, LstK_eq, BlK_eq, InK_eq, FlK_eq, RcK_eq, LoK_eq] at *
  exact Cw0.ValK_tup
theorem LstK_l {os : List O} {q : Prop} : LstK (some (.lst os)) q = q := by
  simp only [WX_eq, OptK_eq, RdK_eq, ChkK_eq, ValK_eq, LstK_eq, BlK_eq, InK_eq, FlK_eq, RcK_eq, LoK_eq] at *
  exact Cw0.LstK_l
theorem BlK_b {b : Bool} {k : Bool → Prop} : BlK (.bl b) k = k b := by
  simp only [WX_eq, OptK_eq, RdK_eq, ChkK_eq, ValK_eq, LstK_eq, BlK_eq, InK_eq, FlK_eq, RcK_eq, LoK_eq] at *
  exact Cw0.BlK_b
theorem InK_i {b : Int} {k : Int → Prop} : InK (.int b) k = k b := by
  simp only [WX_eq, OptK_eq, RdK_eq, ChkK_eq, ValK_eq, LstK_eq, BlK_eq, InK_eq, FlK_eq, RcK_eq, LoK_eq] at *
  exact Cw0.InK_i
theorem FlK_nx {a b : Prop} : FlK .nx a b = a := by
  simp only [WX_eq, OptK_eq, RdK_eq, ChkK_eq, ValK_eq, LstK_eq, BlK_eq, InK_eq, FlK_eq, RcK_eq, LoK_eq] at *
  exact Cw0.FlK_nx
theorem FlK_ct {a b : Prop} : FlK .ct a b = b := by
  simp only [WX_eq, OptK_eq, RdK_eq, ChkK_eq, ValK_eq, LstK_eq, BlK_eq, InK_eq, FlK_eq, RcK_eq, LoK_eq] at *
  exact Cw0.FlK_ct
theorem FlK_bk {a b : Prop} : FlK .bk a b = b := by
  simp only [WX_eq, OptK_eq, RdK_eq, ChkK_eq, ValK_eq, LstK_eq, BlK_eq, InK_eq, FlK_eq, RcK_eq, LoK_eq] at *
  exact Cw0.FlK_bk
theorem FlK_rt {o : O} {a b : Prop} : FlK (.rt o) a b = b := by
  simp only [WX_eq, OptK_eq, RdK_eq, ChkK_eq, ValK_eq, LstK_eq, BlK_eq, InK_eq, FlK_eq, RcK_eq, LoK_eq] at *
  exact Cw0.FlK_rt
theorem RcK_ok {o : O} {os : List O} {k : O → List O → Prop} {E : Nat → List D → List O → Prop} : RcK (.ok o os) k E = k o os := by
  simp only [WX_eq, OptK_eq, RdK_eq, ChkK_eq, ValK_eq, LstK_eq, BlK_eq, InK_eq, FlK_eq, RcK_eq, LoK_eq] at *
  exact Cw0.RcK_ok
theorem RcK_exc {c : Nat} {fs : List D} {os : List O} {k : O → List O → Prop} {E : Nat → List D → List O → Prop} : RcK (.exc c fs os) k E = E c fs os := by
  simp only [WX_eq, OptK_eq, RdK_eq, ChkK_eq, ValK_eq, LstK_eq, BlK_eq, InK_eq, FlK_eq, RcK_eq, LoK_eq] at *
  exact Cw0.RcK_exc
theorem LoK_nx {a b : Prop} {k : O → Prop} : LoK .nx a b k = a := by
  simp only [WX_eq, OptK_eq, RdK_eq, ChkK_eq, ValK_eq, LstK_eq, BlK_eq, InK_eq, FlK_eq, RcK_eq, LoK_eq] at *
  exact Cw0.LoK_nx
theorem LoK_ct {a b : Prop} {k : O → Prop} : LoK .ct a b k = a := by
  simp only [WX_eq, OptK_eq, RdK_eq, ChkK_eq, ValK_eq, LstK_eq, BlK_eq, InK_eq, FlK_eq, RcK_eq, LoK_eq] at *
  exact Cw0.LoK_ct
theorem LoK_bk {a b : Prop} {k : O → Prop} : LoK .bk a b k = b := by
  simp only [WX_eq, OptK_eq, RdK_eq, ChkK_eq, ValK_eq, LstK_eq, BlK_eq, InK_eq, FlK_eq, RcK_eq, LoK_eq] at *
  exact Cw0.LoK_bk
theorem LoK_rt {o : O} {a b : Prop} {k : O → Prop} : LoK (.rt o) a b k = k o := by
  simp only [WX_eq, OptK_eq, RdK_eq, ChkK_eq, ValK_eq, LstK_eq, BlK_eq, InK_eq, FlK_eq, RcK_eq, LoK_eq] at *
  exact Cw0.LoK_rt
theorem w_bnd {m : M α} {k : α → M β} {Q : β → Fr → Prop} : WX (M.bnd m k) f Q E = WX m f (fun a f' => WX (k a) f' Q E) E := by
  simp only [WX_eq, OptK_eq, RdK_eq, ChkK_eq, ValK_eq, LstK_eq, BlK_eq, InK_eq, FlK_eq, RcK_eq, LoK_eq] at *
  exact Cw0.w_bnd
theorem w_ret {a : α} {Q : α → Fr → Prop} : WX (M.ret a) f Q E = Q a f := by
  simp only [WX_eq, OptK_eq, RdK_eq, ChkK_eq, ValK_eq, LstK_eq, BlK_eq, InK_eq, FlK_eq, RcK_eq, LoK_eq] at *
  exact Cw0.w_ret
theorem w_opt {o : Option α} {Q : α → Fr → Prop} : WX (M.opt o) f Q E = OptK o fun a => Q a f := by
  simp only [WX_eq, OptK_eq, RdK_eq, ChkK_eq, ValK_eq, LstK_eq, BlK_eq, InK_eq, FlK_eq, RcK_eq, LoK_eq] at *
  exact Cw0.w_opt
theorem w_fail {Q : α → Fr → Prop} : WX (M.fail : M α) f Q E = False := by
  simp only [WX_eq, OptK_eq, RdK_eq, ChkK_eq, ValK_eq, LstK_eq, BlK_eq, InK_eq, FlK_eq, RcK_eq, LoK_eq] at *
  exact Cw0.w_fail
theorem w_ite {b : Bool} {m1 m2 : M α} {Q : α → Fr → Prop} : WX (if b = true then m1 else m2) f Q E = if b = true then WX m1 f Q E else WX m2 f Q E := by
  simp only [WX_eq, OptK_eq, RdK_eq, ChkK_eq, ValK_eq, LstK_eq, BlK_eq, InK_eq, FlK_eq, RcK_eq, LoK_eq] at *
  exact Cw0.w_ite
theorem w_itp {p : Prop} [Decidable p] {m1 m2 : M α} {Q : α → Fr → Prop} : WX (if p then m1 else m2) f Q E = if p then WX m1 f Q E else WX m2 f Q E := by
  simp only [WX_eq, OptK_eq, RdK_eq, ChkK_eq, ValK_eq, LstK_eq, BlK_eq, InK_eq, FlK_eq, RcK_eq, LoK_eq] at *
  exact Cw0.w_itp
theorem w_tb {d : D} {Q : Bool → Fr → Prop} : WX (toBool d) f Q E = BlK d fun b => Q b f := by
  simp only [WX_eq, OptK_eq, RdK_eq, ChkK_eq, ValK_eq, LstK_eq, BlK_eq, InK_eq, FlK_eq, RcK_eq, LoK_eq] at *
  exact Cw0.w_tb
theorem w_ti {d : D} {Q : Int → Fr → Prop} : WX (toInt d) f Q E = InK d fun b => Q b f := by
  simp only [WX_eq, OptK_eq, RdK_eq, ChkK_eq, ValK_eq, LstK_eq, BlK_eq, InK_eq, FlK_eq, RcK_eq, LoK_eq] at *
  exact Cw0.w_ti
theorem w_rd {i : Nat} {Q : D → Fr → Prop} : WX (rdSlot i) f Q E = RdK f[i]? i f Q := by
  simp only [WX_eq, OptK_eq, RdK_eq, ChkK_eq, ValK_eq, LstK_eq, BlK_eq, InK_eq, FlK_eq, RcK_eq, LoK_eq] at *
  exact Cw0.w_rd
theorem w_chk {i : Nat} {Q : Unit → Fr → Prop} : WX (chkS i) f Q E = ChkK f[i]? (Q () f) := by
  simp only [WX_eq, OptK_eq, RdK_eq, ChkK_eq, ValK_eq, LstK_eq, BlK_eq, InK_eq, FlK_eq, RcK_eq, LoK_eq] at *
  exact Cw0.w_chk
theorem w_chkL {i : Nat} {Q : Unit → Fr → Prop} : WX (chkL i) f Q E = LstK f[i]? (Q () f) := by
  simp only [WX_eq, OptK_eq, RdK_eq, ChkK_eq, ValK_eq, LstK_eq, BlK_eq, InK_eq, FlK_eq, RcK_eq, LoK_eq] at *
  exact Cw0.w_chkL
theorem w_plVal {i : Nat} {st : List Stp} {Q : D → Fr → Prop} : WX (plVal P i st) f Q E = OptK f[i]? fun o => ValK (getO P o st) fun d => Q d f := by
  simp only [WX_eq, OptK_eq, RdK_eq, ChkK_eq, ValK_eq, LstK_eq, BlK_eq, InK_eq, FlK_eq, RcK_eq, LoK_eq] at *
  exact Cw0.w_plVal
theorem w_plTop {i : Nat} {st : List Stp} {Q : D → Fr → Prop} : WX (plTop P i st) f Q E = OptK f[i]? fun o => OptK (getO P o st) fun o => OptK (topD o) fun d => Q d f := by
  simp only [WX_eq, OptK_eq, RdK_eq, ChkK_eq, ValK_eq, LstK_eq, BlK_eq, InK_eq, FlK_eq, RcK_eq, LoK_eq] at *
  exact Cw0.w_plTop
theorem w_q {q : Fr → Option α} {Q : α → Fr → Prop} : WX (qM q) f Q E = OptK (q f) fun a => Q a f := by
  simp only [WX_eq, OptK_eq, RdK_eq, ChkK_eq, ValK_eq, LstK_eq, BlK_eq, InK_eq, FlK_eq, RcK_eq, LoK_eq] at *
  exact Cw0.w_q
theorem w_setM {t : Tg} {d : D} {Q : Unit → Fr → Prop} : WX (setM t d) f Q E = OptK (setT t d f) fun f' => Q () f' := by
  simp only [WX_eq, OptK_eq, RdK_eq, ChkK_eq, ValK_eq, LstK_eq, BlK_eq, InK_eq, FlK_eq, RcK_eq, LoK_eq] at *
  exact Cw0.w_setM
theorem w_setO1 {i : Nat} {o : O} {Q : Unit → Fr → Prop} : WX (setO1 i o) f Q E = if i < f.length then Q () (f.set i o) else False := by
  simp only [WX_eq, OptK_eq, RdK_eq, ChkK_eq, ValK_eq, LstK_eq, BlK_eq, InK_eq, FlK_eq, RcK_eq, LoK_eq] at *
  exact Cw0.w_setO1
theorem w_modR {i : Nat} {g : O → Option O} {Q : Unit → Fr → Prop} : WX (modR i g) f Q E = OptK f[i]? fun o => OptK (g o) fun o' => Q () (f.set i o') := by
  simp only [WX_eq, OptK_eq, RdK_eq, ChkK_eq, ValK_eq, LstK_eq, BlK_eq, InK_eq, FlK_eq, RcK_eq, LoK_eq] at *
  exact Cw0.w_modR
theorem w_clr {own : List Nat} {Q : Unit → Fr → Prop} : WX (clrM own) f Q E = if canWipe own f = true then Q () (wipeF own f) else False := by
  simp only [WX_eq, OptK_eq, RdK_eq, ChkK_eq, ValK_eq, LstK_eq, BlK_eq, InK_eq, FlK_eq, RcK_eq, LoK_eq] at *
  exact Cw0.w_clr
theorem w_frz {m : M O} {Q : D → Fr → Prop} : WX (frzM m) f Q E = WX m f (fun o f' => OptK (frzO o) fun d => Q d f') E := by
  simp only [WX_eq, OptK_eq, RdK_eq, ChkK_eq, ValK_eq, LstK_eq, BlK_eq, InK_eq, FlK_eq, RcK_eq, LoK_eq] at *
  exact Cw0.w_frz
theorem w_var {i : Nat} {Q : D → Fr → Prop} : WX (ev P Φ (.var i)) f Q E = RdK f[i]? i f Q := by
  simp only [WX_eq, RdK_eq]
  exact Cw0.w_var (P := P) (Φ := Φ)
theorem w_non {Q : D → Fr → Prop} : WX (ev P Φ .non) f Q E = Q .non f := by
  simp only [WX_eq, OptK_eq, RdK_eq, ChkK_eq, ValK_eq, LstK_eq, BlK_eq, InK_eq, FlK_eq, RcK_eq, LoK_eq] at *
  exact Cw0.w_non
theorem w_bl {b : Bool} {Q : D → Fr → Prop} : WX (ev P Φ (.bl b)) f Q E = Q (.bl b) f := by
  simp only [WX_eq, OptK_eq, RdK_eq, ChkK_eq, ValK_eq, LstK_eq, BlK_eq, InK_eq, FlK_eq, RcK_eq, LoK_eq] at *
  exact Cw0.w_bl
theorem w_int {b : Int} {Q : D → Fr → Prop} : WX (ev P Φ (.int b)) f Q E = Q (.int b) f := by
  simp only [WX_eq, OptK_eq, RdK_eq, ChkK_eq, ValK_eq, LstK_eq, BlK_eq, InK_eq, FlK_eq, RcK_eq, LoK_eq] at *
  exact Cw0.w_int
theorem w_str {b : Str} {Q : D → Fr → Prop} : WX (ev P Φ (.str b)) f Q E = Q (.str b) f := by
  simp only [WX_eq, OptK_eq, RdK_eq, ChkK_eq, ValK_eq, LstK_eq, BlK_eq, InK_eq, FlK_eq, RcK_eq, LoK_eq] at *
  exact Cw0.w_str
theorem w_gint {x : Str} {b : Int} {Q : D → Fr → Prop} : WX (ev P Φ (.gint x b)) f Q E = Q (.int b) f := by
  simp only [WX_eq, OptK_eq, RdK_eq, ChkK_eq, ValK_eq, LstK_eq, BlK_eq, InK_eq, FlK_eq, RcK_eq, LoK_eq] at *
  exact Cw0.w_gint
theorem w_bin {o : BOp} {a b : Cr.E} {Q : D → Fr → Prop} : WX (ev P Φ (.bin o a b)) f Q E = WX (ev P Φ a) f (fun x f1 => WX (ev P Φ b) f1 (fun y f2 => OptK (binD o x y) fun z => Q z f2) E) E := by
  simp only [WX_eq, OptK_eq, RdK_eq, ChkK_eq, ValK_eq, LstK_eq, BlK_eq, InK_eq, FlK_eq, RcK_eq, LoK_eq] at *
  exact Cw0.w_bin
theorem w_neg {a : Cr.E} {Q : D → Fr → Prop} : WX (ev P Φ (.neg a)) f Q E = WX (ev P Φ a) f (fun x f1 => InK x fun i => Q (.int (-i)) f1) E := by
  simp only [WX_eq, OptK_eq, RdK_eq, ChkK_eq, ValK_eq, LstK_eq, BlK_eq, InK_eq, FlK_eq, RcK_eq, LoK_eq] at *
  exact Cw0.w_neg
theorem w_inv {a : Cr.E} {Q : D → Fr → Prop} : WX (ev P Φ (.inv a)) f Q E = WX (ev P Φ a) f (fun x f1 => InK x fun i => Q (.int (-i - 1)) f1) E := by
  simp only [WX_eq, OptK_eq, RdK_eq, ChkK_eq, ValK_eq, LstK_eq, BlK_eq, InK_eq, FlK_eq, RcK_eq, LoK_eq] at *
  exact Cw0.w_inv
theorem w_not {a : Cr.E} {Q : D → Fr → Prop} : WX (ev P Φ (.not a)) f Q E = WX (ev P Φ a) f (fun x f1 => BlK x fun i => Q (.bl (!i)) f1) E := by
  simp only [WX_eq, OptK_eq, RdK_eq, ChkK_eq, ValK_eq, LstK_eq, BlK_eq, InK_eq, FlK_eq, RcK_eq, LoK_eq] at *
  exact Cw0.w_not
theorem w_cmp {o : COp} {a b : Cr.E} {Q : D → Fr → Prop} : WX (ev P Φ (.cmp o a b)) f Q E = WX (ev P Φ a) f (fun x f1 => WX (ev P Φ b) f1 (fun y f2 => OptK (cmpD o x y) fun z => Q (.bl z) f2) E) E := by
  simp only [WX_eq, OptK_eq, RdK_eq, ChkK_eq, ValK_eq, LstK_eq, BlK_eq, InK_eq, FlK_eq, RcK_eq, LoK_eq] at *
  exact Cw0.w_cmp
theorem w_chn {o o' : COp} {a b c : Cr.E} {Q : D → Fr → Prop} : WX (ev P Φ (.chn o o' a b c)) f Q E = WX (ev P Φ a) f (fun x f1 => WX (ev P Φ b) f1 (fun y f2 => OptK (cmpD o x y) fun r =>
    if r = true then WX (ev P Φ c) f2 (fun z f3 => OptK (cmpD o' y z) fun r => Q (.bl r) f3) E else Q (.bl false) f2) E) E := by
  simp only [WX_eq, OptK_eq, RdK_eq, ChkK_eq, ValK_eq, LstK_eq, BlK_eq, InK_eq, FlK_eq, RcK_eq, LoK_eq] at *
  exact Cw0.w_chn
theorem w_isN {n : Bool} {a : Cr.E} {Q : D → Fr → Prop} : WX (ev P Φ (.isN n a)) f Q E = WX (ev P Φ a) f (fun x f1 => Q (.bl (isNonD x != n)) f1) E := by
  simp only [WX_eq, OptK_eq, RdK_eq, ChkK_eq, ValK_eq, LstK_eq, BlK_eq, InK_eq, FlK_eq, RcK_eq, LoK_eq] at *
  exact Cw0.w_isN
theorem w_mem {n : Bool} {a b : Cr.E} {Q : D → Fr → Prop} : WX (ev P Φ (.mem n a b)) f Q E = WX (ev P Φ a) f (fun x f1 => WX (ev P Φ b) f1 (fun y f2 => OptK (memD x y) fun z => Q (.bl (z != n)) f2) E) E := by
  simp only [WX_eq, OptK_eq, RdK_eq, ChkK_eq, ValK_eq, LstK_eq, BlK_eq, InK_eq, FlK_eq, RcK_eq, LoK_eq] at *
  exact Cw0.w_mem
theorem w_andE {a b : Cr.E} {Q : D → Fr → Prop} : WX (ev P Φ (.and a b)) f Q E = WX (ev P Φ a) f (fun x f1 => BlK x fun r => if r = true then WX (ev P Φ b) f1 Q E else Q (.bl false) f1) E := by
  simp only [WX_eq, OptK_eq, RdK_eq, ChkK_eq, ValK_eq, LstK_eq, BlK_eq, InK_eq, FlK_eq, RcK_eq, LoK_eq] at *
  exact Cw0.w_andE
theorem w_orE {a b : Cr.E} {Q : D → Fr → Prop} : WX (ev P Φ (.or a b)) f Q E = WX (ev P Φ a) f (fun x f1 => BlK x fun r => if r = true then Q (.bl true) f1 else WX (ev P Φ b) f1 Q E) E := by
  simp only [WX_eq, OptK_eq, RdK_eq, ChkK_eq, ValK_eq, LstK_eq, BlK_eq, InK_eq, FlK_eq, RcK_eq, LoK_eq] at *
  exact Cw0.w_orE
theorem w_ife {c a b : Cr.E} {Q : D → Fr → Prop} : WX (ev P Φ (.ite c a b)) f Q E = WX (ev P Φ c) f (fun x f1 => BlK x fun r => if r = true then WX (ev P Φ a) f1 Q E else WX (ev P Φ b) f1 Q E) E := by
  simp only [WX_eq, OptK_eq, RdK_eq, ChkK_eq, ValK_eq, LstK_eq, BlK_eq, InK_eq, FlK_eq, RcK_eq, LoK_eq] at *
  exact Cw0.w_ife
theorem w_tup {es : Es} {Q : D → Fr → Prop} : WX (ev P Φ (.tup es)) f Q E = WX (evs P Φ es) f (fun xs f1 => Q (.tup xs) f1) E := by
  simp only [WX_eq, OptK_eq, RdK_eq, ChkK_eq, ValK_eq, LstK_eq, BlK_eq, InK_eq, FlK_eq, RcK_eq, LoK_eq] at *
  exact Cw0.w_tup
theorem w_lst {es : Es} {Q : D → Fr → Prop} : WX (ev P Φ (.lst es)) f Q E = WX (evs P Φ es) f (fun xs f1 => Q (.lst xs) f1) E := by
  simp only [WX_eq, OptK_eq, RdK_eq, ChkK_eq, ValK_eq, LstK_eq, BlK_eq, InK_eq, FlK_eq, RcK_eq, LoK_eq] at *
  exact Cw0.w_lst
theorem w_idx {a b : Cr.E} {Q : D → Fr → Prop} : WX (ev P Φ (.idx a b)) f Q E = WX (ev P Φ a) f (fun x f1 => WX (ev P Φ b) f1 (fun y f2 => OptK (idxD x y) fun z => Q z f2) E) E := by
  simp only [WX_eq, OptK_eq, RdK_eq, ChkK_eq, ValK_eq, LstK_eq, BlK_eq, InK_eq, FlK_eq, RcK_eq, LoK_eq] at *
  exact Cw0.w_idx
theorem w_eoN {Q : Option Int → Fr → Prop} : WX (evo P Φ .none) f Q E = Q none f := by
  simp only [WX_eq, OptK_eq, RdK_eq, ChkK_eq, ValK_eq, LstK_eq, BlK_eq, InK_eq, FlK_eq, RcK_eq, LoK_eq] at *
  exact Cw0.w_eoN
theorem w_eoS {e : Cr.E} {Q : Option Int → Fr → Prop} : WX (evo P Φ (.some e)) f Q E = WX (ev P Φ e) f (fun x f1 => InK x fun i => Q (some i) f1) E := by
  simp only [WX_eq, OptK_eq, RdK_eq, ChkK_eq, ValK_eq, LstK_eq, BlK_eq, InK_eq, FlK_eq, RcK_eq, LoK_eq] at *
  exact Cw0.w_eoS
theorem w_slc {a : Cr.E} {lo hi : Eo} {Q : D → Fr → Prop} : WX (ev P Φ (.slc a lo hi)) f Q E = WX (ev P Φ a) f (fun x f1 => WX (evo P Φ lo) f1 (fun l f2 => WX (evo P Φ hi) f2 (fun h f3 => OptK (slcD x l h) fun z => Q z f3) E) E) E := by
  simp only [WX_eq, OptK_eq, RdK_eq, ChkK_eq, ValK_eq, LstK_eq, BlK_eq, InK_eq, FlK_eq, RcK_eq, LoK_eq] at *
  exact Cw0.w_slc
theorem w_lrng1 {t : Bool} {a : Cr.E} {Q : D → Fr → Prop} : WX (ev P Φ (.lrng1 t a)) f Q E = WX (ev P Φ a) f (fun x f1 => InK x fun n => OptK (lrD t 0 n) fun z => Q z f1) E := by
  simp only [WX_eq, OptK_eq, RdK_eq, ChkK_eq, ValK_eq, LstK_eq, BlK_eq, InK_eq, FlK_eq, RcK_eq, LoK_eq] at *
  exact Cw0.w_lrng1
theorem w_fld {a : Cr.E} {x : Str} {Q : D → Fr → Prop} : WX (ev P Φ (.fld a x)) f Q E = WX (ev P Φ a) f (fun d f1 => OptK (fldD P d x) fun z => Q z f1) E := by
  simp only [WX_eq, OptK_eq, RdK_eq, ChkK_eq, ValK_eq, LstK_eq, BlK_eq, InK_eq, FlK_eq, RcK_eq, LoK_eq] at *
  exact Cw0.w_fld
theorem w_pl {i : Nat} {p : Ps} {Q : D → Fr → Prop} : WX (ev P Φ (.pl i p)) f Q E = WX (evP P Φ i p) f (fun st f1 => OptK f1[i]? fun o => ValK (getO P o st) fun d => Q d f1) E := by
  simp only [WX_eq, OptK_eq, RdK_eq, ChkK_eq, ValK_eq, LstK_eq, BlK_eq, InK_eq, FlK_eq, RcK_eq, LoK_eq] at *
  exact Cw0.w_pl
theorem w_call {g : Nat} {as : As} {Q : D → Fr → Prop} : WX (ev P Φ (.call g as)) f Q E = WX (evAs P Φ as) f (fun vs f1 => WX (callF Φ g vs) f1 (fun o f2 => OptK (frzO o) fun d => Q d f2) E) E := by
  simp only [WX_eq, OptK_eq, RdK_eq, ChkK_eq, ValK_eq, LstK_eq, BlK_eq, InK_eq, FlK_eq, RcK_eq, LoK_eq] at *
  exact Cw0.w_call
theorem w_new {c : Nat} {as : As} {Q : D → Fr → Prop} : WX (ev P Φ (.new c as)) f Q E = WX (evAs P Φ as) f (fun vs f1 => WX (newF P Φ c vs) f1 (fun o f2 => OptK (frzO o) fun d => Q d f2) E) E := by
  simp only [WX_eq, OptK_eq, RdK_eq, ChkK_eq, ValK_eq, LstK_eq, BlK_eq, InK_eq, FlK_eq, RcK_eq, LoK_eq] at *
  exact Cw0.w_new
theorem w_bi {b : Bi} {es : Es} {Q : D → Fr → Prop} : WX (ev P Φ (.bi b es)) f Q E = WX (evs P Φ es) f (fun xs f1 => OptK (biD b xs) fun z => Q z f1) E := by
  simp only [WX_eq, OptK_eq, RdK_eq, ChkK_eq, ValK_eq, LstK_eq, BlK_eq, InK_eq, FlK_eq, RcK_eq, LoK_eq] at *
  exact Cw0.w_bi
theorem w_biP {b : Bi} {i : Nat} {p : Ps} {Q : D → Fr → Prop} : WX (ev P Φ (.biP b i p .nil)) f Q E = WX (evP P Φ i p) f (fun st f1 => OptK f1[i]? fun o => OptK (getO P o st) fun o => OptK (topD o) fun x => OptK (biD b [x]) fun z => Q z f1) E := by
  simp only [WX_eq, OptK_eq, RdK_eq, ChkK_eq, ValK_eq, LstK_eq, BlK_eq, InK_eq, FlK_eq, RcK_eq, LoK_eq] at *
  exact Cw0.w_biP
theorem w_isi {a : Cr.E} {t : Ty} {Q : D → Fr → Prop} : WX (ev P Φ (.isi a t)) f Q E = WX (ev P Φ a) f (fun x f1 => OptK (isTy x t) fun z => Q (.bl z) f1) E := by
  simp only [WX_eq, OptK_eq, RdK_eq, ChkK_eq, ValK_eq, LstK_eq, BlK_eq, InK_eq, FlK_eq, RcK_eq, LoK_eq] at *
  exact Cw0.w_isi
theorem w_lc {elt : Cr.E} {tg : Tg} {it : It} {ts : Eo} {own : List Nat} {Q : D → Fr → Prop} : WX (ev P Φ (.lc elt tg it ts own)) f Q E =
    WX (evI P Φ it) f (fun xs f1 => WX (block own (lcLoop (fun d => M.bnd (clrM own) fun _ => M.bnd (setM tg d) fun _ => M.bnd (evt P Φ ts) fun k => if k then M.bnd (ev P Φ elt) fun e => M.ret [e] else M.ret []) xs)) f1 (fun ys f2 => if ys.length ≤ 100000 then Q (.lst ys) f2 else False) E) E := by
  simp only [WX_eq, OptK_eq, RdK_eq, ChkK_eq, ValK_eq, LstK_eq, BlK_eq, InK_eq, FlK_eq, RcK_eq, LoK_eq] at *
  exact Cw0.w_lc
theorem w_dc {tk : Bool} {k v : Cr.E} {tg : Tg} {it : It} {ts : Eo} {own : List Nat} {Q : D → Fr → Prop} : WX (ev P Φ (.dc tk k v tg it ts own)) f Q E =
    WX (evI P Φ it) f (fun xs f1 => WX (block own (lcLoop (fun d => M.bnd (clrM own) fun _ => M.bnd (setM tg d) fun _ => M.bnd (evt P Φ ts) fun t => if t then M.bnd (ev P Φ k) fun x => M.bnd (ev P Φ v) fun y => M.ret [(x, y)] else M.ret []) xs)) f1 (fun ys f2 => OptK (dcFin tk ys) fun d => Q d f2) E) E := by
  simp only [WX_eq, OptK_eq, RdK_eq, ChkK_eq, ValK_eq, LstK_eq, BlK_eq, InK_eq, FlK_eq, RcK_eq, LoK_eq] at *
  exact Cw0.w_dc
theorem w_esN {Q : List D → Fr → Prop} : WX (evs P Φ .nil) f Q E = Q [] f := by
  simp only [WX_eq, OptK_eq, RdK_eq, ChkK_eq, ValK_eq, LstK_eq, BlK_eq, InK_eq, FlK_eq, RcK_eq, LoK_eq] at *
  exact Cw0.w_esN
theorem w_esC {e : Cr.E} {r : Es} {Q : List D → Fr → Prop} : WX (evs P Φ (.cons e r)) f Q E = WX (ev P Φ e) f (fun x f1 => WX (evs P Φ r) f1 (fun xs f2 => Q (x :: xs) f2) E) E := by
  simp only [WX_eq, OptK_eq, RdK_eq, ChkK_eq, ValK_eq, LstK_eq, BlK_eq, InK_eq, FlK_eq, RcK_eq, LoK_eq] at *
  exact Cw0.w_esC
theorem w_etN {Q : Bool → Fr → Prop} : WX (evt P Φ .none) f Q E = Q true f := by
  simp only [WX_eq, OptK_eq, RdK_eq, ChkK_eq, ValK_eq, LstK_eq, BlK_eq, InK_eq, FlK_eq, RcK_eq, LoK_eq] at *
  exact Cw0.w_etN
theorem w_etS {e : Cr.E} {Q : Bool → Fr → Prop} : WX (evt P Φ (.some e)) f Q E = WX (ev P Φ e) f (fun x f1 => BlK x fun b => Q b f1) E := by
  simp only [WX_eq, OptK_eq, RdK_eq, ChkK_eq, ValK_eq, LstK_eq, BlK_eq, InK_eq, FlK_eq, RcK_eq, LoK_eq] at *
  exact Cw0.w_etS
theorem w_arE {e : Cr.E} {Q : AV → Fr → Prop} : WX (evAr P Φ (.e e)) f Q E = WX (ev P Φ e) f (fun x f1 => Q (.d x) f1) E := by
  simp only [WX_eq, OptK_eq, RdK_eq, ChkK_eq, ValK_eq, LstK_eq, BlK_eq, InK_eq, FlK_eq, RcK_eq, LoK_eq] at *
  exact Cw0.w_arE
theorem w_arI {i : Nat} {Q : AV → Fr → Prop} : WX (evAr P Φ (.io i)) f Q E = ChkK f[i]? (Q (.io i) f) := by
  simp only [WX_eq, OptK_eq, RdK_eq, ChkK_eq, ValK_eq, LstK_eq, BlK_eq, InK_eq, FlK_eq, RcK_eq, LoK_eq] at *
  exact Cw0.w_arI
theorem w_asN {Q : List AV → Fr → Prop} : WX (evAs P Φ .nil) f Q E = Q [] f := by
  simp only [WX_eq, OptK_eq, RdK_eq, ChkK_eq, ValK_eq, LstK_eq, BlK_eq, InK_eq, FlK_eq, RcK_eq, LoK_eq] at *
  exact Cw0.w_asN
theorem w_asC {a : Ar} {r : As} {Q : List AV → Fr → Prop} : WX (evAs P Φ (.cons a r)) f Q E = WX (evAr P Φ a) f (fun x f1 => WX (evAs P Φ r) f1 (fun xs f2 => Q (x :: xs) f2) E) E := by
  simp only [WX_eq, OptK_eq, RdK_eq, ChkK_eq, ValK_eq, LstK_eq, BlK_eq, InK_eq, FlK_eq, RcK_eq, LoK_eq] at *
  exact Cw0.w_asC
theorem w_iE {a : Cr.E} {Q : List D → Fr → Prop} : WX (evI P Φ (.e a)) f Q E = WX (ev P Φ a) f (fun x f1 => OptK (seqItems x) fun xs => Q xs f1) E := by
  simp only [WX_eq, OptK_eq, RdK_eq, ChkK_eq, ValK_eq, LstK_eq, BlK_eq, InK_eq, FlK_eq, RcK_eq, LoK_eq] at *
  exact Cw0.w_iE
theorem w_iR1 {a : Cr.E} {Q : List D → Fr → Prop} : WX (evI P Φ (.rng1 a)) f Q E = WX (ev P Φ a) f (fun x f1 => InK x fun n => OptK (rangeO 0 n) fun xs => Q xs f1) E := by
  simp only [WX_eq, OptK_eq, RdK_eq, ChkK_eq, ValK_eq, LstK_eq, BlK_eq, InK_eq, FlK_eq, RcK_eq, LoK_eq] at *
  exact Cw0.w_iR1
theorem w_iR2 {a b : Cr.E} {Q : List D → Fr → Prop} : WX (evI P Φ (.rng2 a b)) f Q E = WX (ev P Φ a) f (fun x f1 => WX (ev P Φ b) f1 (fun y f2 => InK x fun i => InK y fun j => OptK (rangeO i j) fun xs => Q xs f2) E) E := by
  simp only [WX_eq, OptK_eq, RdK_eq, ChkK_eq, ValK_eq, LstK_eq, BlK_eq, InK_eq, FlK_eq, RcK_eq, LoK_eq] at *
  exact Cw0.w_iR2
theorem w_pN {i : Nat} {Q : List Stp → Fr → Prop} : WX (evP P Φ i .nil) f Q E = ChkK f[i]? (Q [] f) := by
  simp only [WX_eq, OptK_eq, RdK_eq, ChkK_eq, ValK_eq, LstK_eq, BlK_eq, InK_eq, FlK_eq, RcK_eq, LoK_eq] at *
  exact Cw0.w_pN
theorem w_pX {i : Nat} {e : Cr.E} {Q : List Stp → Fr → Prop} : WX (evP P Φ i (.ix .nil e)) f Q E = ChkK f[i]? (WX (ev P Φ e) f (fun x f1 => Q [.ix x] f1) E) := by
  simp only [WX_eq, OptK_eq, RdK_eq, ChkK_eq, ValK_eq, LstK_eq, BlK_eq, InK_eq, FlK_eq, RcK_eq, LoK_eq] at *
  exact Cw0.w_pX
theorem w_pXX {i : Nat} {p : Ps} {e e' : Cr.E} {Q : List Stp → Fr → Prop} : WX (evP P Φ i (.ix (.ix p e') e)) f Q E = WX (evP P Φ i (.ix p e')) f (fun st f1 => OptK (evQ P e f1) fun x => Q (st ++ [.ix x]) f1) E := by
  simp only [WX_eq, OptK_eq, RdK_eq, ChkK_eq, ValK_eq, LstK_eq, BlK_eq, InK_eq, FlK_eq, RcK_eq, LoK_eq] at *
  exact Cw0.w_pXX
theorem w_pFX {i : Nat} {p : Ps} {x : Str} {e : Cr.E} {Q : List Stp → Fr → Prop} : WX (evP P Φ i (.ix (.fd p x) e)) f Q E = WX (evP P Φ i (.fd p x)) f (fun st f1 => OptK (evQ P e f1) fun x => Q (st ++ [.ix x]) f1) E := by
  simp only [WX_eq, OptK_eq, RdK_eq, ChkK_eq, ValK_eq, LstK_eq, BlK_eq, InK_eq, FlK_eq, RcK_eq, LoK_eq] at *
  exact Cw0.w_pFX
theorem w_pF {i : Nat} {p : Ps} {x : Str} {Q : List Stp → Fr → Prop} : WX (evP P Φ i (.fd p x)) f Q E = WX (evP P Φ i p) f (fun st f1 => Q (st ++ [.fd x]) f1) E := by
  simp only [WX_eq, OptK_eq, RdK_eq, ChkK_eq, ValK_eq, LstK_eq, BlK_eq, InK_eq, FlK_eq, RcK_eq, LoK_eq] at *
  exact Cw0.w_pF
theorem w_callF {g : Nat} {vs : List AV} {Q : O → Fr → Prop} : WX (callF Φ g vs) f Q E = OptK (takeArgs vs f) fun t => RcK (Φ g t.1) (fun o outs => OptK (putBack t.2.1 outs t.2.2) fun f2 => Q o f2) fun c fs outs => OptK (putBack t.2.1 outs t.2.2) fun f2 => E c fs f2 := by
  simp only [WX_eq, OptK_eq, RdK_eq, ChkK_eq, ValK_eq, LstK_eq, BlK_eq, InK_eq, FlK_eq, RcK_eq, LoK_eq] at *
  exact Cw0.w_callF
theorem w_oe {e : Cr.E} {Q : O → Fr → Prop} : WX (evO P Φ (.e e)) f Q E = WX (ev P Φ e) f (fun d f1 => Q (.fz d) f1) E := by
  simp only [WX_eq, OptK_eq, RdK_eq, ChkK_eq, ValK_eq, LstK_eq, BlK_eq, InK_eq, FlK_eq, RcK_eq, LoK_eq] at *
  exact Cw0.w_oe
theorem w_ol {es : OEs} {Q : O → Fr → Prop} : WX (evO P Φ (.lst es)) f Q E = WX (evOs P Φ es) f (fun os f1 => Q (.lst os) f1) E := by
  simp only [WX_eq, OptK_eq, RdK_eq, ChkK_eq, ValK_eq, LstK_eq, BlK_eq, InK_eq, FlK_eq, RcK_eq, LoK_eq] at *
  exact Cw0.w_ol
theorem w_ocall {g : Nat} {as : As} {Q : O → Fr → Prop} : WX (evO P Φ (.call g as)) f Q E = WX (evAs P Φ as) f (fun vs f1 => WX (callF Φ g vs) f1 Q E) E := by
  simp only [WX_eq, OptK_eq, RdK_eq, ChkK_eq, ValK_eq, LstK_eq, BlK_eq, InK_eq, FlK_eq, RcK_eq, LoK_eq] at *
  exact Cw0.w_ocall
theorem w_onew {g : Nat} {as : As} {Q : O → Fr → Prop} : WX (evO P Φ (.new g as)) f Q E = WX (evAs P Φ as) f (fun vs f1 => WX (newF P Φ g vs) f1 Q E) E := by
  simp only [WX_eq, OptK_eq, RdK_eq, ChkK_eq, ValK_eq, LstK_eq, BlK_eq, InK_eq, FlK_eq, RcK_eq, LoK_eq] at *
  exact Cw0.w_onew
theorem w_osN {Q : List O → Fr → Prop} : WX (evOs P Φ .nil) f Q E = Q [] f := by
  simp only [WX_eq, OptK_eq, RdK_eq, ChkK_eq, ValK_eq, LstK_eq, BlK_eq, InK_eq, FlK_eq, RcK_eq, LoK_eq] at *
  exact Cw0.w_osN
theorem w_osC {o : OE} {r : OEs} {Q : List O → Fr → Prop} : WX (evOs P Φ (.cons o r)) f Q E = WX (evO P Φ o) f (fun x f1 => WX (evOs P Φ r) f1 (fun xs f2 => Q (x :: xs) f2) E) E := by
  simp only [WX_eq, OptK_eq, RdK_eq, ChkK_eq, ValK_eq, LstK_eq, BlK_eq, InK_eq, FlK_eq, RcK_eq, LoK_eq] at *
  exact Cw0.w_osC
theorem w_ssN {Q : Fl → Fr → Prop} : WX (exs P Φ .nil) f Q E = Q .nx f := by
  simp only [WX_eq, OptK_eq, RdK_eq, ChkK_eq, ValK_eq, LstK_eq, BlK_eq, InK_eq, FlK_eq, RcK_eq, LoK_eq] at *
  exact Cw0.w_ssN
theorem w_ssC {s : S} {r : Ss} {Q : Fl → Fr → Prop} : WX (exs P Φ (.cons s r)) f Q E = WX (exS P Φ s) f (fun fl f1 => FlK fl (WX (exs P Φ r) f1 Q E) (Q fl f1)) E := by
  simp only [WX_eq, OptK_eq, RdK_eq, ChkK_eq, ValK_eq, LstK_eq, BlK_eq, InK_eq, FlK_eq, RcK_eq, LoK_eq] at *
  exact Cw0.w_ssC
theorem w_asg {t : Tg} {e : Cr.E} {Q : Fl → Fr → Prop} : WX (exS P Φ (.asg t e)) f Q E = WX (ev P Φ e) f (fun d f1 => OptK (setT t d f1) fun f2 => Q .nx f2) E := by
  simp only [WX_eq, OptK_eq, RdK_eq, ChkK_eq, ValK_eq, LstK_eq, BlK_eq, InK_eq, FlK_eq, RcK_eq, LoK_eq] at *
  exact Cw0.w_asg
theorem w_asgL {i : Nat} {e : Cr.E} {Q : Fl → Fr → Prop} : WX (exS P Φ (.asgL i e)) f Q E = WX (ev P Φ e) f (fun d f1 => OptK (setT (.nm i) d f1) fun f2 => Q .nx f2) E := by
  simp only [WX_eq, OptK_eq, RdK_eq, ChkK_eq, ValK_eq, LstK_eq, BlK_eq, InK_eq, FlK_eq, RcK_eq, LoK_eq] at *
  exact Cw0.w_asgL
theorem w_asgO {i : Nat} {o : OE} {Q : Fl → Fr → Prop} : WX (exS P Φ (.asgO i o)) f Q E = WX (evO P Φ o) f (fun x f1 => if i < f1.length then Q .nx (f1.set i x) else False) E := by
  simp only [WX_eq, OptK_eq, RdK_eq, ChkK_eq, ValK_eq, LstK_eq, BlK_eq, InK_eq, FlK_eq, RcK_eq, LoK_eq] at *
  exact Cw0.w_asgO
theorem w_app {i : Nat} {o : OE} {Q : Fl → Fr → Prop} : WX (exS P Φ (.mu i .nil (.app o))) f Q E = LstK f[i]? (WX (evO P Φ o) f (fun v f1 => OptK f1[i]? fun x => OptK (appO v x) fun x' => Q .nx (f1.set i x')) E) := by
  simp only [WX_eq, OptK_eq, RdK_eq, ChkK_eq, ValK_eq, LstK_eq, BlK_eq, InK_eq, FlK_eq, RcK_eq, LoK_eq] at *
  exact Cw0.w_app
theorem w_set {i : Nat} {k : Cr.E} {o : OE} {Q : Fl → Fr → Prop} : WX (exS P Φ (.mu i .nil (.set k o))) f Q E = WX (evO P Φ o) f (fun v f1 => ChkK f1[i]? (WX (ev P Φ k) f1 (fun x f2 => OptK f2[i]? fun y => OptK (setKL x v y) fun y' => Q .nx (f2.set i y')) E)) E := by
  simp only [WX_eq, OptK_eq, RdK_eq, ChkK_eq, ValK_eq, LstK_eq, BlK_eq, InK_eq, FlK_eq, RcK_eq, LoK_eq] at *
  exact Cw0.w_set
theorem w_fset {i : Nat} {g : Str} {o : OE} {Q : Fl → Fr → Prop} : WX (exS P Φ (.mu i .nil (.fset g o))) f Q E = WX (evO P Φ o) f (fun v f1 => ChkK f1[i]? (OptK f1[i]? fun y => OptK (fsetO P g v y) fun y' => Q .nx (f1.set i y'))) E := by
  simp only [WX_eq, OptK_eq, RdK_eq, ChkK_eq, ValK_eq, LstK_eq, BlK_eq, InK_eq, FlK_eq, RcK_eq, LoK_eq] at *
  exact Cw0.w_fset
theorem w_aug {i : Nat} {o : BOp} {e : Cr.E} {Q : Fl → Fr → Prop} : WX (exS P Φ (.aug i o e)) f Q E = RdK f[i]? i f fun x f1 => WX (ev P Φ e) f1 (fun y f2 => OptK (augD o x y) fun z => if i < f2.length then Q .nx (f2.set i (.fz z)) else False) E := by
  simp only [WX_eq, OptK_eq, RdK_eq, ChkK_eq, ValK_eq, LstK_eq, BlK_eq, InK_eq, FlK_eq, RcK_eq, LoK_eq] at *
  exact Cw0.w_aug
theorem w_ex {e : Cr.E} {Q : Fl → Fr → Prop} : WX (exS P Φ (.ex e)) f Q E = WX (ev P Φ e) f (fun _ f1 => Q .nx f1) E := by
  simp only [WX_eq, OptK_eq, RdK_eq, ChkK_eq, ValK_eq, LstK_eq, BlK_eq, InK_eq, FlK_eq, RcK_eq, LoK_eq] at *
  exact Cw0.w_ex
theorem w_retE {e : Cr.E} {Q : Fl → Fr → Prop} : WX (exS P Φ (.ret e)) f Q E = WX (ev P Φ e) f (fun d f1 => Q (.rt (.fz d)) f1) E := by
  simp only [WX_eq, OptK_eq, RdK_eq, ChkK_eq, ValK_eq, LstK_eq, BlK_eq, InK_eq, FlK_eq, RcK_eq, LoK_eq] at *
  exact Cw0.w_retE
theorem w_retN {Q : Fl → Fr → Prop} : WX (exS P Φ .retN) f Q E = Q (.rt (.fz .non)) f := by
  simp only [WX_eq, OptK_eq, RdK_eq, ChkK_eq, ValK_eq, LstK_eq, BlK_eq, InK_eq, FlK_eq, RcK_eq, LoK_eq] at *
  exact Cw0.w_retN
theorem w_retO {o : OE} {Q : Fl → Fr → Prop} : WX (exS P Φ (.retO o)) f Q E = WX (evO P Φ o) f (fun x f1 => Q (.rt x) f1) E := by
  simp only [WX_eq, OptK_eq, RdK_eq, ChkK_eq, ValK_eq, LstK_eq, BlK_eq, InK_eq, FlK_eq, RcK_eq, LoK_eq] at *
  exact Cw0.w_retO
theorem w_if {c : Cr.E} {a b : Ss} {Q : Fl → Fr → Prop} : WX (exS P Φ (.ite c a b)) f Q E = WX (ev P Φ c) f (fun x f1 => BlK x fun r => if r = true then WX (exs P Φ a) f1 Q E else WX (exs P Φ b) f1 Q E) E := by
  simp only [WX_eq, OptK_eq, RdK_eq, ChkK_eq, ValK_eq, LstK_eq, BlK_eq, InK_eq, FlK_eq, RcK_eq, LoK_eq] at *
  exact Cw0.w_if
theorem w_for {t : Tg} {it : It} {b : Ss} {Q : Fl → Fr → Prop} : WX (exS P Φ (.for t it b)) f Q E = WX (evI P Φ it) f (fun xs f1 => WX (forL t (exs P Φ b) xs) f1 Q E) E := by
  simp only [WX_eq, OptK_eq, RdK_eq, ChkK_eq, ValK_eq, LstK_eq, BlK_eq, InK_eq, FlK_eq, RcK_eq, LoK_eq] at *
  exact Cw0.w_for
theorem w_rse {c : Nat} {es : Es} {Q : Fl → Fr → Prop} : WX (exS P Φ (.rse c es)) f Q E = WX (evs P Φ es) f (fun fs f1 => E c fs f1) E := by
  simp only [WX_eq, OptK_eq, RdK_eq, ChkK_eq, ValK_eq, LstK_eq, BlK_eq, InK_eq, FlK_eq, RcK_eq, LoK_eq] at *
  exact Cw0.w_rse
theorem w_try {b : Ss} {cs : List Nat} {i : Nat} {h : Hs} {Q : Fl → Fr → Prop} : WX (exS P Φ (.try b cs (some i) h)) f Q E = WX (exs P Φ b) f Q fun c fs f1 => if c < P.excs.length then (if cs.contains c = true then (if i < f1.length then WX (runHs c fs h) (f1.set i .un) Q E else False) else E c fs f1) else False := by
  simp only [WX_eq, OptK_eq, RdK_eq, ChkK_eq, ValK_eq, LstK_eq, BlK_eq, InK_eq, FlK_eq, RcK_eq, LoK_eq] at *
  exact Cw0.w_try
theorem w_brk {Q : Fl → Fr → Prop} : WX (exS P Φ .brk) f Q E = Q .bk f := by
  simp only [WX_eq, OptK_eq, RdK_eq, ChkK_eq, ValK_eq, LstK_eq, BlK_eq, InK_eq, FlK_eq, RcK_eq, LoK_eq] at *
  exact Cw0.w_brk
theorem w_cont {Q : Fl → Fr → Prop} : WX (exS P Φ .cont) f Q E = Q .ct f := by
  simp only [WX_eq, OptK_eq, RdK_eq, ChkK_eq, ValK_eq, LstK_eq, BlK_eq, InK_eq, FlK_eq, RcK_eq, LoK_eq] at *
  exact Cw0.w_cont
theorem w_pass {Q : Fl → Fr → Prop} : WX (exS P Φ .pass) f Q E = Q .nx f := by
  simp only [WX_eq, OptK_eq, RdK_eq, ChkK_eq, ValK_eq, LstK_eq, BlK_eq, InK_eq, FlK_eq, RcK_eq, LoK_eq] at *
  exact Cw0.w_pass
theorem w_hret {c : Nat} {fs : List D} {e : HE} {Q : Fl → Fr → Prop} : WX (runHs c fs (.ret e)) f Q E = OptK (evHE c fs e) fun d => Q (.rt (.fz d)) f := by
  simp only [WX_eq, OptK_eq, RdK_eq, ChkK_eq, ValK_eq, LstK_eq, BlK_eq, InK_eq, FlK_eq, RcK_eq, LoK_eq] at *
  exact Cw0.w_hret
theorem w_hunl {c : Nat} {fs : List D} {e r : HE} {Q : Fl → Fr → Prop} : WX (runHs c fs (.unless e r)) f Q E = OptK (evHE c fs e) fun d => BlK d fun b => if b = true then Q .nx f else OptK (evHE c fs r) fun d => Q (.rt (.fz d)) f := by
  simp only [WX_eq, OptK_eq, RdK_eq, ChkK_eq, ValK_eq, LstK_eq, BlK_eq, InK_eq, FlK_eq, RcK_eq, LoK_eq] at *
  exact Cw0.w_hunl
theorem w_fN {t : Tg} {b : M Fl} {Q : Fl → Fr → Prop} : WX (forL t b []) f Q E = Q .nx f := by
  simp only [WX_eq, OptK_eq, RdK_eq, ChkK_eq, ValK_eq, LstK_eq, BlK_eq, InK_eq, FlK_eq, RcK_eq, LoK_eq] at *
  exact Cw0.w_fN
theorem w_fC {t : Tg} {b : M Fl} {d : D} {ds : List D} {Q : Fl → Fr → Prop} : WX (forL t b (d :: ds)) f Q E = OptK (setT t d f) fun f1 => WX b f1 (fun fl f2 => LoK fl (WX (forL t b ds) f2 Q E) (Q .nx f2) fun o => Q (.rt o) f2) E := by
  simp only [WX_eq, OptK_eq, RdK_eq, ChkK_eq, ValK_eq, LstK_eq, BlK_eq, InK_eq, FlK_eq, RcK_eq, LoK_eq] at *
  exact Cw0.w_fC
theorem w_lN {t : D → M (List α)} {Q : List α → Fr → Prop} : WX (lcLoop t []) f Q E = Q [] f := by
  simp only [WX_eq, OptK_eq, RdK_eq, ChkK_eq, ValK_eq, LstK_eq, BlK_eq, InK_eq, FlK_eq, RcK_eq, LoK_eq] at *
  exact Cw0.w_lN
theorem w_lC {t : D → M (List α)} {d : D} {ds : List D} {Q : List α → Fr → Prop} : WX (lcLoop t (d :: ds)) f Q E = WX (t d) f (fun r f1 => WX (lcLoop t ds) f1 (fun rest f2 => Q (r ++ rest) f2) E) E := by
  simp only [WX_eq, OptK_eq, RdK_eq, ChkK_eq, ValK_eq, LstK_eq, BlK_eq, InK_eq, FlK_eq, RcK_eq, LoK_eq] at *
  exact Cw0.w_lC
theorem w_block {own : List Nat} {m : M α} {Q : α → Fr → Prop} (h : canWipe own f = true) (hm : WX m f (fun a f1 => canWipe own f1 = true ∧ Q a (backF own f (wipeF own f1))) fun _ _ _ => False) : WX (block own m) f Q E := by
  simp only [WX_eq, OptK_eq, RdK_eq, ChkK_eq, ValK_eq, LstK_eq, BlK_eq, InK_eq, FlK_eq, RcK_eq, LoK_eq] at *
  exact Cw0.w_block h hm
theorem WX.mono {m : M α} {Q Q' : α → Fr → Prop} {E' : XQ} (h : WX m f Q E) (hq : ∀ a f', Q a f' → Q' a f') (he : ∀ c fs f', E c fs f' → E' c fs f') : WX m f Q' E' := by
  simp only [WX_eq, OptK_eq, RdK_eq, ChkK_eq, ValK_eq, LstK_eq, BlK_eq, InK_eq, FlK_eq, RcK_eq, LoK_eq] at *
  exact Cw0.WX.mono h hq he
def FinK (io : List Nat) (k : O → List O → Prop) (fl : Fl) (f : Fr) : Prop := match fl with
  | .nx => (outsOf io f).any isUn = false ∧ k (.fz .non) (outsOf io f)
  | .rt o => (outsOf io f).any isUn = false ∧ k o (outsOf io f)
  | _ => False
theorem w_run {d : Dfn} {os : List O} {k : O → List O → Prop} {E : Nat → List D → List O → Prop} (hl : os.length = d.par) (h : WX (exs P Φ d.body) (os ++ List.replicate (d.names.length - d.par) .un) (FinK d.io k) fun c fs f1 => (outsOf d.io f1).any isUn = false ∧ E c fs (outsOf d.io f1)) : RcK (runD P Φ d os) k E := by
  simp only [WX_eq, OptK_eq, RdK_eq, ChkK_eq, ValK_eq, LstK_eq, BlK_eq, InK_eq, FlK_eq, RcK_eq, LoK_eq] at *
  exact Cw0.w_run hl h
theorem RcK.ok_eq {r : RC} {o : O} {os : List O} (h : RcK r (fun o' os' => o' = o ∧ os' = os) fun _ _ _ => False) : r = .ok o os := by
  simp only [WX_eq, OptK_eq, RdK_eq, ChkK_eq, ValK_eq, LstK_eq, BlK_eq, InK_eq, FlK_eq, RcK_eq, LoK_eq] at *
  exact Cw0.RcK.ok_eq h
theorem RcK.exc_eq {r : RC} {c : Nat} {fs : List D} {os : List O} (h : RcK r (fun _ _ => False) fun c' fs' os' => c' = c ∧ fs' = fs ∧ os' = os) : r = .exc c fs os := by
  simp only [WX_eq, OptK_eq, RdK_eq, ChkK_eq, ValK_eq, LstK_eq, BlK_eq, InK_eq, FlK_eq, RcK_eq, LoK_eq] at *
  exact Cw0.RcK.exc_eq h
theorem run_s {n g : Nat} {d : Dfn} {os : List O} (h : P.defs[g]? = some d) : run P (n + 1) g os = runD P (run P n) d os := Cw0.run_s h
end
end Cw

/-! Rules on data, to step through a text. -/
namespace Cw
open PySem Cr
section
variable {P : Prg} {f : Fr}
/-! comparisons -/
theorem c_eq {i j : Int} : cmpD .eq (.int i) (.int j) = some (decide (i = j)) := by
  show some (i == j) = _
  cases h : (i == j)
  · rw [decide_eq_false (by simpa using h)]
  · rw [decide_eq_true (by simpa using h)]
theorem c_ne {i j : Int} : cmpD .ne (.int i) (.int j) = some (!decide (i = j)) := by
  show some (!(i == j)) = _
  cases h : (i == j)
  · rw [decide_eq_false (by simpa using h)]
  · rw [decide_eq_true (by simpa using h)]
theorem c_eqb {i j : Bool} : cmpD .eq (.bl i) (.bl j) = some (decide (i = j)) := by cases i <;> cases j <;> rfl
theorem c_neb {i j : Bool} : cmpD .ne (.bl i) (.bl j) = some (!decide (i = j)) := by cases i <;> cases j <;> rfl
theorem c_lt {i j : Int} : cmpD .lt (.int i) (.int j) = some (decide (i < j)) := nr rfl
theorem c_gt {i j : Int} : cmpD .gt (.int i) (.int j) = some (decide (j < i)) := nr rfl
theorem c_le {i j : Int} : cmpD .le (.int i) (.int j) = some (decide (i ≤ j)) := nr rfl
theorem c_ge {i j : Int} : cmpD .ge (.int i) (.int j) = some (decide (j ≤ i)) := nr rfl
theorem c_is {i j : Bool} : cmpD .is (.bl i) (.bl j) = some (decide (i = j)) := nr rfl
theorem c_isnt {i j : Bool} : cmpD .isnt (.bl i) (.bl j) = some (!decide (i = j)) := nr rfl
theorem c_ltb {b : Bool} {c : Bool} : (b != c) = Bool.xor b c := by cases b <;> cases c <;> rfl
theorem bn_f {b : Bool} : (b != false) = b := by cases b <;> rfl
theorem bn_t {b : Bool} : (b != true) = !b := by cases b <;> rfl
/-! arithmetic -/
theorem b_add {i j : Int} : binD .add (.int i) (.int j) = some (.int (i + j)) := nr rfl
theorem b_sub {i j : Int} : binD .sub (.int i) (.int j) = some (.int (i - j)) := nr rfl
theorem b_mul {i j : Int} (h : (big64 i || big64 j) = true) : binD .mul (.int i) (.int j) = some (.int (i * j)) := by
  show (if (big64 i || big64 j) = true then some (D.int (i * j)) else none) = _
  rw [if_pos h]
theorem b_mod {i j : Int} (h : 0 < j) : binD .mod (.int i) (.int j) = some (.int (i % j)) := by
  show (if 0 < j then some (D.int (i % j)) else none) = _
  rw [if_pos h]
theorem b_div {i j : Int} (h : 0 < j ∧ j < 1073741824) : binD .fdiv (.int i) (.int j) = some (.int (i / j)) := by
  show (if 0 < j ∧ j < 1073741824 then some (D.int (i / j)) else none) = _
  rw [if_pos h]
theorem b_addL {i j : List D} (h : i.length + j.length ≤ 100000) : binD .add (.lst i) (.lst j) = some (.lst (i ++ j)) := by
  show (if i.length + j.length ≤ 100000 then some (D.lst (i ++ j)) else none) = _
  rw [if_pos h]
theorem b_addT {i j : List D} (h : i.length + j.length ≤ 100000) : binD .add (.tup i) (.tup j) = some (.tup (i ++ j)) := by
  show (if i.length + j.length ≤ 100000 then some (D.tup (i ++ j)) else none) = _
  rw [if_pos h]
theorem a_add {i j : Int} : augD .add (.int i) (.int j) = some (.int (i + j)) := nr rfl
theorem a_sub {i j : Int} : augD .sub (.int i) (.int j) = some (.int (i - j)) := nr rfl
/-! types -/
theorem t_ii {i : Int} : isTy (.int i) .int = some true := nr rfl
theorem t_ib {i : Int} : isTy (.int i) .bool = some false := nr rfl
theorem t_it {i : Int} : isTy (.int i) .tuple = some false := nr rfl
theorem t_il {i : Int} : isTy (.int i) .list = some false := nr rfl
theorem t_is {i : Int} : isTy (.int i) .str = some false := nr rfl
theorem t_bi {i : Bool} : isTy (.bl i) .int = some true := nr rfl
theorem t_bb {i : Bool} : isTy (.bl i) .bool = some true := nr rfl
theorem t_bt {i : Bool} : isTy (.bl i) .tuple = some false := nr rfl
theorem t_bl {i : Bool} : isTy (.bl i) .list = some false := nr rfl
theorem t_bs {i : Bool} : isTy (.bl i) .str = some false := nr rfl
theorem t_ti {i : List D} : isTy (.tup i) .int = some false := nr rfl
theorem t_tb {i : List D} : isTy (.tup i) .bool = some false := nr rfl
theorem t_tt {i : List D} : isTy (.tup i) .tuple = some true := nr rfl
theorem t_tl {i : List D} : isTy (.tup i) .list = some false := nr rfl
theorem t_ts {i : List D} : isTy (.tup i) .str = some false := nr rfl
theorem t_li {i : List D} : isTy (.lst i) .int = some false := nr rfl
theorem t_lb {i : List D} : isTy (.lst i) .bool = some false := nr rfl
theorem t_lt {i : List D} : isTy (.lst i) .tuple = some false := nr rfl
theorem t_ll {i : List D} : isTy (.lst i) .list = some true := nr rfl
theorem t_ls {i : List D} : isTy (.lst i) .str = some false := nr rfl
theorem t_ni : isTy .non .int = some false := nr rfl
theorem t_nb : isTy .non .bool = some false := nr rfl
theorem t_nt : isTy .non .tuple = some false := nr rfl
theorem t_nl : isTy .non .list = some false := nr rfl
theorem t_ns : isTy .non .str = some false := nr rfl
theorem t_si {s : Str} : isTy (.str s) .int = some false := nr rfl
theorem t_sb {s : Str} : isTy (.str s) .bool = some false := nr rfl
theorem t_st {s : Str} : isTy (.str s) .tuple = some false := nr rfl
theorem t_sl {s : Str} : isTy (.str s) .list = some false := nr rfl
theorem t_ss {s : Str} : isTy (.str s) .str = some true := nr rfl
theorem n_i {i : Int} : isNonD (.int i) = false := nr rfl
theorem n_b {i : Bool} : isNonD (.bl i) = false := nr rfl
theorem n_t {i : List D} : isNonD (.tup i) = false := nr rfl
theorem n_l {i : List D} : isNonD (.lst i) = false := nr rfl
theorem n_s {i : Str} : isNonD (.str i) = false := nr rfl
theorem n_n : isNonD .non = true := nr rfl
/-! built-ins -/
theorem i_lenT {xs : List D} : biD .len [.tup xs] = some (.int xs.length) := nr rfl
theorem i_lenL {xs : List D} : biD .len [.lst xs] = some (.int xs.length) := nr rfl
theorem i_lenK {ks : List Ky} {xs : List D} : biD .len [.dK ks xs] = some (.int ks.length) := nr rfl
theorem i_tupL {xs : List D} : biD .tuple [.lst xs] = some (.tup xs) := nr rfl
theorem i_tupT {xs : List D} : biD .tuple [.tup xs] = some (.tup xs) := nr rfl
theorem i_lstL {xs : List D} : biD .list [.lst xs] = some (.lst xs) := nr rfl
theorem i_lstT {xs : List D} : biD .list [.tup xs] = some (.lst xs) := nr rfl
theorem i_lstS {xs : List Int} : biD .list [.scr xs] = some (.lst (xs.map .int)) := nr rfl
theorem i_intI {i : Int} : biD .int [.int i] = some (.int i) := nr rfl
theorem i_intB {b : Bool} : biD .int [.bl b] = some (.int (if b = true then 1 else 0)) := nr rfl
theorem i_abs {i : Int} : biD .abs [.int i] = some (.int (if i < 0 then -i else i)) := nr rfl
theorem i_min2 {a b : Int} : biD .min2 [.int a, .int b] = some (.int (if b < a then b else a)) := nr rfl
theorem i_max2 {a b : Int} : biD .max2 [.int a, .int b] = some (.int (if b > a then b else a)) := nr rfl
theorem bls_map {α : Type} {g : α → Bool} : ∀ xs : List α, bls (xs.map fun x => .bl (g x)) = some (xs.map g)
  | [] => rfl
  | x :: xs => by
    show (match bls (xs.map fun x => .bl (g x)) with
      | some bs => some (g x :: bs)
      | none => none) = _
    rw [bls_map xs]
    rfl
theorem intL_map {α : Type} {g : α → Int} : ∀ xs : List α, intL (xs.map fun x => .int (g x)) = some (xs.map g)
  | [] => rfl
  | x :: xs => by
    show (match intL (xs.map fun x => .int (g x)) with
      | some bs => some (g x :: bs)
      | none => none) = _
    rw [intL_map xs]
    rfl
theorem i_all {α : Type} {g : α → Bool} {xs : List α} : biD .all [.lst (xs.map fun x => .bl (g x))] = some (.bl (xs.all g)) := by
  show (match bls (xs.map fun x => .bl (g x)) with
    | some bs => some (D.bl (bs.all id))
    | none => none) = _
  rw [bls_map]
  simp [List.all_map]
theorem i_any {α : Type} {g : α → Bool} {xs : List α} : biD .any [.lst (xs.map fun x => .bl (g x))] = some (.bl (xs.any g)) := by
  show (match bls (xs.map fun x => .bl (g x)) with
    | some bs => some (D.bl (bs.any id))
    | none => none) = _
  rw [bls_map]
  simp [List.any_map]
theorem i_sum {α : Type} {g : α → Int} {xs : List α} : biD .sum [.lst (xs.map fun x => .int (g x))] = some (.int (xs.map g).sum) := by
  show (match intL (xs.map fun x => .int (g x)) with
    | some is => some (D.int is.sum)
    | none => none) = _
  rw [intL_map]
/-! subscripts -/
theorem at_nat {α : Type} {xs : List α} {i : Nat} {x : α} (h : xs[i]? = some x) : atD xs (i : Int) = some x := L2.atI_nat h
theorem x_lst {xs : List D} {i : Int} : idxD (.lst xs) (.int i) = atD xs i := nr rfl
theorem x_tup {xs : List D} {i : Int} : idxD (.tup xs) (.int i) = atD xs i := nr rfl
theorem at0 {α : Type} {a : α} {xs : List α} : atD (a :: xs) (0 : Int) = some a := L2.atI_nat (j := 0) rfl
theorem at1 {α : Type} {a b : α} {xs : List α} : atD (a :: b :: xs) (1 : Int) = some b := L2.atI_nat (j := 1) rfl
theorem at2 {α : Type} {a b c : α} {xs : List α} : atD (a :: b :: c :: xs) (2 : Int) = some c := L2.atI_nat (j := 2) rfl
theorem at3 {α : Type} {a b c d : α} {xs : List α} : atD (a :: b :: c :: d :: xs) (3 : Int) = some d := L2.atI_nat (j := 3) rfl
/-! what is walked -/
theorem q_tup {xs : List D} : seqItems (.tup xs) = some xs := nr rfl
theorem q_lst {xs : List D} : seqItems (.lst xs) = some xs := nr rfl
/-! places -/
theorem ix_nat {n j : Nat} (h : j < n) : ixn n (j : Int) = some j := by
  show L2.ixN n (j : Int) = some j
  unfold L2.ixN
  rw [if_pos (by omega), if_pos (by omega)]; simp
theorem g_nil {o : O} : getO P o [] = some o := by
  cases o <;> first | rfl | (show (match stpD P _ [] with | some d' => some (.fz d') | none => none) = _; rfl)
theorem g_l0 {a : O} {os : List O} {r : List Stp} : getO P (.lst (a :: os)) (.ix (.int 0) :: r) = getO P a r := by
  have e : ixn (a :: os).length 0 = some 0 := ix_nat (j := 0) (by simp)
  show (match ixn (a :: os).length 0 with
    | some j => match (a :: os)[j]? with
      | some o' => getO P o' r
      | none => none
    | none => none) = _
  rw [e]
  rfl
theorem g_l1 {a b : O} {os : List O} {r : List Stp} : getO P (.lst (a :: b :: os)) (.ix (.int 1) :: r) = getO P b r := by
  have e : ixn (a :: b :: os).length 1 = some 1 := ix_nat (j := 1) (by simp)
  show (match ixn (a :: b :: os).length 1 with
    | some j => match (a :: b :: os)[j]? with
      | some o' => getO P o' r
      | none => none
    | none => none) = _
  rw [e]
  rfl
theorem g_l2 {a b c : O} {os : List O} {r : List Stp} : getO P (.lst (a :: b :: c :: os)) (.ix (.int 2) :: r) = getO P c r := by
  have e : ixn (a :: b :: c :: os).length 2 = some 2 := ix_nat (j := 2) (by simp)
  show (match ixn (a :: b :: c :: os).length 2 with
    | some j => match (a :: b :: c :: os)[j]? with
      | some o' => getO P o' r
      | none => none
    | none => none) = _
  rw [e]
  rfl
theorem g_l3 {a b c d : O} {os : List O} {r : List Stp} : getO P (.lst (a :: b :: c :: d :: os)) (.ix (.int 3) :: r) = getO P d r := by
  have e : ixn (a :: b :: c :: d :: os).length 3 = some 3 := ix_nat (j := 3) (by simp)
  show (match ixn (a :: b :: c :: d :: os).length 3 with
    | some j => match (a :: b :: c :: d :: os)[j]? with
      | some o' => getO P o' r
      | none => none
    | none => none) = _
  rw [e]
  rfl
theorem g_fz {d : D} {k : D} : getO P (.fz d) [.ix k] = (idxD d k).map .fz := by
  show (match (match idxD d k with
    | some d' => stpD P d' []
    | none => none) with
    | some d' => some (O.fz d')
    | none => none) = _
  cases idxD d k with
  | none => rfl
  | some d' => rfl
theorem s_l0 {a v : O} {os : List O} : setKL (.int 0) v (.lst (a :: os)) = some (.lst (v :: os)) := by
  have e : ixn (a :: os).length 0 = some 0 := ix_nat (j := 0) (by simp)
  show (match ixn (a :: os).length 0 with
    | some j => some (O.lst ((a :: os).set j v))
    | none => none) = _
  rw [e]
  rfl
theorem s_l1 {a b v : O} {os : List O} : setKL (.int 1) v (.lst (a :: b :: os)) = some (.lst (a :: v :: os)) := by
  have e : ixn (a :: b :: os).length 1 = some 1 := ix_nat (j := 1) (by simp)
  show (match ixn (a :: b :: os).length 1 with
    | some j => some (O.lst ((a :: b :: os).set j v))
    | none => none) = _
  rw [e]
  rfl
theorem s_l2 {a b c v : O} {os : List O} : setKL (.int 2) v (.lst (a :: b :: c :: os)) = some (.lst (a :: b :: v :: os)) := by
  have e : ixn (a :: b :: c :: os).length 2 = some 2 := ix_nat (j := 2) (by simp)
  show (match ixn (a :: b :: c :: os).length 2 with
    | some j => some (O.lst ((a :: b :: c :: os).set j v))
    | none => none) = _
  rw [e]
  rfl
theorem s_l3 {a b c d v : O} {os : List O} : setKL (.int 3) v (.lst (a :: b :: c :: d :: os)) = some (.lst (a :: b :: c :: v :: os)) := by
  have e : ixn (a :: b :: c :: d :: os).length 3 = some 3 := ix_nat (j := 3) (by simp)
  show (match ixn (a :: b :: c :: d :: os).length 3 with
    | some j => some (O.lst ((a :: b :: c :: d :: os).set j v))
    | none => none) = _
  rw [e]
  rfl
theorem ap_l {v : O} {os : List O} (h : os.length < 100000) : appO v (.lst os) = some (.lst (os ++ [v])) := by
  show (if os.length < 100000 then some (O.lst (os ++ [v])) else none) = _
  rw [if_pos h]
/-! quiet -/
def qv (o : Option O) : Option D := match o with
  | some (.fz .nil) => none
  | some (.fz d) => some d
  | _ => none
theorem qv_i {i : Int} : qv (some (.fz (.int i))) = some (.int i) := nr rfl
theorem qv_l {i : List D} : qv (some (.fz (.lst i))) = some (.lst i) := nr rfl
theorem qv_t {i : List D} : qv (some (.fz (.tup i))) = some (.tup i) := nr rfl
theorem qv_s {i : Str} : qv (some (.fz (.str i))) = some (.str i) := nr rfl
theorem qv_b {i : Bool} : qv (some (.fz (.bl i))) = some (.bl i) := nr rfl
theorem qq_var {i : Nat} : evQ P (.var i) f = qv f[i]? := by
  show (match f[i]? with
    | some (.fz .nil) => none
    | some (.fz d) => some d
    | _ => none) = _
  unfold qv
  rfl
theorem qq_int {i : Int} : evQ P (.int i) f = some (.int i) := nr rfl
theorem qq_pl {i : Nat} {p : Ps} : evQ P (.pl i p) f = (psQ P p f).bind fun st => f[i]?.bind fun o => qv (getO P o st) := by
  show (match psQ P p f with
    | some st => match f[i]? with
      | some o => match getO P o st with
        | some (.fz .nil) => none
        | some (.fz d) => some d
        | _ => none
      | none => none
    | none => none) = _
  cases psQ P p f with
  | none => rfl
  | some st =>
    dsimp only [Option.bind]
    cases f[i]? with
    | none => rfl
    | some o => rfl
theorem p_nil : psQ P .nil f = some [] := nr rfl
theorem p_ix {p : Ps} {e : Cr.E} : psQ P (.ix p e) f = (psQ P p f).bind fun st => (evQ P e f).map fun d => st ++ [.ix d] := by
  show (match psQ P p f with
    | some st => match evQ P e f with
      | some d => some (st ++ [Stp.ix d])
      | none => none
    | none => none) = _
  cases psQ P p f with
  | none => rfl
  | some st =>
    dsimp only [Option.bind]
    cases evQ P e f <;> rfl
/-! names -/
theorem st_nm {i : Nat} {d : D} : setT (.nm i) d f = if i < f.length then some (f.set i (.fz d)) else none := nr rfl
theorem st_tup {is : List Nat} {ds : List D} : setT (.tup is) (.tup ds) f = setNames is ds f := nr rfl
theorem sn_nil : setNames [] [] f = some f := nr rfl
theorem sn_cons {i : Nat} {is : List Nat} {d : D} {ds : List D} : setNames (i :: is) (d :: ds) f = if i < f.length then setNames is ds (f.set i (.fz d)) else none := nr rfl
/-! calls -/
theorem ta_nil : takeArgs [] f = some ([], [], f) := nr rfl
theorem ta_d {d : D} {r : List AV} : takeArgs (.d d :: r) f = (takeArgs r f).map fun t => (.fz d :: t.1, t.2.1, t.2.2) := by
  show (match takeArgs r f with
    | some (os, ps, f') => some (O.fz d :: os, ps, f')
    | none => none) = _
  cases takeArgs r f <;> rfl
def tkIo (o : Option O) (i : Nat) (r : List AV) (f : Fr) : Option (List O × List Nat × Fr) := match o with
  | some .un => none
  | some o => (takeArgs r (f.set i .un)).map fun t => (o :: t.1, i :: t.2.1, t.2.2)
  | none => none
theorem ta_io {i : Nat} {r : List AV} : takeArgs (.io i :: r) f = tkIo f[i]? i r f := by
  show (match f[i]? with
    | some .un => none
    | some o => match takeArgs r (f.set i .un) with
      | some (os, ps, f') => some (o :: os, i :: ps, f')
      | none => none
    | none => none) = _
  unfold tkIo
  cases f[i]? with
  | none => rfl
  | some o => cases o <;> first | rfl | (dsimp only; cases takeArgs r (f.set i .un) <;> rfl)
theorem tk_o {o : O} {i : Nat} {r : List AV} (h : o ≠ .un) : tkIo (some o) i r f = (takeArgs r (f.set i .un)).map fun t => (o :: t.1, i :: t.2.1, t.2.2) := by
  cases o <;> first | rfl | exact absurd rfl h
theorem pb_nil : putBack [] [] f = some f := nr rfl
theorem pb_c {i : Nat} {r : List Nat} {o : O} {os : List O} : putBack (i :: r) (o :: os) f = if i < f.length then putBack r os (f.set i o) else none := nr rfl
theorem fr_i {i : Int} : frzO (.fz (.int i)) = some (.int i) := nr rfl
theorem fr_b {i : Bool} : frzO (.fz (.bl i)) = some (.bl i) := nr rfl
theorem fr_t {i : List D} : frzO (.fz (.tup i)) = some (.tup i) := nr rfl
theorem fr_l {i : List D} : frzO (.fz (.lst i)) = some (.lst i) := nr rfl
theorem fr_s {i : Str} : frzO (.fz (.str i)) = some (.str i) := nr rfl
theorem fr_n : frzO (.fz .non) = some .non := nr rfl
theorem fr_c {c : Nat} {i : List D} : frzO (.fz (.ins c i)) = some (.ins c i) := nr rfl
theorem fr_k {c : List Ky} {i : List D} : frzO (.fz (.dK c i)) = some (.dK c i) := nr rfl
theorem fr_ol {os : List O} : frzO (.lst os) = some (.lst (fzds os)) := by
  show some (fzd (.lst os)) = _
  unfold fzd
  rfl
theorem fr_oc {c : Nat} {os : List O} : frzO (.ins c os) = some (.ins c (fzds os)) := by
  show some (fzd (.ins c os)) = _
  unfold fzd
  rfl
theorem ChkK_o {o : O} {q : Prop} (h : o ≠ .un) : ChkK (some o) q = q := by cases o <;> first | rfl | exact absurd rfl h
theorem fz_nil : fzds [] = [] := by unfold fzds; rfl
theorem fz_cons {o : O} {os : List O} : fzds (o :: os) = fzd o :: fzds os := by rw [fzds]
theorem fz_fz {d : D} : fzd (.fz d) = d := by unfold fzd; rfl
theorem fz_map {α : Type} {g : α → D} : ∀ xs : List α, fzds (xs.map fun x => .fz (g x)) = xs.map g
  | [] => by unfold List.map fzds; rfl
  | x :: xs => by rw [List.map_cons, fz_cons, fz_map xs, fz_fz]; rfl
theorem ou_nil : outsOf [] f = [] := nr rfl
theorem ou_c {i : Nat} {r : List Nat} : outsOf (i :: r) f = f[i]?.getD .un :: outsOf r f := by
  show f.getD i .un :: outsOf r f = _
  rw [List.getD_eq_getElem?_getD]
theorem un_o {o : O} (h : o ≠ .un) : isUn o = false := by cases o <;> first | rfl | exact absurd rfl h
theorem un_l {os : List O} : isUn (.lst os) = false := nr rfl
theorem un_f {d : D} : isUn (.fz d) = false := nr rfl
theorem un_c {c : Nat} {os : List O} : isUn (.ins c os) = false := nr rfl
theorem fin_nx {io : List Nat} {k : O → List O → Prop} : FinK io k .nx f = ((outsOf io f).any isUn = false ∧ k (.fz .non) (outsOf io f)) := nr rfl
theorem fin_rt {io : List Nat} {k : O → List O → Prop} {o : O} : FinK io k (.rt o) f = ((outsOf io f).any isUn = false ∧ k o (outsOf io f)) := nr rfl
theorem wp_nil : wipeF [] f = f := nr rfl
theorem wp_c {v : Nat} {vs : List Nat} : wipeF (v :: vs) f = (wipeF vs f).set v .un := nr rfl
theorem tpL {xs : List D} : topD (.fz (.lst xs)) = some (.lst xs) := nr rfl
theorem tpT {xs : List D} : topD (.fz (.tup xs)) = some (.tup xs) := nr rfl
theorem rg_ok {n : Int} (h : n < 2 ^ 62) (h0 : 0 ≤ n) : rangeO 0 n = some ((List.range n.toNat).map fun k => .int (k : Int)) := by
  unfold rangeO
  rw [if_pos (by simp; omega)]
  unfold rangeD
  simp
/-! ### comprehensions that change nothing -/
theorem lc_go {α : Type} {own : List Nat} {inner : D → M (List α)} {g : D → List α} {f : Fr} : ∀ (xs : List D) (f0 : Fr), wipeF own f0 = wipeF own f → canWipe own f0 = true → (∀ d ∈ xs, WX (inner d) (wipeF own f) (fun r f' => r = g d ∧ wipeF own f' = wipeF own f ∧ canWipe own f' = true) fun _ _ _ => False) →
    WX (lcLoop (fun d => M.bnd (clrM own) fun _ => inner d) xs) f0 (fun r f1 => r = xs.flatMap g ∧ wipeF own f1 = wipeF own f ∧ canWipe own f1 = true) fun _ _ _ => False
  | [], f0, h1, h2, _ => by rw [w_lN]; exact ⟨rfl, h1, h2⟩
  | d :: ds, f0, h1, h2, h3 => by
    rw [w_lC, w_bnd, w_clr, if_pos h2, h1]
    refine (h3 d List.mem_cons_self).mono (fun r f1 q => ?_) fun _ _ _ z => z
    obtain ⟨q1, q2, q3⟩ := q
    refine (lc_go ds f1 q2 q3 fun d hd => h3 d (List.mem_cons_of_mem _ hd)).mono (fun r2 f2 p => ?_) fun _ _ _ z => z
    obtain ⟨p1, p2, p3⟩ := p
    exact ⟨by rw [q1, p1]; rfl, p2, p3⟩
theorem w_lcP {α : Type} {own : List Nat} {inner : D → M (List α)} (g : D → List α) {xs : List D} {Q : List α → Fr → Prop} {E : XQ} (hw : canWipe own f = true) (hb : backF own f (wipeF own f) = f)
    (hx : ∀ d ∈ xs, WX (inner d) (wipeF own f) (fun r f' => r = g d ∧ wipeF own f' = wipeF own f ∧ canWipe own f' = true) fun _ _ _ => False) (hq : Q (xs.flatMap g) f) :
    WX (block own (lcLoop (fun d => M.bnd (clrM own) fun _ => inner d) xs)) f Q E := by
  refine w_block hw ((lc_go xs f rfl hw hx).mono (fun r f1 q => ?_) fun _ _ _ z => z)
  obtain ⟨q1, q2, q3⟩ := q
  refine ⟨q3, ?_⟩
  rw [q2, hb, q1]
  exact hq
/-- .. each item gives one -/
theorem w_lcM {α β : Type} {own : List Nat} {inner : D → M (List α)} {ys : List β} {h : β → D} (k : β → α) {Q : List α → Fr → Prop} {E : XQ} (hw : canWipe own f = true) (hb : backF own f (wipeF own f) = f)
    (hx : ∀ y ∈ ys, WX (inner (h y)) (wipeF own f) (fun r f' => r = [k y] ∧ wipeF own f' = wipeF own f ∧ canWipe own f' = true) fun _ _ _ => False) (hq : Q (ys.map k) f) :
    WX (block own (lcLoop (fun d => M.bnd (clrM own) fun _ => inner d) (ys.map h))) f Q E := by
  have key : ∀ (ys : List β) (f0 : Fr), wipeF own f0 = wipeF own f → canWipe own f0 = true → (∀ y ∈ ys, WX (inner (h y)) (wipeF own f) (fun r f' => r = [k y] ∧ wipeF own f' = wipeF own f ∧ canWipe own f' = true) fun _ _ _ => False) →
      WX (lcLoop (fun d => M.bnd (clrM own) fun _ => inner d) (ys.map h)) f0 (fun r f1 => r = ys.map k ∧ wipeF own f1 = wipeF own f ∧ canWipe own f1 = true) fun _ _ _ => False := by
    intro ys
    induction ys with
    | nil => intro f0 h1 h2 _; rw [List.map_nil, w_lN]; exact ⟨rfl, h1, h2⟩
    | cons y ys ih =>
      intro f0 h1 h2 h3
      rw [List.map_cons, w_lC, w_bnd, w_clr, if_pos h2, h1]
      refine (h3 y List.mem_cons_self).mono (fun r f1 q => ?_) fun _ _ _ z => z
      obtain ⟨q1, q2, q3⟩ := q
      refine (ih f1 q2 q3 fun d hd => h3 d (List.mem_cons_of_mem _ hd)).mono (fun r2 f2 p => ?_) fun _ _ _ z => z
      obtain ⟨p1, p2, p3⟩ := p
      exact ⟨by rw [q1, p1]; rfl, p2, p3⟩
  refine w_block hw ((key ys f rfl hw hx).mono (fun r f1 q => ?_) fun _ _ _ z => z)
  obtain ⟨q1, q2, q3⟩ := q
  refine ⟨q3, ?_⟩
  rw [q2, hb, q1]
  exact hq
/-- .. kept or not -/
theorem w_lcF {α β : Type} {own : List Nat} {inner : D → M (List α)} {ys : List β} {h : β → D} (p : β → Bool) (k : β → α) {Q : List α → Fr → Prop} {E : XQ} (hw : canWipe own f = true) (hb : backF own f (wipeF own f) = f)
    (hx : ∀ y ∈ ys, WX (inner (h y)) (wipeF own f) (fun r f' => r = (if p y = true then [k y] else []) ∧ wipeF own f' = wipeF own f ∧ canWipe own f' = true) fun _ _ _ => False) (hq : Q ((ys.filter p).map k) f) :
    WX (block own (lcLoop (fun d => M.bnd (clrM own) fun _ => inner d) (ys.map h))) f Q E := by
  have key : ∀ (ys : List β) (f0 : Fr), wipeF own f0 = wipeF own f → canWipe own f0 = true → (∀ y ∈ ys, WX (inner (h y)) (wipeF own f) (fun r f' => r = (if p y = true then [k y] else []) ∧ wipeF own f' = wipeF own f ∧ canWipe own f' = true) fun _ _ _ => False) →
      WX (lcLoop (fun d => M.bnd (clrM own) fun _ => inner d) (ys.map h)) f0 (fun r f1 => r = (ys.filter p).map k ∧ wipeF own f1 = wipeF own f ∧ canWipe own f1 = true) fun _ _ _ => False := by
    intro ys
    induction ys with
    | nil => intro f0 h1 h2 _; rw [List.map_nil, w_lN]; exact ⟨rfl, h1, h2⟩
    | cons y ys ih =>
      intro f0 h1 h2 h3
      rw [List.map_cons, w_lC, w_bnd, w_clr, if_pos h2, h1]
      refine (h3 y List.mem_cons_self).mono (fun r f1 q => ?_) fun _ _ _ z => z
      obtain ⟨q1, q2, q3⟩ := q
      refine (ih f1 q2 q3 fun d hd => h3 d (List.mem_cons_of_mem _ hd)).mono (fun r2 f2 w => ?_) fun _ _ _ z => z
      obtain ⟨p1, p2, p3⟩ := w
      refine ⟨?_, p2, p3⟩
      rw [q1, p1, List.filter_cons]
      cases p y <;> rfl
  refine w_block hw ((key ys f rfl hw hx).mono (fun r f1 q => ?_) fun _ _ _ z => z)
  obtain ⟨q1, q2, q3⟩ := q
  refine ⟨q3, ?_⟩
  rw [q2, hb, q1]
  exact hq
/-- .. with what changes: the invariant tells the items left and what is made -/
theorem w_lcI {α : Type} {own : List Nat} {t : D → M (List α)} (I : List D → List α → Fr → Prop) {xs : List D} {Q : List α → Fr → Prop} {E : XQ} (hw : canWipe own f = true) (h0 : I xs [] f)
    (hx : ∀ d ds acc f0, I (d :: ds) acc f0 → WX (t d) f0 (fun r f' => I ds (acc ++ r) f') fun _ _ _ => False) (hq : ∀ acc f1, I [] acc f1 → canWipe own f1 = true ∧ Q acc (backF own f (wipeF own f1))) :
    WX (block own (lcLoop t xs)) f Q E := by
  have key : ∀ (xs : List D) (acc : List α) (f0 : Fr), I xs acc f0 → WX (lcLoop t xs) f0 (fun r f1 => I [] (acc ++ r) f1) fun _ _ _ => False := by
    intro xs
    induction xs with
    | nil => intro acc f0 h; rw [w_lN, List.append_nil]; exact h
    | cons d ds ih =>
      intro acc f0 h
      rw [w_lC]
      refine (hx d ds acc f0 h).mono (fun r f1 q => ?_) fun _ _ _ z => z
      refine (ih _ f1 q).mono (fun r2 f2 p => ?_) fun _ _ _ z => z
      rw [← List.append_assoc]
      exact p
  refine w_block hw ((key xs [] f h0).mono (fun r f1 q => hq _ _ q) fun _ _ _ z => z)
/-! ### loops -/
theorem w_forI {t : Tg} {b : M Fl} (I : List D → Fr → Prop) {xs : List D} {Q : Fl → Fr → Prop} {E : XQ} (h0 : I xs f)
    (hx : ∀ d ds f0, I (d :: ds) f0 → OptK (setT t d f0) fun f1 => WX b f1 (fun fl f2 => LoK fl (I ds f2) (Q .nx f2) fun o => Q (.rt o) f2) E) (hq : ∀ f1, I [] f1 → Q .nx f1) : WX (forL t b xs) f Q E := by
  have key : ∀ (xs : List D) (f0 : Fr), I xs f0 → WX (forL t b xs) f0 Q E := by
    intro xs
    induction xs with
    | nil => intro f0 h; rw [w_fN]; exact hq _ h
    | cons d ds ih =>
      intro f0 h
      rw [w_fC]
      have q := hx d ds f0 h
      unfold OptK at q ⊢
      cases e : setT t d f0 with
      | none => rw [e] at q; exact q
      | some f1 =>
        rw [e] at q
        refine q.mono (fun fl f2 z => ?_) fun _ _ _ z => z
        cases fl <;> first | exact ih _ z | exact z
  exact key xs f h0
/-- a loop over the values of a list -/
theorem w_forM {β : Type} {t : Tg} {b : M Fl} {ys : List β} {h : β → D} (I : List β → List β → Fr → Prop) {Q : Fl → Fr → Prop} {E : XQ} (h0 : I [] ys f)
    (hx : ∀ (as : List β) (y : β) (zs : List β) f0, as ++ y :: zs = ys → I as (y :: zs) f0 → OptK (setT t (h y) f0) fun f1 => WX b f1 (fun fl f2 => LoK fl (I (as ++ [y]) zs f2) (Q .nx f2) fun o => Q (.rt o) f2) E) (hq : ∀ f1, I ys [] f1 → Q .nx f1) : WX (forL t b (ys.map h)) f Q E := by
  have key : ∀ (zs as : List β) (f0 : Fr), as ++ zs = ys → I as zs f0 → WX (forL t b (zs.map h)) f0 Q E := by
    intro zs
    induction zs with
    | nil =>
      intro as f0 e i
      rw [List.append_nil] at e
      subst e
      rw [List.map_nil, w_fN]
      exact hq _ i
    | cons y zs ih =>
      intro as f0 e i
      rw [List.map_cons, w_fC]
      have q := hx as y zs f0 e i
      unfold OptK at q ⊢
      cases e2 : setT t (h y) f0 with
      | none => rw [e2] at q; exact q
      | some f1 =>
        rw [e2] at q
        refine q.mono (fun fl f2 z => ?_) fun _ _ _ z => z
        cases fl <;> first | exact ih (as ++ [y]) _ (by rw [List.append_assoc]; exact e) z | exact z
  exact key ys [] f rfl h0
/-! ### lists item by item -/
theorem w_blockE {α : Type} {own : List Nat} {m : M α} {Q : α → Fr → Prop} {E : XQ} : WX (block own m) f Q E = if canWipe own f = true then WX m f (fun a f1 => if canWipe own f1 = true then Q a (backF own f (wipeF own f1)) else False) (fun _ _ _ => False) else False := by
  simp only [WX_eq]
  unfold Cw0.WX block
  by_cases h : canWipe own f = true
  · rw [if_pos h, if_pos h]
    cases m f with
    | ok a f1 =>
      dsimp only
      by_cases h1 : canWipe own f1 = true
      · rw [if_pos h1, if_pos h1]
      · rw [if_neg h1, if_neg h1]
    | exc c fs f1 => rfl
    | bad => rfl
  · rw [if_neg h, if_neg h]
theorem cw_nil : canWipe [] f = true := nr rfl
theorem cw_c {v : Nat} {vs : List Nat} : canWipe (v :: vs) f = (!isOwn (f[v]?.getD .un) && canWipe vs f) := by
  show (!isOwn (f.getD v .un) && canWipe vs f) = _
  rw [List.getD_eq_getElem?_getD]
theorem io_un : isOwn .un = false := nr rfl
theorem io_fz {d : D} : isOwn (.fz d) = false := nr rfl
theorem bk_nil {f0 : Fr} : backF [] f0 f = f := nr rfl
theorem bk_c {v : Nat} {vs : List Nat} {f0 : Fr} : backF (v :: vs) f0 f = backF vs f0 (f.set v (f0[v]?.getD .un)) := by
  show backF vs f0 (f.set v (f0.getD v .un)) = _
  rw [List.getD_eq_getElem?_getD]
theorem bls_nil : bls [] = some [] := nr rfl
theorem bls_c {b : Bool} {r : List D} : bls (.bl b :: r) = (bls r).map fun bs => b :: bs := by
  show (match bls r with
    | some bs => some (b :: bs)
    | none => none) = _
  cases bls r <;> rfl
theorem intL_nil : intL [] = some [] := nr rfl
theorem intL_c {b : Int} {r : List D} : intL (.int b :: r) = (intL r).map fun bs => b :: bs := by
  show (match intL r with
    | some bs => some (b :: bs)
    | none => none) = _
  cases intL r <;> rfl
theorem i_allC {xs : List D} : biD .all [.lst xs] = (bls xs).map fun bs => .bl (bs.all id) := by
  show (match bls xs with
    | some bs => some (D.bl (bs.all id))
    | none => none) = _
  cases bls xs <;> rfl
theorem i_anyC {xs : List D} : biD .any [.lst xs] = (bls xs).map fun bs => .bl (bs.any id) := by
  show (match bls xs with
    | some bs => some (D.bl (bs.any id))
    | none => none) = _
  cases bls xs <;> rfl
theorem i_sumC {xs : List D} : biD .sum [.lst xs] = (intL xs).map fun bs => .int bs.sum := by
  show (match intL xs with
    | some bs => some (D.int bs.sum)
    | none => none) = _
  cases intL xs <;> rfl
/-! ### instances made -/
def NwK (r : RC) (k : O → List O → Prop) (e : Nat → List D → List O → Prop) (_ : Tk (k, e) := .mk) : Prop := match r with
  | .ok (.fz .non) (o :: outs) => k o outs
  | .exc c fs (_ :: outs) => e c fs outs
  | _ => False
theorem NwK_ok {o : O} {outs : List O} {k : O → List O → Prop} {e : Nat → List D → List O → Prop} : NwK (.ok (.fz .non) (o :: outs)) k e = k o outs := nr rfl
theorem NwK_exc {c : Nat} {fs : List D} {o : O} {outs : List O} {k : O → List O → Prop} {e : Nat → List D → List O → Prop} : NwK (.exc c fs (o :: outs)) k e = e c fs outs := nr rfl
theorem w_newF {Φ : Calls} {c : Nat} {kc : Cls} {vs : List AV} {Q : O → Fr → Prop} {E : XQ} (h : P.classes[c]? = some kc) : WX (newF P Φ c vs) f Q E = OptK (takeArgs vs f) fun t => NwK (Φ kc.init (freshI P c :: t.1)) (fun o outs => OptK (putBack t.2.1 outs t.2.2) fun f2 => Q o f2) fun c fs outs => OptK (putBack t.2.1 outs t.2.2) fun f2 => E c fs f2 := by
  simp only [WX_eq, OptK_eq]
  unfold Cw0.WX newF Cw0.OptK NwK
  rw [h]
  dsimp only
  cases takeArgs vs f with
  | none => rfl
  | some t =>
    obtain ⟨os, ps, f1⟩ := t
    dsimp only
    cases Φ kc.init (freshI P c :: os) with
    | bad => rfl
    | ok o outs =>
      cases o with
      | fz d =>
        cases d with
        | non =>
          cases outs with
          | nil => rfl
          | cons a r =>
            dsimp only
            simp only [OptK_eq]
            unfold Cw0.OptK
            cases putBack ps r f1 <;> rfl
        | _ => rfl
      | _ => rfl
    | exc c fs outs =>
      cases outs with
      | nil => rfl
      | cons a r =>
        dsimp only
        simp only [OptK_eq]
        unfold Cw0.OptK
        cases putBack ps r f1 <;> rfl
/-! ### membership -/
theorem m_t2 {i a b : Int} : memD (.int i) (.tup [.int a, .int b]) = some (decide (a = i) || decide (b = i)) := by
  show (if D.plain (.int i) && D.plainsN 20 [.int a, .int b] then some ([D.int a, .int b].any fun x => D.eqv x (.int i)) else none) = _
  show some ((a == i) || ((b == i) || false)) = _
  rw [Bool.or_false]
  congr 1
theorem plains_int : ∀ xs : List Int, D.plainsN 20 (xs.map .int) = true
  | [] => rfl
  | x :: xs => by
    show (true && D.plainsN 20 (xs.map .int)) = true
    rw [plains_int xs]
    rfl
theorem m_il {i : Int} {xs : List Int} : memD (.int i) (.lst (xs.map .int)) = some (xs.any fun x => decide (x = i)) := by
  show (if D.plain (.int i) && D.plainsN 20 (xs.map .int) then some ((xs.map D.int).any fun x => D.eqv x (.int i)) else none) = _
  rw [plains_int]
  show some ((xs.map D.int).any fun x => D.eqv x (.int i)) = _
  rw [List.any_map]
  congr 2
theorem m_it {i : Int} {xs : List Int} : memD (.int i) (.tup (xs.map .int)) = some (xs.any fun x => decide (x = i)) := by
  show (if D.plain (.int i) && D.plainsN 20 (xs.map .int) then some ((xs.map D.int).any fun x => D.eqv x (.int i)) else none) = _
  rw [plains_int]
  show some ((xs.map D.int).any fun x => D.eqv x (.int i)) = _
  rw [List.any_map]
  congr 2
theorem kput_new {i : Int} {ks : List Ky} {vs : List D} {v : D} (h : khas ks (.inl i) = false) : kput ks vs (.inl i) v = (ks ++ [.inl i], vs ++ [v]) := by
  unfold kput
  rw [h]
  rfl
theorem khas_ints {i : Int} {xs : List Int} : khas (xs.map fun x => (.inl x : Ky)) (.inl i) = xs.any fun x => decide (x = i) := by
  unfold khas
  rw [List.any_map]
  congr 1
  funext x
  simp
theorem m_ik {i : Int} {xs : List Int} {vs : List D} : memD (.int i) (.dK (xs.map fun x => .inl x) vs) = some (xs.any fun x => decide (x = i)) := by
  show some (khas (xs.map fun x => (.inl x : Ky)) (.inl i)) = _
  rw [khas_ints]
/-- {x: v for x in xs}, the keys apart -/
theorem dc_ints {g : Int → D} : ∀ (xs : List Int), xs.Nodup → xs.length ≤ 100000 → dcFin false (xs.map fun x => (.int x, g x)) = some (.dK (xs.map fun x => .inl x) (xs.map g)) := by
  intro xs nd hl
  unfold dcFin
  rw [if_pos (by rw [List.length_map]; exact hl)]
  have key : ∀ (zs as : List Int), (as ++ zs).Nodup → dputs false (zs.map fun x => (.int x, g x)) (.dK (as.map fun x => .inl x) (as.map g)) = some (.dK ((as ++ zs).map fun x => .inl x) ((as ++ zs).map g)) := by
    intro zs
    induction zs with
    | nil => intro as _; rw [List.append_nil]; rfl
    | cons z zs ih =>
      intro as h
      have h0 : khas (as.map fun x => (.inl x : Ky)) (.inl z) = false := by
        rw [khas_ints]
        rw [List.any_eq_false]
        intro x hx
        have := (List.nodup_append.mp h).2.2 x hx z List.mem_cons_self
        simpa using this
      show (match (match keyOf (.int z) with
        | some k => let r := kput (as.map fun x => (.inl x : Ky)) (as.map g) k (g z)
          some (D.dK r.1 r.2)
        | none => none) with
        | some acc' => dputs false (zs.map fun x => (.int x, g x)) acc'
        | none => none) = _
      show dputs false (zs.map fun x => (.int x, g x)) (.dK (kput (as.map fun x => (.inl x : Ky)) (as.map g) (.inl z) (g z)).1 (kput (as.map fun x => (.inl x : Ky)) (as.map g) (.inl z) (g z)).2) = _
      rw [kput_new h0]
      have := ih (as ++ [z]) (by rw [List.append_assoc]; exact h)
      rw [List.map_append, List.map_append, List.append_assoc] at this
      exact this
  exact key xs [] nd
/-! ### slices -/
theorem sl_t {xs : List D} {lo hi : Option Int} : slcD (.tup xs) lo hi = some (.tup (cutD xs lo hi)) := nr rfl
theorem sl_l {xs : List D} {lo hi : Option Int} : slcD (.lst xs) lo hi = some (.lst (cutD xs lo hi)) := nr rfl
theorem cut_map {α β : Type} {g : α → β} {xs : List α} {lo hi : Option Int} : cutD (xs.map g) lo hi = (cutD xs lo hi).map g := by
  unfold cutD
  rw [List.length_map, List.map_take, List.map_drop]
theorem cut_mem {α : Type} {xs : List α} {lo hi : Option Int} {x : α} (h : x ∈ cutD xs lo hi) : x ∈ xs := List.mem_of_mem_drop (List.mem_of_mem_take h)
theorem cut_len {α : Type} {xs : List α} {lo hi : Option Int} : (cutD xs lo hi).length ≤ xs.length := by
  unfold cutD
  rw [List.length_take, List.length_drop]
  omega
end
end Cw

/-! The three defs that every law has. -/
namespace Cw
open PySem Cr
def bDraws : Ss := (.cons (.retO (.lst (.cons (.e (.bi .list (.cons (.var 0) .nil))) (.cons (.e (.int 0)) (.cons (.e (.int 0)) (.cons (.e (.int 1)) .nil)))))) .nil)
def dDraws : Dfn := { nm := "_law_draws", qual := "_law_draws", par := 1, names := ["script"], io := [], body := bDraws }
def bDraw : Ss := (.cons (.ite (.and (.cmp .eq (.pl 0 (.ix .nil (.int 2))) (.int 0)) (.cmp .lt (.pl 0 (.ix .nil (.int 1))) (.biP .len 0 (.ix .nil (.int 0)) .nil))) (.cons (.asg (.nm 2) (.pl 0 (.ix (.ix .nil (.int 0)) (.pl 0 (.ix .nil (.int 1)))))) (.cons (.mu 0 .nil (.set (.int 1) (.e (.bin .add (.pl 0 (.ix .nil (.int 1))) (.int 1))))) (.cons (.ite (.cmp .ge (.var 2) (.bin .pow (.int 10) (.int 18))) (.cons (.mu 0 .nil (.set (.int 2) (.e (.var 2)))) .nil) .nil) (.cons (.mu 0 .nil (.set (.int 3) (.e (.bin .mod (.bi .int (.cons (.bin .add (.bin .add (.bin .mul (.pl 0 (.ix .nil (.int 3))) (.int 48271)) (.var 2)) (.int 13)) .nil)) (.int 2147483647))))) .nil)))) .nil) (.cons (.ite (.cmp .gt (.pl 0 (.ix .nil (.int 2))) (.int 0)) (.cons (.asg (.nm 3) (.bin .mod (.bi .int (.cons (.pl 0 (.ix .nil (.int 2))) .nil)) (.var 1))) (.cons (.mu 0 .nil (.set (.int 2) (.e (.bin .fdiv (.pl 0 (.ix .nil (.int 2))) (.var 1))))) (.cons (.ret (.var 3)) .nil))) .nil) (.cons (.mu 0 .nil (.set (.int 3) (.e (.bin .mod (.bi .int (.cons (.bin .add (.bin .mul (.pl 0 (.ix .nil (.int 3))) (.int 69621)) (.int 7)) .nil)) (.int 2147483629))))) (.cons (.ret (.bin .mod (.bi .int (.cons (.bin .fdiv (.pl 0 (.ix .nil (.int 3))) (.int 11)) .nil)) (.var 1))) .nil))))
def dDraw : Dfn := { nm := "_law_draw", qual := "_law_draw", par := 2, names := ["draws", "limit", "cell", "value"], io := [0], body := bDraw }
def bSame (g : Nat) : Ss := (.cons (.ite (.or (.isi (.var 1) .tuple) (.isi (.var 1) .list)) (.cons (.ite (.or (.cmp .ne (.isi (.var 1) .tuple) (.isi (.var 0) .tuple)) (.cmp .ne (.isi (.var 1) .list) (.isi (.var 0) .list))) (.cons (.ret (.bl false)) .nil) .nil) (.cons (.ite (.cmp .ne (.bi .len (.cons (.var 0) .nil)) (.bi .len (.cons (.var 1) .nil))) (.cons (.ret (.bl false)) .nil) .nil) (.cons (.ret (.cmp .eq (.bi .len (.cons (.lc (.var 2) (.nm 2) (.rng1 (.bi .len (.cons (.var 1) .nil))) (.some (.not (.call g (.cons (.e (.idx (.var 0) (.var 2))) (.cons (.e (.idx (.var 1) (.var 2))) .nil))))) [2]) .nil)) (.int 0))) .nil))) .nil) (.cons (.ite (.isi (.var 1) .str) (.cons (.ret (.and (.isi (.var 0) .str) (.cmp .eq (.var 0) (.var 1)))) .nil) .nil) (.cons (.ite (.isN false (.var 1)) (.cons (.ret (.isN false (.var 0))) .nil) .nil) (.cons (.ite (.or (.isi (.var 1) .bool) (.isi (.var 0) .bool)) (.cons (.ret (.and (.isi (.var 1) .bool) (.and (.isi (.var 0) .bool) (.cmp .eq (.var 0) (.var 1))))) .nil) .nil) (.cons (.ret (.and (.isi (.var 0) .int) (.and (.isi (.var 1) .int) (.cmp .eq (.var 0) (.var 1))))) .nil)))))
def dSame (g : Nat) : Dfn := { nm := "_law_same", qual := "_law_same", par := 2, names := ["actual", "expected", "k"], io := [], body := bSame g }
def drO (xs : List Int) (p v s : Int) : O := .lst [.fz (.lst (xs.map .int)), .fz (.int p), .fz (.int v), .fz (.int s)]
/-- the draws, somewhere on their way -/
def Dr (o : O) : Prop := ∃ xs p v s, o = drO xs p v s ∧ 0 ≤ p ∧ 0 ≤ v ∧ 0 ≤ s
theorem Dr.ne {o : O} (h : Dr o) : o ≠ .un := by
  obtain ⟨xs, p, v, s, e, _⟩ := h
  rw [e]
  intro z
  cases z
theorem m48 {i : Int} : binD .mul (.int i) (.int 48271) = some (.int (i * 48271)) := b_mul (by rw [Bool.or_eq_true]; right; decide)
theorem m69 {i : Int} : binD .mul (.int i) (.int 69621) = some (.int (i * 69621)) := b_mul (by rw [Bool.or_eq_true]; right; decide)
theorem d11_ {i : Int} : binD .fdiv (.int i) (.int 11) = some (.int (i / 11)) := b_div (by decide)
theorem md1 {i : Int} : binD .mod (.int i) (.int 2147483647) = some (.int (i % 2147483647)) := b_mod (by decide)
theorem md2 {i : Int} : binD .mod (.int i) (.int 2147483629) = some (.int (i % 2147483629)) := b_mod (by decide)
theorem pw18 : binD .pow (.int 10) (.int 18) = some (.int 1000000000000000000) := by
  show (if (decide ((0 : Int) ≤ 18 ∧ (18 : Int) ≤ 1000000) && big64 10) = true then some (D.int (10 ^ (18 : Int).toNat)) else none) = _
  rw [if_pos (by decide)]
  rfl
theorem draws_ok {P : Prg} {n g : Nat} (hP : P.defs[g]? = some dDraws) (ns : List Int) : run P (n + 1) g [.fz (.scr ns)] = .ok (drO ns 0 0 1) [] := by
  rw [run_s hP]
  apply RcK.ok_eq
  refine w_run rfl ?_
  change WX (exs P _ bDraws) [.fz (.scr ns)] _ _
  unfold bDraws
  simp only [w_bnd, w_ret, w_opt, w_fail, w_ite, w_tb, w_ti, w_rd, w_chk, w_chkL, w_plVal, w_plTop, w_q, w_setM, w_clr, w_setO1, w_modR, w_frz, w_var, w_non, w_bl, w_int, w_str, w_gint, w_bin, w_neg, w_inv, w_not, w_cmp, w_chn, w_isN, w_mem, w_andE, w_orE, w_ife, w_tup, w_lst, w_idx, w_eoN, w_eoS, w_slc, w_lrng1, w_fld, w_pl, w_call, w_new, w_bi, w_biP, w_isi, w_lc, w_dc, w_esN, w_esC, w_etN, w_etS, w_arE, w_arI, w_asN, w_asC, w_iE, w_iR1, w_iR2, w_pN, w_pX, w_pXX, w_pFX, w_pF, w_callF, w_oe, w_ol, w_ocall, w_onew, w_osN, w_osC, w_ssN, w_ssC, w_asg, w_asgL, w_asgO, w_app, w_set, w_fset, w_aug, w_ex, w_retE, w_retN, w_retO, w_if, w_for, w_rse, w_try, w_brk, w_cont, w_pass, w_hret, w_hunl, OptK_s, RdK_bl, RdK_int, RdK_str, RdK_non, RdK_tup, RdK_lst, RdK_dK, RdK_dT, RdK_ins, RdK_fn, RdK_scr, RdK_ol, ChkK_fz, ChkK_l, ChkK_i, ChkK_k, ChkK_t, ValK_int, ValK_bl, ValK_lst, ValK_tup, LstK_l, BlK_b, InK_i, FlK_nx, FlK_ct, FlK_bk, FlK_rt, RcK_ok, RcK_exc, LoK_nx, LoK_ct, LoK_bk, LoK_rt, c_eq, c_ne, c_eqb, c_neb, c_lt, c_gt, c_le, c_ge, c_is, c_isnt, bn_f, bn_t, b_add, b_sub, a_add, a_sub, t_ii, t_ib, t_it, t_il, t_is, t_bi, t_bb, t_bt, t_bl, t_bs, t_ti, t_tb, t_tt, t_tl, t_ts, t_li, t_lb, t_lt, t_ll, t_ls, t_ni, t_nb, t_nt, t_nl, t_ns, t_si, t_sb, t_st, t_sl, t_ss, n_i, n_b, n_t, n_l, n_s, n_n, i_lenT, i_lenL, i_lenK, i_tupL, i_tupT, i_lstL, i_lstT, i_lstS, i_intI, i_intB, i_abs, i_min2, i_max2, i_all, i_any, i_sum, x_lst, x_tup, at0, at1, at2, at3, q_tup, q_lst, g_nil, g_l0, g_l1, g_l2, g_l3, g_fz, s_l0, s_l1, s_l2, s_l3, qv_i, qv_l, qv_t, qv_s, qv_b, qq_var, qq_int, qq_pl, p_nil, p_ix, st_nm, st_tup, sn_nil, sn_cons, ta_nil, ta_d, ta_io, pb_nil, pb_c, fr_i, fr_b, fr_t, fr_l, fr_s, fr_n, fr_c, fr_k, fr_ol, fr_oc, fz_nil, fz_cons, fz_fz, ou_nil, ou_c, un_l, un_f, un_c, fin_nx, fin_rt, wp_nil, wp_c, tpL, tpT, NwK_ok, NwK_exc, m_t2, m_il, m_it, m_ik, sl_t, sl_l, Option.bind_some, Option.map_some, Option.map, List.any_cons, List.any_nil, Bool.or_self, List.getElem?_cons_zero, List.getElem?_cons_succ, List.set_cons_zero, List.set_cons_succ, List.length_cons, List.length_nil, Nat.reduceAdd, Nat.reduceLT, Nat.lt_add_one, Nat.zero_add, Int.cast_ofNat_Int, Int.reduceLE, Int.reduceLT, Int.reduceEq, Int.reduceNeg, Nat.reduceLeDiff, ↓reduceIte, Option.getD, List.nil_append, List.cons_append, decide_eq_true_eq, decide_true, decide_false, Bool.false_eq_true, Bool.not_true, Bool.not_false, Bool.and_true, Bool.and_false, Bool.true_and, Bool.or_true, Bool.or_false, and_true, true_and, and_false, false_and, not_true, not_false_eq_true, Bool.not_eq_true, decide_eq_false_iff_not, show dDraws.io = [] from rfl]
  rfl
theorem RcK.dr {r : RC} {k : Int} (h : RcK r (fun o os => ∃ x o', o = .fz (.int x) ∧ os = [o'] ∧ Dr o' ∧ 0 ≤ x ∧ x < k) fun _ _ _ => False) : ∃ x o', r = .ok (.fz (.int x)) [o'] ∧ Dr o' ∧ 0 ≤ x ∧ x < k := by
  cases r with
  | ok a b =>
    obtain ⟨x, o', e1, e2, h⟩ := h
    exact ⟨x, o', by rw [e1, e2], h⟩
  | exc c fs os => exact h.elim
  | bad => exact h.elim
theorem draw_ok {P : Prg} {n g : Nat} (hP : P.defs[g]? = some dDraw) {o : O} (hd : Dr o) {k : Int} (h1 : 0 < k) (h2 : k < 1073741824) : ∃ x o', run P (n + 1) g [o, .fz (.int k)] = .ok (.fz (.int x)) [o'] ∧ Dr o' ∧ 0 ≤ x ∧ x < k := by
  obtain ⟨xs, p, v, s, rfl, h3, h4, h5⟩ := hd
  rw [run_s hP]
  apply RcK.dr
  refine w_run rfl ?_
  change WX (exs P _ bDraw) [drO xs p v s, .fz (.int k), .un, .un] _ _
  unfold bDraw drO
  have fin : ∀ (p v s x : Int), 0 ≤ p → 0 ≤ v → 0 ≤ s → 0 ≤ x → x < k → ∃ x' o', O.fz (.int x) = O.fz (.int x') ∧ [O.lst [O.fz (.lst (xs.map .int)), .fz (.int p), .fz (.int v), .fz (.int s)]] = [o'] ∧ Dr o' ∧ 0 ≤ x' ∧ x' < k := fun p v s x a b c d e => ⟨x, _, rfl, rfl, ⟨xs, p, v, s, rfl, a, b, c⟩, d, e⟩
  have m0 : ∀ a : Int, 0 ≤ a % k := fun a => Int.emod_nonneg a (by omega)
  have m1 : ∀ a : Int, a % k < k := fun a => Int.emod_lt_of_pos a h1
  have q0 : ∀ a : Int, 0 ≤ a → 0 ≤ a / k := fun a ha => Int.ediv_nonneg ha (by omega)
  have e0 : ∀ a : Int, binD .fdiv (.int a) (.int k) = some (.int (a / k)) := fun a => b_div ⟨h1, h2⟩
  have e1 : ∀ a : Int, binD .mod (.int a) (.int k) = some (.int (a % k)) := fun a => b_mod h1
  have r1 : ∀ a : Int, 0 ≤ a % 2147483647 := fun a => by omega
  have r2 : ∀ a : Int, 0 ≤ a % 2147483629 := fun a => by omega
  by_cases hp : p < (xs.length : Int)
  · have hx : ∃ c : Int, atD (xs.map D.int) p = some (.int c) := by
      have hl : p.toNat < xs.length := by omega
      refine ⟨xs[p.toNat], ?_⟩
      have e := at_nat (xs := xs.map D.int) (i := p.toNat) (x := .int xs[p.toNat]) (by simp [hl])
      rwa [show ((p.toNat : Nat) : Int) = p by omega] at e
    obtain ⟨c, hc⟩ := hx
    simp only [w_bnd, w_ret, w_opt, w_fail, w_ite, w_tb, w_ti, w_rd, w_chk, w_chkL, w_plVal, w_plTop, w_q, w_setM, w_clr, w_setO1, w_modR, w_frz, w_var, w_non, w_bl, w_int, w_str, w_gint, w_bin, w_neg, w_inv, w_not, w_cmp, w_chn, w_isN, w_mem, w_andE, w_orE, w_ife, w_tup, w_lst, w_idx, w_eoN, w_eoS, w_slc, w_lrng1, w_fld, w_pl, w_call, w_new, w_bi, w_biP, w_isi, w_lc, w_dc, w_esN, w_esC, w_etN, w_etS, w_arE, w_arI, w_asN, w_asC, w_iE, w_iR1, w_iR2, w_pN, w_pX, w_pXX, w_pFX, w_pF, w_callF, w_oe, w_ol, w_ocall, w_onew, w_osN, w_osC, w_ssN, w_ssC, w_asg, w_asgL, w_asgO, w_app, w_set, w_fset, w_aug, w_ex, w_retE, w_retN, w_retO, w_if, w_for, w_rse, w_try, w_brk, w_cont, w_pass, w_hret, w_hunl, OptK_s, RdK_bl, RdK_int, RdK_str, RdK_non, RdK_tup, RdK_lst, RdK_dK, RdK_dT, RdK_ins, RdK_fn, RdK_scr, RdK_ol, ChkK_fz, ChkK_l, ChkK_i, ChkK_k, ChkK_t, ValK_int, ValK_bl, ValK_lst, ValK_tup, LstK_l, BlK_b, InK_i, FlK_nx, FlK_ct, FlK_bk, FlK_rt, RcK_ok, RcK_exc, LoK_nx, LoK_ct, LoK_bk, LoK_rt, c_eq, c_ne, c_eqb, c_neb, c_lt, c_gt, c_le, c_ge, c_is, c_isnt, bn_f, bn_t, b_add, b_sub, a_add, a_sub, t_ii, t_ib, t_it, t_il, t_is, t_bi, t_bb, t_bt, t_bl, t_bs, t_ti, t_tb, t_tt, t_tl, t_ts, t_li, t_lb, t_lt, t_ll, t_ls, t_ni, t_nb, t_nt, t_nl, t_ns, t_si, t_sb, t_st, t_sl, t_ss, n_i, n_b, n_t, n_l, n_s, n_n, i_lenT, i_lenL, i_lenK, i_tupL, i_tupT, i_lstL, i_lstT, i_lstS, i_intI, i_intB, i_abs, i_min2, i_max2, i_all, i_any, i_sum, x_lst, x_tup, at0, at1, at2, at3, q_tup, q_lst, g_nil, g_l0, g_l1, g_l2, g_l3, g_fz, s_l0, s_l1, s_l2, s_l3, qv_i, qv_l, qv_t, qv_s, qv_b, qq_var, qq_int, qq_pl, p_nil, p_ix, st_nm, st_tup, sn_nil, sn_cons, ta_nil, ta_d, ta_io, pb_nil, pb_c, fr_i, fr_b, fr_t, fr_l, fr_s, fr_n, fr_c, fr_k, fr_ol, fr_oc, fz_nil, fz_cons, fz_fz, ou_nil, ou_c, un_l, un_f, un_c, fin_nx, fin_rt, wp_nil, wp_c, tpL, tpT, NwK_ok, NwK_exc, m_t2, m_il, m_it, m_ik, sl_t, sl_l, Option.bind_some, Option.map_some, Option.map, List.any_cons, List.any_nil, Bool.or_self, List.getElem?_cons_zero, List.getElem?_cons_succ, List.set_cons_zero, List.set_cons_succ, List.length_cons, List.length_nil, Nat.reduceAdd, Nat.reduceLT, Nat.lt_add_one, Nat.zero_add, Int.cast_ofNat_Int, Int.reduceLE, Int.reduceLT, Int.reduceEq, Int.reduceNeg, Nat.reduceLeDiff, ↓reduceIte, Option.getD, List.nil_append, List.cons_append, decide_eq_true_eq, decide_true, decide_false, Bool.false_eq_true, Bool.not_true, Bool.not_false, Bool.and_true, Bool.and_false, Bool.true_and, Bool.or_true, Bool.or_false, and_true, true_and, and_false, false_and, not_true, not_false_eq_true, Bool.not_eq_true, decide_eq_false_iff_not, m48, m69, d11_, md1, md2, pw18, e0, e1, List.length_map, hc, show dDraw.io = [0] from rfl, hp, bn_f]
    have h6 : 0 ≤ p + 1 := by omega
    repeat' split
    all_goals first
      | exact fin _ _ _ _ h6 (q0 _ (by omega)) (r1 _) (m0 _) (m1 _)
      | exact fin _ _ _ _ h3 (q0 _ h4) h5 (m0 _) (m1 _)
      | exact fin _ _ _ _ h6 (by omega) (r2 _) (m0 _) (m1 _)
      | exact fin _ _ _ _ h3 (by omega) (r2 _) (m0 _) (m1 _)
  · simp only [w_bnd, w_ret, w_opt, w_fail, w_ite, w_tb, w_ti, w_rd, w_chk, w_chkL, w_plVal, w_plTop, w_q, w_setM, w_clr, w_setO1, w_modR, w_frz, w_var, w_non, w_bl, w_int, w_str, w_gint, w_bin, w_neg, w_inv, w_not, w_cmp, w_chn, w_isN, w_mem, w_andE, w_orE, w_ife, w_tup, w_lst, w_idx, w_eoN, w_eoS, w_slc, w_lrng1, w_fld, w_pl, w_call, w_new, w_bi, w_biP, w_isi, w_lc, w_dc, w_esN, w_esC, w_etN, w_etS, w_arE, w_arI, w_asN, w_asC, w_iE, w_iR1, w_iR2, w_pN, w_pX, w_pXX, w_pFX, w_pF, w_callF, w_oe, w_ol, w_ocall, w_onew, w_osN, w_osC, w_ssN, w_ssC, w_asg, w_asgL, w_asgO, w_app, w_set, w_fset, w_aug, w_ex, w_retE, w_retN, w_retO, w_if, w_for, w_rse, w_try, w_brk, w_cont, w_pass, w_hret, w_hunl, OptK_s, RdK_bl, RdK_int, RdK_str, RdK_non, RdK_tup, RdK_lst, RdK_dK, RdK_dT, RdK_ins, RdK_fn, RdK_scr, RdK_ol, ChkK_fz, ChkK_l, ChkK_i, ChkK_k, ChkK_t, ValK_int, ValK_bl, ValK_lst, ValK_tup, LstK_l, BlK_b, InK_i, FlK_nx, FlK_ct, FlK_bk, FlK_rt, RcK_ok, RcK_exc, LoK_nx, LoK_ct, LoK_bk, LoK_rt, c_eq, c_ne, c_eqb, c_neb, c_lt, c_gt, c_le, c_ge, c_is, c_isnt, bn_f, bn_t, b_add, b_sub, a_add, a_sub, t_ii, t_ib, t_it, t_il, t_is, t_bi, t_bb, t_bt, t_bl, t_bs, t_ti, t_tb, t_tt, t_tl, t_ts, t_li, t_lb, t_lt, t_ll, t_ls, t_ni, t_nb, t_nt, t_nl, t_ns, t_si, t_sb, t_st, t_sl, t_ss, n_i, n_b, n_t, n_l, n_s, n_n, i_lenT, i_lenL, i_lenK, i_tupL, i_tupT, i_lstL, i_lstT, i_lstS, i_intI, i_intB, i_abs, i_min2, i_max2, i_all, i_any, i_sum, x_lst, x_tup, at0, at1, at2, at3, q_tup, q_lst, g_nil, g_l0, g_l1, g_l2, g_l3, g_fz, s_l0, s_l1, s_l2, s_l3, qv_i, qv_l, qv_t, qv_s, qv_b, qq_var, qq_int, qq_pl, p_nil, p_ix, st_nm, st_tup, sn_nil, sn_cons, ta_nil, ta_d, ta_io, pb_nil, pb_c, fr_i, fr_b, fr_t, fr_l, fr_s, fr_n, fr_c, fr_k, fr_ol, fr_oc, fz_nil, fz_cons, fz_fz, ou_nil, ou_c, un_l, un_f, un_c, fin_nx, fin_rt, wp_nil, wp_c, tpL, tpT, NwK_ok, NwK_exc, m_t2, m_il, m_it, m_ik, sl_t, sl_l, Option.bind_some, Option.map_some, Option.map, List.any_cons, List.any_nil, Bool.or_self, List.getElem?_cons_zero, List.getElem?_cons_succ, List.set_cons_zero, List.set_cons_succ, List.length_cons, List.length_nil, Nat.reduceAdd, Nat.reduceLT, Nat.lt_add_one, Nat.zero_add, Int.cast_ofNat_Int, Int.reduceLE, Int.reduceLT, Int.reduceEq, Int.reduceNeg, Nat.reduceLeDiff, ↓reduceIte, Option.getD, List.nil_append, List.cons_append, decide_eq_true_eq, decide_true, decide_false, Bool.false_eq_true, Bool.not_true, Bool.not_false, Bool.and_true, Bool.and_false, Bool.true_and, Bool.or_true, Bool.or_false, and_true, true_and, and_false, false_and, not_true, not_false_eq_true, Bool.not_eq_true, decide_eq_false_iff_not, m48, m69, d11_, md1, md2, pw18, e0, e1, List.length_map, show dDraw.io = [0] from rfl, hp]
    repeat' split
    all_goals first
      | exact fin _ _ _ _ h3 (q0 _ h4) h5 (m0 _) (m1 _)
      | exact fin _ _ _ _ h3 (by omega) (r2 _) (m0 _) (m1 _)
/-- what _law_same can tell -/
def okS : Nat → D → Prop
  | _, .non => True
  | _, .bl _ => True
  | _, .int _ => True
  | _, .str s => PyData.strOk s = true
  | k + 1, .tup xs => xs.length ≤ 100000 ∧ ∀ x ∈ xs, okS k x
  | k + 1, .lst xs => xs.length ≤ 100000 ∧ ∀ x ∈ xs, okS k x
  | _, _ => False
theorem c_eqs {s : Str} (h : PyData.strOk s = true) : cmpD .eq (.str s) (.str s) = some true := by
  show (if D.plain (.str s) && D.plain (.str s) then some (D.eqv (.str s) (.str s)) else none) = _
  have e : D.plain (.str s) = true := h
  rw [e]
  show some (s == s) = _
  rw [beq_self_eq_true]
theorem same_ok {P : Prg} {g : Nat} (hP : P.defs[g]? = some (dSame g)) (n : Nat) : ∀ (k : Nat) (d : D), okS k d → run P (n + k + 1) g [.fz d, .fz d] = .ok (.fz (.bl true)) [] := by
  have start : ∀ (m : Nat) (d : D), WX (exs P (run P m) (bSame g)) [.fz d, .fz d, .un] (FinK [] fun o' os' => o' = .fz (.bl true) ∧ os' = []) (fun _ _ _ => False) → run P (m + 1) g [.fz d, .fz d] = .ok (.fz (.bl true)) [] := by
    intro m d h
    rw [run_s hP]
    apply RcK.ok_eq
    exact w_run rfl (h.mono (fun _ _ z => z) fun _ _ _ z => z.elim)
  have base : ∀ (m : Nat), (run P (m + 1) g [.fz .non, .fz .non] = .ok (.fz (.bl true)) []) ∧ (∀ b, run P (m + 1) g [.fz (.bl b), .fz (.bl b)] = .ok (.fz (.bl true)) []) ∧ (∀ b, run P (m + 1) g [.fz (.int b), .fz (.int b)] = .ok (.fz (.bl true)) []) ∧
      (∀ s, PyData.strOk s = true → run P (m + 1) g [.fz (.str s), .fz (.str s)] = .ok (.fz (.bl true)) []) := by
    intro m
    refine ⟨start _ _ ?_, fun b => start _ _ ?_, fun b => start _ _ ?_, fun s hs => start _ _ ?_⟩
    · unfold bSame
      simp only [w_bnd, w_ret, w_opt, w_fail, w_ite, w_tb, w_ti, w_rd, w_chk, w_chkL, w_plVal, w_plTop, w_q, w_setM, w_clr, w_setO1, w_modR, w_frz, w_var, w_non, w_bl, w_int, w_str, w_gint, w_bin, w_neg, w_inv, w_not, w_cmp, w_chn, w_isN, w_mem, w_andE, w_orE, w_ife, w_tup, w_lst, w_idx, w_eoN, w_eoS, w_slc, w_lrng1, w_fld, w_pl, w_call, w_new, w_bi, w_biP, w_isi, w_lc, w_dc, w_esN, w_esC, w_etN, w_etS, w_arE, w_arI, w_asN, w_asC, w_iE, w_iR1, w_iR2, w_pN, w_pX, w_pXX, w_pFX, w_pF, w_callF, w_oe, w_ol, w_ocall, w_onew, w_osN, w_osC, w_ssN, w_ssC, w_asg, w_asgL, w_asgO, w_app, w_set, w_fset, w_aug, w_ex, w_retE, w_retN, w_retO, w_if, w_for, w_rse, w_try, w_brk, w_cont, w_pass, w_hret, w_hunl, OptK_s, RdK_bl, RdK_int, RdK_str, RdK_non, RdK_tup, RdK_lst, RdK_dK, RdK_dT, RdK_ins, RdK_fn, RdK_scr, RdK_ol, ChkK_fz, ChkK_l, ChkK_i, ChkK_k, ChkK_t, ValK_int, ValK_bl, ValK_lst, ValK_tup, LstK_l, BlK_b, InK_i, FlK_nx, FlK_ct, FlK_bk, FlK_rt, RcK_ok, RcK_exc, LoK_nx, LoK_ct, LoK_bk, LoK_rt, c_eq, c_ne, c_eqb, c_neb, c_lt, c_gt, c_le, c_ge, c_is, c_isnt, bn_f, bn_t, b_add, b_sub, a_add, a_sub, t_ii, t_ib, t_it, t_il, t_is, t_bi, t_bb, t_bt, t_bl, t_bs, t_ti, t_tb, t_tt, t_tl, t_ts, t_li, t_lb, t_lt, t_ll, t_ls, t_ni, t_nb, t_nt, t_nl, t_ns, t_si, t_sb, t_st, t_sl, t_ss, n_i, n_b, n_t, n_l, n_s, n_n, i_lenT, i_lenL, i_lenK, i_tupL, i_tupT, i_lstL, i_lstT, i_lstS, i_intI, i_intB, i_abs, i_min2, i_max2, i_all, i_any, i_sum, x_lst, x_tup, at0, at1, at2, at3, q_tup, q_lst, g_nil, g_l0, g_l1, g_l2, g_l3, g_fz, s_l0, s_l1, s_l2, s_l3, qv_i, qv_l, qv_t, qv_s, qv_b, qq_var, qq_int, qq_pl, p_nil, p_ix, st_nm, st_tup, sn_nil, sn_cons, ta_nil, ta_d, ta_io, pb_nil, pb_c, fr_i, fr_b, fr_t, fr_l, fr_s, fr_n, fr_c, fr_k, fr_ol, fr_oc, fz_nil, fz_cons, fz_fz, ou_nil, ou_c, un_l, un_f, un_c, fin_nx, fin_rt, wp_nil, wp_c, tpL, tpT, NwK_ok, NwK_exc, m_t2, m_il, m_it, m_ik, sl_t, sl_l, Option.bind_some, Option.map_some, Option.map, List.any_cons, List.any_nil, Bool.or_self, List.getElem?_cons_zero, List.getElem?_cons_succ, List.set_cons_zero, List.set_cons_succ, List.length_cons, List.length_nil, Nat.reduceAdd, Nat.reduceLT, Nat.lt_add_one, Nat.zero_add, Int.cast_ofNat_Int, Int.reduceLE, Int.reduceLT, Int.reduceEq, Int.reduceNeg, Nat.reduceLeDiff, ↓reduceIte, Option.getD, List.nil_append, List.cons_append, decide_eq_true_eq, decide_true, decide_false, Bool.false_eq_true, Bool.not_true, Bool.not_false, Bool.and_true, Bool.and_false, Bool.true_and, Bool.or_true, Bool.or_false, and_true, true_and, and_false, false_and, not_true, not_false_eq_true, Bool.not_eq_true, decide_eq_false_iff_not]
    · unfold bSame
      simp only [w_bnd, w_ret, w_opt, w_fail, w_ite, w_tb, w_ti, w_rd, w_chk, w_chkL, w_plVal, w_plTop, w_q, w_setM, w_clr, w_setO1, w_modR, w_frz, w_var, w_non, w_bl, w_int, w_str, w_gint, w_bin, w_neg, w_inv, w_not, w_cmp, w_chn, w_isN, w_mem, w_andE, w_orE, w_ife, w_tup, w_lst, w_idx, w_eoN, w_eoS, w_slc, w_lrng1, w_fld, w_pl, w_call, w_new, w_bi, w_biP, w_isi, w_lc, w_dc, w_esN, w_esC, w_etN, w_etS, w_arE, w_arI, w_asN, w_asC, w_iE, w_iR1, w_iR2, w_pN, w_pX, w_pXX, w_pFX, w_pF, w_callF, w_oe, w_ol, w_ocall, w_onew, w_osN, w_osC, w_ssN, w_ssC, w_asg, w_asgL, w_asgO, w_app, w_set, w_fset, w_aug, w_ex, w_retE, w_retN, w_retO, w_if, w_for, w_rse, w_try, w_brk, w_cont, w_pass, w_hret, w_hunl, OptK_s, RdK_bl, RdK_int, RdK_str, RdK_non, RdK_tup, RdK_lst, RdK_dK, RdK_dT, RdK_ins, RdK_fn, RdK_scr, RdK_ol, ChkK_fz, ChkK_l, ChkK_i, ChkK_k, ChkK_t, ValK_int, ValK_bl, ValK_lst, ValK_tup, LstK_l, BlK_b, InK_i, FlK_nx, FlK_ct, FlK_bk, FlK_rt, RcK_ok, RcK_exc, LoK_nx, LoK_ct, LoK_bk, LoK_rt, c_eq, c_ne, c_eqb, c_neb, c_lt, c_gt, c_le, c_ge, c_is, c_isnt, bn_f, bn_t, b_add, b_sub, a_add, a_sub, t_ii, t_ib, t_it, t_il, t_is, t_bi, t_bb, t_bt, t_bl, t_bs, t_ti, t_tb, t_tt, t_tl, t_ts, t_li, t_lb, t_lt, t_ll, t_ls, t_ni, t_nb, t_nt, t_nl, t_ns, t_si, t_sb, t_st, t_sl, t_ss, n_i, n_b, n_t, n_l, n_s, n_n, i_lenT, i_lenL, i_lenK, i_tupL, i_tupT, i_lstL, i_lstT, i_lstS, i_intI, i_intB, i_abs, i_min2, i_max2, i_all, i_any, i_sum, x_lst, x_tup, at0, at1, at2, at3, q_tup, q_lst, g_nil, g_l0, g_l1, g_l2, g_l3, g_fz, s_l0, s_l1, s_l2, s_l3, qv_i, qv_l, qv_t, qv_s, qv_b, qq_var, qq_int, qq_pl, p_nil, p_ix, st_nm, st_tup, sn_nil, sn_cons, ta_nil, ta_d, ta_io, pb_nil, pb_c, fr_i, fr_b, fr_t, fr_l, fr_s, fr_n, fr_c, fr_k, fr_ol, fr_oc, fz_nil, fz_cons, fz_fz, ou_nil, ou_c, un_l, un_f, un_c, fin_nx, fin_rt, wp_nil, wp_c, tpL, tpT, NwK_ok, NwK_exc, m_t2, m_il, m_it, m_ik, sl_t, sl_l, Option.bind_some, Option.map_some, Option.map, List.any_cons, List.any_nil, Bool.or_self, List.getElem?_cons_zero, List.getElem?_cons_succ, List.set_cons_zero, List.set_cons_succ, List.length_cons, List.length_nil, Nat.reduceAdd, Nat.reduceLT, Nat.lt_add_one, Nat.zero_add, Int.cast_ofNat_Int, Int.reduceLE, Int.reduceLT, Int.reduceEq, Int.reduceNeg, Nat.reduceLeDiff, ↓reduceIte, Option.getD, List.nil_append, List.cons_append, decide_eq_true_eq, decide_true, decide_false, Bool.false_eq_true, Bool.not_true, Bool.not_false, Bool.and_true, Bool.and_false, Bool.true_and, Bool.or_true, Bool.or_false, and_true, true_and, and_false, false_and, not_true, not_false_eq_true, Bool.not_eq_true, decide_eq_false_iff_not]
    · unfold bSame
      simp only [w_bnd, w_ret, w_opt, w_fail, w_ite, w_tb, w_ti, w_rd, w_chk, w_chkL, w_plVal, w_plTop, w_q, w_setM, w_clr, w_setO1, w_modR, w_frz, w_var, w_non, w_bl, w_int, w_str, w_gint, w_bin, w_neg, w_inv, w_not, w_cmp, w_chn, w_isN, w_mem, w_andE, w_orE, w_ife, w_tup, w_lst, w_idx, w_eoN, w_eoS, w_slc, w_lrng1, w_fld, w_pl, w_call, w_new, w_bi, w_biP, w_isi, w_lc, w_dc, w_esN, w_esC, w_etN, w_etS, w_arE, w_arI, w_asN, w_asC, w_iE, w_iR1, w_iR2, w_pN, w_pX, w_pXX, w_pFX, w_pF, w_callF, w_oe, w_ol, w_ocall, w_onew, w_osN, w_osC, w_ssN, w_ssC, w_asg, w_asgL, w_asgO, w_app, w_set, w_fset, w_aug, w_ex, w_retE, w_retN, w_retO, w_if, w_for, w_rse, w_try, w_brk, w_cont, w_pass, w_hret, w_hunl, OptK_s, RdK_bl, RdK_int, RdK_str, RdK_non, RdK_tup, RdK_lst, RdK_dK, RdK_dT, RdK_ins, RdK_fn, RdK_scr, RdK_ol, ChkK_fz, ChkK_l, ChkK_i, ChkK_k, ChkK_t, ValK_int, ValK_bl, ValK_lst, ValK_tup, LstK_l, BlK_b, InK_i, FlK_nx, FlK_ct, FlK_bk, FlK_rt, RcK_ok, RcK_exc, LoK_nx, LoK_ct, LoK_bk, LoK_rt, c_eq, c_ne, c_eqb, c_neb, c_lt, c_gt, c_le, c_ge, c_is, c_isnt, bn_f, bn_t, b_add, b_sub, a_add, a_sub, t_ii, t_ib, t_it, t_il, t_is, t_bi, t_bb, t_bt, t_bl, t_bs, t_ti, t_tb, t_tt, t_tl, t_ts, t_li, t_lb, t_lt, t_ll, t_ls, t_ni, t_nb, t_nt, t_nl, t_ns, t_si, t_sb, t_st, t_sl, t_ss, n_i, n_b, n_t, n_l, n_s, n_n, i_lenT, i_lenL, i_lenK, i_tupL, i_tupT, i_lstL, i_lstT, i_lstS, i_intI, i_intB, i_abs, i_min2, i_max2, i_all, i_any, i_sum, x_lst, x_tup, at0, at1, at2, at3, q_tup, q_lst, g_nil, g_l0, g_l1, g_l2, g_l3, g_fz, s_l0, s_l1, s_l2, s_l3, qv_i, qv_l, qv_t, qv_s, qv_b, qq_var, qq_int, qq_pl, p_nil, p_ix, st_nm, st_tup, sn_nil, sn_cons, ta_nil, ta_d, ta_io, pb_nil, pb_c, fr_i, fr_b, fr_t, fr_l, fr_s, fr_n, fr_c, fr_k, fr_ol, fr_oc, fz_nil, fz_cons, fz_fz, ou_nil, ou_c, un_l, un_f, un_c, fin_nx, fin_rt, wp_nil, wp_c, tpL, tpT, NwK_ok, NwK_exc, m_t2, m_il, m_it, m_ik, sl_t, sl_l, Option.bind_some, Option.map_some, Option.map, List.any_cons, List.any_nil, Bool.or_self, List.getElem?_cons_zero, List.getElem?_cons_succ, List.set_cons_zero, List.set_cons_succ, List.length_cons, List.length_nil, Nat.reduceAdd, Nat.reduceLT, Nat.lt_add_one, Nat.zero_add, Int.cast_ofNat_Int, Int.reduceLE, Int.reduceLT, Int.reduceEq, Int.reduceNeg, Nat.reduceLeDiff, ↓reduceIte, Option.getD, List.nil_append, List.cons_append, decide_eq_true_eq, decide_true, decide_false, Bool.false_eq_true, Bool.not_true, Bool.not_false, Bool.and_true, Bool.and_false, Bool.true_and, Bool.or_true, Bool.or_false, and_true, true_and, and_false, false_and, not_true, not_false_eq_true, Bool.not_eq_true, decide_eq_false_iff_not]
    · unfold bSame
      simp only [w_bnd, w_ret, w_opt, w_fail, w_ite, w_tb, w_ti, w_rd, w_chk, w_chkL, w_plVal, w_plTop, w_q, w_setM, w_clr, w_setO1, w_modR, w_frz, w_var, w_non, w_bl, w_int, w_str, w_gint, w_bin, w_neg, w_inv, w_not, w_cmp, w_chn, w_isN, w_mem, w_andE, w_orE, w_ife, w_tup, w_lst, w_idx, w_eoN, w_eoS, w_slc, w_lrng1, w_fld, w_pl, w_call, w_new, w_bi, w_biP, w_isi, w_lc, w_dc, w_esN, w_esC, w_etN, w_etS, w_arE, w_arI, w_asN, w_asC, w_iE, w_iR1, w_iR2, w_pN, w_pX, w_pXX, w_pFX, w_pF, w_callF, w_oe, w_ol, w_ocall, w_onew, w_osN, w_osC, w_ssN, w_ssC, w_asg, w_asgL, w_asgO, w_app, w_set, w_fset, w_aug, w_ex, w_retE, w_retN, w_retO, w_if, w_for, w_rse, w_try, w_brk, w_cont, w_pass, w_hret, w_hunl, OptK_s, RdK_bl, RdK_int, RdK_str, RdK_non, RdK_tup, RdK_lst, RdK_dK, RdK_dT, RdK_ins, RdK_fn, RdK_scr, RdK_ol, ChkK_fz, ChkK_l, ChkK_i, ChkK_k, ChkK_t, ValK_int, ValK_bl, ValK_lst, ValK_tup, LstK_l, BlK_b, InK_i, FlK_nx, FlK_ct, FlK_bk, FlK_rt, RcK_ok, RcK_exc, LoK_nx, LoK_ct, LoK_bk, LoK_rt, c_eq, c_ne, c_eqb, c_neb, c_lt, c_gt, c_le, c_ge, c_is, c_isnt, bn_f, bn_t, b_add, b_sub, a_add, a_sub, t_ii, t_ib, t_it, t_il, t_is, t_bi, t_bb, t_bt, t_bl, t_bs, t_ti, t_tb, t_tt, t_tl, t_ts, t_li, t_lb, t_lt, t_ll, t_ls, t_ni, t_nb, t_nt, t_nl, t_ns, t_si, t_sb, t_st, t_sl, t_ss, n_i, n_b, n_t, n_l, n_s, n_n, i_lenT, i_lenL, i_lenK, i_tupL, i_tupT, i_lstL, i_lstT, i_lstS, i_intI, i_intB, i_abs, i_min2, i_max2, i_all, i_any, i_sum, x_lst, x_tup, at0, at1, at2, at3, q_tup, q_lst, g_nil, g_l0, g_l1, g_l2, g_l3, g_fz, s_l0, s_l1, s_l2, s_l3, qv_i, qv_l, qv_t, qv_s, qv_b, qq_var, qq_int, qq_pl, p_nil, p_ix, st_nm, st_tup, sn_nil, sn_cons, ta_nil, ta_d, ta_io, pb_nil, pb_c, fr_i, fr_b, fr_t, fr_l, fr_s, fr_n, fr_c, fr_k, fr_ol, fr_oc, fz_nil, fz_cons, fz_fz, ou_nil, ou_c, un_l, un_f, un_c, fin_nx, fin_rt, wp_nil, wp_c, tpL, tpT, NwK_ok, NwK_exc, m_t2, m_il, m_it, m_ik, sl_t, sl_l, Option.bind_some, Option.map_some, Option.map, List.any_cons, List.any_nil, Bool.or_self, List.getElem?_cons_zero, List.getElem?_cons_succ, List.set_cons_zero, List.set_cons_succ, List.length_cons, List.length_nil, Nat.reduceAdd, Nat.reduceLT, Nat.lt_add_one, Nat.zero_add, Int.cast_ofNat_Int, Int.reduceLE, Int.reduceLT, Int.reduceEq, Int.reduceNeg, Nat.reduceLeDiff, ↓reduceIte, Option.getD, List.nil_append, List.cons_append, decide_eq_true_eq, decide_true, decide_false, Bool.false_eq_true, Bool.not_true, Bool.not_false, Bool.and_true, Bool.and_false, Bool.true_and, Bool.or_true, Bool.or_false, and_true, true_and, and_false, false_and, not_true, not_false_eq_true, Bool.not_eq_true, decide_eq_false_iff_not, c_eqs hs]
  intro k
  induction k with
  | zero =>
    intro d h
    obtain ⟨b1, b2, b3, b4⟩ := base n
    cases d with
    | non => exact b1
    | bl b => exact b2 b
    | int b => exact b3 b
    | str s => exact b4 s h
    | _ => cases h
  | succ k ih =>
    intro d h
    obtain ⟨b1, b2, b3, b4⟩ := base (n + (k + 1))
    have call : ∀ (xs : List D), (∀ x ∈ xs, okS k x) → ∀ i, i ∈ List.range xs.length → ∃ x, xs[i]? = some x ∧ run P (n + k + 1) g [.fz x, .fz x] = .ok (.fz (.bl true)) [] := by
      intro xs h2 i hi
      have hl : i < xs.length := List.mem_range.mp hi
      exact ⟨xs[i], List.getElem?_eq_getElem hl, ih _ (h2 xs[i] (List.getElem_mem hl))⟩
    have none_ : ∀ m : Nat, (List.range m).filter (fun _ => false) = [] := fun m => by simp
    cases d with
    | non => exact b1
    | bl b => exact b2 b
    | int b => exact b3 b
    | str s => exact b4 s h
    | tup xs =>
      obtain ⟨h1, h2⟩ := h
      have h2' := call xs h2
      refine start _ _ ?_
      unfold bSame
      simp only [w_bnd, w_ret, w_opt, w_fail, w_ite, w_tb, w_ti, w_rd, w_chk, w_chkL, w_plVal, w_plTop, w_q, w_setM, w_clr, w_setO1, w_modR, w_frz, w_var, w_non, w_bl, w_int, w_str, w_gint, w_bin, w_neg, w_inv, w_not, w_cmp, w_chn, w_isN, w_mem, w_andE, w_orE, w_ife, w_tup, w_lst, w_idx, w_eoN, w_eoS, w_slc, w_lrng1, w_fld, w_pl, w_call, w_new, w_bi, w_biP, w_isi, w_lc, w_dc, w_esN, w_esC, w_etN, w_etS, w_arE, w_arI, w_asN, w_asC, w_iE, w_iR1, w_iR2, w_pN, w_pX, w_pXX, w_pFX, w_pF, w_callF, w_oe, w_ol, w_ocall, w_onew, w_osN, w_osC, w_ssN, w_ssC, w_asg, w_asgL, w_asgO, w_app, w_set, w_fset, w_aug, w_ex, w_retE, w_retN, w_retO, w_if, w_for, w_rse, w_try, w_brk, w_cont, w_pass, w_hret, w_hunl, OptK_s, RdK_bl, RdK_int, RdK_str, RdK_non, RdK_tup, RdK_lst, RdK_dK, RdK_dT, RdK_ins, RdK_fn, RdK_scr, RdK_ol, ChkK_fz, ChkK_l, ChkK_i, ChkK_k, ChkK_t, ValK_int, ValK_bl, ValK_lst, ValK_tup, LstK_l, BlK_b, InK_i, FlK_nx, FlK_ct, FlK_bk, FlK_rt, RcK_ok, RcK_exc, LoK_nx, LoK_ct, LoK_bk, LoK_rt, c_eq, c_ne, c_eqb, c_neb, c_lt, c_gt, c_le, c_ge, c_is, c_isnt, bn_f, bn_t, b_add, b_sub, a_add, a_sub, t_ii, t_ib, t_it, t_il, t_is, t_bi, t_bb, t_bt, t_bl, t_bs, t_ti, t_tb, t_tt, t_tl, t_ts, t_li, t_lb, t_lt, t_ll, t_ls, t_ni, t_nb, t_nt, t_nl, t_ns, t_si, t_sb, t_st, t_sl, t_ss, n_i, n_b, n_t, n_l, n_s, n_n, i_lenT, i_lenL, i_lenK, i_tupL, i_tupT, i_lstL, i_lstT, i_lstS, i_intI, i_intB, i_abs, i_min2, i_max2, i_all, i_any, i_sum, x_lst, x_tup, at0, at1, at2, at3, q_tup, q_lst, g_nil, g_l0, g_l1, g_l2, g_l3, g_fz, s_l0, s_l1, s_l2, s_l3, qv_i, qv_l, qv_t, qv_s, qv_b, qq_var, qq_int, qq_pl, p_nil, p_ix, st_nm, st_tup, sn_nil, sn_cons, ta_nil, ta_d, ta_io, pb_nil, pb_c, fr_i, fr_b, fr_t, fr_l, fr_s, fr_n, fr_c, fr_k, fr_ol, fr_oc, fz_nil, fz_cons, fz_fz, ou_nil, ou_c, un_l, un_f, un_c, fin_nx, fin_rt, wp_nil, wp_c, tpL, tpT, NwK_ok, NwK_exc, m_t2, m_il, m_it, m_ik, sl_t, sl_l, Option.bind_some, Option.map_some, Option.map, List.any_cons, List.any_nil, Bool.or_self, List.getElem?_cons_zero, List.getElem?_cons_succ, List.set_cons_zero, List.set_cons_succ, List.length_cons, List.length_nil, Nat.reduceAdd, Nat.reduceLT, Nat.lt_add_one, Nat.zero_add, Int.cast_ofNat_Int, Int.reduceLE, Int.reduceLT, Int.reduceEq, Int.reduceNeg, Nat.reduceLeDiff, ↓reduceIte, Option.getD, List.nil_append, List.cons_append, decide_eq_true_eq, decide_true, decide_false, Bool.false_eq_true, Bool.not_true, Bool.not_false, Bool.and_true, Bool.and_false, Bool.true_and, Bool.or_true, Bool.or_false, and_true, true_and, and_false, false_and, not_true, not_false_eq_true, Bool.not_eq_true, decide_eq_false_iff_not, rg_ok (n := (xs.length : Int)) (by omega) (by omega), Int.toNat_natCast]
      refine w_lcF (fun _ => false) (fun y : Nat => D.int y) rfl rfl (fun i hi => ?_) ?_
      · obtain ⟨x, hx, hr⟩ := h2' i hi
        simp only [w_bnd, w_ret, w_opt, w_fail, w_ite, w_tb, w_ti, w_rd, w_chk, w_chkL, w_plVal, w_plTop, w_q, w_setM, w_clr, w_setO1, w_modR, w_frz, w_var, w_non, w_bl, w_int, w_str, w_gint, w_bin, w_neg, w_inv, w_not, w_cmp, w_chn, w_isN, w_mem, w_andE, w_orE, w_ife, w_tup, w_lst, w_idx, w_eoN, w_eoS, w_slc, w_lrng1, w_fld, w_pl, w_call, w_new, w_bi, w_biP, w_isi, w_lc, w_dc, w_esN, w_esC, w_etN, w_etS, w_arE, w_arI, w_asN, w_asC, w_iE, w_iR1, w_iR2, w_pN, w_pX, w_pXX, w_pFX, w_pF, w_callF, w_oe, w_ol, w_ocall, w_onew, w_osN, w_osC, w_ssN, w_ssC, w_asg, w_asgL, w_asgO, w_app, w_set, w_fset, w_aug, w_ex, w_retE, w_retN, w_retO, w_if, w_for, w_rse, w_try, w_brk, w_cont, w_pass, w_hret, w_hunl, OptK_s, RdK_bl, RdK_int, RdK_str, RdK_non, RdK_tup, RdK_lst, RdK_dK, RdK_dT, RdK_ins, RdK_fn, RdK_scr, RdK_ol, ChkK_fz, ChkK_l, ChkK_i, ChkK_k, ChkK_t, ValK_int, ValK_bl, ValK_lst, ValK_tup, LstK_l, BlK_b, InK_i, FlK_nx, FlK_ct, FlK_bk, FlK_rt, RcK_ok, RcK_exc, LoK_nx, LoK_ct, LoK_bk, LoK_rt, c_eq, c_ne, c_eqb, c_neb, c_lt, c_gt, c_le, c_ge, c_is, c_isnt, bn_f, bn_t, b_add, b_sub, a_add, a_sub, t_ii, t_ib, t_it, t_il, t_is, t_bi, t_bb, t_bt, t_bl, t_bs, t_ti, t_tb, t_tt, t_tl, t_ts, t_li, t_lb, t_lt, t_ll, t_ls, t_ni, t_nb, t_nt, t_nl, t_ns, t_si, t_sb, t_st, t_sl, t_ss, n_i, n_b, n_t, n_l, n_s, n_n, i_lenT, i_lenL, i_lenK, i_tupL, i_tupT, i_lstL, i_lstT, i_lstS, i_intI, i_intB, i_abs, i_min2, i_max2, i_all, i_any, i_sum, x_lst, x_tup, at0, at1, at2, at3, q_tup, q_lst, g_nil, g_l0, g_l1, g_l2, g_l3, g_fz, s_l0, s_l1, s_l2, s_l3, qv_i, qv_l, qv_t, qv_s, qv_b, qq_var, qq_int, qq_pl, p_nil, p_ix, st_nm, st_tup, sn_nil, sn_cons, ta_nil, ta_d, ta_io, pb_nil, pb_c, fr_i, fr_b, fr_t, fr_l, fr_s, fr_n, fr_c, fr_k, fr_ol, fr_oc, fz_nil, fz_cons, fz_fz, ou_nil, ou_c, un_l, un_f, un_c, fin_nx, fin_rt, wp_nil, wp_c, tpL, tpT, NwK_ok, NwK_exc, m_t2, m_il, m_it, m_ik, sl_t, sl_l, Option.bind_some, Option.map_some, Option.map, List.any_cons, List.any_nil, Bool.or_self, List.getElem?_cons_zero, List.getElem?_cons_succ, List.set_cons_zero, List.set_cons_succ, List.length_cons, List.length_nil, Nat.reduceAdd, Nat.reduceLT, Nat.lt_add_one, Nat.zero_add, Int.cast_ofNat_Int, Int.reduceLE, Int.reduceLT, Int.reduceEq, Int.reduceNeg, Nat.reduceLeDiff, ↓reduceIte, Option.getD, List.nil_append, List.cons_append, decide_eq_true_eq, decide_true, decide_false, Bool.false_eq_true, Bool.not_true, Bool.not_false, Bool.and_true, Bool.and_false, Bool.true_and, Bool.or_true, Bool.or_false, and_true, true_and, and_false, false_and, not_true, not_false_eq_true, Bool.not_eq_true, decide_eq_false_iff_not, at_nat hx, show n + (k + 1) = n + k + 1 from rfl, hr]
        rfl
      · simp only [w_bnd, w_ret, w_opt, w_fail, w_ite, w_tb, w_ti, w_rd, w_chk, w_chkL, w_plVal, w_plTop, w_q, w_setM, w_clr, w_setO1, w_modR, w_frz, w_var, w_non, w_bl, w_int, w_str, w_gint, w_bin, w_neg, w_inv, w_not, w_cmp, w_chn, w_isN, w_mem, w_andE, w_orE, w_ife, w_tup, w_lst, w_idx, w_eoN, w_eoS, w_slc, w_lrng1, w_fld, w_pl, w_call, w_new, w_bi, w_biP, w_isi, w_lc, w_dc, w_esN, w_esC, w_etN, w_etS, w_arE, w_arI, w_asN, w_asC, w_iE, w_iR1, w_iR2, w_pN, w_pX, w_pXX, w_pFX, w_pF, w_callF, w_oe, w_ol, w_ocall, w_onew, w_osN, w_osC, w_ssN, w_ssC, w_asg, w_asgL, w_asgO, w_app, w_set, w_fset, w_aug, w_ex, w_retE, w_retN, w_retO, w_if, w_for, w_rse, w_try, w_brk, w_cont, w_pass, w_hret, w_hunl, OptK_s, RdK_bl, RdK_int, RdK_str, RdK_non, RdK_tup, RdK_lst, RdK_dK, RdK_dT, RdK_ins, RdK_fn, RdK_scr, RdK_ol, ChkK_fz, ChkK_l, ChkK_i, ChkK_k, ChkK_t, ValK_int, ValK_bl, ValK_lst, ValK_tup, LstK_l, BlK_b, InK_i, FlK_nx, FlK_ct, FlK_bk, FlK_rt, RcK_ok, RcK_exc, LoK_nx, LoK_ct, LoK_bk, LoK_rt, c_eq, c_ne, c_eqb, c_neb, c_lt, c_gt, c_le, c_ge, c_is, c_isnt, bn_f, bn_t, b_add, b_sub, a_add, a_sub, t_ii, t_ib, t_it, t_il, t_is, t_bi, t_bb, t_bt, t_bl, t_bs, t_ti, t_tb, t_tt, t_tl, t_ts, t_li, t_lb, t_lt, t_ll, t_ls, t_ni, t_nb, t_nt, t_nl, t_ns, t_si, t_sb, t_st, t_sl, t_ss, n_i, n_b, n_t, n_l, n_s, n_n, i_lenT, i_lenL, i_lenK, i_tupL, i_tupT, i_lstL, i_lstT, i_lstS, i_intI, i_intB, i_abs, i_min2, i_max2, i_all, i_any, i_sum, x_lst, x_tup, at0, at1, at2, at3, q_tup, q_lst, g_nil, g_l0, g_l1, g_l2, g_l3, g_fz, s_l0, s_l1, s_l2, s_l3, qv_i, qv_l, qv_t, qv_s, qv_b, qq_var, qq_int, qq_pl, p_nil, p_ix, st_nm, st_tup, sn_nil, sn_cons, ta_nil, ta_d, ta_io, pb_nil, pb_c, fr_i, fr_b, fr_t, fr_l, fr_s, fr_n, fr_c, fr_k, fr_ol, fr_oc, fz_nil, fz_cons, fz_fz, ou_nil, ou_c, un_l, un_f, un_c, fin_nx, fin_rt, wp_nil, wp_c, tpL, tpT, NwK_ok, NwK_exc, m_t2, m_il, m_it, m_ik, sl_t, sl_l, Option.bind_some, Option.map_some, Option.map, List.any_cons, List.any_nil, Bool.or_self, List.getElem?_cons_zero, List.getElem?_cons_succ, List.set_cons_zero, List.set_cons_succ, List.length_cons, List.length_nil, Nat.reduceAdd, Nat.reduceLT, Nat.lt_add_one, Nat.zero_add, Int.cast_ofNat_Int, Int.reduceLE, Int.reduceLT, Int.reduceEq, Int.reduceNeg, Nat.reduceLeDiff, ↓reduceIte, Option.getD, List.nil_append, List.cons_append, decide_eq_true_eq, decide_true, decide_false, Bool.false_eq_true, Bool.not_true, Bool.not_false, Bool.and_true, Bool.and_false, Bool.true_and, Bool.or_true, Bool.or_false, and_true, true_and, and_false, false_and, not_true, not_false_eq_true, Bool.not_eq_true, decide_eq_false_iff_not, none_, List.map_nil]
        try simp
    | lst xs =>
      obtain ⟨h1, h2⟩ := h
      have h2' := call xs h2
      refine start _ _ ?_
      unfold bSame
      simp only [w_bnd, w_ret, w_opt, w_fail, w_ite, w_tb, w_ti, w_rd, w_chk, w_chkL, w_plVal, w_plTop, w_q, w_setM, w_clr, w_setO1, w_modR, w_frz, w_var, w_non, w_bl, w_int, w_str, w_gint, w_bin, w_neg, w_inv, w_not, w_cmp, w_chn, w_isN, w_mem, w_andE, w_orE, w_ife, w_tup, w_lst, w_idx, w_eoN, w_eoS, w_slc, w_lrng1, w_fld, w_pl, w_call, w_new, w_bi, w_biP, w_isi, w_lc, w_dc, w_esN, w_esC, w_etN, w_etS, w_arE, w_arI, w_asN, w_asC, w_iE, w_iR1, w_iR2, w_pN, w_pX, w_pXX, w_pFX, w_pF, w_callF, w_oe, w_ol, w_ocall, w_onew, w_osN, w_osC, w_ssN, w_ssC, w_asg, w_asgL, w_asgO, w_app, w_set, w_fset, w_aug, w_ex, w_retE, w_retN, w_retO, w_if, w_for, w_rse, w_try, w_brk, w_cont, w_pass, w_hret, w_hunl, OptK_s, RdK_bl, RdK_int, RdK_str, RdK_non, RdK_tup, RdK_lst, RdK_dK, RdK_dT, RdK_ins, RdK_fn, RdK_scr, RdK_ol, ChkK_fz, ChkK_l, ChkK_i, ChkK_k, ChkK_t, ValK_int, ValK_bl, ValK_lst, ValK_tup, LstK_l, BlK_b, InK_i, FlK_nx, FlK_ct, FlK_bk, FlK_rt, RcK_ok, RcK_exc, LoK_nx, LoK_ct, LoK_bk, LoK_rt, c_eq, c_ne, c_eqb, c_neb, c_lt, c_gt, c_le, c_ge, c_is, c_isnt, bn_f, bn_t, b_add, b_sub, a_add, a_sub, t_ii, t_ib, t_it, t_il, t_is, t_bi, t_bb, t_bt, t_bl, t_bs, t_ti, t_tb, t_tt, t_tl, t_ts, t_li, t_lb, t_lt, t_ll, t_ls, t_ni, t_nb, t_nt, t_nl, t_ns, t_si, t_sb, t_st, t_sl, t_ss, n_i, n_b, n_t, n_l, n_s, n_n, i_lenT, i_lenL, i_lenK, i_tupL, i_tupT, i_lstL, i_lstT, i_lstS, i_intI, i_intB, i_abs, i_min2, i_max2, i_all, i_any, i_sum, x_lst, x_tup, at0, at1, at2, at3, q_tup, q_lst, g_nil, g_l0, g_l1, g_l2, g_l3, g_fz, s_l0, s_l1, s_l2, s_l3, qv_i, qv_l, qv_t, qv_s, qv_b, qq_var, qq_int, qq_pl, p_nil, p_ix, st_nm, st_tup, sn_nil, sn_cons, ta_nil, ta_d, ta_io, pb_nil, pb_c, fr_i, fr_b, fr_t, fr_l, fr_s, fr_n, fr_c, fr_k, fr_ol, fr_oc, fz_nil, fz_cons, fz_fz, ou_nil, ou_c, un_l, un_f, un_c, fin_nx, fin_rt, wp_nil, wp_c, tpL, tpT, NwK_ok, NwK_exc, m_t2, m_il, m_it, m_ik, sl_t, sl_l, Option.bind_some, Option.map_some, Option.map, List.any_cons, List.any_nil, Bool.or_self, List.getElem?_cons_zero, List.getElem?_cons_succ, List.set_cons_zero, List.set_cons_succ, List.length_cons, List.length_nil, Nat.reduceAdd, Nat.reduceLT, Nat.lt_add_one, Nat.zero_add, Int.cast_ofNat_Int, Int.reduceLE, Int.reduceLT, Int.reduceEq, Int.reduceNeg, Nat.reduceLeDiff, ↓reduceIte, Option.getD, List.nil_append, List.cons_append, decide_eq_true_eq, decide_true, decide_false, Bool.false_eq_true, Bool.not_true, Bool.not_false, Bool.and_true, Bool.and_false, Bool.true_and, Bool.or_true, Bool.or_false, and_true, true_and, and_false, false_and, not_true, not_false_eq_true, Bool.not_eq_true, decide_eq_false_iff_not, rg_ok (n := (xs.length : Int)) (by omega) (by omega), Int.toNat_natCast]
      refine w_lcF (fun _ => false) (fun y : Nat => D.int y) rfl rfl (fun i hi => ?_) ?_
      · obtain ⟨x, hx, hr⟩ := h2' i hi
        simp only [w_bnd, w_ret, w_opt, w_fail, w_ite, w_tb, w_ti, w_rd, w_chk, w_chkL, w_plVal, w_plTop, w_q, w_setM, w_clr, w_setO1, w_modR, w_frz, w_var, w_non, w_bl, w_int, w_str, w_gint, w_bin, w_neg, w_inv, w_not, w_cmp, w_chn, w_isN, w_mem, w_andE, w_orE, w_ife, w_tup, w_lst, w_idx, w_eoN, w_eoS, w_slc, w_lrng1, w_fld, w_pl, w_call, w_new, w_bi, w_biP, w_isi, w_lc, w_dc, w_esN, w_esC, w_etN, w_etS, w_arE, w_arI, w_asN, w_asC, w_iE, w_iR1, w_iR2, w_pN, w_pX, w_pXX, w_pFX, w_pF, w_callF, w_oe, w_ol, w_ocall, w_onew, w_osN, w_osC, w_ssN, w_ssC, w_asg, w_asgL, w_asgO, w_app, w_set, w_fset, w_aug, w_ex, w_retE, w_retN, w_retO, w_if, w_for, w_rse, w_try, w_brk, w_cont, w_pass, w_hret, w_hunl, OptK_s, RdK_bl, RdK_int, RdK_str, RdK_non, RdK_tup, RdK_lst, RdK_dK, RdK_dT, RdK_ins, RdK_fn, RdK_scr, RdK_ol, ChkK_fz, ChkK_l, ChkK_i, ChkK_k, ChkK_t, ValK_int, ValK_bl, ValK_lst, ValK_tup, LstK_l, BlK_b, InK_i, FlK_nx, FlK_ct, FlK_bk, FlK_rt, RcK_ok, RcK_exc, LoK_nx, LoK_ct, LoK_bk, LoK_rt, c_eq, c_ne, c_eqb, c_neb, c_lt, c_gt, c_le, c_ge, c_is, c_isnt, bn_f, bn_t, b_add, b_sub, a_add, a_sub, t_ii, t_ib, t_it, t_il, t_is, t_bi, t_bb, t_bt, t_bl, t_bs, t_ti, t_tb, t_tt, t_tl, t_ts, t_li, t_lb, t_lt, t_ll, t_ls, t_ni, t_nb, t_nt, t_nl, t_ns, t_si, t_sb, t_st, t_sl, t_ss, n_i, n_b, n_t, n_l, n_s, n_n, i_lenT, i_lenL, i_lenK, i_tupL, i_tupT, i_lstL, i_lstT, i_lstS, i_intI, i_intB, i_abs, i_min2, i_max2, i_all, i_any, i_sum, x_lst, x_tup, at0, at1, at2, at3, q_tup, q_lst, g_nil, g_l0, g_l1, g_l2, g_l3, g_fz, s_l0, s_l1, s_l2, s_l3, qv_i, qv_l, qv_t, qv_s, qv_b, qq_var, qq_int, qq_pl, p_nil, p_ix, st_nm, st_tup, sn_nil, sn_cons, ta_nil, ta_d, ta_io, pb_nil, pb_c, fr_i, fr_b, fr_t, fr_l, fr_s, fr_n, fr_c, fr_k, fr_ol, fr_oc, fz_nil, fz_cons, fz_fz, ou_nil, ou_c, un_l, un_f, un_c, fin_nx, fin_rt, wp_nil, wp_c, tpL, tpT, NwK_ok, NwK_exc, m_t2, m_il, m_it, m_ik, sl_t, sl_l, Option.bind_some, Option.map_some, Option.map, List.any_cons, List.any_nil, Bool.or_self, List.getElem?_cons_zero, List.getElem?_cons_succ, List.set_cons_zero, List.set_cons_succ, List.length_cons, List.length_nil, Nat.reduceAdd, Nat.reduceLT, Nat.lt_add_one, Nat.zero_add, Int.cast_ofNat_Int, Int.reduceLE, Int.reduceLT, Int.reduceEq, Int.reduceNeg, Nat.reduceLeDiff, ↓reduceIte, Option.getD, List.nil_append, List.cons_append, decide_eq_true_eq, decide_true, decide_false, Bool.false_eq_true, Bool.not_true, Bool.not_false, Bool.and_true, Bool.and_false, Bool.true_and, Bool.or_true, Bool.or_false, and_true, true_and, and_false, false_and, not_true, not_false_eq_true, Bool.not_eq_true, decide_eq_false_iff_not, at_nat hx, show n + (k + 1) = n + k + 1 from rfl, hr]
        rfl
      · simp only [w_bnd, w_ret, w_opt, w_fail, w_ite, w_tb, w_ti, w_rd, w_chk, w_chkL, w_plVal, w_plTop, w_q, w_setM, w_clr, w_setO1, w_modR, w_frz, w_var, w_non, w_bl, w_int, w_str, w_gint, w_bin, w_neg, w_inv, w_not, w_cmp, w_chn, w_isN, w_mem, w_andE, w_orE, w_ife, w_tup, w_lst, w_idx, w_eoN, w_eoS, w_slc, w_lrng1, w_fld, w_pl, w_call, w_new, w_bi, w_biP, w_isi, w_lc, w_dc, w_esN, w_esC, w_etN, w_etS, w_arE, w_arI, w_asN, w_asC, w_iE, w_iR1, w_iR2, w_pN, w_pX, w_pXX, w_pFX, w_pF, w_callF, w_oe, w_ol, w_ocall, w_onew, w_osN, w_osC, w_ssN, w_ssC, w_asg, w_asgL, w_asgO, w_app, w_set, w_fset, w_aug, w_ex, w_retE, w_retN, w_retO, w_if, w_for, w_rse, w_try, w_brk, w_cont, w_pass, w_hret, w_hunl, OptK_s, RdK_bl, RdK_int, RdK_str, RdK_non, RdK_tup, RdK_lst, RdK_dK, RdK_dT, RdK_ins, RdK_fn, RdK_scr, RdK_ol, ChkK_fz, ChkK_l, ChkK_i, ChkK_k, ChkK_t, ValK_int, ValK_bl, ValK_lst, ValK_tup, LstK_l, BlK_b, InK_i, FlK_nx, FlK_ct, FlK_bk, FlK_rt, RcK_ok, RcK_exc, LoK_nx, LoK_ct, LoK_bk, LoK_rt, c_eq, c_ne, c_eqb, c_neb, c_lt, c_gt, c_le, c_ge, c_is, c_isnt, bn_f, bn_t, b_add, b_sub, a_add, a_sub, t_ii, t_ib, t_it, t_il, t_is, t_bi, t_bb, t_bt, t_bl, t_bs, t_ti, t_tb, t_tt, t_tl, t_ts, t_li, t_lb, t_lt, t_ll, t_ls, t_ni, t_nb, t_nt, t_nl, t_ns, t_si, t_sb, t_st, t_sl, t_ss, n_i, n_b, n_t, n_l, n_s, n_n, i_lenT, i_lenL, i_lenK, i_tupL, i_tupT, i_lstL, i_lstT, i_lstS, i_intI, i_intB, i_abs, i_min2, i_max2, i_all, i_any, i_sum, x_lst, x_tup, at0, at1, at2, at3, q_tup, q_lst, g_nil, g_l0, g_l1, g_l2, g_l3, g_fz, s_l0, s_l1, s_l2, s_l3, qv_i, qv_l, qv_t, qv_s, qv_b, qq_var, qq_int, qq_pl, p_nil, p_ix, st_nm, st_tup, sn_nil, sn_cons, ta_nil, ta_d, ta_io, pb_nil, pb_c, fr_i, fr_b, fr_t, fr_l, fr_s, fr_n, fr_c, fr_k, fr_ol, fr_oc, fz_nil, fz_cons, fz_fz, ou_nil, ou_c, un_l, un_f, un_c, fin_nx, fin_rt, wp_nil, wp_c, tpL, tpT, NwK_ok, NwK_exc, m_t2, m_il, m_it, m_ik, sl_t, sl_l, Option.bind_some, Option.map_some, Option.map, List.any_cons, List.any_nil, Bool.or_self, List.getElem?_cons_zero, List.getElem?_cons_succ, List.set_cons_zero, List.set_cons_succ, List.length_cons, List.length_nil, Nat.reduceAdd, Nat.reduceLT, Nat.lt_add_one, Nat.zero_add, Int.cast_ofNat_Int, Int.reduceLE, Int.reduceLT, Int.reduceEq, Int.reduceNeg, Nat.reduceLeDiff, ↓reduceIte, Option.getD, List.nil_append, List.cons_append, decide_eq_true_eq, decide_true, decide_false, Bool.false_eq_true, Bool.not_true, Bool.not_false, Bool.and_true, Bool.and_false, Bool.true_and, Bool.or_true, Bool.or_false, and_true, true_and, and_false, false_and, not_true, not_false_eq_true, Bool.not_eq_true, decide_eq_false_iff_not, none_, List.map_nil]
        try simp
    | _ => cases h
/-! ### ranges -/
def rgI (n : Nat) : List Int := (List.range n).map fun k : Nat => (k : Int)
theorem rgI_len {n : Nat} : (rgI n).length = n := by simp [rgI]
theorem rgI_mem {n : Nat} {x : Int} : x ∈ rgI n ↔ 0 ≤ x ∧ x < n := by
  simp only [rgI, List.mem_map, List.mem_range]
  constructor
  · rintro ⟨k, hk, rfl⟩
    omega
  · intro h
    exact ⟨x.toNat, by omega, by omega⟩
theorem rgI_nodup {n : Nat} : (rgI n).Nodup := by
  unfold rgI
  exact List.Pairwise.map _ (fun a b (h : a ≠ b) => show ((a : Int) ≠ (b : Int)) from fun z => h (by omega)) List.nodup_range
theorem rgI_any {n : Nat} {j : Int} : ((rgI n).any fun x => decide (x = j)) = decide (0 ≤ j ∧ j < n) := by
  rw [Bool.eq_iff_iff, List.any_eq_true, decide_eq_true_iff]
  constructor
  · rintro ⟨x, hx, e⟩
    rw [of_decide_eq_true e] at hx
    exact rgI_mem.mp hx
  · intro h
    exact ⟨j, rgI_mem.mpr h, by simp⟩
theorem rg_i {n : Int} (h : n < 2 ^ 62) (h0 : 0 ≤ n) : rangeO 0 n = some ((rgI n.toNat).map .int) := by
  rw [rg_ok h h0]
  unfold rgI
  rw [List.map_map]
  rfl
theorem lr_i {n : Int} (h : n ≤ 100000) (h0 : 0 ≤ n) {t : Bool} : lrD t 0 n = some (if t = true then .tup ((rgI n.toNat).map .int) else .lst ((rgI n.toNat).map .int)) := by
  have e : rangeD 0 n = (rgI n.toNat).map .int := by
    unfold rangeD rgI
    rw [List.map_map]
    simp
  unfold lrD
  rw [if_pos (by simp; omega), e]
/-- a number small enough for a product -/
theorem big_of {i : Int} (h : -1000000000 ≤ i ∧ i ≤ 1000000000) : big64 i = true := by
  unfold big64
  rw [decide_eq_true_iff]
  omega
theorem mul_r {i j : Int} (h : -1000000000 ≤ j ∧ j ≤ 1000000000) : binD .mul (.int i) (.int j) = some (.int (i * j)) := b_mul (by rw [Bool.or_eq_true]; right; exact big_of h)
end Cw

namespace L35
open PySem PySem.Spec L2 Cr
def b0 : Ss := (.cons (.ret (.and (.isi (.var 0) .int) (.not (.isi (.var 0) .bool)))) .nil)
def d0 : Dfn := { nm := "is_integer", qual := "is_integer", par := 1, names := ["value"], io := [], body := b0 }
def b1 : Ss := (.cons (.ite (.or (.not (.call 0 (.cons (.e (.var 1)) .nil))) (.not (.chn .le .le (.int 1) (.var 1) (.int 24)))) (.cons (.rse 1 (.cons (.str "size") .nil)) .nil) .nil) (.cons (.ite (.or (.not (.isi (.var 2) .tuple)) (.or (.cmp .gt (.bi .len (.cons (.var 2) .nil)) (.gint "MOST_GAMES" 400)) (.not (.bi .all (.cons (.lc (.call 2 (.cons (.e (.var 1)) (.cons (.e (.var 3)) .nil))) (.nm 3) (.e (.var 2)) .none [3]) .nil))))) (.cons (.rse 1 (.cons (.str "games") .nil)) .nil) .nil) (.cons (.mu 0 .nil (.fset "size" (.e (.var 1)))) (.cons (.mu 0 .nil (.fset "games" (.e (.var 2)))) .nil))))
def d1 : Dfn := { nm := "__init__", qual := "Results.__init__", par := 3, names := ["self", "size", "games", "one"], io := [0], body := b1 }
def b2 : Ss := (.cons (.ite (.or (.not (.isi (.var 1) .tuple)) (.or (.cmp .ne (.bi .len (.cons (.var 1) .nil)) (.int 4)) (.not (.bi .all (.cons (.lc (.call 0 (.cons (.e (.var 2)) .nil)) (.nm 2) (.e (.var 1)) .none [2]) .nil))))) (.cons (.ret (.bl false)) .nil) .nil) (.cons (.ite (.or (.not (.bi .all (.cons (.lc (.chn .le .lt (.int 0) (.var 3) (.var 0)) (.nm 3) (.e (.slc (.var 1) .none (.some (.int 2)))) .none [3]) .nil))) (.cmp .eq (.idx (.var 1) (.int 0)) (.idx (.var 1) (.int 1)))) (.cons (.ret (.bl false)) .nil) .nil) (.cons (.ret (.bi .all (.cons (.lc (.chn .le .le (.int 0) (.var 2) (.int 1000)) (.nm 2) (.e (.slc (.var 1) (.some (.int 2)) .none)) .none [2]) .nil))) .nil)))
def d2 : Dfn := { nm := "is_game", qual := "is_game", par := 2, names := ["size", "value", "one", "side"], io := [], body := b2 }
def b3 : Ss := (.cons (.asgO 3 (.lst .nil)) (.cons (.for (.tup [4, 5, 6, 7]) (.e (.fld (.var 0) "games")) (.cons (.ite (.and (.mem false (.var 4) (.var 2)) (.and (.mem false (.var 5) (.var 2)) (.mem false (.var 1) (.tup (.cons (.var 4) (.cons (.var 5) .nil)))))) (.cons (.mu 3 .nil (.app (.e (.ite (.cmp .eq (.var 1) (.var 4)) (.tup (.cons (.bl true) (.cons (.var 6) (.cons (.var 7) .nil)))) (.tup (.cons (.bl false) (.cons (.var 7) (.cons (.var 6) .nil)))))))) .nil) .nil) .nil)) (.cons (.ret (.var 3)) .nil)))
def d3 : Dfn := { nm := "own_games", qual := "own_games", par := 3, names := ["results", "side", "lot", "found", "home", "away", "one", "two"], io := [], body := b3 }
def b4 : Ss := (.cons (.ite (.or (.not (.isi (.var 0) .tuple)) (.or (.cmp .ne (.bi .len (.cons (.var 0) .nil)) (.int 3)) (.not (.bi .all (.cons (.lc (.call 0 (.cons (.e (.var 1)) .nil)) (.nm 1) (.e (.var 0)) .none [1]) .nil))))) (.cons (.rse 1 (.cons (.str "values") .nil)) .nil) .nil) .nil)
def d4 : Dfn := { nm := "look_at_values", qual := "look_at_values", par := 1, names := ["values", "one"], io := [], body := b4 }
def b5 : Ss := (.cons (.asg (.nm 4) (.int 0)) (.cons (.for (.tup [5, 6, 7]) (.e (.call 3 (.cons (.e (.var 0)) (.cons (.e (.var 1)) (.cons (.e (.var 2)) .nil))))) (.cons (.aug 4 .add (.ite (.cmp .gt (.var 6) (.var 7)) (.idx (.var 3) (.int 0)) (.ite (.cmp .eq (.var 6) (.var 7)) (.idx (.var 3) (.int 1)) (.idx (.var 3) (.int 2))))) .nil)) (.cons (.ret (.var 4)) .nil)))
def d5 : Dfn := { nm := "points_in", qual := "points_in", par := 4, names := ["results", "side", "lot", "values", "total", "_", "one", "two"], io := [], body := b5 }
def b6 : Ss := (.cons (.ex (.call 4 (.cons (.e (.var 1)) .nil))) (.cons (.asgL 2 (.dc false (.var 3) (.bl true) (.nm 3) (.rng1 (.fld (.var 0) "size")) .none [3])) (.cons (.ret (.bi .tuple (.cons (.lc (.call 5 (.cons (.e (.var 0)) (.cons (.e (.var 3)) (.cons (.e (.var 2)) (.cons (.e (.var 1)) .nil))))) (.nm 3) (.rng1 (.fld (.var 0) "size")) .none [3]) .nil))) .nil)))
def d6 : Dfn := { nm := "points_of", qual := "points_of", par := 2, names := ["results", "values", "lot", "side"], io := [], body := b6 }
def b7 : Ss := (.cons (.ex (.call 4 (.cons (.e (.var 2)) .nil))) (.cons (.ite (.or (.not (.call 0 (.cons (.e (.var 1)) .nil))) (.not (.chn .le .lt (.int 0) (.var 1) (.fld (.var 0) "size")))) (.cons (.rse 1 (.cons (.str "side") .nil)) .nil) .nil) (.cons (.asg (.nm 3) (.call 3 (.cons (.e (.var 0)) (.cons (.e (.var 1)) (.cons (.e (.dc false (.var 9) (.bl true) (.nm 9) (.rng1 (.fld (.var 0) "size")) .none [9])) .nil))))) (.cons (.asg (.nm 4) (.bi .len (.cons (.lc (.int 1) (.tup [10, 9, 11]) (.e (.var 3)) (.some (.cmp .gt (.var 9) (.var 11))) [10, 9, 11]) .nil))) (.cons (.asg (.nm 5) (.bi .len (.cons (.lc (.int 1) (.tup [10, 9, 11]) (.e (.var 3)) (.some (.cmp .eq (.var 9) (.var 11))) [10, 9, 11]) .nil))) (.cons (.asg (.tup [7, 8]) (.tup (.cons (.bi .sum (.cons (.lc (.var 9) (.tup [10, 9, 10]) (.e (.var 3)) .none [10, 9, 10]) .nil)) (.cons (.bi .sum (.cons (.lc (.var 11) (.tup [10, 10, 11]) (.e (.var 3)) .none [10, 10, 11]) .nil)) .nil)))) (.cons (.asg (.nm 6) (.bin .add (.bin .add (.bin .mul (.var 4) (.idx (.var 2) (.int 0))) (.bin .mul (.var 5) (.idx (.var 2) (.int 1)))) (.bin .mul (.bin .sub (.bin .sub (.bi .len (.cons (.var 3) .nil)) (.var 4)) (.var 5)) (.idx (.var 2) (.int 2))))) (.cons (.ret (.tup (.cons (.bi .len (.cons (.var 3) .nil)) (.cons (.var 4) (.cons (.var 5) (.cons (.bin .sub (.bin .sub (.bi .len (.cons (.var 3) .nil)) (.var 4)) (.var 5)) (.cons (.var 7) (.cons (.var 8) (.cons (.var 6) .nil))))))))) .nil))))))))
def d7 : Dfn := { nm := "line_of", qual := "line_of", par := 3, names := ["results", "side", "values", "games", "won", "drawn", "points", "scored", "against", "one", "_", "two"], io := [], body := b7 }
def b8 : Ss := (.cons (.ret (.new 0 (.cons (.e (.fld (.var 0) "size")) (.cons (.e (.bin .add (.slc (.fld (.var 0) "games") .none (.some (.var 1))) (.slc (.fld (.var 0) "games") (.some (.bin .add (.var 1) (.int 1))) .none))) .nil)))) .nil)
def d8 : Dfn := { nm := "without", qual := "without", par := 2, names := ["results", "at"], io := [], body := b8 }
def b9 : Ss := (.cons (.ret (.new 0 (.cons (.e (.fld (.var 0) "size")) (.cons (.e (.bi .tuple (.cons (.lc (.tup (.cons (.var 2) (.cons (.var 1) (.cons (.var 4) (.cons (.var 3) .nil))))) (.tup [1, 2, 3, 4]) (.e (.fld (.var 0) "games")) .none [1, 2, 3, 4]) .nil))) .nil)))) .nil)
def d9 : Dfn := { nm := "swapped_homes", qual := "swapped_homes", par := 1, names := ["results", "home", "away", "one", "two"], io := [], body := b9 }
def b10 : Ss := (.cons (.retO (.lst (.cons (.e (.bi .list (.cons (.var 0) .nil))) (.cons (.e (.int 0)) (.cons (.e (.int 0)) (.cons (.e (.int 1)) .nil)))))) .nil)
def d10 : Dfn := { nm := "_law_draws", qual := "_law_draws", par := 1, names := ["script"], io := [], body := b10 }
def b11 : Ss := (.cons (.ite (.and (.cmp .eq (.pl 0 (.ix .nil (.int 2))) (.int 0)) (.cmp .lt (.pl 0 (.ix .nil (.int 1))) (.biP .len 0 (.ix .nil (.int 0)) .nil))) (.cons (.asg (.nm 2) (.pl 0 (.ix (.ix .nil (.int 0)) (.pl 0 (.ix .nil (.int 1)))))) (.cons (.mu 0 .nil (.set (.int 1) (.e (.bin .add (.pl 0 (.ix .nil (.int 1))) (.int 1))))) (.cons (.ite (.cmp .ge (.var 2) (.bin .pow (.int 10) (.int 18))) (.cons (.mu 0 .nil (.set (.int 2) (.e (.var 2)))) .nil) .nil) (.cons (.mu 0 .nil (.set (.int 3) (.e (.bin .mod (.bi .int (.cons (.bin .add (.bin .add (.bin .mul (.pl 0 (.ix .nil (.int 3))) (.int 48271)) (.var 2)) (.int 13)) .nil)) (.int 2147483647))))) .nil)))) .nil) (.cons (.ite (.cmp .gt (.pl 0 (.ix .nil (.int 2))) (.int 0)) (.cons (.asg (.nm 3) (.bin .mod (.bi .int (.cons (.pl 0 (.ix .nil (.int 2))) .nil)) (.var 1))) (.cons (.mu 0 .nil (.set (.int 2) (.e (.bin .fdiv (.pl 0 (.ix .nil (.int 2))) (.var 1))))) (.cons (.ret (.var 3)) .nil))) .nil) (.cons (.mu 0 .nil (.set (.int 3) (.e (.bin .mod (.bi .int (.cons (.bin .add (.bin .mul (.pl 0 (.ix .nil (.int 3))) (.int 69621)) (.int 7)) .nil)) (.int 2147483629))))) (.cons (.ret (.bin .mod (.bi .int (.cons (.bin .fdiv (.pl 0 (.ix .nil (.int 3))) (.int 11)) .nil)) (.var 1))) .nil))))
def d11 : Dfn := { nm := "_law_draw", qual := "_law_draw", par := 2, names := ["draws", "limit", "cell", "value"], io := [0], body := b11 }
def b12 : Ss := (.cons (.ite (.or (.isi (.var 1) .tuple) (.isi (.var 1) .list)) (.cons (.ite (.or (.cmp .ne (.isi (.var 1) .tuple) (.isi (.var 0) .tuple)) (.cmp .ne (.isi (.var 1) .list) (.isi (.var 0) .list))) (.cons (.ret (.bl false)) .nil) .nil) (.cons (.ite (.cmp .ne (.bi .len (.cons (.var 0) .nil)) (.bi .len (.cons (.var 1) .nil))) (.cons (.ret (.bl false)) .nil) .nil) (.cons (.ret (.cmp .eq (.bi .len (.cons (.lc (.var 2) (.nm 2) (.rng1 (.bi .len (.cons (.var 1) .nil))) (.some (.not (.call 12 (.cons (.e (.idx (.var 0) (.var 2))) (.cons (.e (.idx (.var 1) (.var 2))) .nil))))) [2]) .nil)) (.int 0))) .nil))) .nil) (.cons (.ite (.isi (.var 1) .str) (.cons (.ret (.and (.isi (.var 0) .str) (.cmp .eq (.var 0) (.var 1)))) .nil) .nil) (.cons (.ite (.isN false (.var 1)) (.cons (.ret (.isN false (.var 0))) .nil) .nil) (.cons (.ite (.or (.isi (.var 1) .bool) (.isi (.var 0) .bool)) (.cons (.ret (.and (.isi (.var 1) .bool) (.and (.isi (.var 0) .bool) (.cmp .eq (.var 0) (.var 1))))) .nil) .nil) (.cons (.ret (.and (.isi (.var 0) .int) (.and (.isi (.var 1) .int) (.cmp .eq (.var 0) (.var 1))))) .nil)))))
def d12 : Dfn := { nm := "_law_same", qual := "_law_same", par := 2, names := ["actual", "expected", "k"], io := [], body := b12 }
def b13 : Ss := (.cons (.asgO 2 (.lst .nil)) (.cons (.for (.nm 3) (.rng1 (.ite (.cmp .gt (.var 1) (.int 1)) (.call 11 (.cons (.io 0) (.cons (.e (.int 12)) .nil))) (.int 0))) (.cons (.asg (.nm 4) (.call 11 (.cons (.io 0) (.cons (.e (.var 1)) .nil)))) (.cons (.asg (.nm 5) (.call 11 (.cons (.io 0) (.cons (.e (.bin .sub (.var 1) (.int 1))) .nil)))) (.cons (.mu 2 .nil (.app (.e (.tup (.cons (.var 4) (.cons (.bin .add (.var 5) (.bi .int (.cons (.cmp .ge (.var 5) (.var 4)) .nil))) (.cons (.call 11 (.cons (.io 0) (.cons (.e (.int 4)) .nil))) (.cons (.call 11 (.cons (.io 0) (.cons (.e (.int 4)) .nil))) .nil)))))))) .nil)))) (.cons (.ret (.bi .tuple (.cons (.var 2) .nil))) .nil)))
def d13 : Dfn := { nm := "_law_games", qual := "_law_games", par := 2, names := ["draws", "size", "told", "k", "home", "away"], io := [0], body := b13 }
def b14 : Ss := (.cons (.asg (.nm 3) (.lst .nil)) (.cons (.for (.tup [4, 5, 6, 7]) (.e (.var 0)) (.cons (.ite (.and (.mem false (.var 4) (.var 2)) (.mem false (.var 5) (.var 2))) (.cons (.asg (.nm 3) (.bin .add (.bin .add (.var 3) (.ite (.cmp .eq (.var 1) (.var 4)) (.lst (.cons (.tup (.cons (.bl true) (.cons (.var 6) (.cons (.var 7) .nil)))) .nil)) (.lst .nil))) (.ite (.cmp .eq (.var 1) (.var 5)) (.lst (.cons (.tup (.cons (.bl false) (.cons (.var 7) (.cons (.var 6) .nil)))) .nil)) (.lst .nil)))) .nil) .nil) .nil)) (.cons (.ret (.var 3)) .nil)))
def d14 : Dfn := { nm := "_law_own", qual := "_law_own", par := 3, names := ["games", "side", "lot", "told", "home", "away", "one", "two"], io := [], body := b14 }
def b15 : Ss := (.cons (.try (.cons (.ex (.new 0 (.cons (.e (.var 0)) (.cons (.e (.var 1)) .nil)))) .nil) [1] (.some 2) (.ret (.isE [0, 1]))) (.cons (.ret (.bl false)) .nil))
def d15 : Dfn := { nm := "_law_no", qual := "_law_no", par := 2, names := ["size", "games", "e"], io := [], body := b15 }
def b16 : Ss := (.cons (.asgO 1 (.call 10 (.cons (.e (.var 0)) .nil))) (.cons (.for (.nm 2) (.rng1 (.int 5)) (.cons (.asg (.nm 5) (.bin .add (.int 1) (.call 11 (.cons (.io 1) (.cons (.e (.int 6)) .nil))))) (.cons (.asg (.nm 6) (.call 13 (.cons (.io 1) (.cons (.e (.var 5)) .nil)))) (.cons (.asg (.nm 7) (.new 0 (.cons (.e (.var 5)) (.cons (.e (.var 6)) .nil)))) (.cons (.asg (.nm 8) (.bi .tuple (.cons (.lc (.bin .sub (.call 11 (.cons (.io 1) (.cons (.e (.int 5)) .nil))) (.int 1)) (.nm 20) (.rng1 (.int 3)) .none [20]) .nil))) (.cons (.asgO 9 (.lst .nil)) (.cons (.for (.nm 10) (.rng1 (.var 5)) (.cons (.asg (.nm 13) (.call 14 (.cons (.e (.var 6)) (.cons (.e (.var 10)) (.cons (.e (.lrng1 false (.var 5))) .nil))))) (.cons (.asg (.tup [18, 19]) (.tup (.cons (.bi .len (.cons (.lc (.int 1) (.tup [23, 22, 24]) (.e (.var 13)) (.some (.cmp .gt (.var 22) (.var 24))) [23, 22, 24]) .nil)) (.cons (.bi .len (.cons (.lc (.int 1) (.tup [23, 22, 24]) (.e (.var 13)) (.some (.cmp .eq (.var 22) (.var 24))) [23, 22, 24]) .nil)) .nil)))) (.cons (.asg (.nm 14) (.bin .sub (.bin .sub (.bi .len (.cons (.var 13) .nil)) (.var 18)) (.var 19))) (.cons (.mu 9 .nil (.app (.e (.tup (.cons (.bi .len (.cons (.var 13) .nil)) (.cons (.var 18) (.cons (.var 19) (.cons (.var 14) (.cons (.bi .sum (.cons (.lc (.idx (.var 25) (.int 1)) (.nm 25) (.e (.var 13)) .none [25]) .nil)) (.cons (.bi .sum (.cons (.lc (.idx (.var 25) (.int 2)) (.nm 25) (.e (.var 13)) .none [25]) .nil)) (.cons (.bin .add (.bin .add (.bin .mul (.var 18) (.idx (.var 8) (.int 0))) (.bin .mul (.var 19) (.idx (.var 8) (.int 1)))) (.bin .mul (.var 14) (.idx (.var 8) (.int 2)))) .nil))))))))))) .nil))))) (.cons (.ite (.not (.call 12 (.cons (.e (.lst (.cons (.call 6 (.cons (.e (.var 7)) (.cons (.e (.var 8)) .nil))) (.cons (.lc (.call 7 (.cons (.e (.var 7)) (.cons (.e (.var 10)) (.cons (.e (.var 8)) .nil)))) (.nm 10) (.rng1 (.var 5)) .none [10]) .nil)))) (.cons (.e (.lst (.cons (.bi .tuple (.cons (.lc (.idx (.var 25) (.neg (.int 1))) (.nm 25) (.e (.var 9)) .none [25]) .nil)) (.cons (.var 9) .nil)))) .nil)))) (.cons (.ret (.bl false)) .nil) .nil) (.cons (.asgL 11 (.lc (.var 10) (.nm 10) (.rng1 (.var 5)) (.some (.cmp .eq (.call 11 (.cons (.io 1) (.cons (.e (.int 2)) .nil))) (.int 0))) [10])) (.cons (.for (.nm 10) (.e (.var 11)) (.cons (.asg (.nm 13) (.call 14 (.cons (.e (.var 6)) (.cons (.e (.var 10)) (.cons (.e (.var 11)) .nil))))) (.cons (.asg (.nm 15) (.bi .sum (.cons (.lc (.ite (.cmp .gt (.var 22) (.var 24)) (.idx (.var 8) (.int 0)) (.ite (.cmp .eq (.var 22) (.var 24)) (.idx (.var 8) (.int 1)) (.idx (.var 8) (.int 2)))) (.tup [23, 22, 24]) (.e (.var 13)) .none [23, 22, 24]) .nil))) (.cons (.ite (.not (.call 12 (.cons (.e (.lst (.cons (.call 3 (.cons (.e (.var 7)) (.cons (.e (.var 10)) (.cons (.e (.var 11)) .nil)))) (.cons (.call 3 (.cons (.e (.var 7)) (.cons (.e (.var 10)) (.cons (.e (.bi .tuple (.cons (.var 11) .nil))) .nil)))) (.cons (.call 5 (.cons (.e (.var 7)) (.cons (.e (.var 10)) (.cons (.e (.var 11)) (.cons (.e (.var 8)) .nil))))) .nil))))) (.cons (.e (.lst (.cons (.var 13) (.cons (.var 13) (.cons (.var 15) .nil))))) .nil)))) (.cons (.ret (.bl false)) .nil) .nil) .nil)))) (.cons (.ite (.cmp .gt (.bi .len (.cons (.var 6) .nil)) (.int 0)) (.cons (.asg (.nm 16) (.call 11 (.cons (.io 1) (.cons (.e (.bi .len (.cons (.var 6) .nil))) .nil)))) (.cons (.ite (.not (.call 12 (.cons (.e (.fld (.call 8 (.cons (.e (.var 7)) (.cons (.e (.var 16)) .nil))) "games")) (.cons (.e (.bin .add (.slc (.var 6) .none (.some (.var 16))) (.slc (.var 6) (.some (.bin .add (.var 16) (.int 1))) .none))) .nil)))) (.cons (.ret (.bl false)) .nil) .nil) .nil)) .nil) (.cons (.ite (.not (.call 12 (.cons (.e (.lst (.cons (.fld (.call 9 (.cons (.e (.var 7)) .nil)) "games") (.cons (.fld (.var 7) "size") (.cons (.fld (.var 7) "games") .nil))))) (.cons (.e (.lst (.cons (.bi .tuple (.cons (.lc (.tup (.cons (.var 26) (.cons (.var 23) (.cons (.var 24) (.cons (.var 22) .nil))))) (.tup [23, 26, 22, 24]) (.e (.var 6)) .none [23, 26, 22, 24]) .nil)) (.cons (.var 5) (.cons (.var 6) .nil))))) .nil)))) (.cons (.ret (.bl false)) .nil) .nil) (.cons (.for (.nm 12) (.e (.lst (.cons .non (.cons (.tup (.cons (.int 3) (.cons (.int 1) .nil))) (.cons (.lst (.cons (.int 3) (.cons (.int 1) (.cons (.int 0) .nil)))) (.cons (.tup (.cons (.int 3) (.cons (.int 1) (.cons .non .nil)))) (.cons (.tup (.cons (.bl true) (.cons (.int 1) (.cons (.int 0) .nil)))) .nil))))))) (.cons (.try (.cons (.ex (.call 6 (.cons (.e (.var 7)) (.cons (.e (.var 12)) .nil)))) (.cons (.ret (.bl false)) .nil)) [1] (.some 17) (.unless (.isE [0, 1]) (.bl false))) .nil)) (.cons (.for (.nm 12) (.e (.lst (.cons .non (.cons (.var 5) (.cons (.neg (.int 1)) (.cons (.bl true) .nil)))))) (.cons (.try (.cons (.ex (.call 7 (.cons (.e (.var 7)) (.cons (.e (.var 12)) (.cons (.e (.var 8)) .nil))))) (.cons (.ret (.bl false)) .nil)) [1] (.some 17) (.unless (.isE [0, 1]) (.bl false))) .nil)) .nil)))))))))))))) (.cons (.asg (.nm 3) (.lst (.cons .non (.cons (.tup (.cons (.int 0) (.cons (.int 1) (.cons (.int 1) .nil)))) (.cons (.tup (.cons (.int 0) (.cons (.int 0) (.cons (.int 1) (.cons (.int 1) .nil))))) (.cons (.tup (.cons (.int 0) (.cons (.int 3) (.cons (.int 1) (.cons (.int 1) .nil))))) (.cons (.tup (.cons (.int 0) (.cons (.int 1) (.cons (.neg (.int 1)) (.cons (.int 0) .nil))))) (.cons (.tup (.cons (.int 0) (.cons (.int 1) (.cons (.int 1001) (.cons (.int 0) .nil))))) (.cons (.tup (.cons (.int 0) (.cons (.int 1) (.cons (.bl true) (.cons (.int 0) .nil))))) (.cons (.lst (.cons (.int 0) (.cons (.int 1) (.cons (.int 1) (.cons (.int 1) .nil))))) (.cons (.tup (.cons (.neg (.int 1)) (.cons (.int 0) (.cons (.int 0) (.cons (.int 0) .nil))))) (.cons (.tup (.cons (.int 0) (.cons (.int 1) (.cons (.int 1) (.cons .non .nil))))) .nil)))))))))))) (.cons (.ite (.or (.cmp .gt (.bi .len (.cons (.lc (.var 22) (.nm 22) (.e (.var 3)) (.some (.cmp .isnt (.call 2 (.cons (.e (.int 3)) (.cons (.e (.var 22)) .nil))) (.bl false))) [22]) .nil)) (.int 0)) (.cmp .isnt (.call 2 (.cons (.e (.int 3)) (.cons (.e (.tup (.cons (.int 0) (.cons (.int 2) (.cons (.int 1000) (.cons (.int 0) .nil)))))) .nil))) (.bl true))) (.cons (.ret (.bl false)) .nil) .nil) (.cons (.asg (.nm 4) (.lst (.cons (.tup (.cons (.int 0) (.cons (.tup .nil) .nil))) (.cons (.tup (.cons (.int 25) (.cons (.tup .nil) .nil))) (.cons (.tup (.cons .non (.cons (.tup .nil) .nil))) (.cons (.tup (.cons (.bl true) (.cons (.tup .nil) .nil))) (.cons (.tup (.cons (.int 2) (.cons .non .nil))) (.cons (.tup (.cons (.int 2) (.cons (.lst (.cons (.tup (.cons (.int 0) (.cons (.int 1) (.cons (.int 1) (.cons (.int 1) .nil))))) .nil)) .nil))) (.cons (.tup (.cons (.int 2) (.cons (.tup (.cons (.tup (.cons (.int 0) (.cons (.int 2) (.cons (.int 0) (.cons (.int 0) .nil))))) .nil)) .nil))) (.cons (.tup (.cons (.int 2) (.cons (.bin .mul (.tup (.cons (.tup (.cons (.int 0) (.cons (.int 1) (.cons (.int 0) (.cons (.int 0) .nil))))) .nil)) (.int 401)) .nil))) .nil)))))))))) (.cons (.ret (.cmp .eq (.bi .len (.cons (.lc (.var 21) (.nm 21) (.e (.var 4)) (.some (.not (.call 15 (.cons (.e (.idx (.var 21) (.int 0))) (.cons (.e (.idx (.var 21) (.int 1))) .nil))))) [21]) .nil)) (.int 0))) .nil))))))
def d16 : Dfn := { nm := "law", qual := "law", par := 1, names := ["script", "draws", "turn", "wrong", "pairs", "size", "games", "results", "values", "due", "side", "lot", "bad", "own", "lost", "points", "at", "e", "won", "drawn", "k", "pair", "one", "home", "two", "row", "away"], io := [], body := b16 }
def P : Prg := { defs := [d0, d1, d2, d3, d4, d5, d6, d7, d8, d9, d10, d11, d12, d13, d14, d15, d16], blt := ["len", "tuple", "list", "sum", "all", "int", "range", "isinstance", "bool", "str", "ValueError"], gints := [("MOST_GAMES", 400)], classes := [{ nm := "Results", fields := ["size", "games"], init := 1, meths := [] }], excs := ["MeetError", "BadPlan"], tr := [("BadPlan", [1])], kit := [("ValueError", [0, 1])], W := 100000 }
abbrev top (i : Nat) : Stmt := PySem.Challenge.pw_whobeatwhom_k35_goals_and_points.main.body.getD i (.Pass ⟨0, 0, 0, 0⟩)
abbrev inTop (i j : Nat) : Stmt := (clsBody (top i)).getD j (.Pass ⟨0, 0, 0, 0⟩)
def t0 : DefT := { cls := none, args := defArgs (top 4), ps := ["value"], body := defBody (top 4), scope := defScope (top 4) }
def t1 : DefT := { cls := some "Results", args := defArgs (inTop 7 0), ps := ["self", "size", "games"], body := defBody (inTop 7 0), scope := defScope (inTop 7 0) }
def t2 : DefT := { cls := none, args := defArgs (top 8), ps := ["size", "value"], body := defBody (top 8), scope := defScope (top 8) }
def t3 : DefT := { cls := none, args := defArgs (top 9), ps := ["results", "side", "lot"], body := defBody (top 9), scope := defScope (top 9) }
def t4 : DefT := { cls := none, args := defArgs (top 10), ps := ["values"], body := defBody (top 10), scope := defScope (top 10) }
def t5 : DefT := { cls := none, args := defArgs (top 11), ps := ["results", "side", "lot", "values"], body := defBody (top 11), scope := defScope (top 11) }
def t6 : DefT := { cls := none, args := defArgs (top 12), ps := ["results", "values"], body := defBody (top 12), scope := defScope (top 12) }
def t7 : DefT := { cls := none, args := defArgs (top 13), ps := ["results", "side", "values"], body := defBody (top 13), scope := defScope (top 13) }
def t8 : DefT := { cls := none, args := defArgs (top 14), ps := ["results", "at"], body := defBody (top 14), scope := defScope (top 14) }
def t9 : DefT := { cls := none, args := defArgs (top 15), ps := ["results"], body := defBody (top 15), scope := defScope (top 15) }
def t10 : DefT := { cls := none, args := defArgs (top 17), ps := ["script"], body := defBody (top 17), scope := defScope (top 17) }
def t11 : DefT := { cls := none, args := defArgs (top 18), ps := ["draws", "limit"], body := defBody (top 18), scope := defScope (top 18) }
def t12 : DefT := { cls := none, args := defArgs (top 19), ps := ["actual", "expected"], body := defBody (top 19), scope := defScope (top 19) }
def t13 : DefT := { cls := none, args := defArgs (top 20), ps := ["draws", "size"], body := defBody (top 20), scope := defScope (top 20) }
def t14 : DefT := { cls := none, args := defArgs (top 21), ps := ["games", "side", "lot"], body := defBody (top 21), scope := defScope (top 21) }
def t15 : DefT := { cls := none, args := defArgs (top 22), ps := ["size", "games"], body := defBody (top 22), scope := defScope (top 22) }
def t16 : DefT := { cls := none, args := defArgs (top 23), ps := ["script"], body := defBody (top 23), scope := defScope (top 23) }
def ts : List DefT := [t0, t1, t2, t3, t4, t5, t6, t7, t8, t9, t10, t11, t12, t13, t14, t15, t16]
theorem init : initB P ts = true := by decide +kernel
theorem a0 : frB d0 t0 = true ∧ agSs d0.body (ctOf P d0 t0) t0.body = true ∧ BindOk d0 t0 := ⟨by decide +kernel, by decide +kernel, fun _ _ _ _ _ _ us hl => match us, hl with | [_], _ => rfl⟩
theorem a1 : frB d1 t1 = true ∧ agSs d1.body (ctOf P d1 t1) t1.body = true ∧ BindOk d1 t1 := ⟨by decide +kernel, by decide +kernel, fun _ _ _ _ _ _ us hl => match us, hl with | [_, _, _], _ => rfl⟩
theorem a2 : frB d2 t2 = true ∧ agSs d2.body (ctOf P d2 t2) t2.body = true ∧ BindOk d2 t2 := ⟨by decide +kernel, by decide +kernel, fun _ _ _ _ _ _ us hl => match us, hl with | [_, _], _ => rfl⟩
theorem a3 : frB d3 t3 = true ∧ agSs d3.body (ctOf P d3 t3) t3.body = true ∧ BindOk d3 t3 := ⟨by decide +kernel, by decide +kernel, fun _ _ _ _ _ _ us hl => match us, hl with | [_, _, _], _ => rfl⟩
theorem a4 : frB d4 t4 = true ∧ agSs d4.body (ctOf P d4 t4) t4.body = true ∧ BindOk d4 t4 := ⟨by decide +kernel, by decide +kernel, fun _ _ _ _ _ _ us hl => match us, hl with | [_], _ => rfl⟩
theorem a5 : frB d5 t5 = true ∧ agSs d5.body (ctOf P d5 t5) t5.body = true ∧ BindOk d5 t5 := ⟨by decide +kernel, by decide +kernel, fun _ _ _ _ _ _ us hl => match us, hl with | [_, _, _, _], _ => rfl⟩
theorem a6 : frB d6 t6 = true ∧ agSs d6.body (ctOf P d6 t6) t6.body = true ∧ BindOk d6 t6 := ⟨by decide +kernel, by decide +kernel, fun _ _ _ _ _ _ us hl => match us, hl with | [_, _], _ => rfl⟩
theorem a7 : frB d7 t7 = true ∧ agSs d7.body (ctOf P d7 t7) t7.body = true ∧ BindOk d7 t7 := ⟨by decide +kernel, by decide +kernel, fun _ _ _ _ _ _ us hl => match us, hl with | [_, _, _], _ => rfl⟩
theorem a8 : frB d8 t8 = true ∧ agSs d8.body (ctOf P d8 t8) t8.body = true ∧ BindOk d8 t8 := ⟨by decide +kernel, by decide +kernel, fun _ _ _ _ _ _ us hl => match us, hl with | [_, _], _ => rfl⟩
theorem a9 : frB d9 t9 = true ∧ agSs d9.body (ctOf P d9 t9) t9.body = true ∧ BindOk d9 t9 := ⟨by decide +kernel, by decide +kernel, fun _ _ _ _ _ _ us hl => match us, hl with | [_], _ => rfl⟩
theorem a10 : frB d10 t10 = true ∧ agSs d10.body (ctOf P d10 t10) t10.body = true ∧ BindOk d10 t10 := ⟨by decide +kernel, by decide +kernel, fun _ _ _ _ _ _ us hl => match us, hl with | [_], _ => rfl⟩
theorem a11 : frB d11 t11 = true ∧ agSs d11.body (ctOf P d11 t11) t11.body = true ∧ BindOk d11 t11 := ⟨by decide +kernel, by decide +kernel, fun _ _ _ _ _ _ us hl => match us, hl with | [_, _], _ => rfl⟩
theorem a12 : frB d12 t12 = true ∧ agSs d12.body (ctOf P d12 t12) t12.body = true ∧ BindOk d12 t12 := ⟨by decide +kernel, by decide +kernel, fun _ _ _ _ _ _ us hl => match us, hl with | [_, _], _ => rfl⟩
theorem a13 : frB d13 t13 = true ∧ agSs d13.body (ctOf P d13 t13) t13.body = true ∧ BindOk d13 t13 := ⟨by decide +kernel, by decide +kernel, fun _ _ _ _ _ _ us hl => match us, hl with | [_, _], _ => rfl⟩
theorem a14 : frB d14 t14 = true ∧ agSs d14.body (ctOf P d14 t14) t14.body = true ∧ BindOk d14 t14 := ⟨by decide +kernel, by decide +kernel, fun _ _ _ _ _ _ us hl => match us, hl with | [_, _, _], _ => rfl⟩
theorem a15 : frB d15 t15 = true ∧ agSs d15.body (ctOf P d15 t15) t15.body = true ∧ BindOk d15 t15 := ⟨by decide +kernel, by decide +kernel, fun _ _ _ _ _ _ us hl => match us, hl with | [_, _], _ => rfl⟩
theorem a16 : frB d16 t16 = true ∧ agSs d16.body (ctOf P d16 t16) t16.body = true ∧ BindOk d16 t16 := ⟨by decide +kernel, by decide +kernel, fun _ _ _ _ _ _ us hl => match us, hl with | [_], _ => rfl⟩
theorem agree : AllOk P P.defs ts := ⟨a0, a1, a2, a3, a4, a5, a6, a7, a8, a9, a10, a11, a12, a13, a14, a15, a16, trivial⟩
end L35

namespace L35
open PySem Cr Cw
/-! ### the law in plain words -/
structure Gm where
  h : Int
  a : Int
  o : Int
  t : Int
def gD (g : Gm) : D := .tup [.int g.h, .int g.a, .int g.o, .int g.t]
def GmOk (s : Int) (g : Gm) : Prop := (0 ≤ g.h ∧ g.h < s) ∧ (0 ≤ g.a ∧ g.a < s) ∧ g.h ≠ g.a ∧ (0 ≤ g.o ∧ g.o ≤ 1000) ∧ (0 ≤ g.t ∧ g.t ≤ 1000)
def resD (s : Int) (gs : List Gm) : D := .ins 0 [.int s, .tup (gs.map gD)]
theorem isi (n : Nat) (i : Int) : run P (n + 1) 0 [.fz (.int i)] = .ok (.fz (.bl true)) [] := rfl
theorem isb (n : Nat) (i : Bool) : run P (n + 1) 0 [.fz (.bl i)] = .ok (.fz (.bl false)) [] := rfl
theorem isn (n : Nat) : run P (n + 1) 0 [.fz .non] = .ok (.fz (.bl false)) [] := rfl
theorem cut2 {a b c d : D} : cutD [a, b, c, d] none (some 2) = [a, b] := rfl
theorem cut2' {a b c d : D} : cutD [a, b, c, d] (some 2) none = [c, d] := rfl
theorem is_game_ok (n : Nat) {s : Int} {g : Gm} (h : GmOk s g) : run P (n + 2) 2 [.fz (.int s), .fz (gD g)] = .ok (.fz (.bl true)) [] := by
  obtain ⟨⟨h1, h2⟩, ⟨h3, h4⟩, h5, ⟨h6, h7⟩, h8, h9⟩ := h
  rw [run_s (d := d2) rfl]
  apply RcK.ok_eq
  refine w_run rfl ?_
  change WX (exs P _ b2) [.fz (.int s), .fz (gD g), .un, .un] _ _
  unfold b2 gD
  simp only [w_bnd, w_ret, w_opt, w_fail, w_ite, w_tb, w_ti, w_rd, w_chk, w_chkL, w_plVal, w_plTop, w_q, w_setM, w_clr, w_setO1, w_modR, w_frz, w_var, w_non, w_bl, w_int, w_str, w_gint, w_bin, w_neg, w_inv, w_not, w_cmp, w_chn, w_isN, w_mem, w_andE, w_orE, w_ife, w_tup, w_lst, w_idx, w_eoN, w_eoS, w_slc, w_lrng1, w_fld, w_pl, w_call, w_new, w_bi, w_biP, w_isi, w_lc, w_dc, w_esN, w_esC, w_etN, w_etS, w_arE, w_arI, w_asN, w_asC, w_iE, w_iR1, w_iR2, w_pN, w_pX, w_pXX, w_pFX, w_pF, w_callF, w_oe, w_ol, w_ocall, w_onew, w_osN, w_osC, w_ssN, w_ssC, w_asg, w_asgL, w_asgO, w_app, w_set, w_fset, w_aug, w_ex, w_retE, w_retN, w_retO, w_if, w_for, w_rse, w_try, w_brk, w_cont, w_pass, w_hret, w_hunl, OptK_s, RdK_bl, RdK_int, RdK_str, RdK_non, RdK_tup, RdK_lst, RdK_dK, RdK_dT, RdK_ins, RdK_fn, RdK_scr, RdK_ol, ChkK_fz, ChkK_l, ChkK_i, ChkK_k, ChkK_t, ValK_int, ValK_bl, ValK_lst, ValK_tup, LstK_l, BlK_b, InK_i, FlK_nx, FlK_ct, FlK_bk, FlK_rt, RcK_ok, RcK_exc, LoK_nx, LoK_ct, LoK_bk, LoK_rt, c_eq, c_ne, c_eqb, c_neb, c_lt, c_gt, c_le, c_ge, c_is, c_isnt, bn_f, bn_t, b_add, b_sub, a_add, a_sub, t_ii, t_ib, t_it, t_il, t_is, t_bi, t_bb, t_bt, t_bl, t_bs, t_ti, t_tb, t_tt, t_tl, t_ts, t_li, t_lb, t_lt, t_ll, t_ls, t_ni, t_nb, t_nt, t_nl, t_ns, t_si, t_sb, t_st, t_sl, t_ss, n_i, n_b, n_t, n_l, n_s, n_n, i_lenT, i_lenL, i_lenK, i_tupL, i_tupT, i_lstL, i_lstT, i_lstS, i_intI, i_intB, i_abs, i_min2, i_max2, i_all, i_any, i_sum, x_lst, x_tup, at0, at1, at2, at3, q_tup, q_lst, g_nil, g_l0, g_l1, g_l2, g_l3, g_fz, s_l0, s_l1, s_l2, s_l3, qv_i, qv_l, qv_t, qv_s, qv_b, qq_var, qq_int, qq_pl, p_nil, p_ix, st_nm, st_tup, sn_nil, sn_cons, ta_nil, ta_d, ta_io, pb_nil, pb_c, fr_i, fr_b, fr_t, fr_l, fr_s, fr_n, fr_c, fr_k, fr_ol, fr_oc, fz_nil, fz_cons, fz_fz, ou_nil, ou_c, un_l, un_f, un_c, fin_nx, fin_rt, wp_nil, wp_c, tpL, tpT, NwK_ok, NwK_exc, m_t2, m_il, m_it, m_ik, sl_t, sl_l, Option.bind_some, Option.map_some, Option.map, List.any_cons, List.any_nil, Bool.or_self, List.getElem?_cons_zero, List.getElem?_cons_succ, List.set_cons_zero, List.set_cons_succ, List.length_cons, List.length_nil, Nat.reduceAdd, Nat.reduceLT, Nat.lt_add_one, Nat.zero_add, Int.cast_ofNat_Int, Int.reduceLE, Int.reduceLT, Int.reduceEq, Int.reduceNeg, Nat.reduceLeDiff, ↓reduceIte, Option.getD, List.nil_append, List.cons_append, decide_eq_true_eq, decide_true, decide_false, Bool.false_eq_true, Bool.not_true, Bool.not_false, Bool.and_true, Bool.and_false, Bool.true_and, Bool.or_true, Bool.or_false, and_true, true_and, and_false, false_and, not_true, not_false_eq_true, Bool.not_eq_true, decide_eq_false_iff_not, w_blockE, w_lC, w_lN, w_fC, w_fN, cw_nil, cw_c, io_un, io_fz, bk_nil, bk_c, i_allC, i_anyC, i_sumC, bls_nil, bls_c, intL_nil, intL_c, List.all_cons, List.all_nil, id_eq, Option.getD_some, Option.getD_none, isi, cut2, cut2', h1, h2, h3, h4, h5, h6, h7, h8, h9, show d2.io = [] from rfl]
  trace_state
end L35

namespace L35
open PySem Cr Cw
structure Rw where
  b : Bool
  x : Int
  y : Int
def rD (r : Rw) : D := .tup [.bl r.b, .int r.x, .int r.y]
def oneR (p : Int → Bool) (i : Int) (g : Gm) : List Rw := if (p g.h && p g.a) = true then (if i = g.h then [⟨true, g.o, g.t⟩] else []) ++ (if i = g.a then [⟨false, g.t, g.o⟩] else []) else []
def ownR (p : Int → Bool) (i : Int) (gs : List Gm) : List Rw := gs.flatMap (oneR p i)
theorem oneR_len {p : Int → Bool} {i : Int} {g : Gm} : (oneR p i g).length ≤ 2 := by
  unfold oneR
  split
  · split <;> split <;> simp
  · simp
theorem ownR_snoc {p : Int → Bool} {i : Int} {as : List Gm} {g : Gm} : ownR p i (as ++ [g]) = ownR p i as ++ oneR p i g := by simp [ownR]
theorem ownR_len {p : Int → Bool} {i : Int} : ∀ {gs : List Gm}, (ownR p i gs).length ≤ 2 * gs.length
  | [] => by simp [ownR]
  | g :: gs => by
    have := ownR_len (p := p) (i := i) (gs := gs)
    have h2 := oneR_len (p := p) (i := i) (g := g)
    unfold ownR at this ⊢
    rw [List.flatMap_cons, List.length_append, List.length_cons]
    omega
theorem f_games {s : Int} {gs : List Gm} : fldD P (resD s gs) "games" = some (.tup (gs.map gD)) := nr rfl
theorem f_size {s : Int} {gs : List Gm} : fldD P (resD s gs) "size" = some (.int s) := nr rfl
theorem RdK_res {s : Int} {gs : List Gm} {i : Nat} {f : Fr} {Q : D → Fr → Prop} : RdK (some (.fz (resD s gs))) i f Q = Q (resD s gs) f := RdK_ins
theorem fr_res {s : Int} {gs : List Gm} : frzO (.fz (resD s gs)) = some (resD s gs) := fr_c
theorem fz_rows {xs : List Rw} : fzds (xs.map fun r => .fz (rD r)) = xs.map rD := fz_map xs
theorem own_games_ok (n : Nat) {s i : Int} {gs : List Gm} {lot : D} {p : Int → Bool} (hl : ∀ j, memD (.int j) lot = some (p j)) (hn : lot ≠ .nil) (hg : ∀ g ∈ gs, g.h ≠ g.a) (hs : gs.length ≤ 400) :
    run P (n + 1) 3 [.fz (resD s gs), .fz (.int i), .fz lot] = .ok (.fz (.lst ((ownR p i gs).map rD))) [] := by
  rw [run_s (d := d3) rfl]
  apply RcK.ok_eq
  refine w_run rfl ?_
  change WX (exs P _ b3) [.fz (resD s gs), .fz (.int i), .fz lot, .un, .un, .un, .un, .un] _ _
  unfold b3
  simp only [w_bnd, w_ret, w_opt, w_fail, w_ite, w_tb, w_ti, w_rd, w_chk, w_chkL, w_plVal, w_plTop, w_q, w_setM, w_clr, w_setO1, w_modR, w_frz, w_var, w_non, w_bl, w_int, w_str, w_gint, w_bin, w_neg, w_inv, w_not, w_cmp, w_chn, w_isN, w_mem, w_andE, w_orE, w_ife, w_tup, w_lst, w_idx, w_eoN, w_eoS, w_slc, w_lrng1, w_fld, w_pl, w_call, w_new, w_bi, w_biP, w_isi, w_lc, w_dc, w_esN, w_esC, w_etN, w_etS, w_arE, w_arI, w_asN, w_asC, w_iE, w_iR1, w_iR2, w_pN, w_pX, w_pXX, w_pFX, w_pF, w_callF, w_oe, w_ol, w_ocall, w_onew, w_osN, w_osC, w_ssN, w_ssC, w_asg, w_asgL, w_asgO, w_app, w_set, w_fset, w_aug, w_ex, w_retE, w_retN, w_retO, w_if, w_for, w_rse, w_try, w_brk, w_cont, w_pass, w_hret, w_hunl, OptK_s, RdK_bl, RdK_int, RdK_str, RdK_non, RdK_tup, RdK_lst, RdK_dK, RdK_dT, RdK_ins, RdK_fn, RdK_scr, RdK_ol, ChkK_fz, ChkK_l, ChkK_i, ChkK_k, ChkK_t, ValK_int, ValK_bl, ValK_lst, ValK_tup, LstK_l, BlK_b, InK_i, FlK_nx, FlK_ct, FlK_bk, FlK_rt, RcK_ok, RcK_exc, LoK_nx, LoK_ct, LoK_bk, LoK_rt, c_eq, c_ne, c_eqb, c_neb, c_lt, c_gt, c_le, c_ge, c_is, c_isnt, bn_f, bn_t, b_add, b_sub, a_add, a_sub, t_ii, t_ib, t_it, t_il, t_is, t_bi, t_bb, t_bt, t_bl, t_bs, t_ti, t_tb, t_tt, t_tl, t_ts, t_li, t_lb, t_lt, t_ll, t_ls, t_ni, t_nb, t_nt, t_nl, t_ns, t_si, t_sb, t_st, t_sl, t_ss, n_i, n_b, n_t, n_l, n_s, n_n, i_lenT, i_lenL, i_lenK, i_tupL, i_tupT, i_lstL, i_lstT, i_lstS, i_intI, i_intB, i_abs, i_min2, i_max2, i_all, i_any, i_sum, x_lst, x_tup, at0, at1, at2, at3, q_tup, q_lst, g_nil, g_l0, g_l1, g_l2, g_l3, g_fz, s_l0, s_l1, s_l2, s_l3, qv_i, qv_l, qv_t, qv_s, qv_b, qq_var, qq_int, qq_pl, p_nil, p_ix, st_nm, st_tup, sn_nil, sn_cons, ta_nil, ta_d, ta_io, pb_nil, pb_c, fr_i, fr_b, fr_t, fr_l, fr_s, fr_n, fr_c, fr_k, fr_ol, fr_oc, fz_nil, fz_cons, fz_fz, ou_nil, ou_c, un_l, un_f, un_c, fin_nx, fin_rt, wp_nil, wp_c, tpL, tpT, NwK_ok, NwK_exc, m_t2, m_il, m_it, m_ik, sl_t, sl_l, Option.bind_some, Option.map_some, Option.map, List.any_cons, List.any_nil, Bool.or_self, List.getElem?_cons_zero, List.getElem?_cons_succ, List.set_cons_zero, List.set_cons_succ, List.length_cons, List.length_nil, Nat.reduceAdd, Nat.reduceLT, Nat.lt_add_one, Nat.zero_add, Int.cast_ofNat_Int, Int.reduceLE, Int.reduceLT, Int.reduceEq, Int.reduceNeg, Nat.reduceLeDiff, ↓reduceIte, Option.getD, List.nil_append, List.cons_append, decide_eq_true_eq, decide_true, decide_false, Bool.false_eq_true, Bool.not_true, Bool.not_false, Bool.and_true, Bool.and_false, Bool.true_and, Bool.or_true, Bool.or_false, and_true, true_and, and_false, false_and, not_true, not_false_eq_true, Bool.not_eq_true, decide_eq_false_iff_not, RdK_res, f_games]
  refine w_forM (fun as zs f => ∃ x4 x5 x6 x7, f = [.fz (resD s gs), .fz (.int i), .fz lot, .lst ((ownR p i as).map fun r => .fz (rD r)), x4, x5, x6, x7]) ⟨_, _, _, _, rfl⟩ (fun as g zs f0 e hI => ?_) fun f1 hI => ?_
  · obtain ⟨x4, x5, x6, x7, rfl⟩ := hI
    have gm : g.h ≠ g.a := hg g (by rw [← e]; simp)
    have hlen : ((ownR p i as).map fun r => O.fz (rD r)).length < 100000 := by
      have h1 := ownR_len (p := p) (i := i) (gs := as)
      have h2 : as.length ≤ gs.length := by rw [← e]; simp
      rw [List.length_map]
      omega
    have fin : ∀ (xs : List Rw) (x4 x5 x6 x7 : O), oneR p i g = xs → ∃ y4 y5 y6 y7, [O.fz (resD s gs), .fz (.int i), .fz lot, .lst (((ownR p i as).map fun r => O.fz (rD r)) ++ (xs.map fun r => O.fz (rD r))), x4, x5, x6, x7] = [O.fz (resD s gs), .fz (.int i), .fz lot, .lst ((ownR p i (as ++ [g])).map fun r => O.fz (rD r)), y4, y5, y6, y7] := fun xs x4 x5 x6 x7 h => ⟨x4, x5, x6, x7, by rw [ownR_snoc, h, List.map_append]⟩
    have fin0 := fin []
    rw [List.map_nil, List.append_nil] at fin0
    unfold gD
    cases c1 : p g.h with
    | false =>
      simp only [w_bnd, w_ret, w_opt, w_fail, w_ite, w_tb, w_ti, w_rd, w_chk, w_chkL, w_plVal, w_plTop, w_q, w_setM, w_clr, w_setO1, w_modR, w_frz, w_var, w_non, w_bl, w_int, w_str, w_gint, w_bin, w_neg, w_inv, w_not, w_cmp, w_chn, w_isN, w_mem, w_andE, w_orE, w_ife, w_tup, w_lst, w_idx, w_eoN, w_eoS, w_slc, w_lrng1, w_fld, w_pl, w_call, w_new, w_bi, w_biP, w_isi, w_lc, w_dc, w_esN, w_esC, w_etN, w_etS, w_arE, w_arI, w_asN, w_asC, w_iE, w_iR1, w_iR2, w_pN, w_pX, w_pXX, w_pFX, w_pF, w_callF, w_oe, w_ol, w_ocall, w_onew, w_osN, w_osC, w_ssN, w_ssC, w_asg, w_asgL, w_asgO, w_app, w_set, w_fset, w_aug, w_ex, w_retE, w_retN, w_retO, w_if, w_for, w_rse, w_try, w_brk, w_cont, w_pass, w_hret, w_hunl, OptK_s, RdK_bl, RdK_int, RdK_str, RdK_non, RdK_tup, RdK_lst, RdK_dK, RdK_dT, RdK_ins, RdK_fn, RdK_scr, RdK_ol, ChkK_fz, ChkK_l, ChkK_i, ChkK_k, ChkK_t, ValK_int, ValK_bl, ValK_lst, ValK_tup, LstK_l, BlK_b, InK_i, FlK_nx, FlK_ct, FlK_bk, FlK_rt, RcK_ok, RcK_exc, LoK_nx, LoK_ct, LoK_bk, LoK_rt, c_eq, c_ne, c_eqb, c_neb, c_lt, c_gt, c_le, c_ge, c_is, c_isnt, bn_f, bn_t, b_add, b_sub, a_add, a_sub, t_ii, t_ib, t_it, t_il, t_is, t_bi, t_bb, t_bt, t_bl, t_bs, t_ti, t_tb, t_tt, t_tl, t_ts, t_li, t_lb, t_lt, t_ll, t_ls, t_ni, t_nb, t_nt, t_nl, t_ns, t_si, t_sb, t_st, t_sl, t_ss, n_i, n_b, n_t, n_l, n_s, n_n, i_lenT, i_lenL, i_lenK, i_tupL, i_tupT, i_lstL, i_lstT, i_lstS, i_intI, i_intB, i_abs, i_min2, i_max2, i_all, i_any, i_sum, x_lst, x_tup, at0, at1, at2, at3, q_tup, q_lst, g_nil, g_l0, g_l1, g_l2, g_l3, g_fz, s_l0, s_l1, s_l2, s_l3, qv_i, qv_l, qv_t, qv_s, qv_b, qq_var, qq_int, qq_pl, p_nil, p_ix, st_nm, st_tup, sn_nil, sn_cons, ta_nil, ta_d, ta_io, pb_nil, pb_c, fr_i, fr_b, fr_t, fr_l, fr_s, fr_n, fr_c, fr_k, fr_ol, fr_oc, fz_nil, fz_cons, fz_fz, ou_nil, ou_c, un_l, un_f, un_c, fin_nx, fin_rt, wp_nil, wp_c, tpL, tpT, NwK_ok, NwK_exc, m_t2, m_il, m_it, m_ik, sl_t, sl_l, Option.bind_some, Option.map_some, Option.map, List.any_cons, List.any_nil, Bool.or_self, List.getElem?_cons_zero, List.getElem?_cons_succ, List.set_cons_zero, List.set_cons_succ, List.length_cons, List.length_nil, Nat.reduceAdd, Nat.reduceLT, Nat.lt_add_one, Nat.zero_add, Int.cast_ofNat_Int, Int.reduceLE, Int.reduceLT, Int.reduceEq, Int.reduceNeg, Nat.reduceLeDiff, ↓reduceIte, Option.getD, List.nil_append, List.cons_append, decide_eq_true_eq, decide_true, decide_false, Bool.false_eq_true, Bool.not_true, Bool.not_false, Bool.and_true, Bool.and_false, Bool.true_and, Bool.or_true, Bool.or_false, and_true, true_and, and_false, false_and, not_true, not_false_eq_true, Bool.not_eq_true, decide_eq_false_iff_not, RdK_d hn, hl, c1]
      exact fin0 _ _ _ _ (by unfold oneR; rw [c1]; rfl)
    | true =>
      cases c2 : p g.a with
      | false =>
        simp only [w_bnd, w_ret, w_opt, w_fail, w_ite, w_tb, w_ti, w_rd, w_chk, w_chkL, w_plVal, w_plTop, w_q, w_setM, w_clr, w_setO1, w_modR, w_frz, w_var, w_non, w_bl, w_int, w_str, w_gint, w_bin, w_neg, w_inv, w_not, w_cmp, w_chn, w_isN, w_mem, w_andE, w_orE, w_ife, w_tup, w_lst, w_idx, w_eoN, w_eoS, w_slc, w_lrng1, w_fld, w_pl, w_call, w_new, w_bi, w_biP, w_isi, w_lc, w_dc, w_esN, w_esC, w_etN, w_etS, w_arE, w_arI, w_asN, w_asC, w_iE, w_iR1, w_iR2, w_pN, w_pX, w_pXX, w_pFX, w_pF, w_callF, w_oe, w_ol, w_ocall, w_onew, w_osN, w_osC, w_ssN, w_ssC, w_asg, w_asgL, w_asgO, w_app, w_set, w_fset, w_aug, w_ex, w_retE, w_retN, w_retO, w_if, w_for, w_rse, w_try, w_brk, w_cont, w_pass, w_hret, w_hunl, OptK_s, RdK_bl, RdK_int, RdK_str, RdK_non, RdK_tup, RdK_lst, RdK_dK, RdK_dT, RdK_ins, RdK_fn, RdK_scr, RdK_ol, ChkK_fz, ChkK_l, ChkK_i, ChkK_k, ChkK_t, ValK_int, ValK_bl, ValK_lst, ValK_tup, LstK_l, BlK_b, InK_i, FlK_nx, FlK_ct, FlK_bk, FlK_rt, RcK_ok, RcK_exc, LoK_nx, LoK_ct, LoK_bk, LoK_rt, c_eq, c_ne, c_eqb, c_neb, c_lt, c_gt, c_le, c_ge, c_is, c_isnt, bn_f, bn_t, b_add, b_sub, a_add, a_sub, t_ii, t_ib, t_it, t_il, t_is, t_bi, t_bb, t_bt, t_bl, t_bs, t_ti, t_tb, t_tt, t_tl, t_ts, t_li, t_lb, t_lt, t_ll, t_ls, t_ni, t_nb, t_nt, t_nl, t_ns, t_si, t_sb, t_st, t_sl, t_ss, n_i, n_b, n_t, n_l, n_s, n_n, i_lenT, i_lenL, i_lenK, i_tupL, i_tupT, i_lstL, i_lstT, i_lstS, i_intI, i_intB, i_abs, i_min2, i_max2, i_all, i_any, i_sum, x_lst, x_tup, at0, at1, at2, at3, q_tup, q_lst, g_nil, g_l0, g_l1, g_l2, g_l3, g_fz, s_l0, s_l1, s_l2, s_l3, qv_i, qv_l, qv_t, qv_s, qv_b, qq_var, qq_int, qq_pl, p_nil, p_ix, st_nm, st_tup, sn_nil, sn_cons, ta_nil, ta_d, ta_io, pb_nil, pb_c, fr_i, fr_b, fr_t, fr_l, fr_s, fr_n, fr_c, fr_k, fr_ol, fr_oc, fz_nil, fz_cons, fz_fz, ou_nil, ou_c, un_l, un_f, un_c, fin_nx, fin_rt, wp_nil, wp_c, tpL, tpT, NwK_ok, NwK_exc, m_t2, m_il, m_it, m_ik, sl_t, sl_l, Option.bind_some, Option.map_some, Option.map, List.any_cons, List.any_nil, Bool.or_self, List.getElem?_cons_zero, List.getElem?_cons_succ, List.set_cons_zero, List.set_cons_succ, List.length_cons, List.length_nil, Nat.reduceAdd, Nat.reduceLT, Nat.lt_add_one, Nat.zero_add, Int.cast_ofNat_Int, Int.reduceLE, Int.reduceLT, Int.reduceEq, Int.reduceNeg, Nat.reduceLeDiff, ↓reduceIte, Option.getD, List.nil_append, List.cons_append, decide_eq_true_eq, decide_true, decide_false, Bool.false_eq_true, Bool.not_true, Bool.not_false, Bool.and_true, Bool.and_false, Bool.true_and, Bool.or_true, Bool.or_false, and_true, true_and, and_false, false_and, not_true, not_false_eq_true, Bool.not_eq_true, decide_eq_false_iff_not, RdK_d hn, hl, c1, c2]
        exact fin0 _ _ _ _ (by unfold oneR; rw [c1, c2]; rfl)
      | true =>
        by_cases c3 : i = g.h
        · subst c3
          simp only [w_bnd, w_ret, w_opt, w_fail, w_ite, w_tb, w_ti, w_rd, w_chk, w_chkL, w_plVal, w_plTop, w_q, w_setM, w_clr, w_setO1, w_modR, w_frz, w_var, w_non, w_bl, w_int, w_str, w_gint, w_bin, w_neg, w_inv, w_not, w_cmp, w_chn, w_isN, w_mem, w_andE, w_orE, w_ife, w_tup, w_lst, w_idx, w_eoN, w_eoS, w_slc, w_lrng1, w_fld, w_pl, w_call, w_new, w_bi, w_biP, w_isi, w_lc, w_dc, w_esN, w_esC, w_etN, w_etS, w_arE, w_arI, w_asN, w_asC, w_iE, w_iR1, w_iR2, w_pN, w_pX, w_pXX, w_pFX, w_pF, w_callF, w_oe, w_ol, w_ocall, w_onew, w_osN, w_osC, w_ssN, w_ssC, w_asg, w_asgL, w_asgO, w_app, w_set, w_fset, w_aug, w_ex, w_retE, w_retN, w_retO, w_if, w_for, w_rse, w_try, w_brk, w_cont, w_pass, w_hret, w_hunl, OptK_s, RdK_bl, RdK_int, RdK_str, RdK_non, RdK_tup, RdK_lst, RdK_dK, RdK_dT, RdK_ins, RdK_fn, RdK_scr, RdK_ol, ChkK_fz, ChkK_l, ChkK_i, ChkK_k, ChkK_t, ValK_int, ValK_bl, ValK_lst, ValK_tup, LstK_l, BlK_b, InK_i, FlK_nx, FlK_ct, FlK_bk, FlK_rt, RcK_ok, RcK_exc, LoK_nx, LoK_ct, LoK_bk, LoK_rt, c_eq, c_ne, c_eqb, c_neb, c_lt, c_gt, c_le, c_ge, c_is, c_isnt, bn_f, bn_t, b_add, b_sub, a_add, a_sub, t_ii, t_ib, t_it, t_il, t_is, t_bi, t_bb, t_bt, t_bl, t_bs, t_ti, t_tb, t_tt, t_tl, t_ts, t_li, t_lb, t_lt, t_ll, t_ls, t_ni, t_nb, t_nt, t_nl, t_ns, t_si, t_sb, t_st, t_sl, t_ss, n_i, n_b, n_t, n_l, n_s, n_n, i_lenT, i_lenL, i_lenK, i_tupL, i_tupT, i_lstL, i_lstT, i_lstS, i_intI, i_intB, i_abs, i_min2, i_max2, i_all, i_any, i_sum, x_lst, x_tup, at0, at1, at2, at3, q_tup, q_lst, g_nil, g_l0, g_l1, g_l2, g_l3, g_fz, s_l0, s_l1, s_l2, s_l3, qv_i, qv_l, qv_t, qv_s, qv_b, qq_var, qq_int, qq_pl, p_nil, p_ix, st_nm, st_tup, sn_nil, sn_cons, ta_nil, ta_d, ta_io, pb_nil, pb_c, fr_i, fr_b, fr_t, fr_l, fr_s, fr_n, fr_c, fr_k, fr_ol, fr_oc, fz_nil, fz_cons, fz_fz, ou_nil, ou_c, un_l, un_f, un_c, fin_nx, fin_rt, wp_nil, wp_c, tpL, tpT, NwK_ok, NwK_exc, m_t2, m_il, m_it, m_ik, sl_t, sl_l, Option.bind_some, Option.map_some, Option.map, List.any_cons, List.any_nil, Bool.or_self, List.getElem?_cons_zero, List.getElem?_cons_succ, List.set_cons_zero, List.set_cons_succ, List.length_cons, List.length_nil, Nat.reduceAdd, Nat.reduceLT, Nat.lt_add_one, Nat.zero_add, Int.cast_ofNat_Int, Int.reduceLE, Int.reduceLT, Int.reduceEq, Int.reduceNeg, Nat.reduceLeDiff, ↓reduceIte, Option.getD, List.nil_append, List.cons_append, decide_eq_true_eq, decide_true, decide_false, Bool.false_eq_true, Bool.not_true, Bool.not_false, Bool.and_true, Bool.and_false, Bool.true_and, Bool.or_true, Bool.or_false, and_true, true_and, and_false, false_and, not_true, not_false_eq_true, Bool.not_eq_true, decide_eq_false_iff_not, RdK_d hn, hl, c1, c2, ap_l hlen]
          exact fin [⟨true, g.o, g.t⟩] _ _ _ _ (by unfold oneR; rw [c1, c2]; simp [gm])
        · by_cases c4 : i = g.a
          · subst c4
            simp only [w_bnd, w_ret, w_opt, w_fail, w_ite, w_tb, w_ti, w_rd, w_chk, w_chkL, w_plVal, w_plTop, w_q, w_setM, w_clr, w_setO1, w_modR, w_frz, w_var, w_non, w_bl, w_int, w_str, w_gint, w_bin, w_neg, w_inv, w_not, w_cmp, w_chn, w_isN, w_mem, w_andE, w_orE, w_ife, w_tup, w_lst, w_idx, w_eoN, w_eoS, w_slc, w_lrng1, w_fld, w_pl, w_call, w_new, w_bi, w_biP, w_isi, w_lc, w_dc, w_esN, w_esC, w_etN, w_etS, w_arE, w_arI, w_asN, w_asC, w_iE, w_iR1, w_iR2, w_pN, w_pX, w_pXX, w_pFX, w_pF, w_callF, w_oe, w_ol, w_ocall, w_onew, w_osN, w_osC, w_ssN, w_ssC, w_asg, w_asgL, w_asgO, w_app, w_set, w_fset, w_aug, w_ex, w_retE, w_retN, w_retO, w_if, w_for, w_rse, w_try, w_brk, w_cont, w_pass, w_hret, w_hunl, OptK_s, RdK_bl, RdK_int, RdK_str, RdK_non, RdK_tup, RdK_lst, RdK_dK, RdK_dT, RdK_ins, RdK_fn, RdK_scr, RdK_ol, ChkK_fz, ChkK_l, ChkK_i, ChkK_k, ChkK_t, ValK_int, ValK_bl, ValK_lst, ValK_tup, LstK_l, BlK_b, InK_i, FlK_nx, FlK_ct, FlK_bk, FlK_rt, RcK_ok, RcK_exc, LoK_nx, LoK_ct, LoK_bk, LoK_rt, c_eq, c_ne, c_eqb, c_neb, c_lt, c_gt, c_le, c_ge, c_is, c_isnt, bn_f, bn_t, b_add, b_sub, a_add, a_sub, t_ii, t_ib, t_it, t_il, t_is, t_bi, t_bb, t_bt, t_bl, t_bs, t_ti, t_tb, t_tt, t_tl, t_ts, t_li, t_lb, t_lt, t_ll, t_ls, t_ni, t_nb, t_nt, t_nl, t_ns, t_si, t_sb, t_st, t_sl, t_ss, n_i, n_b, n_t, n_l, n_s, n_n, i_lenT, i_lenL, i_lenK, i_tupL, i_tupT, i_lstL, i_lstT, i_lstS, i_intI, i_intB, i_abs, i_min2, i_max2, i_all, i_any, i_sum, x_lst, x_tup, at0, at1, at2, at3, q_tup, q_lst, g_nil, g_l0, g_l1, g_l2, g_l3, g_fz, s_l0, s_l1, s_l2, s_l3, qv_i, qv_l, qv_t, qv_s, qv_b, qq_var, qq_int, qq_pl, p_nil, p_ix, st_nm, st_tup, sn_nil, sn_cons, ta_nil, ta_d, ta_io, pb_nil, pb_c, fr_i, fr_b, fr_t, fr_l, fr_s, fr_n, fr_c, fr_k, fr_ol, fr_oc, fz_nil, fz_cons, fz_fz, ou_nil, ou_c, un_l, un_f, un_c, fin_nx, fin_rt, wp_nil, wp_c, tpL, tpT, NwK_ok, NwK_exc, m_t2, m_il, m_it, m_ik, sl_t, sl_l, Option.bind_some, Option.map_some, Option.map, List.any_cons, List.any_nil, Bool.or_self, List.getElem?_cons_zero, List.getElem?_cons_succ, List.set_cons_zero, List.set_cons_succ, List.length_cons, List.length_nil, Nat.reduceAdd, Nat.reduceLT, Nat.lt_add_one, Nat.zero_add, Int.cast_ofNat_Int, Int.reduceLE, Int.reduceLT, Int.reduceEq, Int.reduceNeg, Nat.reduceLeDiff, ↓reduceIte, Option.getD, List.nil_append, List.cons_append, decide_eq_true_eq, decide_true, decide_false, Bool.false_eq_true, Bool.not_true, Bool.not_false, Bool.and_true, Bool.and_false, Bool.true_and, Bool.or_true, Bool.or_false, and_true, true_and, and_false, false_and, not_true, not_false_eq_true, Bool.not_eq_true, decide_eq_false_iff_not, RdK_d hn, hl, c1, c2, ap_l hlen, gm, gm.symm]
            exact fin [⟨false, g.t, g.o⟩] _ _ _ _ (by unfold oneR; rw [c1, c2]; simp [gm.symm])
          · simp only [w_bnd, w_ret, w_opt, w_fail, w_ite, w_tb, w_ti, w_rd, w_chk, w_chkL, w_plVal, w_plTop, w_q, w_setM, w_clr, w_setO1, w_modR, w_frz, w_var, w_non, w_bl, w_int, w_str, w_gint, w_bin, w_neg, w_inv, w_not, w_cmp, w_chn, w_isN, w_mem, w_andE, w_orE, w_ife, w_tup, w_lst, w_idx, w_eoN, w_eoS, w_slc, w_lrng1, w_fld, w_pl, w_call, w_new, w_bi, w_biP, w_isi, w_lc, w_dc, w_esN, w_esC, w_etN, w_etS, w_arE, w_arI, w_asN, w_asC, w_iE, w_iR1, w_iR2, w_pN, w_pX, w_pXX, w_pFX, w_pF, w_callF, w_oe, w_ol, w_ocall, w_onew, w_osN, w_osC, w_ssN, w_ssC, w_asg, w_asgL, w_asgO, w_app, w_set, w_fset, w_aug, w_ex, w_retE, w_retN, w_retO, w_if, w_for, w_rse, w_try, w_brk, w_cont, w_pass, w_hret, w_hunl, OptK_s, RdK_bl, RdK_int, RdK_str, RdK_non, RdK_tup, RdK_lst, RdK_dK, RdK_dT, RdK_ins, RdK_fn, RdK_scr, RdK_ol, ChkK_fz, ChkK_l, ChkK_i, ChkK_k, ChkK_t, ValK_int, ValK_bl, ValK_lst, ValK_tup, LstK_l, BlK_b, InK_i, FlK_nx, FlK_ct, FlK_bk, FlK_rt, RcK_ok, RcK_exc, LoK_nx, LoK_ct, LoK_bk, LoK_rt, c_eq, c_ne, c_eqb, c_neb, c_lt, c_gt, c_le, c_ge, c_is, c_isnt, bn_f, bn_t, b_add, b_sub, a_add, a_sub, t_ii, t_ib, t_it, t_il, t_is, t_bi, t_bb, t_bt, t_bl, t_bs, t_ti, t_tb, t_tt, t_tl, t_ts, t_li, t_lb, t_lt, t_ll, t_ls, t_ni, t_nb, t_nt, t_nl, t_ns, t_si, t_sb, t_st, t_sl, t_ss, n_i, n_b, n_t, n_l, n_s, n_n, i_lenT, i_lenL, i_lenK, i_tupL, i_tupT, i_lstL, i_lstT, i_lstS, i_intI, i_intB, i_abs, i_min2, i_max2, i_all, i_any, i_sum, x_lst, x_tup, at0, at1, at2, at3, q_tup, q_lst, g_nil, g_l0, g_l1, g_l2, g_l3, g_fz, s_l0, s_l1, s_l2, s_l3, qv_i, qv_l, qv_t, qv_s, qv_b, qq_var, qq_int, qq_pl, p_nil, p_ix, st_nm, st_tup, sn_nil, sn_cons, ta_nil, ta_d, ta_io, pb_nil, pb_c, fr_i, fr_b, fr_t, fr_l, fr_s, fr_n, fr_c, fr_k, fr_ol, fr_oc, fz_nil, fz_cons, fz_fz, ou_nil, ou_c, un_l, un_f, un_c, fin_nx, fin_rt, wp_nil, wp_c, tpL, tpT, NwK_ok, NwK_exc, m_t2, m_il, m_it, m_ik, sl_t, sl_l, Option.bind_some, Option.map_some, Option.map, List.any_cons, List.any_nil, Bool.or_self, List.getElem?_cons_zero, List.getElem?_cons_succ, List.set_cons_zero, List.set_cons_succ, List.length_cons, List.length_nil, Nat.reduceAdd, Nat.reduceLT, Nat.lt_add_one, Nat.zero_add, Int.cast_ofNat_Int, Int.reduceLE, Int.reduceLT, Int.reduceEq, Int.reduceNeg, Nat.reduceLeDiff, ↓reduceIte, Option.getD, List.nil_append, List.cons_append, decide_eq_true_eq, decide_true, decide_false, Bool.false_eq_true, Bool.not_true, Bool.not_false, Bool.and_true, Bool.and_false, Bool.true_and, Bool.or_true, Bool.or_false, and_true, true_and, and_false, false_and, not_true, not_false_eq_true, Bool.not_eq_true, decide_eq_false_iff_not, RdK_d hn, hl, c1, c2, c3, c4, show ¬ g.h = i from fun z => c3 z.symm, show ¬ g.a = i from fun z => c4 z.symm]
            exact fin0 _ _ _ _ (by unfold oneR; rw [c1, c2]; simp [c3, c4])
  · obtain ⟨x4, x5, x6, x7, rfl⟩ := hI
    simp only [w_bnd, w_ret, w_opt, w_fail, w_ite, w_tb, w_ti, w_rd, w_chk, w_chkL, w_plVal, w_plTop, w_q, w_setM, w_clr, w_setO1, w_modR, w_frz, w_var, w_non, w_bl, w_int, w_str, w_gint, w_bin, w_neg, w_inv, w_not, w_cmp, w_chn, w_isN, w_mem, w_andE, w_orE, w_ife, w_tup, w_lst, w_idx, w_eoN, w_eoS, w_slc, w_lrng1, w_fld, w_pl, w_call, w_new, w_bi, w_biP, w_isi, w_lc, w_dc, w_esN, w_esC, w_etN, w_etS, w_arE, w_arI, w_asN, w_asC, w_iE, w_iR1, w_iR2, w_pN, w_pX, w_pXX, w_pFX, w_pF, w_callF, w_oe, w_ol, w_ocall, w_onew, w_osN, w_osC, w_ssN, w_ssC, w_asg, w_asgL, w_asgO, w_app, w_set, w_fset, w_aug, w_ex, w_retE, w_retN, w_retO, w_if, w_for, w_rse, w_try, w_brk, w_cont, w_pass, w_hret, w_hunl, OptK_s, RdK_bl, RdK_int, RdK_str, RdK_non, RdK_tup, RdK_lst, RdK_dK, RdK_dT, RdK_ins, RdK_fn, RdK_scr, RdK_ol, ChkK_fz, ChkK_l, ChkK_i, ChkK_k, ChkK_t, ValK_int, ValK_bl, ValK_lst, ValK_tup, LstK_l, BlK_b, InK_i, FlK_nx, FlK_ct, FlK_bk, FlK_rt, RcK_ok, RcK_exc, LoK_nx, LoK_ct, LoK_bk, LoK_rt, c_eq, c_ne, c_eqb, c_neb, c_lt, c_gt, c_le, c_ge, c_is, c_isnt, bn_f, bn_t, b_add, b_sub, a_add, a_sub, t_ii, t_ib, t_it, t_il, t_is, t_bi, t_bb, t_bt, t_bl, t_bs, t_ti, t_tb, t_tt, t_tl, t_ts, t_li, t_lb, t_lt, t_ll, t_ls, t_ni, t_nb, t_nt, t_nl, t_ns, t_si, t_sb, t_st, t_sl, t_ss, n_i, n_b, n_t, n_l, n_s, n_n, i_lenT, i_lenL, i_lenK, i_tupL, i_tupT, i_lstL, i_lstT, i_lstS, i_intI, i_intB, i_abs, i_min2, i_max2, i_all, i_any, i_sum, x_lst, x_tup, at0, at1, at2, at3, q_tup, q_lst, g_nil, g_l0, g_l1, g_l2, g_l3, g_fz, s_l0, s_l1, s_l2, s_l3, qv_i, qv_l, qv_t, qv_s, qv_b, qq_var, qq_int, qq_pl, p_nil, p_ix, st_nm, st_tup, sn_nil, sn_cons, ta_nil, ta_d, ta_io, pb_nil, pb_c, fr_i, fr_b, fr_t, fr_l, fr_s, fr_n, fr_c, fr_k, fr_ol, fr_oc, fz_nil, fz_cons, fz_fz, ou_nil, ou_c, un_l, un_f, un_c, fin_nx, fin_rt, wp_nil, wp_c, tpL, tpT, NwK_ok, NwK_exc, m_t2, m_il, m_it, m_ik, sl_t, sl_l, Option.bind_some, Option.map_some, Option.map, List.any_cons, List.any_nil, Bool.or_self, List.getElem?_cons_zero, List.getElem?_cons_succ, List.set_cons_zero, List.set_cons_succ, List.length_cons, List.length_nil, Nat.reduceAdd, Nat.reduceLT, Nat.lt_add_one, Nat.zero_add, Int.cast_ofNat_Int, Int.reduceLE, Int.reduceLT, Int.reduceEq, Int.reduceNeg, Nat.reduceLeDiff, ↓reduceIte, Option.getD, List.nil_append, List.cons_append, decide_eq_true_eq, decide_true, decide_false, Bool.false_eq_true, Bool.not_true, Bool.not_false, Bool.and_true, Bool.and_false, Bool.true_and, Bool.or_true, Bool.or_false, and_true, true_and, and_false, false_and, not_true, not_false_eq_true, Bool.not_eq_true, decide_eq_false_iff_not, fz_rows, show d3.io = [] from rfl]
theorem law_own_ok (n : Nat) {i : Int} {gs : List Gm} {lot : D} {p : Int → Bool} (hl : ∀ j, memD (.int j) lot = some (p j)) (hn : lot ≠ .nil) (hs : gs.length ≤ 400) :
    run P (n + 1) 14 [.fz (.tup (gs.map gD)), .fz (.int i), .fz lot] = .ok (.fz (.lst ((ownR p i gs).map rD))) [] := by
  rw [run_s (d := d14) rfl]
  apply RcK.ok_eq
  refine w_run rfl ?_
  change WX (exs P _ b14) [.fz (.tup (gs.map gD)), .fz (.int i), .fz lot, .un, .un, .un, .un, .un] _ _
  unfold b14
  simp only [w_bnd, w_ret, w_opt, w_fail, w_ite, w_tb, w_ti, w_rd, w_chk, w_chkL, w_plVal, w_plTop, w_q, w_setM, w_clr, w_setO1, w_modR, w_frz, w_var, w_non, w_bl, w_int, w_str, w_gint, w_bin, w_neg, w_inv, w_not, w_cmp, w_chn, w_isN, w_mem, w_andE, w_orE, w_ife, w_tup, w_lst, w_idx, w_eoN, w_eoS, w_slc, w_lrng1, w_fld, w_pl, w_call, w_new, w_bi, w_biP, w_isi, w_lc, w_dc, w_esN, w_esC, w_etN, w_etS, w_arE, w_arI, w_asN, w_asC, w_iE, w_iR1, w_iR2, w_pN, w_pX, w_pXX, w_pFX, w_pF, w_callF, w_oe, w_ol, w_ocall, w_onew, w_osN, w_osC, w_ssN, w_ssC, w_asg, w_asgL, w_asgO, w_app, w_set, w_fset, w_aug, w_ex, w_retE, w_retN, w_retO, w_if, w_for, w_rse, w_try, w_brk, w_cont, w_pass, w_hret, w_hunl, OptK_s, RdK_bl, RdK_int, RdK_str, RdK_non, RdK_tup, RdK_lst, RdK_dK, RdK_dT, RdK_ins, RdK_fn, RdK_scr, RdK_ol, ChkK_fz, ChkK_l, ChkK_i, ChkK_k, ChkK_t, ValK_int, ValK_bl, ValK_lst, ValK_tup, LstK_l, BlK_b, InK_i, FlK_nx, FlK_ct, FlK_bk, FlK_rt, RcK_ok, RcK_exc, LoK_nx, LoK_ct, LoK_bk, LoK_rt, c_eq, c_ne, c_eqb, c_neb, c_lt, c_gt, c_le, c_ge, c_is, c_isnt, bn_f, bn_t, b_add, b_sub, a_add, a_sub, t_ii, t_ib, t_it, t_il, t_is, t_bi, t_bb, t_bt, t_bl, t_bs, t_ti, t_tb, t_tt, t_tl, t_ts, t_li, t_lb, t_lt, t_ll, t_ls, t_ni, t_nb, t_nt, t_nl, t_ns, t_si, t_sb, t_st, t_sl, t_ss, n_i, n_b, n_t, n_l, n_s, n_n, i_lenT, i_lenL, i_lenK, i_tupL, i_tupT, i_lstL, i_lstT, i_lstS, i_intI, i_intB, i_abs, i_min2, i_max2, i_all, i_any, i_sum, x_lst, x_tup, at0, at1, at2, at3, q_tup, q_lst, g_nil, g_l0, g_l1, g_l2, g_l3, g_fz, s_l0, s_l1, s_l2, s_l3, qv_i, qv_l, qv_t, qv_s, qv_b, qq_var, qq_int, qq_pl, p_nil, p_ix, st_nm, st_tup, sn_nil, sn_cons, ta_nil, ta_d, ta_io, pb_nil, pb_c, fr_i, fr_b, fr_t, fr_l, fr_s, fr_n, fr_c, fr_k, fr_ol, fr_oc, fz_nil, fz_cons, fz_fz, ou_nil, ou_c, un_l, un_f, un_c, fin_nx, fin_rt, wp_nil, wp_c, tpL, tpT, NwK_ok, NwK_exc, m_t2, m_il, m_it, m_ik, sl_t, sl_l, Option.bind_some, Option.map_some, Option.map, List.any_cons, List.any_nil, Bool.or_self, List.getElem?_cons_zero, List.getElem?_cons_succ, List.set_cons_zero, List.set_cons_succ, List.length_cons, List.length_nil, Nat.reduceAdd, Nat.reduceLT, Nat.lt_add_one, Nat.zero_add, Int.cast_ofNat_Int, Int.reduceLE, Int.reduceLT, Int.reduceEq, Int.reduceNeg, Nat.reduceLeDiff, ↓reduceIte, Option.getD, List.nil_append, List.cons_append, decide_eq_true_eq, decide_true, decide_false, Bool.false_eq_true, Bool.not_true, Bool.not_false, Bool.and_true, Bool.and_false, Bool.true_and, Bool.or_true, Bool.or_false, and_true, true_and, and_false, false_and, not_true, not_false_eq_true, Bool.not_eq_true, decide_eq_false_iff_not]
  refine w_forM (fun as zs f => ∃ x4 x5 x6 x7, f = [.fz (.tup (gs.map gD)), .fz (.int i), .fz lot, .fz (.lst ((ownR p i as).map rD)), x4, x5, x6, x7]) ⟨_, _, _, _, rfl⟩ (fun as g zs f0 e hI => ?_) fun f1 hI => ?_
  · obtain ⟨x4, x5, x6, x7, rfl⟩ := hI
    have h1 : (((ownR p i as).map rD).length) ≤ 800 := by
      have h1 := ownR_len (p := p) (i := i) (gs := as)
      have h2 : as.length ≤ gs.length := by rw [← e]; simp
      rw [List.length_map]
      omega
    have fin : ∀ (xs : List Rw) (x4 x5 x6 x7 : O), oneR p i g = xs → ∃ y4 y5 y6 y7, [O.fz (.tup (gs.map gD)), .fz (.int i), .fz lot, .fz (.lst (((ownR p i as).map rD) ++ (xs.map rD))), x4, x5, x6, x7] = [O.fz (.tup (gs.map gD)), .fz (.int i), .fz lot, .fz (.lst ((ownR p i (as ++ [g])).map rD)), y4, y5, y6, y7] := fun xs x4 x5 x6 x7 h => ⟨x4, x5, x6, x7, by rw [ownR_snoc, h, List.map_append]⟩
    have fin0 := fin []
    rw [List.map_nil, List.append_nil] at fin0
    have ad : ∀ ys : List D, ys.length ≤ 1 → ∀ zs : List D, zs.length ≤ 1 → binD .add (.lst ((ownR p i as).map rD ++ ys)) (.lst zs) = some (.lst ((ownR p i as).map rD ++ ys ++ zs)) := fun ys hy zs hz => b_addL (by rw [List.length_append]; omega)
    have ad0 : ∀ ys : List D, ys.length ≤ 1 → binD .add (.lst ((ownR p i as).map rD)) (.lst ys) = some (.lst ((ownR p i as).map rD ++ ys)) := fun ys hy => b_addL (by omega)
    unfold gD
    cases c1 : p g.h with
    | false =>
      simp only [w_bnd, w_ret, w_opt, w_fail, w_ite, w_tb, w_ti, w_rd, w_chk, w_chkL, w_plVal, w_plTop, w_q, w_setM, w_clr, w_setO1, w_modR, w_frz, w_var, w_non, w_bl, w_int, w_str, w_gint, w_bin, w_neg, w_inv, w_not, w_cmp, w_chn, w_isN, w_mem, w_andE, w_orE, w_ife, w_tup, w_lst, w_idx, w_eoN, w_eoS, w_slc, w_lrng1, w_fld, w_pl, w_call, w_new, w_bi, w_biP, w_isi, w_lc, w_dc, w_esN, w_esC, w_etN, w_etS, w_arE, w_arI, w_asN, w_asC, w_iE, w_iR1, w_iR2, w_pN, w_pX, w_pXX, w_pFX, w_pF, w_callF, w_oe, w_ol, w_ocall, w_onew, w_osN, w_osC, w_ssN, w_ssC, w_asg, w_asgL, w_asgO, w_app, w_set, w_fset, w_aug, w_ex, w_retE, w_retN, w_retO, w_if, w_for, w_rse, w_try, w_brk, w_cont, w_pass, w_hret, w_hunl, OptK_s, RdK_bl, RdK_int, RdK_str, RdK_non, RdK_tup, RdK_lst, RdK_dK, RdK_dT, RdK_ins, RdK_fn, RdK_scr, RdK_ol, ChkK_fz, ChkK_l, ChkK_i, ChkK_k, ChkK_t, ValK_int, ValK_bl, ValK_lst, ValK_tup, LstK_l, BlK_b, InK_i, FlK_nx, FlK_ct, FlK_bk, FlK_rt, RcK_ok, RcK_exc, LoK_nx, LoK_ct, LoK_bk, LoK_rt, c_eq, c_ne, c_eqb, c_neb, c_lt, c_gt, c_le, c_ge, c_is, c_isnt, bn_f, bn_t, b_add, b_sub, a_add, a_sub, t_ii, t_ib, t_it, t_il, t_is, t_bi, t_bb, t_bt, t_bl, t_bs, t_ti, t_tb, t_tt, t_tl, t_ts, t_li, t_lb, t_lt, t_ll, t_ls, t_ni, t_nb, t_nt, t_nl, t_ns, t_si, t_sb, t_st, t_sl, t_ss, n_i, n_b, n_t, n_l, n_s, n_n, i_lenT, i_lenL, i_lenK, i_tupL, i_tupT, i_lstL, i_lstT, i_lstS, i_intI, i_intB, i_abs, i_min2, i_max2, i_all, i_any, i_sum, x_lst, x_tup, at0, at1, at2, at3, q_tup, q_lst, g_nil, g_l0, g_l1, g_l2, g_l3, g_fz, s_l0, s_l1, s_l2, s_l3, qv_i, qv_l, qv_t, qv_s, qv_b, qq_var, qq_int, qq_pl, p_nil, p_ix, st_nm, st_tup, sn_nil, sn_cons, ta_nil, ta_d, ta_io, pb_nil, pb_c, fr_i, fr_b, fr_t, fr_l, fr_s, fr_n, fr_c, fr_k, fr_ol, fr_oc, fz_nil, fz_cons, fz_fz, ou_nil, ou_c, un_l, un_f, un_c, fin_nx, fin_rt, wp_nil, wp_c, tpL, tpT, NwK_ok, NwK_exc, m_t2, m_il, m_it, m_ik, sl_t, sl_l, Option.bind_some, Option.map_some, Option.map, List.any_cons, List.any_nil, Bool.or_self, List.getElem?_cons_zero, List.getElem?_cons_succ, List.set_cons_zero, List.set_cons_succ, List.length_cons, List.length_nil, Nat.reduceAdd, Nat.reduceLT, Nat.lt_add_one, Nat.zero_add, Int.cast_ofNat_Int, Int.reduceLE, Int.reduceLT, Int.reduceEq, Int.reduceNeg, Nat.reduceLeDiff, ↓reduceIte, Option.getD, List.nil_append, List.cons_append, decide_eq_true_eq, decide_true, decide_false, Bool.false_eq_true, Bool.not_true, Bool.not_false, Bool.and_true, Bool.and_false, Bool.true_and, Bool.or_true, Bool.or_false, and_true, true_and, and_false, false_and, not_true, not_false_eq_true, Bool.not_eq_true, decide_eq_false_iff_not, RdK_d hn, hl, c1]
      exact fin0 _ _ _ _ (by unfold oneR; rw [c1]; rfl)
    | true =>
      cases c2 : p g.a with
      | false =>
        simp only [w_bnd, w_ret, w_opt, w_fail, w_ite, w_tb, w_ti, w_rd, w_chk, w_chkL, w_plVal, w_plTop, w_q, w_setM, w_clr, w_setO1, w_modR, w_frz, w_var, w_non, w_bl, w_int, w_str, w_gint, w_bin, w_neg, w_inv, w_not, w_cmp, w_chn, w_isN, w_mem, w_andE, w_orE, w_ife, w_tup, w_lst, w_idx, w_eoN, w_eoS, w_slc, w_lrng1, w_fld, w_pl, w_call, w_new, w_bi, w_biP, w_isi, w_lc, w_dc, w_esN, w_esC, w_etN, w_etS, w_arE, w_arI, w_asN, w_asC, w_iE, w_iR1, w_iR2, w_pN, w_pX, w_pXX, w_pFX, w_pF, w_callF, w_oe, w_ol, w_ocall, w_onew, w_osN, w_osC, w_ssN, w_ssC, w_asg, w_asgL, w_asgO, w_app, w_set, w_fset, w_aug, w_ex, w_retE, w_retN, w_retO, w_if, w_for, w_rse, w_try, w_brk, w_cont, w_pass, w_hret, w_hunl, OptK_s, RdK_bl, RdK_int, RdK_str, RdK_non, RdK_tup, RdK_lst, RdK_dK, RdK_dT, RdK_ins, RdK_fn, RdK_scr, RdK_ol, ChkK_fz, ChkK_l, ChkK_i, ChkK_k, ChkK_t, ValK_int, ValK_bl, ValK_lst, ValK_tup, LstK_l, BlK_b, InK_i, FlK_nx, FlK_ct, FlK_bk, FlK_rt, RcK_ok, RcK_exc, LoK_nx, LoK_ct, LoK_bk, LoK_rt, c_eq, c_ne, c_eqb, c_neb, c_lt, c_gt, c_le, c_ge, c_is, c_isnt, bn_f, bn_t, b_add, b_sub, a_add, a_sub, t_ii, t_ib, t_it, t_il, t_is, t_bi, t_bb, t_bt, t_bl, t_bs, t_ti, t_tb, t_tt, t_tl, t_ts, t_li, t_lb, t_lt, t_ll, t_ls, t_ni, t_nb, t_nt, t_nl, t_ns, t_si, t_sb, t_st, t_sl, t_ss, n_i, n_b, n_t, n_l, n_s, n_n, i_lenT, i_lenL, i_lenK, i_tupL, i_tupT, i_lstL, i_lstT, i_lstS, i_intI, i_intB, i_abs, i_min2, i_max2, i_all, i_any, i_sum, x_lst, x_tup, at0, at1, at2, at3, q_tup, q_lst, g_nil, g_l0, g_l1, g_l2, g_l3, g_fz, s_l0, s_l1, s_l2, s_l3, qv_i, qv_l, qv_t, qv_s, qv_b, qq_var, qq_int, qq_pl, p_nil, p_ix, st_nm, st_tup, sn_nil, sn_cons, ta_nil, ta_d, ta_io, pb_nil, pb_c, fr_i, fr_b, fr_t, fr_l, fr_s, fr_n, fr_c, fr_k, fr_ol, fr_oc, fz_nil, fz_cons, fz_fz, ou_nil, ou_c, un_l, un_f, un_c, fin_nx, fin_rt, wp_nil, wp_c, tpL, tpT, NwK_ok, NwK_exc, m_t2, m_il, m_it, m_ik, sl_t, sl_l, Option.bind_some, Option.map_some, Option.map, List.any_cons, List.any_nil, Bool.or_self, List.getElem?_cons_zero, List.getElem?_cons_succ, List.set_cons_zero, List.set_cons_succ, List.length_cons, List.length_nil, Nat.reduceAdd, Nat.reduceLT, Nat.lt_add_one, Nat.zero_add, Int.cast_ofNat_Int, Int.reduceLE, Int.reduceLT, Int.reduceEq, Int.reduceNeg, Nat.reduceLeDiff, ↓reduceIte, Option.getD, List.nil_append, List.cons_append, decide_eq_true_eq, decide_true, decide_false, Bool.false_eq_true, Bool.not_true, Bool.not_false, Bool.and_true, Bool.and_false, Bool.true_and, Bool.or_true, Bool.or_false, and_true, true_and, and_false, false_and, not_true, not_false_eq_true, Bool.not_eq_true, decide_eq_false_iff_not, RdK_d hn, hl, c1, c2]
        exact fin0 _ _ _ _ (by unfold oneR; rw [c1, c2]; rfl)
      | true =>
        have a1 : ∀ d : D, binD .add (.lst ((ownR p i as).map rD)) (.lst [d]) = some (.lst ((ownR p i as).map rD ++ [d])) := fun d => ad0 [d] (by simp)
        have a0 : binD .add (.lst ((ownR p i as).map rD)) (.lst []) = some (.lst ((ownR p i as).map rD ++ [])) := ad0 [] (by simp)
        have a2 : ∀ d e : D, binD .add (.lst ((ownR p i as).map rD ++ [d])) (.lst [e]) = some (.lst ((ownR p i as).map rD ++ [d] ++ [e])) := fun d e => ad [d] (by simp) [e] (by simp)
        have a3 : ∀ d : D, binD .add (.lst ((ownR p i as).map rD ++ [d])) (.lst []) = some (.lst ((ownR p i as).map rD ++ [d] ++ [])) := fun d => ad [d] (by simp) [] (by simp)
        by_cases c3 : i = g.h
        · by_cases c4 : i = g.a
          · simp only [w_bnd, w_ret, w_opt, w_fail, w_ite, w_tb, w_ti, w_rd, w_chk, w_chkL, w_plVal, w_plTop, w_q, w_setM, w_clr, w_setO1, w_modR, w_frz, w_var, w_non, w_bl, w_int, w_str, w_gint, w_bin, w_neg, w_inv, w_not, w_cmp, w_chn, w_isN, w_mem, w_andE, w_orE, w_ife, w_tup, w_lst, w_idx, w_eoN, w_eoS, w_slc, w_lrng1, w_fld, w_pl, w_call, w_new, w_bi, w_biP, w_isi, w_lc, w_dc, w_esN, w_esC, w_etN, w_etS, w_arE, w_arI, w_asN, w_asC, w_iE, w_iR1, w_iR2, w_pN, w_pX, w_pXX, w_pFX, w_pF, w_callF, w_oe, w_ol, w_ocall, w_onew, w_osN, w_osC, w_ssN, w_ssC, w_asg, w_asgL, w_asgO, w_app, w_set, w_fset, w_aug, w_ex, w_retE, w_retN, w_retO, w_if, w_for, w_rse, w_try, w_brk, w_cont, w_pass, w_hret, w_hunl, OptK_s, RdK_bl, RdK_int, RdK_str, RdK_non, RdK_tup, RdK_lst, RdK_dK, RdK_dT, RdK_ins, RdK_fn, RdK_scr, RdK_ol, ChkK_fz, ChkK_l, ChkK_i, ChkK_k, ChkK_t, ValK_int, ValK_bl, ValK_lst, ValK_tup, LstK_l, BlK_b, InK_i, FlK_nx, FlK_ct, FlK_bk, FlK_rt, RcK_ok, RcK_exc, LoK_nx, LoK_ct, LoK_bk, LoK_rt, c_eq, c_ne, c_eqb, c_neb, c_lt, c_gt, c_le, c_ge, c_is, c_isnt, bn_f, bn_t, b_add, b_sub, a_add, a_sub, t_ii, t_ib, t_it, t_il, t_is, t_bi, t_bb, t_bt, t_bl, t_bs, t_ti, t_tb, t_tt, t_tl, t_ts, t_li, t_lb, t_lt, t_ll, t_ls, t_ni, t_nb, t_nt, t_nl, t_ns, t_si, t_sb, t_st, t_sl, t_ss, n_i, n_b, n_t, n_l, n_s, n_n, i_lenT, i_lenL, i_lenK, i_tupL, i_tupT, i_lstL, i_lstT, i_lstS, i_intI, i_intB, i_abs, i_min2, i_max2, i_all, i_any, i_sum, x_lst, x_tup, at0, at1, at2, at3, q_tup, q_lst, g_nil, g_l0, g_l1, g_l2, g_l3, g_fz, s_l0, s_l1, s_l2, s_l3, qv_i, qv_l, qv_t, qv_s, qv_b, qq_var, qq_int, qq_pl, p_nil, p_ix, st_nm, st_tup, sn_nil, sn_cons, ta_nil, ta_d, ta_io, pb_nil, pb_c, fr_i, fr_b, fr_t, fr_l, fr_s, fr_n, fr_c, fr_k, fr_ol, fr_oc, fz_nil, fz_cons, fz_fz, ou_nil, ou_c, un_l, un_f, un_c, fin_nx, fin_rt, wp_nil, wp_c, tpL, tpT, NwK_ok, NwK_exc, m_t2, m_il, m_it, m_ik, sl_t, sl_l, Option.bind_some, Option.map_some, Option.map, List.any_cons, List.any_nil, Bool.or_self, List.getElem?_cons_zero, List.getElem?_cons_succ, List.set_cons_zero, List.set_cons_succ, List.length_cons, List.length_nil, Nat.reduceAdd, Nat.reduceLT, Nat.lt_add_one, Nat.zero_add, Int.cast_ofNat_Int, Int.reduceLE, Int.reduceLT, Int.reduceEq, Int.reduceNeg, Nat.reduceLeDiff, ↓reduceIte, Option.getD, List.nil_append, List.cons_append, decide_eq_true_eq, decide_true, decide_false, Bool.false_eq_true, Bool.not_true, Bool.not_false, Bool.and_true, Bool.and_false, Bool.true_and, Bool.or_true, Bool.or_false, and_true, true_and, and_false, false_and, not_true, not_false_eq_true, Bool.not_eq_true, decide_eq_false_iff_not, RdK_d hn, hl, c1, c2, eq_true c3, eq_true c4, a1, a2, List.append_assoc]
            exact fin [⟨true, g.o, g.t⟩, ⟨false, g.t, g.o⟩] _ _ _ _ (by unfold oneR; rw [c1, c2]; simp [← c3, ← c4])
          · simp only [w_bnd, w_ret, w_opt, w_fail, w_ite, w_tb, w_ti, w_rd, w_chk, w_chkL, w_plVal, w_plTop, w_q, w_setM, w_clr, w_setO1, w_modR, w_frz, w_var, w_non, w_bl, w_int, w_str, w_gint, w_bin, w_neg, w_inv, w_not, w_cmp, w_chn, w_isN, w_mem, w_andE, w_orE, w_ife, w_tup, w_lst, w_idx, w_eoN, w_eoS, w_slc, w_lrng1, w_fld, w_pl, w_call, w_new, w_bi, w_biP, w_isi, w_lc, w_dc, w_esN, w_esC, w_etN, w_etS, w_arE, w_arI, w_asN, w_asC, w_iE, w_iR1, w_iR2, w_pN, w_pX, w_pXX, w_pFX, w_pF, w_callF, w_oe, w_ol, w_ocall, w_onew, w_osN, w_osC, w_ssN, w_ssC, w_asg, w_asgL, w_asgO, w_app, w_set, w_fset, w_aug, w_ex, w_retE, w_retN, w_retO, w_if, w_for, w_rse, w_try, w_brk, w_cont, w_pass, w_hret, w_hunl, OptK_s, RdK_bl, RdK_int, RdK_str, RdK_non, RdK_tup, RdK_lst, RdK_dK, RdK_dT, RdK_ins, RdK_fn, RdK_scr, RdK_ol, ChkK_fz, ChkK_l, ChkK_i, ChkK_k, ChkK_t, ValK_int, ValK_bl, ValK_lst, ValK_tup, LstK_l, BlK_b, InK_i, FlK_nx, FlK_ct, FlK_bk, FlK_rt, RcK_ok, RcK_exc, LoK_nx, LoK_ct, LoK_bk, LoK_rt, c_eq, c_ne, c_eqb, c_neb, c_lt, c_gt, c_le, c_ge, c_is, c_isnt, bn_f, bn_t, b_add, b_sub, a_add, a_sub, t_ii, t_ib, t_it, t_il, t_is, t_bi, t_bb, t_bt, t_bl, t_bs, t_ti, t_tb, t_tt, t_tl, t_ts, t_li, t_lb, t_lt, t_ll, t_ls, t_ni, t_nb, t_nt, t_nl, t_ns, t_si, t_sb, t_st, t_sl, t_ss, n_i, n_b, n_t, n_l, n_s, n_n, i_lenT, i_lenL, i_lenK, i_tupL, i_tupT, i_lstL, i_lstT, i_lstS, i_intI, i_intB, i_abs, i_min2, i_max2, i_all, i_any, i_sum, x_lst, x_tup, at0, at1, at2, at3, q_tup, q_lst, g_nil, g_l0, g_l1, g_l2, g_l3, g_fz, s_l0, s_l1, s_l2, s_l3, qv_i, qv_l, qv_t, qv_s, qv_b, qq_var, qq_int, qq_pl, p_nil, p_ix, st_nm, st_tup, sn_nil, sn_cons, ta_nil, ta_d, ta_io, pb_nil, pb_c, fr_i, fr_b, fr_t, fr_l, fr_s, fr_n, fr_c, fr_k, fr_ol, fr_oc, fz_nil, fz_cons, fz_fz, ou_nil, ou_c, un_l, un_f, un_c, fin_nx, fin_rt, wp_nil, wp_c, tpL, tpT, NwK_ok, NwK_exc, m_t2, m_il, m_it, m_ik, sl_t, sl_l, Option.bind_some, Option.map_some, Option.map, List.any_cons, List.any_nil, Bool.or_self, List.getElem?_cons_zero, List.getElem?_cons_succ, List.set_cons_zero, List.set_cons_succ, List.length_cons, List.length_nil, Nat.reduceAdd, Nat.reduceLT, Nat.lt_add_one, Nat.zero_add, Int.cast_ofNat_Int, Int.reduceLE, Int.reduceLT, Int.reduceEq, Int.reduceNeg, Nat.reduceLeDiff, ↓reduceIte, Option.getD, List.nil_append, List.cons_append, decide_eq_true_eq, decide_true, decide_false, Bool.false_eq_true, Bool.not_true, Bool.not_false, Bool.and_true, Bool.and_false, Bool.true_and, Bool.or_true, Bool.or_false, and_true, true_and, and_false, false_and, not_true, not_false_eq_true, Bool.not_eq_true, decide_eq_false_iff_not, RdK_d hn, hl, c1, c2, eq_true c3, c4, a1, a3, List.append_assoc, List.append_nil]
            exact fin [⟨true, g.o, g.t⟩] _ _ _ _ (by unfold oneR; rw [c1, c2]; simp [← c3, c4])
        · by_cases c4 : i = g.a
          · simp only [w_bnd, w_ret, w_opt, w_fail, w_ite, w_tb, w_ti, w_rd, w_chk, w_chkL, w_plVal, w_plTop, w_q, w_setM, w_clr, w_setO1, w_modR, w_frz, w_var, w_non, w_bl, w_int, w_str, w_gint, w_bin, w_neg, w_inv, w_not, w_cmp, w_chn, w_isN, w_mem, w_andE, w_orE, w_ife, w_tup, w_lst, w_idx, w_eoN, w_eoS, w_slc, w_lrng1, w_fld, w_pl, w_call, w_new, w_bi, w_biP, w_isi, w_lc, w_dc, w_esN, w_esC, w_etN, w_etS, w_arE, w_arI, w_asN, w_asC, w_iE, w_iR1, w_iR2, w_pN, w_pX, w_pXX, w_pFX, w_pF, w_callF, w_oe, w_ol, w_ocall, w_onew, w_osN, w_osC, w_ssN, w_ssC, w_asg, w_asgL, w_asgO, w_app, w_set, w_fset, w_aug, w_ex, w_retE, w_retN, w_retO, w_if, w_for, w_rse, w_try, w_brk, w_cont, w_pass, w_hret, w_hunl, OptK_s, RdK_bl, RdK_int, RdK_str, RdK_non, RdK_tup, RdK_lst, RdK_dK, RdK_dT, RdK_ins, RdK_fn, RdK_scr, RdK_ol, ChkK_fz, ChkK_l, ChkK_i, ChkK_k, ChkK_t, ValK_int, ValK_bl, ValK_lst, ValK_tup, LstK_l, BlK_b, InK_i, FlK_nx, FlK_ct, FlK_bk, FlK_rt, RcK_ok, RcK_exc, LoK_nx, LoK_ct, LoK_bk, LoK_rt, c_eq, c_ne, c_eqb, c_neb, c_lt, c_gt, c_le, c_ge, c_is, c_isnt, bn_f, bn_t, b_add, b_sub, a_add, a_sub, t_ii, t_ib, t_it, t_il, t_is, t_bi, t_bb, t_bt, t_bl, t_bs, t_ti, t_tb, t_tt, t_tl, t_ts, t_li, t_lb, t_lt, t_ll, t_ls, t_ni, t_nb, t_nt, t_nl, t_ns, t_si, t_sb, t_st, t_sl, t_ss, n_i, n_b, n_t, n_l, n_s, n_n, i_lenT, i_lenL, i_lenK, i_tupL, i_tupT, i_lstL, i_lstT, i_lstS, i_intI, i_intB, i_abs, i_min2, i_max2, i_all, i_any, i_sum, x_lst, x_tup, at0, at1, at2, at3, q_tup, q_lst, g_nil, g_l0, g_l1, g_l2, g_l3, g_fz, s_l0, s_l1, s_l2, s_l3, qv_i, qv_l, qv_t, qv_s, qv_b, qq_var, qq_int, qq_pl, p_nil, p_ix, st_nm, st_tup, sn_nil, sn_cons, ta_nil, ta_d, ta_io, pb_nil, pb_c, fr_i, fr_b, fr_t, fr_l, fr_s, fr_n, fr_c, fr_k, fr_ol, fr_oc, fz_nil, fz_cons, fz_fz, ou_nil, ou_c, un_l, un_f, un_c, fin_nx, fin_rt, wp_nil, wp_c, tpL, tpT, NwK_ok, NwK_exc, m_t2, m_il, m_it, m_ik, sl_t, sl_l, Option.bind_some, Option.map_some, Option.map, List.any_cons, List.any_nil, Bool.or_self, List.getElem?_cons_zero, List.getElem?_cons_succ, List.set_cons_zero, List.set_cons_succ, List.length_cons, List.length_nil, Nat.reduceAdd, Nat.reduceLT, Nat.lt_add_one, Nat.zero_add, Int.cast_ofNat_Int, Int.reduceLE, Int.reduceLT, Int.reduceEq, Int.reduceNeg, Nat.reduceLeDiff, ↓reduceIte, Option.getD, List.nil_append, List.cons_append, decide_eq_true_eq, decide_true, decide_false, Bool.false_eq_true, Bool.not_true, Bool.not_false, Bool.and_true, Bool.and_false, Bool.true_and, Bool.or_true, Bool.or_false, and_true, true_and, and_false, false_and, not_true, not_false_eq_true, Bool.not_eq_true, decide_eq_false_iff_not, RdK_d hn, hl, c1, c2, c3, eq_true c4, a1, a0, List.append_assoc, List.append_nil]
            exact fin [⟨false, g.t, g.o⟩] _ _ _ _ (by unfold oneR; rw [c1, c2]; simp [c3, ← c4])
          · simp only [w_bnd, w_ret, w_opt, w_fail, w_ite, w_tb, w_ti, w_rd, w_chk, w_chkL, w_plVal, w_plTop, w_q, w_setM, w_clr, w_setO1, w_modR, w_frz, w_var, w_non, w_bl, w_int, w_str, w_gint, w_bin, w_neg, w_inv, w_not, w_cmp, w_chn, w_isN, w_mem, w_andE, w_orE, w_ife, w_tup, w_lst, w_idx, w_eoN, w_eoS, w_slc, w_lrng1, w_fld, w_pl, w_call, w_new, w_bi, w_biP, w_isi, w_lc, w_dc, w_esN, w_esC, w_etN, w_etS, w_arE, w_arI, w_asN, w_asC, w_iE, w_iR1, w_iR2, w_pN, w_pX, w_pXX, w_pFX, w_pF, w_callF, w_oe, w_ol, w_ocall, w_onew, w_osN, w_osC, w_ssN, w_ssC, w_asg, w_asgL, w_asgO, w_app, w_set, w_fset, w_aug, w_ex, w_retE, w_retN, w_retO, w_if, w_for, w_rse, w_try, w_brk, w_cont, w_pass, w_hret, w_hunl, OptK_s, RdK_bl, RdK_int, RdK_str, RdK_non, RdK_tup, RdK_lst, RdK_dK, RdK_dT, RdK_ins, RdK_fn, RdK_scr, RdK_ol, ChkK_fz, ChkK_l, ChkK_i, ChkK_k, ChkK_t, ValK_int, ValK_bl, ValK_lst, ValK_tup, LstK_l, BlK_b, InK_i, FlK_nx, FlK_ct, FlK_bk, FlK_rt, RcK_ok, RcK_exc, LoK_nx, LoK_ct, LoK_bk, LoK_rt, c_eq, c_ne, c_eqb, c_neb, c_lt, c_gt, c_le, c_ge, c_is, c_isnt, bn_f, bn_t, b_add, b_sub, a_add, a_sub, t_ii, t_ib, t_it, t_il, t_is, t_bi, t_bb, t_bt, t_bl, t_bs, t_ti, t_tb, t_tt, t_tl, t_ts, t_li, t_lb, t_lt, t_ll, t_ls, t_ni, t_nb, t_nt, t_nl, t_ns, t_si, t_sb, t_st, t_sl, t_ss, n_i, n_b, n_t, n_l, n_s, n_n, i_lenT, i_lenL, i_lenK, i_tupL, i_tupT, i_lstL, i_lstT, i_lstS, i_intI, i_intB, i_abs, i_min2, i_max2, i_all, i_any, i_sum, x_lst, x_tup, at0, at1, at2, at3, q_tup, q_lst, g_nil, g_l0, g_l1, g_l2, g_l3, g_fz, s_l0, s_l1, s_l2, s_l3, qv_i, qv_l, qv_t, qv_s, qv_b, qq_var, qq_int, qq_pl, p_nil, p_ix, st_nm, st_tup, sn_nil, sn_cons, ta_nil, ta_d, ta_io, pb_nil, pb_c, fr_i, fr_b, fr_t, fr_l, fr_s, fr_n, fr_c, fr_k, fr_ol, fr_oc, fz_nil, fz_cons, fz_fz, ou_nil, ou_c, un_l, un_f, un_c, fin_nx, fin_rt, wp_nil, wp_c, tpL, tpT, NwK_ok, NwK_exc, m_t2, m_il, m_it, m_ik, sl_t, sl_l, Option.bind_some, Option.map_some, Option.map, List.any_cons, List.any_nil, Bool.or_self, List.getElem?_cons_zero, List.getElem?_cons_succ, List.set_cons_zero, List.set_cons_succ, List.length_cons, List.length_nil, Nat.reduceAdd, Nat.reduceLT, Nat.lt_add_one, Nat.zero_add, Int.cast_ofNat_Int, Int.reduceLE, Int.reduceLT, Int.reduceEq, Int.reduceNeg, Nat.reduceLeDiff, ↓reduceIte, Option.getD, List.nil_append, List.cons_append, decide_eq_true_eq, decide_true, decide_false, Bool.false_eq_true, Bool.not_true, Bool.not_false, Bool.and_true, Bool.and_false, Bool.true_and, Bool.or_true, Bool.or_false, and_true, true_and, and_false, false_and, not_true, not_false_eq_true, Bool.not_eq_true, decide_eq_false_iff_not, RdK_d hn, hl, c1, c2, c3, c4, a0, List.append_nil]
            exact fin0 _ _ _ _ (by unfold oneR; rw [c1, c2]; simp [c3, c4])
  · obtain ⟨x4, x5, x6, x7, rfl⟩ := hI
    simp only [w_bnd, w_ret, w_opt, w_fail, w_ite, w_tb, w_ti, w_rd, w_chk, w_chkL, w_plVal, w_plTop, w_q, w_setM, w_clr, w_setO1, w_modR, w_frz, w_var, w_non, w_bl, w_int, w_str, w_gint, w_bin, w_neg, w_inv, w_not, w_cmp, w_chn, w_isN, w_mem, w_andE, w_orE, w_ife, w_tup, w_lst, w_idx, w_eoN, w_eoS, w_slc, w_lrng1, w_fld, w_pl, w_call, w_new, w_bi, w_biP, w_isi, w_lc, w_dc, w_esN, w_esC, w_etN, w_etS, w_arE, w_arI, w_asN, w_asC, w_iE, w_iR1, w_iR2, w_pN, w_pX, w_pXX, w_pFX, w_pF, w_callF, w_oe, w_ol, w_ocall, w_onew, w_osN, w_osC, w_ssN, w_ssC, w_asg, w_asgL, w_asgO, w_app, w_set, w_fset, w_aug, w_ex, w_retE, w_retN, w_retO, w_if, w_for, w_rse, w_try, w_brk, w_cont, w_pass, w_hret, w_hunl, OptK_s, RdK_bl, RdK_int, RdK_str, RdK_non, RdK_tup, RdK_lst, RdK_dK, RdK_dT, RdK_ins, RdK_fn, RdK_scr, RdK_ol, ChkK_fz, ChkK_l, ChkK_i, ChkK_k, ChkK_t, ValK_int, ValK_bl, ValK_lst, ValK_tup, LstK_l, BlK_b, InK_i, FlK_nx, FlK_ct, FlK_bk, FlK_rt, RcK_ok, RcK_exc, LoK_nx, LoK_ct, LoK_bk, LoK_rt, c_eq, c_ne, c_eqb, c_neb, c_lt, c_gt, c_le, c_ge, c_is, c_isnt, bn_f, bn_t, b_add, b_sub, a_add, a_sub, t_ii, t_ib, t_it, t_il, t_is, t_bi, t_bb, t_bt, t_bl, t_bs, t_ti, t_tb, t_tt, t_tl, t_ts, t_li, t_lb, t_lt, t_ll, t_ls, t_ni, t_nb, t_nt, t_nl, t_ns, t_si, t_sb, t_st, t_sl, t_ss, n_i, n_b, n_t, n_l, n_s, n_n, i_lenT, i_lenL, i_lenK, i_tupL, i_tupT, i_lstL, i_lstT, i_lstS, i_intI, i_intB, i_abs, i_min2, i_max2, i_all, i_any, i_sum, x_lst, x_tup, at0, at1, at2, at3, q_tup, q_lst, g_nil, g_l0, g_l1, g_l2, g_l3, g_fz, s_l0, s_l1, s_l2, s_l3, qv_i, qv_l, qv_t, qv_s, qv_b, qq_var, qq_int, qq_pl, p_nil, p_ix, st_nm, st_tup, sn_nil, sn_cons, ta_nil, ta_d, ta_io, pb_nil, pb_c, fr_i, fr_b, fr_t, fr_l, fr_s, fr_n, fr_c, fr_k, fr_ol, fr_oc, fz_nil, fz_cons, fz_fz, ou_nil, ou_c, un_l, un_f, un_c, fin_nx, fin_rt, wp_nil, wp_c, tpL, tpT, NwK_ok, NwK_exc, m_t2, m_il, m_it, m_ik, sl_t, sl_l, Option.bind_some, Option.map_some, Option.map, List.any_cons, List.any_nil, Bool.or_self, List.getElem?_cons_zero, List.getElem?_cons_succ, List.set_cons_zero, List.set_cons_succ, List.length_cons, List.length_nil, Nat.reduceAdd, Nat.reduceLT, Nat.lt_add_one, Nat.zero_add, Int.cast_ofNat_Int, Int.reduceLE, Int.reduceLT, Int.reduceEq, Int.reduceNeg, Nat.reduceLeDiff, ↓reduceIte, Option.getD, List.nil_append, List.cons_append, decide_eq_true_eq, decide_true, decide_false, Bool.false_eq_true, Bool.not_true, Bool.not_false, Bool.and_true, Bool.and_false, Bool.true_and, Bool.or_true, Bool.or_false, and_true, true_and, and_false, false_and, not_true, not_false_eq_true, Bool.not_eq_true, decide_eq_false_iff_not, show d14.io = [] from rfl]
end L35

namespace L35
open PySem Cr Cw
def pv (u v w : Int) (r : Rw) : Int := if r.y < r.x then u else if r.x = r.y then v else w
def vD (u v w : Int) : D := .tup [.int u, .int v, .int w]
theorem points_in_ok (n : Nat) {s i u v w : Int} {gs : List Gm} {lot : D} {p : Int → Bool} (hl : ∀ j, memD (.int j) lot = some (p j)) (hn : lot ≠ .nil) (hg : ∀ g ∈ gs, g.h ≠ g.a) (hs : gs.length ≤ 400) :
    run P (n + 2) 5 [.fz (resD s gs), .fz (.int i), .fz lot, .fz (vD u v w)] = .ok (.fz (.int ((ownR p i gs).map (pv u v w)).sum)) [] := by
  rw [run_s (d := d5) rfl]
  apply RcK.ok_eq
  refine w_run rfl ?_
  change WX (exs P _ b5) [.fz (resD s gs), .fz (.int i), .fz lot, .fz (vD u v w), .un, .un, .un, .un] _ _
  unfold b5
  simp only [w_bnd, w_ret, w_opt, w_fail, w_ite, w_tb, w_ti, w_rd, w_chk, w_chkL, w_plVal, w_plTop, w_q, w_setM, w_clr, w_setO1, w_modR, w_frz, w_var, w_non, w_bl, w_int, w_str, w_gint, w_bin, w_neg, w_inv, w_not, w_cmp, w_chn, w_isN, w_mem, w_andE, w_orE, w_ife, w_tup, w_lst, w_idx, w_eoN, w_eoS, w_slc, w_lrng1, w_fld, w_pl, w_call, w_new, w_bi, w_biP, w_isi, w_lc, w_dc, w_esN, w_esC, w_etN, w_etS, w_arE, w_arI, w_asN, w_asC, w_iE, w_iR1, w_iR2, w_pN, w_pX, w_pXX, w_pFX, w_pF, w_callF, w_oe, w_ol, w_ocall, w_onew, w_osN, w_osC, w_ssN, w_ssC, w_asg, w_asgL, w_asgO, w_app, w_set, w_fset, w_aug, w_ex, w_retE, w_retN, w_retO, w_if, w_for, w_rse, w_try, w_brk, w_cont, w_pass, w_hret, w_hunl, OptK_s, RdK_bl, RdK_int, RdK_str, RdK_non, RdK_tup, RdK_lst, RdK_dK, RdK_dT, RdK_ins, RdK_fn, RdK_scr, RdK_ol, ChkK_fz, ChkK_l, ChkK_i, ChkK_k, ChkK_t, ValK_int, ValK_bl, ValK_lst, ValK_tup, LstK_l, BlK_b, InK_i, FlK_nx, FlK_ct, FlK_bk, FlK_rt, RcK_ok, RcK_exc, LoK_nx, LoK_ct, LoK_bk, LoK_rt, c_eq, c_ne, c_eqb, c_neb, c_lt, c_gt, c_le, c_ge, c_is, c_isnt, bn_f, bn_t, b_add, b_sub, a_add, a_sub, t_ii, t_ib, t_it, t_il, t_is, t_bi, t_bb, t_bt, t_bl, t_bs, t_ti, t_tb, t_tt, t_tl, t_ts, t_li, t_lb, t_lt, t_ll, t_ls, t_ni, t_nb, t_nt, t_nl, t_ns, t_si, t_sb, t_st, t_sl, t_ss, n_i, n_b, n_t, n_l, n_s, n_n, i_lenT, i_lenL, i_lenK, i_tupL, i_tupT, i_lstL, i_lstT, i_lstS, i_intI, i_intB, i_abs, i_min2, i_max2, i_all, i_any, i_sum, x_lst, x_tup, at0, at1, at2, at3, q_tup, q_lst, g_nil, g_l0, g_l1, g_l2, g_l3, g_fz, s_l0, s_l1, s_l2, s_l3, qv_i, qv_l, qv_t, qv_s, qv_b, qq_var, qq_int, qq_pl, p_nil, p_ix, st_nm, st_tup, sn_nil, sn_cons, ta_nil, ta_d, ta_io, pb_nil, pb_c, fr_i, fr_b, fr_t, fr_l, fr_s, fr_n, fr_c, fr_k, fr_ol, fr_oc, fz_nil, fz_cons, fz_fz, ou_nil, ou_c, un_l, un_f, un_c, fin_nx, fin_rt, wp_nil, wp_c, tpL, tpT, NwK_ok, NwK_exc, m_t2, m_il, m_it, m_ik, sl_t, sl_l, Option.bind_some, Option.map_some, Option.map, List.any_cons, List.any_nil, Bool.or_self, List.getElem?_cons_zero, List.getElem?_cons_succ, List.set_cons_zero, List.set_cons_succ, List.length_cons, List.length_nil, Nat.reduceAdd, Nat.reduceLT, Nat.lt_add_one, Nat.zero_add, Int.cast_ofNat_Int, Int.reduceLE, Int.reduceLT, Int.reduceEq, Int.reduceNeg, Nat.reduceLeDiff, ↓reduceIte, Option.getD, List.nil_append, List.cons_append, decide_eq_true_eq, decide_true, decide_false, Bool.false_eq_true, Bool.not_true, Bool.not_false, Bool.and_true, Bool.and_false, Bool.true_and, Bool.or_true, Bool.or_false, and_true, true_and, and_false, false_and, not_true, not_false_eq_true, Bool.not_eq_true, decide_eq_false_iff_not, RdK_res, RdK_d hn, own_games_ok n hl hn hg hs]
  refine w_forM (fun as zs f => ∃ x5 x6 x7, f = [.fz (resD s gs), .fz (.int i), .fz lot, .fz (vD u v w), .fz (.int (as.map (pv u v w)).sum), x5, x6, x7]) ⟨_, _, _, rfl⟩ (fun as r zs f0 e hI => ?_) fun f1 hI => ?_
  · obtain ⟨x5, x6, x7, rfl⟩ := hI
    have fin : ∀ (z : Int) (x5 x6 x7 : O), pv u v w r = z → ∃ y5 y6 y7, [O.fz (resD s gs), .fz (.int i), .fz lot, .fz (vD u v w), .fz (.int ((as.map (pv u v w)).sum + z)), x5, x6, x7] = [O.fz (resD s gs), .fz (.int i), .fz lot, .fz (vD u v w), .fz (.int ((as ++ [r]).map (pv u v w)).sum), y5, y6, y7] := fun z x5 x6 x7 h => ⟨x5, x6, x7, by rw [List.map_append, List.sum_append, List.map_singleton, List.sum_singleton, h]⟩
    unfold vD rD
    by_cases c1 : r.y < r.x
    · simp only [w_bnd, w_ret, w_opt, w_fail, w_ite, w_tb, w_ti, w_rd, w_chk, w_chkL, w_plVal, w_plTop, w_q, w_setM, w_clr, w_setO1, w_modR, w_frz, w_var, w_non, w_bl, w_int, w_str, w_gint, w_bin, w_neg, w_inv, w_not, w_cmp, w_chn, w_isN, w_mem, w_andE, w_orE, w_ife, w_tup, w_lst, w_idx, w_eoN, w_eoS, w_slc, w_lrng1, w_fld, w_pl, w_call, w_new, w_bi, w_biP, w_isi, w_lc, w_dc, w_esN, w_esC, w_etN, w_etS, w_arE, w_arI, w_asN, w_asC, w_iE, w_iR1, w_iR2, w_pN, w_pX, w_pXX, w_pFX, w_pF, w_callF, w_oe, w_ol, w_ocall, w_onew, w_osN, w_osC, w_ssN, w_ssC, w_asg, w_asgL, w_asgO, w_app, w_set, w_fset, w_aug, w_ex, w_retE, w_retN, w_retO, w_if, w_for, w_rse, w_try, w_brk, w_cont, w_pass, w_hret, w_hunl, OptK_s, RdK_bl, RdK_int, RdK_str, RdK_non, RdK_tup, RdK_lst, RdK_dK, RdK_dT, RdK_ins, RdK_fn, RdK_scr, RdK_ol, ChkK_fz, ChkK_l, ChkK_i, ChkK_k, ChkK_t, ValK_int, ValK_bl, ValK_lst, ValK_tup, LstK_l, BlK_b, InK_i, FlK_nx, FlK_ct, FlK_bk, FlK_rt, RcK_ok, RcK_exc, LoK_nx, LoK_ct, LoK_bk, LoK_rt, c_eq, c_ne, c_eqb, c_neb, c_lt, c_gt, c_le, c_ge, c_is, c_isnt, bn_f, bn_t, b_add, b_sub, a_add, a_sub, t_ii, t_ib, t_it, t_il, t_is, t_bi, t_bb, t_bt, t_bl, t_bs, t_ti, t_tb, t_tt, t_tl, t_ts, t_li, t_lb, t_lt, t_ll, t_ls, t_ni, t_nb, t_nt, t_nl, t_ns, t_si, t_sb, t_st, t_sl, t_ss, n_i, n_b, n_t, n_l, n_s, n_n, i_lenT, i_lenL, i_lenK, i_tupL, i_tupT, i_lstL, i_lstT, i_lstS, i_intI, i_intB, i_abs, i_min2, i_max2, i_all, i_any, i_sum, x_lst, x_tup, at0, at1, at2, at3, q_tup, q_lst, g_nil, g_l0, g_l1, g_l2, g_l3, g_fz, s_l0, s_l1, s_l2, s_l3, qv_i, qv_l, qv_t, qv_s, qv_b, qq_var, qq_int, qq_pl, p_nil, p_ix, st_nm, st_tup, sn_nil, sn_cons, ta_nil, ta_d, ta_io, pb_nil, pb_c, fr_i, fr_b, fr_t, fr_l, fr_s, fr_n, fr_c, fr_k, fr_ol, fr_oc, fz_nil, fz_cons, fz_fz, ou_nil, ou_c, un_l, un_f, un_c, fin_nx, fin_rt, wp_nil, wp_c, tpL, tpT, NwK_ok, NwK_exc, m_t2, m_il, m_it, m_ik, sl_t, sl_l, Option.bind_some, Option.map_some, Option.map, List.any_cons, List.any_nil, Bool.or_self, List.getElem?_cons_zero, List.getElem?_cons_succ, List.set_cons_zero, List.set_cons_succ, List.length_cons, List.length_nil, Nat.reduceAdd, Nat.reduceLT, Nat.lt_add_one, Nat.zero_add, Int.cast_ofNat_Int, Int.reduceLE, Int.reduceLT, Int.reduceEq, Int.reduceNeg, Nat.reduceLeDiff, ↓reduceIte, Option.getD, List.nil_append, List.cons_append, decide_eq_true_eq, decide_true, decide_false, Bool.false_eq_true, Bool.not_true, Bool.not_false, Bool.and_true, Bool.and_false, Bool.true_and, Bool.or_true, Bool.or_false, and_true, true_and, and_false, false_and, not_true, not_false_eq_true, Bool.not_eq_true, decide_eq_false_iff_not, c1]
      exact fin _ _ _ _ (by unfold pv; rw [if_pos c1])
    · by_cases c2 : r.x = r.y
      · simp only [w_bnd, w_ret, w_opt, w_fail, w_ite, w_tb, w_ti, w_rd, w_chk, w_chkL, w_plVal, w_plTop, w_q, w_setM, w_clr, w_setO1, w_modR, w_frz, w_var, w_non, w_bl, w_int, w_str, w_gint, w_bin, w_neg, w_inv, w_not, w_cmp, w_chn, w_isN, w_mem, w_andE, w_orE, w_ife, w_tup, w_lst, w_idx, w_eoN, w_eoS, w_slc, w_lrng1, w_fld, w_pl, w_call, w_new, w_bi, w_biP, w_isi, w_lc, w_dc, w_esN, w_esC, w_etN, w_etS, w_arE, w_arI, w_asN, w_asC, w_iE, w_iR1, w_iR2, w_pN, w_pX, w_pXX, w_pFX, w_pF, w_callF, w_oe, w_ol, w_ocall, w_onew, w_osN, w_osC, w_ssN, w_ssC, w_asg, w_asgL, w_asgO, w_app, w_set, w_fset, w_aug, w_ex, w_retE, w_retN, w_retO, w_if, w_for, w_rse, w_try, w_brk, w_cont, w_pass, w_hret, w_hunl, OptK_s, RdK_bl, RdK_int, RdK_str, RdK_non, RdK_tup, RdK_lst, RdK_dK, RdK_dT, RdK_ins, RdK_fn, RdK_scr, RdK_ol, ChkK_fz, ChkK_l, ChkK_i, ChkK_k, ChkK_t, ValK_int, ValK_bl, ValK_lst, ValK_tup, LstK_l, BlK_b, InK_i, FlK_nx, FlK_ct, FlK_bk, FlK_rt, RcK_ok, RcK_exc, LoK_nx, LoK_ct, LoK_bk, LoK_rt, c_eq, c_ne, c_eqb, c_neb, c_lt, c_gt, c_le, c_ge, c_is, c_isnt, bn_f, bn_t, b_add, b_sub, a_add, a_sub, t_ii, t_ib, t_it, t_il, t_is, t_bi, t_bb, t_bt, t_bl, t_bs, t_ti, t_tb, t_tt, t_tl, t_ts, t_li, t_lb, t_lt, t_ll, t_ls, t_ni, t_nb, t_nt, t_nl, t_ns, t_si, t_sb, t_st, t_sl, t_ss, n_i, n_b, n_t, n_l, n_s, n_n, i_lenT, i_lenL, i_lenK, i_tupL, i_tupT, i_lstL, i_lstT, i_lstS, i_intI, i_intB, i_abs, i_min2, i_max2, i_all, i_any, i_sum, x_lst, x_tup, at0, at1, at2, at3, q_tup, q_lst, g_nil, g_l0, g_l1, g_l2, g_l3, g_fz, s_l0, s_l1, s_l2, s_l3, qv_i, qv_l, qv_t, qv_s, qv_b, qq_var, qq_int, qq_pl, p_nil, p_ix, st_nm, st_tup, sn_nil, sn_cons, ta_nil, ta_d, ta_io, pb_nil, pb_c, fr_i, fr_b, fr_t, fr_l, fr_s, fr_n, fr_c, fr_k, fr_ol, fr_oc, fz_nil, fz_cons, fz_fz, ou_nil, ou_c, un_l, un_f, un_c, fin_nx, fin_rt, wp_nil, wp_c, tpL, tpT, NwK_ok, NwK_exc, m_t2, m_il, m_it, m_ik, sl_t, sl_l, Option.bind_some, Option.map_some, Option.map, List.any_cons, List.any_nil, Bool.or_self, List.getElem?_cons_zero, List.getElem?_cons_succ, List.set_cons_zero, List.set_cons_succ, List.length_cons, List.length_nil, Nat.reduceAdd, Nat.reduceLT, Nat.lt_add_one, Nat.zero_add, Int.cast_ofNat_Int, Int.reduceLE, Int.reduceLT, Int.reduceEq, Int.reduceNeg, Nat.reduceLeDiff, ↓reduceIte, Option.getD, List.nil_append, List.cons_append, decide_eq_true_eq, decide_true, decide_false, Bool.false_eq_true, Bool.not_true, Bool.not_false, Bool.and_true, Bool.and_false, Bool.true_and, Bool.or_true, Bool.or_false, and_true, true_and, and_false, false_and, not_true, not_false_eq_true, Bool.not_eq_true, decide_eq_false_iff_not, c1, eq_true c2]
        exact fin _ _ _ _ (by unfold pv; rw [if_neg c1, if_pos c2])
      · simp only [w_bnd, w_ret, w_opt, w_fail, w_ite, w_tb, w_ti, w_rd, w_chk, w_chkL, w_plVal, w_plTop, w_q, w_setM, w_clr, w_setO1, w_modR, w_frz, w_var, w_non, w_bl, w_int, w_str, w_gint, w_bin, w_neg, w_inv, w_not, w_cmp, w_chn, w_isN, w_mem, w_andE, w_orE, w_ife, w_tup, w_lst, w_idx, w_eoN, w_eoS, w_slc, w_lrng1, w_fld, w_pl, w_call, w_new, w_bi, w_biP, w_isi, w_lc, w_dc, w_esN, w_esC, w_etN, w_etS, w_arE, w_arI, w_asN, w_asC, w_iE, w_iR1, w_iR2, w_pN, w_pX, w_pXX, w_pFX, w_pF, w_callF, w_oe, w_ol, w_ocall, w_onew, w_osN, w_osC, w_ssN, w_ssC, w_asg, w_asgL, w_asgO, w_app, w_set, w_fset, w_aug, w_ex, w_retE, w_retN, w_retO, w_if, w_for, w_rse, w_try, w_brk, w_cont, w_pass, w_hret, w_hunl, OptK_s, RdK_bl, RdK_int, RdK_str, RdK_non, RdK_tup, RdK_lst, RdK_dK, RdK_dT, RdK_ins, RdK_fn, RdK_scr, RdK_ol, ChkK_fz, ChkK_l, ChkK_i, ChkK_k, ChkK_t, ValK_int, ValK_bl, ValK_lst, ValK_tup, LstK_l, BlK_b, InK_i, FlK_nx, FlK_ct, FlK_bk, FlK_rt, RcK_ok, RcK_exc, LoK_nx, LoK_ct, LoK_bk, LoK_rt, c_eq, c_ne, c_eqb, c_neb, c_lt, c_gt, c_le, c_ge, c_is, c_isnt, bn_f, bn_t, b_add, b_sub, a_add, a_sub, t_ii, t_ib, t_it, t_il, t_is, t_bi, t_bb, t_bt, t_bl, t_bs, t_ti, t_tb, t_tt, t_tl, t_ts, t_li, t_lb, t_lt, t_ll, t_ls, t_ni, t_nb, t_nt, t_nl, t_ns, t_si, t_sb, t_st, t_sl, t_ss, n_i, n_b, n_t, n_l, n_s, n_n, i_lenT, i_lenL, i_lenK, i_tupL, i_tupT, i_lstL, i_lstT, i_lstS, i_intI, i_intB, i_abs, i_min2, i_max2, i_all, i_any, i_sum, x_lst, x_tup, at0, at1, at2, at3, q_tup, q_lst, g_nil, g_l0, g_l1, g_l2, g_l3, g_fz, s_l0, s_l1, s_l2, s_l3, qv_i, qv_l, qv_t, qv_s, qv_b, qq_var, qq_int, qq_pl, p_nil, p_ix, st_nm, st_tup, sn_nil, sn_cons, ta_nil, ta_d, ta_io, pb_nil, pb_c, fr_i, fr_b, fr_t, fr_l, fr_s, fr_n, fr_c, fr_k, fr_ol, fr_oc, fz_nil, fz_cons, fz_fz, ou_nil, ou_c, un_l, un_f, un_c, fin_nx, fin_rt, wp_nil, wp_c, tpL, tpT, NwK_ok, NwK_exc, m_t2, m_il, m_it, m_ik, sl_t, sl_l, Option.bind_some, Option.map_some, Option.map, List.any_cons, List.any_nil, Bool.or_self, List.getElem?_cons_zero, List.getElem?_cons_succ, List.set_cons_zero, List.set_cons_succ, List.length_cons, List.length_nil, Nat.reduceAdd, Nat.reduceLT, Nat.lt_add_one, Nat.zero_add, Int.cast_ofNat_Int, Int.reduceLE, Int.reduceLT, Int.reduceEq, Int.reduceNeg, Nat.reduceLeDiff, ↓reduceIte, Option.getD, List.nil_append, List.cons_append, decide_eq_true_eq, decide_true, decide_false, Bool.false_eq_true, Bool.not_true, Bool.not_false, Bool.and_true, Bool.and_false, Bool.true_and, Bool.or_true, Bool.or_false, and_true, true_and, and_false, false_and, not_true, not_false_eq_true, Bool.not_eq_true, decide_eq_false_iff_not, c1, c2]
        exact fin _ _ _ _ (by unfold pv; rw [if_neg c1, if_neg c2])
  · obtain ⟨x5, x6, x7, rfl⟩ := hI
    simp only [w_bnd, w_ret, w_opt, w_fail, w_ite, w_tb, w_ti, w_rd, w_chk, w_chkL, w_plVal, w_plTop, w_q, w_setM, w_clr, w_setO1, w_modR, w_frz, w_var, w_non, w_bl, w_int, w_str, w_gint, w_bin, w_neg, w_inv, w_not, w_cmp, w_chn, w_isN, w_mem, w_andE, w_orE, w_ife, w_tup, w_lst, w_idx, w_eoN, w_eoS, w_slc, w_lrng1, w_fld, w_pl, w_call, w_new, w_bi, w_biP, w_isi, w_lc, w_dc, w_esN, w_esC, w_etN, w_etS, w_arE, w_arI, w_asN, w_asC, w_iE, w_iR1, w_iR2, w_pN, w_pX, w_pXX, w_pFX, w_pF, w_callF, w_oe, w_ol, w_ocall, w_onew, w_osN, w_osC, w_ssN, w_ssC, w_asg, w_asgL, w_asgO, w_app, w_set, w_fset, w_aug, w_ex, w_retE, w_retN, w_retO, w_if, w_for, w_rse, w_try, w_brk, w_cont, w_pass, w_hret, w_hunl, OptK_s, RdK_bl, RdK_int, RdK_str, RdK_non, RdK_tup, RdK_lst, RdK_dK, RdK_dT, RdK_ins, RdK_fn, RdK_scr, RdK_ol, ChkK_fz, ChkK_l, ChkK_i, ChkK_k, ChkK_t, ValK_int, ValK_bl, ValK_lst, ValK_tup, LstK_l, BlK_b, InK_i, FlK_nx, FlK_ct, FlK_bk, FlK_rt, RcK_ok, RcK_exc, LoK_nx, LoK_ct, LoK_bk, LoK_rt, c_eq, c_ne, c_eqb, c_neb, c_lt, c_gt, c_le, c_ge, c_is, c_isnt, bn_f, bn_t, b_add, b_sub, a_add, a_sub, t_ii, t_ib, t_it, t_il, t_is, t_bi, t_bb, t_bt, t_bl, t_bs, t_ti, t_tb, t_tt, t_tl, t_ts, t_li, t_lb, t_lt, t_ll, t_ls, t_ni, t_nb, t_nt, t_nl, t_ns, t_si, t_sb, t_st, t_sl, t_ss, n_i, n_b, n_t, n_l, n_s, n_n, i_lenT, i_lenL, i_lenK, i_tupL, i_tupT, i_lstL, i_lstT, i_lstS, i_intI, i_intB, i_abs, i_min2, i_max2, i_all, i_any, i_sum, x_lst, x_tup, at0, at1, at2, at3, q_tup, q_lst, g_nil, g_l0, g_l1, g_l2, g_l3, g_fz, s_l0, s_l1, s_l2, s_l3, qv_i, qv_l, qv_t, qv_s, qv_b, qq_var, qq_int, qq_pl, p_nil, p_ix, st_nm, st_tup, sn_nil, sn_cons, ta_nil, ta_d, ta_io, pb_nil, pb_c, fr_i, fr_b, fr_t, fr_l, fr_s, fr_n, fr_c, fr_k, fr_ol, fr_oc, fz_nil, fz_cons, fz_fz, ou_nil, ou_c, un_l, un_f, un_c, fin_nx, fin_rt, wp_nil, wp_c, tpL, tpT, NwK_ok, NwK_exc, m_t2, m_il, m_it, m_ik, sl_t, sl_l, Option.bind_some, Option.map_some, Option.map, List.any_cons, List.any_nil, Bool.or_self, List.getElem?_cons_zero, List.getElem?_cons_succ, List.set_cons_zero, List.set_cons_succ, List.length_cons, List.length_nil, Nat.reduceAdd, Nat.reduceLT, Nat.lt_add_one, Nat.zero_add, Int.cast_ofNat_Int, Int.reduceLE, Int.reduceLT, Int.reduceEq, Int.reduceNeg, Nat.reduceLeDiff, ↓reduceIte, Option.getD, List.nil_append, List.cons_append, decide_eq_true_eq, decide_true, decide_false, Bool.false_eq_true, Bool.not_true, Bool.not_false, Bool.and_true, Bool.and_false, Bool.true_and, Bool.or_true, Bool.or_false, and_true, true_and, and_false, false_and, not_true, not_false_eq_true, Bool.not_eq_true, decide_eq_false_iff_not, show d5.io = [] from rfl]
theorem look_ok (n : Nat) (u v w : Int) : run P (n + 2) 4 [.fz (vD u v w)] = .ok (.fz .non) [] := rfl
theorem look_bad (n : Nat) : ∀ d ∈ [D.non, .tup [.int 3, .int 1], .lst [.int 3, .int 1, .int 0], .tup [.int 3, .int 1, .non], .tup [.bl true, .int 1, .int 0]], run P (n + 2) 4 [.fz d] = .exc 1 [.str "values"] [] := by
  intro d hd
  simp only [List.mem_cons, List.not_mem_nil, or_false] at hd
  rcases hd with rfl | rfl | rfl | rfl | rfl <;> rfl
abbrev pr (s : Int) (j : Int) : Bool := (rgI s.toNat).any fun x => decide (x = j)
def lotD (s : Int) : D := .dK ((rgI s.toNat).map fun x => .inl x) ((rgI s.toNat).map fun _ => .bl true)
theorem lot_mem {s j : Int} : memD (.int j) (lotD s) = some (pr s j) := m_ik
theorem lot_dc {s : Int} (h : s ≤ 24) : dcFin false ((rgI s.toNat).map fun x => (D.int x, D.bl true)) = some (lotD s) := dc_ints _ rgI_nodup (by rw [rgI_len]; omega)
theorem lot_ne {s : Int} : lotD s ≠ .nil := fun z => by cases z
theorem RdK_lot {s : Int} {i : Nat} {f : Fr} {Q : D → Fr → Prop} : RdK (some (.fz (lotD s))) i f Q = Q (lotD s) f := RdK_dK
theorem points_of_ok (n : Nat) {s u v w : Int} {gs : List Gm} (h0 : 0 ≤ s) (h1 : s ≤ 24) (hg : ∀ g ∈ gs, g.h ≠ g.a) (hs : gs.length ≤ 400) :
    run P (n + 3) 6 [.fz (resD s gs), .fz (vD u v w)] = .ok (.fz (.tup ((rgI s.toNat).map fun i => .int ((ownR (pr s) i gs).map (pv u v w)).sum))) [] := by
  have h62 : s < 2 ^ 62 := by omega
  rw [run_s (d := d6) rfl]
  apply RcK.ok_eq
  refine w_run rfl ?_
  change WX (exs P _ b6) [.fz (resD s gs), .fz (vD u v w), .un, .un] _ _
  unfold b6
  simp only [w_bnd, w_ret, w_opt, w_fail, w_ite, w_tb, w_ti, w_rd, w_chk, w_chkL, w_plVal, w_plTop, w_q, w_setM, w_clr, w_setO1, w_modR, w_frz, w_var, w_non, w_bl, w_int, w_str, w_gint, w_bin, w_neg, w_inv, w_not, w_cmp, w_chn, w_isN, w_mem, w_andE, w_orE, w_ife, w_tup, w_lst, w_idx, w_eoN, w_eoS, w_slc, w_lrng1, w_fld, w_pl, w_call, w_new, w_bi, w_biP, w_isi, w_lc, w_dc, w_esN, w_esC, w_etN, w_etS, w_arE, w_arI, w_asN, w_asC, w_iE, w_iR1, w_iR2, w_pN, w_pX, w_pXX, w_pFX, w_pF, w_callF, w_oe, w_ol, w_ocall, w_onew, w_osN, w_osC, w_ssN, w_ssC, w_asg, w_asgL, w_asgO, w_app, w_set, w_fset, w_aug, w_ex, w_retE, w_retN, w_retO, w_if, w_for, w_rse, w_try, w_brk, w_cont, w_pass, w_hret, w_hunl, OptK_s, RdK_bl, RdK_int, RdK_str, RdK_non, RdK_tup, RdK_lst, RdK_dK, RdK_dT, RdK_ins, RdK_fn, RdK_scr, RdK_ol, ChkK_fz, ChkK_l, ChkK_i, ChkK_k, ChkK_t, ValK_int, ValK_bl, ValK_lst, ValK_tup, LstK_l, BlK_b, InK_i, FlK_nx, FlK_ct, FlK_bk, FlK_rt, RcK_ok, RcK_exc, LoK_nx, LoK_ct, LoK_bk, LoK_rt, c_eq, c_ne, c_eqb, c_neb, c_lt, c_gt, c_le, c_ge, c_is, c_isnt, bn_f, bn_t, b_add, b_sub, a_add, a_sub, t_ii, t_ib, t_it, t_il, t_is, t_bi, t_bb, t_bt, t_bl, t_bs, t_ti, t_tb, t_tt, t_tl, t_ts, t_li, t_lb, t_lt, t_ll, t_ls, t_ni, t_nb, t_nt, t_nl, t_ns, t_si, t_sb, t_st, t_sl, t_ss, n_i, n_b, n_t, n_l, n_s, n_n, i_lenT, i_lenL, i_lenK, i_tupL, i_tupT, i_lstL, i_lstT, i_lstS, i_intI, i_intB, i_abs, i_min2, i_max2, i_all, i_any, i_sum, x_lst, x_tup, at0, at1, at2, at3, q_tup, q_lst, g_nil, g_l0, g_l1, g_l2, g_l3, g_fz, s_l0, s_l1, s_l2, s_l3, qv_i, qv_l, qv_t, qv_s, qv_b, qq_var, qq_int, qq_pl, p_nil, p_ix, st_nm, st_tup, sn_nil, sn_cons, ta_nil, ta_d, ta_io, pb_nil, pb_c, fr_i, fr_b, fr_t, fr_l, fr_s, fr_n, fr_c, fr_k, fr_ol, fr_oc, fz_nil, fz_cons, fz_fz, ou_nil, ou_c, un_l, un_f, un_c, fin_nx, fin_rt, wp_nil, wp_c, tpL, tpT, NwK_ok, NwK_exc, m_t2, m_il, m_it, m_ik, sl_t, sl_l, Option.bind_some, Option.map_some, Option.map, List.any_cons, List.any_nil, Bool.or_self, List.getElem?_cons_zero, List.getElem?_cons_succ, List.set_cons_zero, List.set_cons_succ, List.length_cons, List.length_nil, Nat.reduceAdd, Nat.reduceLT, Nat.lt_add_one, Nat.zero_add, Int.cast_ofNat_Int, Int.reduceLE, Int.reduceLT, Int.reduceEq, Int.reduceNeg, Nat.reduceLeDiff, ↓reduceIte, Option.getD, List.nil_append, List.cons_append, decide_eq_true_eq, decide_true, decide_false, Bool.false_eq_true, Bool.not_true, Bool.not_false, Bool.and_true, Bool.and_false, Bool.true_and, Bool.or_true, Bool.or_false, and_true, true_and, and_false, false_and, not_true, not_false_eq_true, Bool.not_eq_true, decide_eq_false_iff_not, RdK_res, f_size, RdK_d (show vD u v w ≠ .nil from fun z => by cases z), look_ok n, rg_i h62 h0]
  refine w_lcM (fun x => (D.int x, D.bl true)) rfl rfl (fun x hx => ?_) ?_
  · simp only [w_bnd, w_ret, w_opt, w_fail, w_ite, w_tb, w_ti, w_rd, w_chk, w_chkL, w_plVal, w_plTop, w_q, w_setM, w_clr, w_setO1, w_modR, w_frz, w_var, w_non, w_bl, w_int, w_str, w_gint, w_bin, w_neg, w_inv, w_not, w_cmp, w_chn, w_isN, w_mem, w_andE, w_orE, w_ife, w_tup, w_lst, w_idx, w_eoN, w_eoS, w_slc, w_lrng1, w_fld, w_pl, w_call, w_new, w_bi, w_biP, w_isi, w_lc, w_dc, w_esN, w_esC, w_etN, w_etS, w_arE, w_arI, w_asN, w_asC, w_iE, w_iR1, w_iR2, w_pN, w_pX, w_pXX, w_pFX, w_pF, w_callF, w_oe, w_ol, w_ocall, w_onew, w_osN, w_osC, w_ssN, w_ssC, w_asg, w_asgL, w_asgO, w_app, w_set, w_fset, w_aug, w_ex, w_retE, w_retN, w_retO, w_if, w_for, w_rse, w_try, w_brk, w_cont, w_pass, w_hret, w_hunl, OptK_s, RdK_bl, RdK_int, RdK_str, RdK_non, RdK_tup, RdK_lst, RdK_dK, RdK_dT, RdK_ins, RdK_fn, RdK_scr, RdK_ol, ChkK_fz, ChkK_l, ChkK_i, ChkK_k, ChkK_t, ValK_int, ValK_bl, ValK_lst, ValK_tup, LstK_l, BlK_b, InK_i, FlK_nx, FlK_ct, FlK_bk, FlK_rt, RcK_ok, RcK_exc, LoK_nx, LoK_ct, LoK_bk, LoK_rt, c_eq, c_ne, c_eqb, c_neb, c_lt, c_gt, c_le, c_ge, c_is, c_isnt, bn_f, bn_t, b_add, b_sub, a_add, a_sub, t_ii, t_ib, t_it, t_il, t_is, t_bi, t_bb, t_bt, t_bl, t_bs, t_ti, t_tb, t_tt, t_tl, t_ts, t_li, t_lb, t_lt, t_ll, t_ls, t_ni, t_nb, t_nt, t_nl, t_ns, t_si, t_sb, t_st, t_sl, t_ss, n_i, n_b, n_t, n_l, n_s, n_n, i_lenT, i_lenL, i_lenK, i_tupL, i_tupT, i_lstL, i_lstT, i_lstS, i_intI, i_intB, i_abs, i_min2, i_max2, i_all, i_any, i_sum, x_lst, x_tup, at0, at1, at2, at3, q_tup, q_lst, g_nil, g_l0, g_l1, g_l2, g_l3, g_fz, s_l0, s_l1, s_l2, s_l3, qv_i, qv_l, qv_t, qv_s, qv_b, qq_var, qq_int, qq_pl, p_nil, p_ix, st_nm, st_tup, sn_nil, sn_cons, ta_nil, ta_d, ta_io, pb_nil, pb_c, fr_i, fr_b, fr_t, fr_l, fr_s, fr_n, fr_c, fr_k, fr_ol, fr_oc, fz_nil, fz_cons, fz_fz, ou_nil, ou_c, un_l, un_f, un_c, fin_nx, fin_rt, wp_nil, wp_c, tpL, tpT, NwK_ok, NwK_exc, m_t2, m_il, m_it, m_ik, sl_t, sl_l, Option.bind_some, Option.map_some, Option.map, List.any_cons, List.any_nil, Bool.or_self, List.getElem?_cons_zero, List.getElem?_cons_succ, List.set_cons_zero, List.set_cons_succ, List.length_cons, List.length_nil, Nat.reduceAdd, Nat.reduceLT, Nat.lt_add_one, Nat.zero_add, Int.cast_ofNat_Int, Int.reduceLE, Int.reduceLT, Int.reduceEq, Int.reduceNeg, Nat.reduceLeDiff, ↓reduceIte, Option.getD, List.nil_append, List.cons_append, decide_eq_true_eq, decide_true, decide_false, Bool.false_eq_true, Bool.not_true, Bool.not_false, Bool.and_true, Bool.and_false, Bool.true_and, Bool.or_true, Bool.or_false, and_true, true_and, and_false, false_and, not_true, not_false_eq_true, Bool.not_eq_true, decide_eq_false_iff_not]
    rfl
  simp only [w_bnd, w_ret, w_opt, w_fail, w_ite, w_tb, w_ti, w_rd, w_chk, w_chkL, w_plVal, w_plTop, w_q, w_setM, w_clr, w_setO1, w_modR, w_frz, w_var, w_non, w_bl, w_int, w_str, w_gint, w_bin, w_neg, w_inv, w_not, w_cmp, w_chn, w_isN, w_mem, w_andE, w_orE, w_ife, w_tup, w_lst, w_idx, w_eoN, w_eoS, w_slc, w_lrng1, w_fld, w_pl, w_call, w_new, w_bi, w_biP, w_isi, w_lc, w_dc, w_esN, w_esC, w_etN, w_etS, w_arE, w_arI, w_asN, w_asC, w_iE, w_iR1, w_iR2, w_pN, w_pX, w_pXX, w_pFX, w_pF, w_callF, w_oe, w_ol, w_ocall, w_onew, w_osN, w_osC, w_ssN, w_ssC, w_asg, w_asgL, w_asgO, w_app, w_set, w_fset, w_aug, w_ex, w_retE, w_retN, w_retO, w_if, w_for, w_rse, w_try, w_brk, w_cont, w_pass, w_hret, w_hunl, OptK_s, RdK_bl, RdK_int, RdK_str, RdK_non, RdK_tup, RdK_lst, RdK_dK, RdK_dT, RdK_ins, RdK_fn, RdK_scr, RdK_ol, ChkK_fz, ChkK_l, ChkK_i, ChkK_k, ChkK_t, ValK_int, ValK_bl, ValK_lst, ValK_tup, LstK_l, BlK_b, InK_i, FlK_nx, FlK_ct, FlK_bk, FlK_rt, RcK_ok, RcK_exc, LoK_nx, LoK_ct, LoK_bk, LoK_rt, c_eq, c_ne, c_eqb, c_neb, c_lt, c_gt, c_le, c_ge, c_is, c_isnt, bn_f, bn_t, b_add, b_sub, a_add, a_sub, t_ii, t_ib, t_it, t_il, t_is, t_bi, t_bb, t_bt, t_bl, t_bs, t_ti, t_tb, t_tt, t_tl, t_ts, t_li, t_lb, t_lt, t_ll, t_ls, t_ni, t_nb, t_nt, t_nl, t_ns, t_si, t_sb, t_st, t_sl, t_ss, n_i, n_b, n_t, n_l, n_s, n_n, i_lenT, i_lenL, i_lenK, i_tupL, i_tupT, i_lstL, i_lstT, i_lstS, i_intI, i_intB, i_abs, i_min2, i_max2, i_all, i_any, i_sum, x_lst, x_tup, at0, at1, at2, at3, q_tup, q_lst, g_nil, g_l0, g_l1, g_l2, g_l3, g_fz, s_l0, s_l1, s_l2, s_l3, qv_i, qv_l, qv_t, qv_s, qv_b, qq_var, qq_int, qq_pl, p_nil, p_ix, st_nm, st_tup, sn_nil, sn_cons, ta_nil, ta_d, ta_io, pb_nil, pb_c, fr_i, fr_b, fr_t, fr_l, fr_s, fr_n, fr_c, fr_k, fr_ol, fr_oc, fz_nil, fz_cons, fz_fz, ou_nil, ou_c, un_l, un_f, un_c, fin_nx, fin_rt, wp_nil, wp_c, tpL, tpT, NwK_ok, NwK_exc, m_t2, m_il, m_it, m_ik, sl_t, sl_l, Option.bind_some, Option.map_some, Option.map, List.any_cons, List.any_nil, Bool.or_self, List.getElem?_cons_zero, List.getElem?_cons_succ, List.set_cons_zero, List.set_cons_succ, List.length_cons, List.length_nil, Nat.reduceAdd, Nat.reduceLT, Nat.lt_add_one, Nat.zero_add, Int.cast_ofNat_Int, Int.reduceLE, Int.reduceLT, Int.reduceEq, Int.reduceNeg, Nat.reduceLeDiff, ↓reduceIte, Option.getD, List.nil_append, List.cons_append, decide_eq_true_eq, decide_true, decide_false, Bool.false_eq_true, Bool.not_true, Bool.not_false, Bool.and_true, Bool.and_false, Bool.true_and, Bool.or_true, Bool.or_false, and_true, true_and, and_false, false_and, not_true, not_false_eq_true, Bool.not_eq_true, decide_eq_false_iff_not, lot_dc h1, RdK_res, f_size, rg_i h62 h0]
  refine w_lcM (fun i => D.int ((ownR (pr s) i gs).map (pv u v w)).sum) rfl rfl (fun x hx => ?_) ?_
  · simp only [w_bnd, w_ret, w_opt, w_fail, w_ite, w_tb, w_ti, w_rd, w_chk, w_chkL, w_plVal, w_plTop, w_q, w_setM, w_clr, w_setO1, w_modR, w_frz, w_var, w_non, w_bl, w_int, w_str, w_gint, w_bin, w_neg, w_inv, w_not, w_cmp, w_chn, w_isN, w_mem, w_andE, w_orE, w_ife, w_tup, w_lst, w_idx, w_eoN, w_eoS, w_slc, w_lrng1, w_fld, w_pl, w_call, w_new, w_bi, w_biP, w_isi, w_lc, w_dc, w_esN, w_esC, w_etN, w_etS, w_arE, w_arI, w_asN, w_asC, w_iE, w_iR1, w_iR2, w_pN, w_pX, w_pXX, w_pFX, w_pF, w_callF, w_oe, w_ol, w_ocall, w_onew, w_osN, w_osC, w_ssN, w_ssC, w_asg, w_asgL, w_asgO, w_app, w_set, w_fset, w_aug, w_ex, w_retE, w_retN, w_retO, w_if, w_for, w_rse, w_try, w_brk, w_cont, w_pass, w_hret, w_hunl, OptK_s, RdK_bl, RdK_int, RdK_str, RdK_non, RdK_tup, RdK_lst, RdK_dK, RdK_dT, RdK_ins, RdK_fn, RdK_scr, RdK_ol, ChkK_fz, ChkK_l, ChkK_i, ChkK_k, ChkK_t, ValK_int, ValK_bl, ValK_lst, ValK_tup, LstK_l, BlK_b, InK_i, FlK_nx, FlK_ct, FlK_bk, FlK_rt, RcK_ok, RcK_exc, LoK_nx, LoK_ct, LoK_bk, LoK_rt, c_eq, c_ne, c_eqb, c_neb, c_lt, c_gt, c_le, c_ge, c_is, c_isnt, bn_f, bn_t, b_add, b_sub, a_add, a_sub, t_ii, t_ib, t_it, t_il, t_is, t_bi, t_bb, t_bt, t_bl, t_bs, t_ti, t_tb, t_tt, t_tl, t_ts, t_li, t_lb, t_lt, t_ll, t_ls, t_ni, t_nb, t_nt, t_nl, t_ns, t_si, t_sb, t_st, t_sl, t_ss, n_i, n_b, n_t, n_l, n_s, n_n, i_lenT, i_lenL, i_lenK, i_tupL, i_tupT, i_lstL, i_lstT, i_lstS, i_intI, i_intB, i_abs, i_min2, i_max2, i_all, i_any, i_sum, x_lst, x_tup, at0, at1, at2, at3, q_tup, q_lst, g_nil, g_l0, g_l1, g_l2, g_l3, g_fz, s_l0, s_l1, s_l2, s_l3, qv_i, qv_l, qv_t, qv_s, qv_b, qq_var, qq_int, qq_pl, p_nil, p_ix, st_nm, st_tup, sn_nil, sn_cons, ta_nil, ta_d, ta_io, pb_nil, pb_c, fr_i, fr_b, fr_t, fr_l, fr_s, fr_n, fr_c, fr_k, fr_ol, fr_oc, fz_nil, fz_cons, fz_fz, ou_nil, ou_c, un_l, un_f, un_c, fin_nx, fin_rt, wp_nil, wp_c, tpL, tpT, NwK_ok, NwK_exc, m_t2, m_il, m_it, m_ik, sl_t, sl_l, Option.bind_some, Option.map_some, Option.map, List.any_cons, List.any_nil, Bool.or_self, List.getElem?_cons_zero, List.getElem?_cons_succ, List.set_cons_zero, List.set_cons_succ, List.length_cons, List.length_nil, Nat.reduceAdd, Nat.reduceLT, Nat.lt_add_one, Nat.zero_add, Int.cast_ofNat_Int, Int.reduceLE, Int.reduceLT, Int.reduceEq, Int.reduceNeg, Nat.reduceLeDiff, ↓reduceIte, Option.getD, List.nil_append, List.cons_append, decide_eq_true_eq, decide_true, decide_false, Bool.false_eq_true, Bool.not_true, Bool.not_false, Bool.and_true, Bool.and_false, Bool.true_and, Bool.or_true, Bool.or_false, and_true, true_and, and_false, false_and, not_true, not_false_eq_true, Bool.not_eq_true, decide_eq_false_iff_not, RdK_res, RdK_lot, RdK_d (show vD u v w ≠ .nil from fun z => by cases z), points_in_ok n (fun j => lot_mem) lot_ne hg hs]
    rfl
  have hl : ((rgI s.toNat).map fun i => D.int ((ownR (pr s) i gs).map (pv u v w)).sum).length ≤ 100000 := by rw [List.length_map, rgI_len]; omega
  simp only [w_bnd, w_ret, w_opt, w_fail, w_ite, w_tb, w_ti, w_rd, w_chk, w_chkL, w_plVal, w_plTop, w_q, w_setM, w_clr, w_setO1, w_modR, w_frz, w_var, w_non, w_bl, w_int, w_str, w_gint, w_bin, w_neg, w_inv, w_not, w_cmp, w_chn, w_isN, w_mem, w_andE, w_orE, w_ife, w_tup, w_lst, w_idx, w_eoN, w_eoS, w_slc, w_lrng1, w_fld, w_pl, w_call, w_new, w_bi, w_biP, w_isi, w_lc, w_dc, w_esN, w_esC, w_etN, w_etS, w_arE, w_arI, w_asN, w_asC, w_iE, w_iR1, w_iR2, w_pN, w_pX, w_pXX, w_pFX, w_pF, w_callF, w_oe, w_ol, w_ocall, w_onew, w_osN, w_osC, w_ssN, w_ssC, w_asg, w_asgL, w_asgO, w_app, w_set, w_fset, w_aug, w_ex, w_retE, w_retN, w_retO, w_if, w_for, w_rse, w_try, w_brk, w_cont, w_pass, w_hret, w_hunl, OptK_s, RdK_bl, RdK_int, RdK_str, RdK_non, RdK_tup, RdK_lst, RdK_dK, RdK_dT, RdK_ins, RdK_fn, RdK_scr, RdK_ol, ChkK_fz, ChkK_l, ChkK_i, ChkK_k, ChkK_t, ValK_int, ValK_bl, ValK_lst, ValK_tup, LstK_l, BlK_b, InK_i, FlK_nx, FlK_ct, FlK_bk, FlK_rt, RcK_ok, RcK_exc, LoK_nx, LoK_ct, LoK_bk, LoK_rt, c_eq, c_ne, c_eqb, c_neb, c_lt, c_gt, c_le, c_ge, c_is, c_isnt, bn_f, bn_t, b_add, b_sub, a_add, a_sub, t_ii, t_ib, t_it, t_il, t_is, t_bi, t_bb, t_bt, t_bl, t_bs, t_ti, t_tb, t_tt, t_tl, t_ts, t_li, t_lb, t_lt, t_ll, t_ls, t_ni, t_nb, t_nt, t_nl, t_ns, t_si, t_sb, t_st, t_sl, t_ss, n_i, n_b, n_t, n_l, n_s, n_n, i_lenT, i_lenL, i_lenK, i_tupL, i_tupT, i_lstL, i_lstT, i_lstS, i_intI, i_intB, i_abs, i_min2, i_max2, i_all, i_any, i_sum, x_lst, x_tup, at0, at1, at2, at3, q_tup, q_lst, g_nil, g_l0, g_l1, g_l2, g_l3, g_fz, s_l0, s_l1, s_l2, s_l3, qv_i, qv_l, qv_t, qv_s, qv_b, qq_var, qq_int, qq_pl, p_nil, p_ix, st_nm, st_tup, sn_nil, sn_cons, ta_nil, ta_d, ta_io, pb_nil, pb_c, fr_i, fr_b, fr_t, fr_l, fr_s, fr_n, fr_c, fr_k, fr_ol, fr_oc, fz_nil, fz_cons, fz_fz, ou_nil, ou_c, un_l, un_f, un_c, fin_nx, fin_rt, wp_nil, wp_c, tpL, tpT, NwK_ok, NwK_exc, m_t2, m_il, m_it, m_ik, sl_t, sl_l, Option.bind_some, Option.map_some, Option.map, List.any_cons, List.any_nil, Bool.or_self, List.getElem?_cons_zero, List.getElem?_cons_succ, List.set_cons_zero, List.set_cons_succ, List.length_cons, List.length_nil, Nat.reduceAdd, Nat.reduceLT, Nat.lt_add_one, Nat.zero_add, Int.cast_ofNat_Int, Int.reduceLE, Int.reduceLT, Int.reduceEq, Int.reduceNeg, Nat.reduceLeDiff, ↓reduceIte, Option.getD, List.nil_append, List.cons_append, decide_eq_true_eq, decide_true, decide_false, Bool.false_eq_true, Bool.not_true, Bool.not_false, Bool.and_true, Bool.and_false, Bool.true_and, Bool.or_true, Bool.or_false, and_true, true_and, and_false, false_and, not_true, not_false_eq_true, Bool.not_eq_true, decide_eq_false_iff_not, hl, show d6.io = [] from rfl]
end L35

namespace L35
open PySem Cr Cw
def wonOf (rs : List Rw) : Int := ((rs.filter fun r => decide (r.y < r.x)).length : Int)
def drawnOf (rs : List Rw) : Int := ((rs.filter fun r => decide (r.x = r.y)).length : Int)
def sumX (rs : List Rw) : Int := (rs.map fun r => r.x).sum
def sumY (rs : List Rw) : Int := (rs.map fun r => r.y).sum
def ptsOf (u v w : Int) (rs : List Rw) : Int := wonOf rs * u + drawnOf rs * v + ((rs.length : Int) - wonOf rs - drawnOf rs) * w
def lineD (u v w : Int) (rs : List Rw) : D := .tup [.int rs.length, .int (wonOf rs), .int (drawnOf rs), .int ((rs.length : Int) - wonOf rs - drawnOf rs), .int (sumX rs), .int (sumY rs), .int (ptsOf u v w rs)]
theorem vd_ne {u v w : Int} : vD u v w ≠ .nil := fun z => by cases z
theorem v0 {u v w : Int} : idxD (vD u v w) (.int 0) = some (.int u) := by unfold vD; simp only [x_tup, at0]
theorem v1 {u v w : Int} : idxD (vD u v w) (.int 1) = some (.int v) := by unfold vD; simp only [x_tup, at1]
theorem v2 {u v w : Int} : idxD (vD u v w) (.int 2) = some (.int w) := by unfold vD; simp only [x_tup, at2]
def okV (v : Int) : Prop := -1000000000 ≤ v ∧ v ≤ 1000000000
theorem line_of_ok (n : Nat) {s i u v w : Int} {gs : List Gm} (h0 : 0 ≤ s) (h1 : s ≤ 24) (hi : 0 ≤ i ∧ i < s) (hu : okV u) (hv : okV v) (hw : okV w) (hg : ∀ g ∈ gs, g.h ≠ g.a) (hs : gs.length ≤ 400) :
    run P (n + 3) 7 [.fz (resD s gs), .fz (.int i), .fz (vD u v w)] = .ok (.fz (lineD u v w (ownR (pr s) i gs))) [] := by
  have h62 : s < 2 ^ 62 := by omega
  have hlen : (ownR (pr s) i gs).length ≤ 100000 := by
    have := ownR_len (p := pr s) (i := i) (gs := gs)
    omega
  have hF : ∀ q : Rw → Bool, ((ownR (pr s) i gs).filter q).length ≤ 100000 := fun q => Nat.le_trans (List.length_filter_le _ _) hlen
  rw [run_s (d := d7) rfl]
  apply RcK.ok_eq
  refine w_run rfl ?_
  change WX (exs P _ b7) [.fz (resD s gs), .fz (.int i), .fz (vD u v w), .un, .un, .un, .un, .un, .un, .un, .un, .un] _ _
  unfold b7
  simp only [w_bnd, w_ret, w_opt, w_fail, w_ite, w_tb, w_ti, w_rd, w_chk, w_chkL, w_plVal, w_plTop, w_q, w_setM, w_clr, w_setO1, w_modR, w_frz, w_var, w_non, w_bl, w_int, w_str, w_gint, w_bin, w_neg, w_inv, w_not, w_cmp, w_chn, w_isN, w_mem, w_andE, w_orE, w_ife, w_tup, w_lst, w_idx, w_eoN, w_eoS, w_slc, w_lrng1, w_fld, w_pl, w_call, w_new, w_bi, w_biP, w_isi, w_lc, w_dc, w_esN, w_esC, w_etN, w_etS, w_arE, w_arI, w_asN, w_asC, w_iE, w_iR1, w_iR2, w_pN, w_pX, w_pXX, w_pFX, w_pF, w_callF, w_oe, w_ol, w_ocall, w_onew, w_osN, w_osC, w_ssN, w_ssC, w_asg, w_asgL, w_asgO, w_app, w_set, w_fset, w_aug, w_ex, w_retE, w_retN, w_retO, w_if, w_for, w_rse, w_try, w_brk, w_cont, w_pass, w_hret, w_hunl, OptK_s, RdK_bl, RdK_int, RdK_str, RdK_non, RdK_tup, RdK_lst, RdK_dK, RdK_dT, RdK_ins, RdK_fn, RdK_scr, RdK_ol, ChkK_fz, ChkK_l, ChkK_i, ChkK_k, ChkK_t, ValK_int, ValK_bl, ValK_lst, ValK_tup, LstK_l, BlK_b, InK_i, FlK_nx, FlK_ct, FlK_bk, FlK_rt, RcK_ok, RcK_exc, LoK_nx, LoK_ct, LoK_bk, LoK_rt, c_eq, c_ne, c_eqb, c_neb, c_lt, c_gt, c_le, c_ge, c_is, c_isnt, bn_f, bn_t, b_add, b_sub, a_add, a_sub, t_ii, t_ib, t_it, t_il, t_is, t_bi, t_bb, t_bt, t_bl, t_bs, t_ti, t_tb, t_tt, t_tl, t_ts, t_li, t_lb, t_lt, t_ll, t_ls, t_ni, t_nb, t_nt, t_nl, t_ns, t_si, t_sb, t_st, t_sl, t_ss, n_i, n_b, n_t, n_l, n_s, n_n, i_lenT, i_lenL, i_lenK, i_tupL, i_tupT, i_lstL, i_lstT, i_lstS, i_intI, i_intB, i_abs, i_min2, i_max2, i_all, i_any, i_sum, x_lst, x_tup, at0, at1, at2, at3, q_tup, q_lst, g_nil, g_l0, g_l1, g_l2, g_l3, g_fz, s_l0, s_l1, s_l2, s_l3, qv_i, qv_l, qv_t, qv_s, qv_b, qq_var, qq_int, qq_pl, p_nil, p_ix, st_nm, st_tup, sn_nil, sn_cons, ta_nil, ta_d, ta_io, pb_nil, pb_c, fr_i, fr_b, fr_t, fr_l, fr_s, fr_n, fr_c, fr_k, fr_ol, fr_oc, fz_nil, fz_cons, fz_fz, ou_nil, ou_c, un_l, un_f, un_c, fin_nx, fin_rt, wp_nil, wp_c, tpL, tpT, NwK_ok, NwK_exc, m_t2, m_il, m_it, m_ik, sl_t, sl_l, Option.bind_some, Option.map_some, Option.map, List.any_cons, List.any_nil, Bool.or_self, List.getElem?_cons_zero, List.getElem?_cons_succ, List.set_cons_zero, List.set_cons_succ, List.length_cons, List.length_nil, Nat.reduceAdd, Nat.reduceLT, Nat.lt_add_one, Nat.zero_add, Int.cast_ofNat_Int, Int.reduceLE, Int.reduceLT, Int.reduceEq, Int.reduceNeg, Nat.reduceLeDiff, ↓reduceIte, Option.getD, List.nil_append, List.cons_append, decide_eq_true_eq, decide_true, decide_false, Bool.false_eq_true, Bool.not_true, Bool.not_false, Bool.and_true, Bool.and_false, Bool.true_and, Bool.or_true, Bool.or_false, and_true, true_and, and_false, false_and, not_true, not_false_eq_true, Bool.not_eq_true, decide_eq_false_iff_not, RdK_res, f_size, RdK_d vd_ne, look_ok n, isi, hi.1, hi.2, rg_i h62 h0]
  refine w_lcM (fun x => (D.int x, D.bl true)) rfl rfl (fun x hx => ?_) ?_
  · simp only [w_bnd, w_ret, w_opt, w_fail, w_ite, w_tb, w_ti, w_rd, w_chk, w_chkL, w_plVal, w_plTop, w_q, w_setM, w_clr, w_setO1, w_modR, w_frz, w_var, w_non, w_bl, w_int, w_str, w_gint, w_bin, w_neg, w_inv, w_not, w_cmp, w_chn, w_isN, w_mem, w_andE, w_orE, w_ife, w_tup, w_lst, w_idx, w_eoN, w_eoS, w_slc, w_lrng1, w_fld, w_pl, w_call, w_new, w_bi, w_biP, w_isi, w_lc, w_dc, w_esN, w_esC, w_etN, w_etS, w_arE, w_arI, w_asN, w_asC, w_iE, w_iR1, w_iR2, w_pN, w_pX, w_pXX, w_pFX, w_pF, w_callF, w_oe, w_ol, w_ocall, w_onew, w_osN, w_osC, w_ssN, w_ssC, w_asg, w_asgL, w_asgO, w_app, w_set, w_fset, w_aug, w_ex, w_retE, w_retN, w_retO, w_if, w_for, w_rse, w_try, w_brk, w_cont, w_pass, w_hret, w_hunl, OptK_s, RdK_bl, RdK_int, RdK_str, RdK_non, RdK_tup, RdK_lst, RdK_dK, RdK_dT, RdK_ins, RdK_fn, RdK_scr, RdK_ol, ChkK_fz, ChkK_l, ChkK_i, ChkK_k, ChkK_t, ValK_int, ValK_bl, ValK_lst, ValK_tup, LstK_l, BlK_b, InK_i, FlK_nx, FlK_ct, FlK_bk, FlK_rt, RcK_ok, RcK_exc, LoK_nx, LoK_ct, LoK_bk, LoK_rt, c_eq, c_ne, c_eqb, c_neb, c_lt, c_gt, c_le, c_ge, c_is, c_isnt, bn_f, bn_t, b_add, b_sub, a_add, a_sub, t_ii, t_ib, t_it, t_il, t_is, t_bi, t_bb, t_bt, t_bl, t_bs, t_ti, t_tb, t_tt, t_tl, t_ts, t_li, t_lb, t_lt, t_ll, t_ls, t_ni, t_nb, t_nt, t_nl, t_ns, t_si, t_sb, t_st, t_sl, t_ss, n_i, n_b, n_t, n_l, n_s, n_n, i_lenT, i_lenL, i_lenK, i_tupL, i_tupT, i_lstL, i_lstT, i_lstS, i_intI, i_intB, i_abs, i_min2, i_max2, i_all, i_any, i_sum, x_lst, x_tup, at0, at1, at2, at3, q_tup, q_lst, g_nil, g_l0, g_l1, g_l2, g_l3, g_fz, s_l0, s_l1, s_l2, s_l3, qv_i, qv_l, qv_t, qv_s, qv_b, qq_var, qq_int, qq_pl, p_nil, p_ix, st_nm, st_tup, sn_nil, sn_cons, ta_nil, ta_d, ta_io, pb_nil, pb_c, fr_i, fr_b, fr_t, fr_l, fr_s, fr_n, fr_c, fr_k, fr_ol, fr_oc, fz_nil, fz_cons, fz_fz, ou_nil, ou_c, un_l, un_f, un_c, fin_nx, fin_rt, wp_nil, wp_c, tpL, tpT, NwK_ok, NwK_exc, m_t2, m_il, m_it, m_ik, sl_t, sl_l, Option.bind_some, Option.map_some, Option.map, List.any_cons, List.any_nil, Bool.or_self, List.getElem?_cons_zero, List.getElem?_cons_succ, List.set_cons_zero, List.set_cons_succ, List.length_cons, List.length_nil, Nat.reduceAdd, Nat.reduceLT, Nat.lt_add_one, Nat.zero_add, Int.cast_ofNat_Int, Int.reduceLE, Int.reduceLT, Int.reduceEq, Int.reduceNeg, Nat.reduceLeDiff, ↓reduceIte, Option.getD, List.nil_append, List.cons_append, decide_eq_true_eq, decide_true, decide_false, Bool.false_eq_true, Bool.not_true, Bool.not_false, Bool.and_true, Bool.and_false, Bool.true_and, Bool.or_true, Bool.or_false, and_true, true_and, and_false, false_and, not_true, not_false_eq_true, Bool.not_eq_true, decide_eq_false_iff_not]
    rfl
  simp only [w_bnd, w_ret, w_opt, w_fail, w_ite, w_tb, w_ti, w_rd, w_chk, w_chkL, w_plVal, w_plTop, w_q, w_setM, w_clr, w_setO1, w_modR, w_frz, w_var, w_non, w_bl, w_int, w_str, w_gint, w_bin, w_neg, w_inv, w_not, w_cmp, w_chn, w_isN, w_mem, w_andE, w_orE, w_ife, w_tup, w_lst, w_idx, w_eoN, w_eoS, w_slc, w_lrng1, w_fld, w_pl, w_call, w_new, w_bi, w_biP, w_isi, w_lc, w_dc, w_esN, w_esC, w_etN, w_etS, w_arE, w_arI, w_asN, w_asC, w_iE, w_iR1, w_iR2, w_pN, w_pX, w_pXX, w_pFX, w_pF, w_callF, w_oe, w_ol, w_ocall, w_onew, w_osN, w_osC, w_ssN, w_ssC, w_asg, w_asgL, w_asgO, w_app, w_set, w_fset, w_aug, w_ex, w_retE, w_retN, w_retO, w_if, w_for, w_rse, w_try, w_brk, w_cont, w_pass, w_hret, w_hunl, OptK_s, RdK_bl, RdK_int, RdK_str, RdK_non, RdK_tup, RdK_lst, RdK_dK, RdK_dT, RdK_ins, RdK_fn, RdK_scr, RdK_ol, ChkK_fz, ChkK_l, ChkK_i, ChkK_k, ChkK_t, ValK_int, ValK_bl, ValK_lst, ValK_tup, LstK_l, BlK_b, InK_i, FlK_nx, FlK_ct, FlK_bk, FlK_rt, RcK_ok, RcK_exc, LoK_nx, LoK_ct, LoK_bk, LoK_rt, c_eq, c_ne, c_eqb, c_neb, c_lt, c_gt, c_le, c_ge, c_is, c_isnt, bn_f, bn_t, b_add, b_sub, a_add, a_sub, t_ii, t_ib, t_it, t_il, t_is, t_bi, t_bb, t_bt, t_bl, t_bs, t_ti, t_tb, t_tt, t_tl, t_ts, t_li, t_lb, t_lt, t_ll, t_ls, t_ni, t_nb, t_nt, t_nl, t_ns, t_si, t_sb, t_st, t_sl, t_ss, n_i, n_b, n_t, n_l, n_s, n_n, i_lenT, i_lenL, i_lenK, i_tupL, i_tupT, i_lstL, i_lstT, i_lstS, i_intI, i_intB, i_abs, i_min2, i_max2, i_all, i_any, i_sum, x_lst, x_tup, at0, at1, at2, at3, q_tup, q_lst, g_nil, g_l0, g_l1, g_l2, g_l3, g_fz, s_l0, s_l1, s_l2, s_l3, qv_i, qv_l, qv_t, qv_s, qv_b, qq_var, qq_int, qq_pl, p_nil, p_ix, st_nm, st_tup, sn_nil, sn_cons, ta_nil, ta_d, ta_io, pb_nil, pb_c, fr_i, fr_b, fr_t, fr_l, fr_s, fr_n, fr_c, fr_k, fr_ol, fr_oc, fz_nil, fz_cons, fz_fz, ou_nil, ou_c, un_l, un_f, un_c, fin_nx, fin_rt, wp_nil, wp_c, tpL, tpT, NwK_ok, NwK_exc, m_t2, m_il, m_it, m_ik, sl_t, sl_l, Option.bind_some, Option.map_some, Option.map, List.any_cons, List.any_nil, Bool.or_self, List.getElem?_cons_zero, List.getElem?_cons_succ, List.set_cons_zero, List.set_cons_succ, List.length_cons, List.length_nil, Nat.reduceAdd, Nat.reduceLT, Nat.lt_add_one, Nat.zero_add, Int.cast_ofNat_Int, Int.reduceLE, Int.reduceLT, Int.reduceEq, Int.reduceNeg, Nat.reduceLeDiff, ↓reduceIte, Option.getD, List.nil_append, List.cons_append, decide_eq_true_eq, decide_true, decide_false, Bool.false_eq_true, Bool.not_true, Bool.not_false, Bool.and_true, Bool.and_false, Bool.true_and, Bool.or_true, Bool.or_false, and_true, true_and, and_false, false_and, not_true, not_false_eq_true, Bool.not_eq_true, decide_eq_false_iff_not, lot_dc h1, own_games_ok (n + 1) (s := s) (i := i) (fun j => lot_mem (s := s)) lot_ne hg hs]
  generalize hrs : ownR (pr s) i gs = rs at hlen hF ⊢
  refine w_lcF (fun r => decide (r.y < r.x)) (fun _ => D.int 1) rfl rfl (fun r hr => ?_) ?_
  · unfold rD
    by_cases c : r.y < r.x
    · simp only [w_bnd, w_ret, w_opt, w_fail, w_ite, w_tb, w_ti, w_rd, w_chk, w_chkL, w_plVal, w_plTop, w_q, w_setM, w_clr, w_setO1, w_modR, w_frz, w_var, w_non, w_bl, w_int, w_str, w_gint, w_bin, w_neg, w_inv, w_not, w_cmp, w_chn, w_isN, w_mem, w_andE, w_orE, w_ife, w_tup, w_lst, w_idx, w_eoN, w_eoS, w_slc, w_lrng1, w_fld, w_pl, w_call, w_new, w_bi, w_biP, w_isi, w_lc, w_dc, w_esN, w_esC, w_etN, w_etS, w_arE, w_arI, w_asN, w_asC, w_iE, w_iR1, w_iR2, w_pN, w_pX, w_pXX, w_pFX, w_pF, w_callF, w_oe, w_ol, w_ocall, w_onew, w_osN, w_osC, w_ssN, w_ssC, w_asg, w_asgL, w_asgO, w_app, w_set, w_fset, w_aug, w_ex, w_retE, w_retN, w_retO, w_if, w_for, w_rse, w_try, w_brk, w_cont, w_pass, w_hret, w_hunl, OptK_s, RdK_bl, RdK_int, RdK_str, RdK_non, RdK_tup, RdK_lst, RdK_dK, RdK_dT, RdK_ins, RdK_fn, RdK_scr, RdK_ol, ChkK_fz, ChkK_l, ChkK_i, ChkK_k, ChkK_t, ValK_int, ValK_bl, ValK_lst, ValK_tup, LstK_l, BlK_b, InK_i, FlK_nx, FlK_ct, FlK_bk, FlK_rt, RcK_ok, RcK_exc, LoK_nx, LoK_ct, LoK_bk, LoK_rt, c_eq, c_ne, c_eqb, c_neb, c_lt, c_gt, c_le, c_ge, c_is, c_isnt, bn_f, bn_t, b_add, b_sub, a_add, a_sub, t_ii, t_ib, t_it, t_il, t_is, t_bi, t_bb, t_bt, t_bl, t_bs, t_ti, t_tb, t_tt, t_tl, t_ts, t_li, t_lb, t_lt, t_ll, t_ls, t_ni, t_nb, t_nt, t_nl, t_ns, t_si, t_sb, t_st, t_sl, t_ss, n_i, n_b, n_t, n_l, n_s, n_n, i_lenT, i_lenL, i_lenK, i_tupL, i_tupT, i_lstL, i_lstT, i_lstS, i_intI, i_intB, i_abs, i_min2, i_max2, i_all, i_any, i_sum, x_lst, x_tup, at0, at1, at2, at3, q_tup, q_lst, g_nil, g_l0, g_l1, g_l2, g_l3, g_fz, s_l0, s_l1, s_l2, s_l3, qv_i, qv_l, qv_t, qv_s, qv_b, qq_var, qq_int, qq_pl, p_nil, p_ix, st_nm, st_tup, sn_nil, sn_cons, ta_nil, ta_d, ta_io, pb_nil, pb_c, fr_i, fr_b, fr_t, fr_l, fr_s, fr_n, fr_c, fr_k, fr_ol, fr_oc, fz_nil, fz_cons, fz_fz, ou_nil, ou_c, un_l, un_f, un_c, fin_nx, fin_rt, wp_nil, wp_c, tpL, tpT, NwK_ok, NwK_exc, m_t2, m_il, m_it, m_ik, sl_t, sl_l, Option.bind_some, Option.map_some, Option.map, List.any_cons, List.any_nil, Bool.or_self, List.getElem?_cons_zero, List.getElem?_cons_succ, List.set_cons_zero, List.set_cons_succ, List.length_cons, List.length_nil, Nat.reduceAdd, Nat.reduceLT, Nat.lt_add_one, Nat.zero_add, Int.cast_ofNat_Int, Int.reduceLE, Int.reduceLT, Int.reduceEq, Int.reduceNeg, Nat.reduceLeDiff, ↓reduceIte, Option.getD, List.nil_append, List.cons_append, decide_eq_true_eq, decide_true, decide_false, Bool.false_eq_true, Bool.not_true, Bool.not_false, Bool.and_true, Bool.and_false, Bool.true_and, Bool.or_true, Bool.or_false, and_true, true_and, and_false, false_and, not_true, not_false_eq_true, Bool.not_eq_true, decide_eq_false_iff_not, c]
      rfl
    · simp only [w_bnd, w_ret, w_opt, w_fail, w_ite, w_tb, w_ti, w_rd, w_chk, w_chkL, w_plVal, w_plTop, w_q, w_setM, w_clr, w_setO1, w_modR, w_frz, w_var, w_non, w_bl, w_int, w_str, w_gint, w_bin, w_neg, w_inv, w_not, w_cmp, w_chn, w_isN, w_mem, w_andE, w_orE, w_ife, w_tup, w_lst, w_idx, w_eoN, w_eoS, w_slc, w_lrng1, w_fld, w_pl, w_call, w_new, w_bi, w_biP, w_isi, w_lc, w_dc, w_esN, w_esC, w_etN, w_etS, w_arE, w_arI, w_asN, w_asC, w_iE, w_iR1, w_iR2, w_pN, w_pX, w_pXX, w_pFX, w_pF, w_callF, w_oe, w_ol, w_ocall, w_onew, w_osN, w_osC, w_ssN, w_ssC, w_asg, w_asgL, w_asgO, w_app, w_set, w_fset, w_aug, w_ex, w_retE, w_retN, w_retO, w_if, w_for, w_rse, w_try, w_brk, w_cont, w_pass, w_hret, w_hunl, OptK_s, RdK_bl, RdK_int, RdK_str, RdK_non, RdK_tup, RdK_lst, RdK_dK, RdK_dT, RdK_ins, RdK_fn, RdK_scr, RdK_ol, ChkK_fz, ChkK_l, ChkK_i, ChkK_k, ChkK_t, ValK_int, ValK_bl, ValK_lst, ValK_tup, LstK_l, BlK_b, InK_i, FlK_nx, FlK_ct, FlK_bk, FlK_rt, RcK_ok, RcK_exc, LoK_nx, LoK_ct, LoK_bk, LoK_rt, c_eq, c_ne, c_eqb, c_neb, c_lt, c_gt, c_le, c_ge, c_is, c_isnt, bn_f, bn_t, b_add, b_sub, a_add, a_sub, t_ii, t_ib, t_it, t_il, t_is, t_bi, t_bb, t_bt, t_bl, t_bs, t_ti, t_tb, t_tt, t_tl, t_ts, t_li, t_lb, t_lt, t_ll, t_ls, t_ni, t_nb, t_nt, t_nl, t_ns, t_si, t_sb, t_st, t_sl, t_ss, n_i, n_b, n_t, n_l, n_s, n_n, i_lenT, i_lenL, i_lenK, i_tupL, i_tupT, i_lstL, i_lstT, i_lstS, i_intI, i_intB, i_abs, i_min2, i_max2, i_all, i_any, i_sum, x_lst, x_tup, at0, at1, at2, at3, q_tup, q_lst, g_nil, g_l0, g_l1, g_l2, g_l3, g_fz, s_l0, s_l1, s_l2, s_l3, qv_i, qv_l, qv_t, qv_s, qv_b, qq_var, qq_int, qq_pl, p_nil, p_ix, st_nm, st_tup, sn_nil, sn_cons, ta_nil, ta_d, ta_io, pb_nil, pb_c, fr_i, fr_b, fr_t, fr_l, fr_s, fr_n, fr_c, fr_k, fr_ol, fr_oc, fz_nil, fz_cons, fz_fz, ou_nil, ou_c, un_l, un_f, un_c, fin_nx, fin_rt, wp_nil, wp_c, tpL, tpT, NwK_ok, NwK_exc, m_t2, m_il, m_it, m_ik, sl_t, sl_l, Option.bind_some, Option.map_some, Option.map, List.any_cons, List.any_nil, Bool.or_self, List.getElem?_cons_zero, List.getElem?_cons_succ, List.set_cons_zero, List.set_cons_succ, List.length_cons, List.length_nil, Nat.reduceAdd, Nat.reduceLT, Nat.lt_add_one, Nat.zero_add, Int.cast_ofNat_Int, Int.reduceLE, Int.reduceLT, Int.reduceEq, Int.reduceNeg, Nat.reduceLeDiff, ↓reduceIte, Option.getD, List.nil_append, List.cons_append, decide_eq_true_eq, decide_true, decide_false, Bool.false_eq_true, Bool.not_true, Bool.not_false, Bool.and_true, Bool.and_false, Bool.true_and, Bool.or_true, Bool.or_false, and_true, true_and, and_false, false_and, not_true, not_false_eq_true, Bool.not_eq_true, decide_eq_false_iff_not, c]
      rfl
  simp only [w_bnd, w_ret, w_opt, w_fail, w_ite, w_tb, w_ti, w_rd, w_chk, w_chkL, w_plVal, w_plTop, w_q, w_setM, w_clr, w_setO1, w_modR, w_frz, w_var, w_non, w_bl, w_int, w_str, w_gint, w_bin, w_neg, w_inv, w_not, w_cmp, w_chn, w_isN, w_mem, w_andE, w_orE, w_ife, w_tup, w_lst, w_idx, w_eoN, w_eoS, w_slc, w_lrng1, w_fld, w_pl, w_call, w_new, w_bi, w_biP, w_isi, w_lc, w_dc, w_esN, w_esC, w_etN, w_etS, w_arE, w_arI, w_asN, w_asC, w_iE, w_iR1, w_iR2, w_pN, w_pX, w_pXX, w_pFX, w_pF, w_callF, w_oe, w_ol, w_ocall, w_onew, w_osN, w_osC, w_ssN, w_ssC, w_asg, w_asgL, w_asgO, w_app, w_set, w_fset, w_aug, w_ex, w_retE, w_retN, w_retO, w_if, w_for, w_rse, w_try, w_brk, w_cont, w_pass, w_hret, w_hunl, OptK_s, RdK_bl, RdK_int, RdK_str, RdK_non, RdK_tup, RdK_lst, RdK_dK, RdK_dT, RdK_ins, RdK_fn, RdK_scr, RdK_ol, ChkK_fz, ChkK_l, ChkK_i, ChkK_k, ChkK_t, ValK_int, ValK_bl, ValK_lst, ValK_tup, LstK_l, BlK_b, InK_i, FlK_nx, FlK_ct, FlK_bk, FlK_rt, RcK_ok, RcK_exc, LoK_nx, LoK_ct, LoK_bk, LoK_rt, c_eq, c_ne, c_eqb, c_neb, c_lt, c_gt, c_le, c_ge, c_is, c_isnt, bn_f, bn_t, b_add, b_sub, a_add, a_sub, t_ii, t_ib, t_it, t_il, t_is, t_bi, t_bb, t_bt, t_bl, t_bs, t_ti, t_tb, t_tt, t_tl, t_ts, t_li, t_lb, t_lt, t_ll, t_ls, t_ni, t_nb, t_nt, t_nl, t_ns, t_si, t_sb, t_st, t_sl, t_ss, n_i, n_b, n_t, n_l, n_s, n_n, i_lenT, i_lenL, i_lenK, i_tupL, i_tupT, i_lstL, i_lstT, i_lstS, i_intI, i_intB, i_abs, i_min2, i_max2, i_all, i_any, i_sum, x_lst, x_tup, at0, at1, at2, at3, q_tup, q_lst, g_nil, g_l0, g_l1, g_l2, g_l3, g_fz, s_l0, s_l1, s_l2, s_l3, qv_i, qv_l, qv_t, qv_s, qv_b, qq_var, qq_int, qq_pl, p_nil, p_ix, st_nm, st_tup, sn_nil, sn_cons, ta_nil, ta_d, ta_io, pb_nil, pb_c, fr_i, fr_b, fr_t, fr_l, fr_s, fr_n, fr_c, fr_k, fr_ol, fr_oc, fz_nil, fz_cons, fz_fz, ou_nil, ou_c, un_l, un_f, un_c, fin_nx, fin_rt, wp_nil, wp_c, tpL, tpT, NwK_ok, NwK_exc, m_t2, m_il, m_it, m_ik, sl_t, sl_l, Option.bind_some, Option.map_some, Option.map, List.any_cons, List.any_nil, Bool.or_self, List.getElem?_cons_zero, List.getElem?_cons_succ, List.set_cons_zero, List.set_cons_succ, List.length_cons, List.length_nil, Nat.reduceAdd, Nat.reduceLT, Nat.lt_add_one, Nat.zero_add, Int.cast_ofNat_Int, Int.reduceLE, Int.reduceLT, Int.reduceEq, Int.reduceNeg, Nat.reduceLeDiff, ↓reduceIte, Option.getD, List.nil_append, List.cons_append, decide_eq_true_eq, decide_true, decide_false, Bool.false_eq_true, Bool.not_true, Bool.not_false, Bool.and_true, Bool.and_false, Bool.true_and, Bool.or_true, Bool.or_false, and_true, true_and, and_false, false_and, not_true, not_false_eq_true, Bool.not_eq_true, decide_eq_false_iff_not, List.length_map, hF]
  refine w_lcF (fun r => decide (r.x = r.y)) (fun _ => D.int 1) rfl rfl (fun r hr => ?_) ?_
  · unfold rD
    by_cases c : r.x = r.y
    · simp only [w_bnd, w_ret, w_opt, w_fail, w_ite, w_tb, w_ti, w_rd, w_chk, w_chkL, w_plVal, w_plTop, w_q, w_setM, w_clr, w_setO1, w_modR, w_frz, w_var, w_non, w_bl, w_int, w_str, w_gint, w_bin, w_neg, w_inv, w_not, w_cmp, w_chn, w_isN, w_mem, w_andE, w_orE, w_ife, w_tup, w_lst, w_idx, w_eoN, w_eoS, w_slc, w_lrng1, w_fld, w_pl, w_call, w_new, w_bi, w_biP, w_isi, w_lc, w_dc, w_esN, w_esC, w_etN, w_etS, w_arE, w_arI, w_asN, w_asC, w_iE, w_iR1, w_iR2, w_pN, w_pX, w_pXX, w_pFX, w_pF, w_callF, w_oe, w_ol, w_ocall, w_onew, w_osN, w_osC, w_ssN, w_ssC, w_asg, w_asgL, w_asgO, w_app, w_set, w_fset, w_aug, w_ex, w_retE, w_retN, w_retO, w_if, w_for, w_rse, w_try, w_brk, w_cont, w_pass, w_hret, w_hunl, OptK_s, RdK_bl, RdK_int, RdK_str, RdK_non, RdK_tup, RdK_lst, RdK_dK, RdK_dT, RdK_ins, RdK_fn, RdK_scr, RdK_ol, ChkK_fz, ChkK_l, ChkK_i, ChkK_k, ChkK_t, ValK_int, ValK_bl, ValK_lst, ValK_tup, LstK_l, BlK_b, InK_i, FlK_nx, FlK_ct, FlK_bk, FlK_rt, RcK_ok, RcK_exc, LoK_nx, LoK_ct, LoK_bk, LoK_rt, c_eq, c_ne, c_eqb, c_neb, c_lt, c_gt, c_le, c_ge, c_is, c_isnt, bn_f, bn_t, b_add, b_sub, a_add, a_sub, t_ii, t_ib, t_it, t_il, t_is, t_bi, t_bb, t_bt, t_bl, t_bs, t_ti, t_tb, t_tt, t_tl, t_ts, t_li, t_lb, t_lt, t_ll, t_ls, t_ni, t_nb, t_nt, t_nl, t_ns, t_si, t_sb, t_st, t_sl, t_ss, n_i, n_b, n_t, n_l, n_s, n_n, i_lenT, i_lenL, i_lenK, i_tupL, i_tupT, i_lstL, i_lstT, i_lstS, i_intI, i_intB, i_abs, i_min2, i_max2, i_all, i_any, i_sum, x_lst, x_tup, at0, at1, at2, at3, q_tup, q_lst, g_nil, g_l0, g_l1, g_l2, g_l3, g_fz, s_l0, s_l1, s_l2, s_l3, qv_i, qv_l, qv_t, qv_s, qv_b, qq_var, qq_int, qq_pl, p_nil, p_ix, st_nm, st_tup, sn_nil, sn_cons, ta_nil, ta_d, ta_io, pb_nil, pb_c, fr_i, fr_b, fr_t, fr_l, fr_s, fr_n, fr_c, fr_k, fr_ol, fr_oc, fz_nil, fz_cons, fz_fz, ou_nil, ou_c, un_l, un_f, un_c, fin_nx, fin_rt, wp_nil, wp_c, tpL, tpT, NwK_ok, NwK_exc, m_t2, m_il, m_it, m_ik, sl_t, sl_l, Option.bind_some, Option.map_some, Option.map, List.any_cons, List.any_nil, Bool.or_self, List.getElem?_cons_zero, List.getElem?_cons_succ, List.set_cons_zero, List.set_cons_succ, List.length_cons, List.length_nil, Nat.reduceAdd, Nat.reduceLT, Nat.lt_add_one, Nat.zero_add, Int.cast_ofNat_Int, Int.reduceLE, Int.reduceLT, Int.reduceEq, Int.reduceNeg, Nat.reduceLeDiff, ↓reduceIte, Option.getD, List.nil_append, List.cons_append, decide_eq_true_eq, decide_true, decide_false, Bool.false_eq_true, Bool.not_true, Bool.not_false, Bool.and_true, Bool.and_false, Bool.true_and, Bool.or_true, Bool.or_false, and_true, true_and, and_false, false_and, not_true, not_false_eq_true, Bool.not_eq_true, decide_eq_false_iff_not, eq_true c]
      rfl
    · simp only [w_bnd, w_ret, w_opt, w_fail, w_ite, w_tb, w_ti, w_rd, w_chk, w_chkL, w_plVal, w_plTop, w_q, w_setM, w_clr, w_setO1, w_modR, w_frz, w_var, w_non, w_bl, w_int, w_str, w_gint, w_bin, w_neg, w_inv, w_not, w_cmp, w_chn, w_isN, w_mem, w_andE, w_orE, w_ife, w_tup, w_lst, w_idx, w_eoN, w_eoS, w_slc, w_lrng1, w_fld, w_pl, w_call, w_new, w_bi, w_biP, w_isi, w_lc, w_dc, w_esN, w_esC, w_etN, w_etS, w_arE, w_arI, w_asN, w_asC, w_iE, w_iR1, w_iR2, w_pN, w_pX, w_pXX, w_pFX, w_pF, w_callF, w_oe, w_ol, w_ocall, w_onew, w_osN, w_osC, w_ssN, w_ssC, w_asg, w_asgL, w_asgO, w_app, w_set, w_fset, w_aug, w_ex, w_retE, w_retN, w_retO, w_if, w_for, w_rse, w_try, w_brk, w_cont, w_pass, w_hret, w_hunl, OptK_s, RdK_bl, RdK_int, RdK_str, RdK_non, RdK_tup, RdK_lst, RdK_dK, RdK_dT, RdK_ins, RdK_fn, RdK_scr, RdK_ol, ChkK_fz, ChkK_l, ChkK_i, ChkK_k, ChkK_t, ValK_int, ValK_bl, ValK_lst, ValK_tup, LstK_l, BlK_b, InK_i, FlK_nx, FlK_ct, FlK_bk, FlK_rt, RcK_ok, RcK_exc, LoK_nx, LoK_ct, LoK_bk, LoK_rt, c_eq, c_ne, c_eqb, c_neb, c_lt, c_gt, c_le, c_ge, c_is, c_isnt, bn_f, bn_t, b_add, b_sub, a_add, a_sub, t_ii, t_ib, t_it, t_il, t_is, t_bi, t_bb, t_bt, t_bl, t_bs, t_ti, t_tb, t_tt, t_tl, t_ts, t_li, t_lb, t_lt, t_ll, t_ls, t_ni, t_nb, t_nt, t_nl, t_ns, t_si, t_sb, t_st, t_sl, t_ss, n_i, n_b, n_t, n_l, n_s, n_n, i_lenT, i_lenL, i_lenK, i_tupL, i_tupT, i_lstL, i_lstT, i_lstS, i_intI, i_intB, i_abs, i_min2, i_max2, i_all, i_any, i_sum, x_lst, x_tup, at0, at1, at2, at3, q_tup, q_lst, g_nil, g_l0, g_l1, g_l2, g_l3, g_fz, s_l0, s_l1, s_l2, s_l3, qv_i, qv_l, qv_t, qv_s, qv_b, qq_var, qq_int, qq_pl, p_nil, p_ix, st_nm, st_tup, sn_nil, sn_cons, ta_nil, ta_d, ta_io, pb_nil, pb_c, fr_i, fr_b, fr_t, fr_l, fr_s, fr_n, fr_c, fr_k, fr_ol, fr_oc, fz_nil, fz_cons, fz_fz, ou_nil, ou_c, un_l, un_f, un_c, fin_nx, fin_rt, wp_nil, wp_c, tpL, tpT, NwK_ok, NwK_exc, m_t2, m_il, m_it, m_ik, sl_t, sl_l, Option.bind_some, Option.map_some, Option.map, List.any_cons, List.any_nil, Bool.or_self, List.getElem?_cons_zero, List.getElem?_cons_succ, List.set_cons_zero, List.set_cons_succ, List.length_cons, List.length_nil, Nat.reduceAdd, Nat.reduceLT, Nat.lt_add_one, Nat.zero_add, Int.cast_ofNat_Int, Int.reduceLE, Int.reduceLT, Int.reduceEq, Int.reduceNeg, Nat.reduceLeDiff, ↓reduceIte, Option.getD, List.nil_append, List.cons_append, decide_eq_true_eq, decide_true, decide_false, Bool.false_eq_true, Bool.not_true, Bool.not_false, Bool.and_true, Bool.and_false, Bool.true_and, Bool.or_true, Bool.or_false, and_true, true_and, and_false, false_and, not_true, not_false_eq_true, Bool.not_eq_true, decide_eq_false_iff_not, c]
      rfl
  simp only [w_bnd, w_ret, w_opt, w_fail, w_ite, w_tb, w_ti, w_rd, w_chk, w_chkL, w_plVal, w_plTop, w_q, w_setM, w_clr, w_setO1, w_modR, w_frz, w_var, w_non, w_bl, w_int, w_str, w_gint, w_bin, w_neg, w_inv, w_not, w_cmp, w_chn, w_isN, w_mem, w_andE, w_orE, w_ife, w_tup, w_lst, w_idx, w_eoN, w_eoS, w_slc, w_lrng1, w_fld, w_pl, w_call, w_new, w_bi, w_biP, w_isi, w_lc, w_dc, w_esN, w_esC, w_etN, w_etS, w_arE, w_arI, w_asN, w_asC, w_iE, w_iR1, w_iR2, w_pN, w_pX, w_pXX, w_pFX, w_pF, w_callF, w_oe, w_ol, w_ocall, w_onew, w_osN, w_osC, w_ssN, w_ssC, w_asg, w_asgL, w_asgO, w_app, w_set, w_fset, w_aug, w_ex, w_retE, w_retN, w_retO, w_if, w_for, w_rse, w_try, w_brk, w_cont, w_pass, w_hret, w_hunl, OptK_s, RdK_bl, RdK_int, RdK_str, RdK_non, RdK_tup, RdK_lst, RdK_dK, RdK_dT, RdK_ins, RdK_fn, RdK_scr, RdK_ol, ChkK_fz, ChkK_l, ChkK_i, ChkK_k, ChkK_t, ValK_int, ValK_bl, ValK_lst, ValK_tup, LstK_l, BlK_b, InK_i, FlK_nx, FlK_ct, FlK_bk, FlK_rt, RcK_ok, RcK_exc, LoK_nx, LoK_ct, LoK_bk, LoK_rt, c_eq, c_ne, c_eqb, c_neb, c_lt, c_gt, c_le, c_ge, c_is, c_isnt, bn_f, bn_t, b_add, b_sub, a_add, a_sub, t_ii, t_ib, t_it, t_il, t_is, t_bi, t_bb, t_bt, t_bl, t_bs, t_ti, t_tb, t_tt, t_tl, t_ts, t_li, t_lb, t_lt, t_ll, t_ls, t_ni, t_nb, t_nt, t_nl, t_ns, t_si, t_sb, t_st, t_sl, t_ss, n_i, n_b, n_t, n_l, n_s, n_n, i_lenT, i_lenL, i_lenK, i_tupL, i_tupT, i_lstL, i_lstT, i_lstS, i_intI, i_intB, i_abs, i_min2, i_max2, i_all, i_any, i_sum, x_lst, x_tup, at0, at1, at2, at3, q_tup, q_lst, g_nil, g_l0, g_l1, g_l2, g_l3, g_fz, s_l0, s_l1, s_l2, s_l3, qv_i, qv_l, qv_t, qv_s, qv_b, qq_var, qq_int, qq_pl, p_nil, p_ix, st_nm, st_tup, sn_nil, sn_cons, ta_nil, ta_d, ta_io, pb_nil, pb_c, fr_i, fr_b, fr_t, fr_l, fr_s, fr_n, fr_c, fr_k, fr_ol, fr_oc, fz_nil, fz_cons, fz_fz, ou_nil, ou_c, un_l, un_f, un_c, fin_nx, fin_rt, wp_nil, wp_c, tpL, tpT, NwK_ok, NwK_exc, m_t2, m_il, m_it, m_ik, sl_t, sl_l, Option.bind_some, Option.map_some, Option.map, List.any_cons, List.any_nil, Bool.or_self, List.getElem?_cons_zero, List.getElem?_cons_succ, List.set_cons_zero, List.set_cons_succ, List.length_cons, List.length_nil, Nat.reduceAdd, Nat.reduceLT, Nat.lt_add_one, Nat.zero_add, Int.cast_ofNat_Int, Int.reduceLE, Int.reduceLT, Int.reduceEq, Int.reduceNeg, Nat.reduceLeDiff, ↓reduceIte, Option.getD, List.nil_append, List.cons_append, decide_eq_true_eq, decide_true, decide_false, Bool.false_eq_true, Bool.not_true, Bool.not_false, Bool.and_true, Bool.and_false, Bool.true_and, Bool.or_true, Bool.or_false, and_true, true_and, and_false, false_and, not_true, not_false_eq_true, Bool.not_eq_true, decide_eq_false_iff_not, List.length_map, hF]
  refine w_lcM (fun r => D.int r.x) rfl rfl (fun r hr => ?_) ?_
  · unfold rD
    simp only [w_bnd, w_ret, w_opt, w_fail, w_ite, w_tb, w_ti, w_rd, w_chk, w_chkL, w_plVal, w_plTop, w_q, w_setM, w_clr, w_setO1, w_modR, w_frz, w_var, w_non, w_bl, w_int, w_str, w_gint, w_bin, w_neg, w_inv, w_not, w_cmp, w_chn, w_isN, w_mem, w_andE, w_orE, w_ife, w_tup, w_lst, w_idx, w_eoN, w_eoS, w_slc, w_lrng1, w_fld, w_pl, w_call, w_new, w_bi, w_biP, w_isi, w_lc, w_dc, w_esN, w_esC, w_etN, w_etS, w_arE, w_arI, w_asN, w_asC, w_iE, w_iR1, w_iR2, w_pN, w_pX, w_pXX, w_pFX, w_pF, w_callF, w_oe, w_ol, w_ocall, w_onew, w_osN, w_osC, w_ssN, w_ssC, w_asg, w_asgL, w_asgO, w_app, w_set, w_fset, w_aug, w_ex, w_retE, w_retN, w_retO, w_if, w_for, w_rse, w_try, w_brk, w_cont, w_pass, w_hret, w_hunl, OptK_s, RdK_bl, RdK_int, RdK_str, RdK_non, RdK_tup, RdK_lst, RdK_dK, RdK_dT, RdK_ins, RdK_fn, RdK_scr, RdK_ol, ChkK_fz, ChkK_l, ChkK_i, ChkK_k, ChkK_t, ValK_int, ValK_bl, ValK_lst, ValK_tup, LstK_l, BlK_b, InK_i, FlK_nx, FlK_ct, FlK_bk, FlK_rt, RcK_ok, RcK_exc, LoK_nx, LoK_ct, LoK_bk, LoK_rt, c_eq, c_ne, c_eqb, c_neb, c_lt, c_gt, c_le, c_ge, c_is, c_isnt, bn_f, bn_t, b_add, b_sub, a_add, a_sub, t_ii, t_ib, t_it, t_il, t_is, t_bi, t_bb, t_bt, t_bl, t_bs, t_ti, t_tb, t_tt, t_tl, t_ts, t_li, t_lb, t_lt, t_ll, t_ls, t_ni, t_nb, t_nt, t_nl, t_ns, t_si, t_sb, t_st, t_sl, t_ss, n_i, n_b, n_t, n_l, n_s, n_n, i_lenT, i_lenL, i_lenK, i_tupL, i_tupT, i_lstL, i_lstT, i_lstS, i_intI, i_intB, i_abs, i_min2, i_max2, i_all, i_any, i_sum, x_lst, x_tup, at0, at1, at2, at3, q_tup, q_lst, g_nil, g_l0, g_l1, g_l2, g_l3, g_fz, s_l0, s_l1, s_l2, s_l3, qv_i, qv_l, qv_t, qv_s, qv_b, qq_var, qq_int, qq_pl, p_nil, p_ix, st_nm, st_tup, sn_nil, sn_cons, ta_nil, ta_d, ta_io, pb_nil, pb_c, fr_i, fr_b, fr_t, fr_l, fr_s, fr_n, fr_c, fr_k, fr_ol, fr_oc, fz_nil, fz_cons, fz_fz, ou_nil, ou_c, un_l, un_f, un_c, fin_nx, fin_rt, wp_nil, wp_c, tpL, tpT, NwK_ok, NwK_exc, m_t2, m_il, m_it, m_ik, sl_t, sl_l, Option.bind_some, Option.map_some, Option.map, List.any_cons, List.any_nil, Bool.or_self, List.getElem?_cons_zero, List.getElem?_cons_succ, List.set_cons_zero, List.set_cons_succ, List.length_cons, List.length_nil, Nat.reduceAdd, Nat.reduceLT, Nat.lt_add_one, Nat.zero_add, Int.cast_ofNat_Int, Int.reduceLE, Int.reduceLT, Int.reduceEq, Int.reduceNeg, Nat.reduceLeDiff, ↓reduceIte, Option.getD, List.nil_append, List.cons_append, decide_eq_true_eq, decide_true, decide_false, Bool.false_eq_true, Bool.not_true, Bool.not_false, Bool.and_true, Bool.and_false, Bool.true_and, Bool.or_true, Bool.or_false, and_true, true_and, and_false, false_and, not_true, not_false_eq_true, Bool.not_eq_true, decide_eq_false_iff_not]
    rfl
  simp only [w_bnd, w_ret, w_opt, w_fail, w_ite, w_tb, w_ti, w_rd, w_chk, w_chkL, w_plVal, w_plTop, w_q, w_setM, w_clr, w_setO1, w_modR, w_frz, w_var, w_non, w_bl, w_int, w_str, w_gint, w_bin, w_neg, w_inv, w_not, w_cmp, w_chn, w_isN, w_mem, w_andE, w_orE, w_ife, w_tup, w_lst, w_idx, w_eoN, w_eoS, w_slc, w_lrng1, w_fld, w_pl, w_call, w_new, w_bi, w_biP, w_isi, w_lc, w_dc, w_esN, w_esC, w_etN, w_etS, w_arE, w_arI, w_asN, w_asC, w_iE, w_iR1, w_iR2, w_pN, w_pX, w_pXX, w_pFX, w_pF, w_callF, w_oe, w_ol, w_ocall, w_onew, w_osN, w_osC, w_ssN, w_ssC, w_asg, w_asgL, w_asgO, w_app, w_set, w_fset, w_aug, w_ex, w_retE, w_retN, w_retO, w_if, w_for, w_rse, w_try, w_brk, w_cont, w_pass, w_hret, w_hunl, OptK_s, RdK_bl, RdK_int, RdK_str, RdK_non, RdK_tup, RdK_lst, RdK_dK, RdK_dT, RdK_ins, RdK_fn, RdK_scr, RdK_ol, ChkK_fz, ChkK_l, ChkK_i, ChkK_k, ChkK_t, ValK_int, ValK_bl, ValK_lst, ValK_tup, LstK_l, BlK_b, InK_i, FlK_nx, FlK_ct, FlK_bk, FlK_rt, RcK_ok, RcK_exc, LoK_nx, LoK_ct, LoK_bk, LoK_rt, c_eq, c_ne, c_eqb, c_neb, c_lt, c_gt, c_le, c_ge, c_is, c_isnt, bn_f, bn_t, b_add, b_sub, a_add, a_sub, t_ii, t_ib, t_it, t_il, t_is, t_bi, t_bb, t_bt, t_bl, t_bs, t_ti, t_tb, t_tt, t_tl, t_ts, t_li, t_lb, t_lt, t_ll, t_ls, t_ni, t_nb, t_nt, t_nl, t_ns, t_si, t_sb, t_st, t_sl, t_ss, n_i, n_b, n_t, n_l, n_s, n_n, i_lenT, i_lenL, i_lenK, i_tupL, i_tupT, i_lstL, i_lstT, i_lstS, i_intI, i_intB, i_abs, i_min2, i_max2, i_all, i_any, i_sum, x_lst, x_tup, at0, at1, at2, at3, q_tup, q_lst, g_nil, g_l0, g_l1, g_l2, g_l3, g_fz, s_l0, s_l1, s_l2, s_l3, qv_i, qv_l, qv_t, qv_s, qv_b, qq_var, qq_int, qq_pl, p_nil, p_ix, st_nm, st_tup, sn_nil, sn_cons, ta_nil, ta_d, ta_io, pb_nil, pb_c, fr_i, fr_b, fr_t, fr_l, fr_s, fr_n, fr_c, fr_k, fr_ol, fr_oc, fz_nil, fz_cons, fz_fz, ou_nil, ou_c, un_l, un_f, un_c, fin_nx, fin_rt, wp_nil, wp_c, tpL, tpT, NwK_ok, NwK_exc, m_t2, m_il, m_it, m_ik, sl_t, sl_l, Option.bind_some, Option.map_some, Option.map, List.any_cons, List.any_nil, Bool.or_self, List.getElem?_cons_zero, List.getElem?_cons_succ, List.set_cons_zero, List.set_cons_succ, List.length_cons, List.length_nil, Nat.reduceAdd, Nat.reduceLT, Nat.lt_add_one, Nat.zero_add, Int.cast_ofNat_Int, Int.reduceLE, Int.reduceLT, Int.reduceEq, Int.reduceNeg, Nat.reduceLeDiff, ↓reduceIte, Option.getD, List.nil_append, List.cons_append, decide_eq_true_eq, decide_true, decide_false, Bool.false_eq_true, Bool.not_true, Bool.not_false, Bool.and_true, Bool.and_false, Bool.true_and, Bool.or_true, Bool.or_false, and_true, true_and, and_false, false_and, not_true, not_false_eq_true, Bool.not_eq_true, decide_eq_false_iff_not, List.length_map, hlen]
  refine w_lcM (fun r => D.int r.y) rfl rfl (fun r hr => ?_) ?_
  · unfold rD
    simp only [w_bnd, w_ret, w_opt, w_fail, w_ite, w_tb, w_ti, w_rd, w_chk, w_chkL, w_plVal, w_plTop, w_q, w_setM, w_clr, w_setO1, w_modR, w_frz, w_var, w_non, w_bl, w_int, w_str, w_gint, w_bin, w_neg, w_inv, w_not, w_cmp, w_chn, w_isN, w_mem, w_andE, w_orE, w_ife, w_tup, w_lst, w_idx, w_eoN, w_eoS, w_slc, w_lrng1, w_fld, w_pl, w_call, w_new, w_bi, w_biP, w_isi, w_lc, w_dc, w_esN, w_esC, w_etN, w_etS, w_arE, w_arI, w_asN, w_asC, w_iE, w_iR1, w_iR2, w_pN, w_pX, w_pXX, w_pFX, w_pF, w_callF, w_oe, w_ol, w_ocall, w_onew, w_osN, w_osC, w_ssN, w_ssC, w_asg, w_asgL, w_asgO, w_app, w_set, w_fset, w_aug, w_ex, w_retE, w_retN, w_retO, w_if, w_for, w_rse, w_try, w_brk, w_cont, w_pass, w_hret, w_hunl, OptK_s, RdK_bl, RdK_int, RdK_str, RdK_non, RdK_tup, RdK_lst, RdK_dK, RdK_dT, RdK_ins, RdK_fn, RdK_scr, RdK_ol, ChkK_fz, ChkK_l, ChkK_i, ChkK_k, ChkK_t, ValK_int, ValK_bl, ValK_lst, ValK_tup, LstK_l, BlK_b, InK_i, FlK_nx, FlK_ct, FlK_bk, FlK_rt, RcK_ok, RcK_exc, LoK_nx, LoK_ct, LoK_bk, LoK_rt, c_eq, c_ne, c_eqb, c_neb, c_lt, c_gt, c_le, c_ge, c_is, c_isnt, bn_f, bn_t, b_add, b_sub, a_add, a_sub, t_ii, t_ib, t_it, t_il, t_is, t_bi, t_bb, t_bt, t_bl, t_bs, t_ti, t_tb, t_tt, t_tl, t_ts, t_li, t_lb, t_lt, t_ll, t_ls, t_ni, t_nb, t_nt, t_nl, t_ns, t_si, t_sb, t_st, t_sl, t_ss, n_i, n_b, n_t, n_l, n_s, n_n, i_lenT, i_lenL, i_lenK, i_tupL, i_tupT, i_lstL, i_lstT, i_lstS, i_intI, i_intB, i_abs, i_min2, i_max2, i_all, i_any, i_sum, x_lst, x_tup, at0, at1, at2, at3, q_tup, q_lst, g_nil, g_l0, g_l1, g_l2, g_l3, g_fz, s_l0, s_l1, s_l2, s_l3, qv_i, qv_l, qv_t, qv_s, qv_b, qq_var, qq_int, qq_pl, p_nil, p_ix, st_nm, st_tup, sn_nil, sn_cons, ta_nil, ta_d, ta_io, pb_nil, pb_c, fr_i, fr_b, fr_t, fr_l, fr_s, fr_n, fr_c, fr_k, fr_ol, fr_oc, fz_nil, fz_cons, fz_fz, ou_nil, ou_c, un_l, un_f, un_c, fin_nx, fin_rt, wp_nil, wp_c, tpL, tpT, NwK_ok, NwK_exc, m_t2, m_il, m_it, m_ik, sl_t, sl_l, Option.bind_some, Option.map_some, Option.map, List.any_cons, List.any_nil, Bool.or_self, List.getElem?_cons_zero, List.getElem?_cons_succ, List.set_cons_zero, List.set_cons_succ, List.length_cons, List.length_nil, Nat.reduceAdd, Nat.reduceLT, Nat.lt_add_one, Nat.zero_add, Int.cast_ofNat_Int, Int.reduceLE, Int.reduceLT, Int.reduceEq, Int.reduceNeg, Nat.reduceLeDiff, ↓reduceIte, Option.getD, List.nil_append, List.cons_append, decide_eq_true_eq, decide_true, decide_false, Bool.false_eq_true, Bool.not_true, Bool.not_false, Bool.and_true, Bool.and_false, Bool.true_and, Bool.or_true, Bool.or_false, and_true, true_and, and_false, false_and, not_true, not_false_eq_true, Bool.not_eq_true, decide_eq_false_iff_not]
    rfl
  simp only [w_bnd, w_ret, w_opt, w_fail, w_ite, w_tb, w_ti, w_rd, w_chk, w_chkL, w_plVal, w_plTop, w_q, w_setM, w_clr, w_setO1, w_modR, w_frz, w_var, w_non, w_bl, w_int, w_str, w_gint, w_bin, w_neg, w_inv, w_not, w_cmp, w_chn, w_isN, w_mem, w_andE, w_orE, w_ife, w_tup, w_lst, w_idx, w_eoN, w_eoS, w_slc, w_lrng1, w_fld, w_pl, w_call, w_new, w_bi, w_biP, w_isi, w_lc, w_dc, w_esN, w_esC, w_etN, w_etS, w_arE, w_arI, w_asN, w_asC, w_iE, w_iR1, w_iR2, w_pN, w_pX, w_pXX, w_pFX, w_pF, w_callF, w_oe, w_ol, w_ocall, w_onew, w_osN, w_osC, w_ssN, w_ssC, w_asg, w_asgL, w_asgO, w_app, w_set, w_fset, w_aug, w_ex, w_retE, w_retN, w_retO, w_if, w_for, w_rse, w_try, w_brk, w_cont, w_pass, w_hret, w_hunl, OptK_s, RdK_bl, RdK_int, RdK_str, RdK_non, RdK_tup, RdK_lst, RdK_dK, RdK_dT, RdK_ins, RdK_fn, RdK_scr, RdK_ol, ChkK_fz, ChkK_l, ChkK_i, ChkK_k, ChkK_t, ValK_int, ValK_bl, ValK_lst, ValK_tup, LstK_l, BlK_b, InK_i, FlK_nx, FlK_ct, FlK_bk, FlK_rt, RcK_ok, RcK_exc, LoK_nx, LoK_ct, LoK_bk, LoK_rt, c_eq, c_ne, c_eqb, c_neb, c_lt, c_gt, c_le, c_ge, c_is, c_isnt, bn_f, bn_t, b_add, b_sub, a_add, a_sub, t_ii, t_ib, t_it, t_il, t_is, t_bi, t_bb, t_bt, t_bl, t_bs, t_ti, t_tb, t_tt, t_tl, t_ts, t_li, t_lb, t_lt, t_ll, t_ls, t_ni, t_nb, t_nt, t_nl, t_ns, t_si, t_sb, t_st, t_sl, t_ss, n_i, n_b, n_t, n_l, n_s, n_n, i_lenT, i_lenL, i_lenK, i_tupL, i_tupT, i_lstL, i_lstT, i_lstS, i_intI, i_intB, i_abs, i_min2, i_max2, i_all, i_any, i_sum, x_lst, x_tup, at0, at1, at2, at3, q_tup, q_lst, g_nil, g_l0, g_l1, g_l2, g_l3, g_fz, s_l0, s_l1, s_l2, s_l3, qv_i, qv_l, qv_t, qv_s, qv_b, qq_var, qq_int, qq_pl, p_nil, p_ix, st_nm, st_tup, sn_nil, sn_cons, ta_nil, ta_d, ta_io, pb_nil, pb_c, fr_i, fr_b, fr_t, fr_l, fr_s, fr_n, fr_c, fr_k, fr_ol, fr_oc, fz_nil, fz_cons, fz_fz, ou_nil, ou_c, un_l, un_f, un_c, fin_nx, fin_rt, wp_nil, wp_c, tpL, tpT, NwK_ok, NwK_exc, m_t2, m_il, m_it, m_ik, sl_t, sl_l, Option.bind_some, Option.map_some, Option.map, List.any_cons, List.any_nil, Bool.or_self, List.getElem?_cons_zero, List.getElem?_cons_succ, List.set_cons_zero, List.set_cons_succ, List.length_cons, List.length_nil, Nat.reduceAdd, Nat.reduceLT, Nat.lt_add_one, Nat.zero_add, Int.cast_ofNat_Int, Int.reduceLE, Int.reduceLT, Int.reduceEq, Int.reduceNeg, Nat.reduceLeDiff, ↓reduceIte, Option.getD, List.nil_append, List.cons_append, decide_eq_true_eq, decide_true, decide_false, Bool.false_eq_true, Bool.not_true, Bool.not_false, Bool.and_true, Bool.and_false, Bool.true_and, Bool.or_true, Bool.or_false, and_true, true_and, and_false, false_and, not_true, not_false_eq_true, Bool.not_eq_true, decide_eq_false_iff_not, List.length_map, hlen, RdK_d vd_ne, v0, v1, v2, mul_r hu, mul_r hv, mul_r hw, show d7.io = [] from rfl]
  first | rfl | exact ⟨rfl, rfl⟩ | exact ⟨rfl, rfl, rfl⟩
theorem fresh0 : freshI P 0 = .ins 0 [.fz .nil, .fz .nil] := rfl
theorem set_size {a b v : O} : fsetO P "size" v (.ins 0 [a, b]) = some (.ins 0 [v, b]) := nr rfl
theorem set_games {a b v : O} : fsetO P "games" v (.ins 0 [a, b]) = some (.ins 0 [a, v]) := nr rfl
theorem gd_ne {g : Gm} : gD g ≠ .nil := fun z => by cases z
theorem init_ok (n : Nat) {s : Int} {gs : List Gm} (h0 : 1 ≤ s) (h1 : s ≤ 24) (hg : ∀ g ∈ gs, GmOk s g) (hs : gs.length ≤ 400) :
    run P (n + 3) 1 [.ins 0 [.fz .nil, .fz .nil], .fz (.int s), .fz (.tup (gs.map gD))] = .ok (.fz .non) [.ins 0 [.fz (.int s), .fz (.tup (gs.map gD))]] := by
  have hl : gs.length ≤ 100000 := by omega
  have hl2 : ¬ (400 : Int) < (gs.length : Int) := by omega
  have hall : gs.all (fun _ => true) = true := by rw [List.all_eq_true]; intro _ _; rfl
  rw [run_s (d := d1) rfl]
  apply RcK.ok_eq
  refine w_run rfl ?_
  change WX (exs P _ b1) [.ins 0 [.fz .nil, .fz .nil], .fz (.int s), .fz (.tup (gs.map gD)), .un] _ _
  unfold b1
  simp only [w_bnd, w_ret, w_opt, w_fail, w_ite, w_tb, w_ti, w_rd, w_chk, w_chkL, w_plVal, w_plTop, w_q, w_setM, w_clr, w_setO1, w_modR, w_frz, w_var, w_non, w_bl, w_int, w_str, w_gint, w_bin, w_neg, w_inv, w_not, w_cmp, w_chn, w_isN, w_mem, w_andE, w_orE, w_ife, w_tup, w_lst, w_idx, w_eoN, w_eoS, w_slc, w_lrng1, w_fld, w_pl, w_call, w_new, w_bi, w_biP, w_isi, w_lc, w_dc, w_esN, w_esC, w_etN, w_etS, w_arE, w_arI, w_asN, w_asC, w_iE, w_iR1, w_iR2, w_pN, w_pX, w_pXX, w_pFX, w_pF, w_callF, w_oe, w_ol, w_ocall, w_onew, w_osN, w_osC, w_ssN, w_ssC, w_asg, w_asgL, w_asgO, w_app, w_set, w_fset, w_aug, w_ex, w_retE, w_retN, w_retO, w_if, w_for, w_rse, w_try, w_brk, w_cont, w_pass, w_hret, w_hunl, OptK_s, RdK_bl, RdK_int, RdK_str, RdK_non, RdK_tup, RdK_lst, RdK_dK, RdK_dT, RdK_ins, RdK_fn, RdK_scr, RdK_ol, ChkK_fz, ChkK_l, ChkK_i, ChkK_k, ChkK_t, ValK_int, ValK_bl, ValK_lst, ValK_tup, LstK_l, BlK_b, InK_i, FlK_nx, FlK_ct, FlK_bk, FlK_rt, RcK_ok, RcK_exc, LoK_nx, LoK_ct, LoK_bk, LoK_rt, c_eq, c_ne, c_eqb, c_neb, c_lt, c_gt, c_le, c_ge, c_is, c_isnt, bn_f, bn_t, b_add, b_sub, a_add, a_sub, t_ii, t_ib, t_it, t_il, t_is, t_bi, t_bb, t_bt, t_bl, t_bs, t_ti, t_tb, t_tt, t_tl, t_ts, t_li, t_lb, t_lt, t_ll, t_ls, t_ni, t_nb, t_nt, t_nl, t_ns, t_si, t_sb, t_st, t_sl, t_ss, n_i, n_b, n_t, n_l, n_s, n_n, i_lenT, i_lenL, i_lenK, i_tupL, i_tupT, i_lstL, i_lstT, i_lstS, i_intI, i_intB, i_abs, i_min2, i_max2, i_all, i_any, i_sum, x_lst, x_tup, at0, at1, at2, at3, q_tup, q_lst, g_nil, g_l0, g_l1, g_l2, g_l3, g_fz, s_l0, s_l1, s_l2, s_l3, qv_i, qv_l, qv_t, qv_s, qv_b, qq_var, qq_int, qq_pl, p_nil, p_ix, st_nm, st_tup, sn_nil, sn_cons, ta_nil, ta_d, ta_io, pb_nil, pb_c, fr_i, fr_b, fr_t, fr_l, fr_s, fr_n, fr_c, fr_k, fr_ol, fr_oc, fz_nil, fz_cons, fz_fz, ou_nil, ou_c, un_l, un_f, un_c, fin_nx, fin_rt, wp_nil, wp_c, tpL, tpT, NwK_ok, NwK_exc, m_t2, m_il, m_it, m_ik, sl_t, sl_l, Option.bind_some, Option.map_some, Option.map, List.any_cons, List.any_nil, Bool.or_self, List.getElem?_cons_zero, List.getElem?_cons_succ, List.set_cons_zero, List.set_cons_succ, List.length_cons, List.length_nil, Nat.reduceAdd, Nat.reduceLT, Nat.lt_add_one, Nat.zero_add, Int.cast_ofNat_Int, Int.reduceLE, Int.reduceLT, Int.reduceEq, Int.reduceNeg, Nat.reduceLeDiff, ↓reduceIte, Option.getD, List.nil_append, List.cons_append, decide_eq_true_eq, decide_true, decide_false, Bool.false_eq_true, Bool.not_true, Bool.not_false, Bool.and_true, Bool.and_false, Bool.true_and, Bool.or_true, Bool.or_false, and_true, true_and, and_false, false_and, not_true, not_false_eq_true, Bool.not_eq_true, decide_eq_false_iff_not, isi, h0, h1, List.length_map, hl2]
  refine w_lcM (fun g => D.bl true) rfl rfl (fun g hx => ?_) ?_
  · simp only [w_bnd, w_ret, w_opt, w_fail, w_ite, w_tb, w_ti, w_rd, w_chk, w_chkL, w_plVal, w_plTop, w_q, w_setM, w_clr, w_setO1, w_modR, w_frz, w_var, w_non, w_bl, w_int, w_str, w_gint, w_bin, w_neg, w_inv, w_not, w_cmp, w_chn, w_isN, w_mem, w_andE, w_orE, w_ife, w_tup, w_lst, w_idx, w_eoN, w_eoS, w_slc, w_lrng1, w_fld, w_pl, w_call, w_new, w_bi, w_biP, w_isi, w_lc, w_dc, w_esN, w_esC, w_etN, w_etS, w_arE, w_arI, w_asN, w_asC, w_iE, w_iR1, w_iR2, w_pN, w_pX, w_pXX, w_pFX, w_pF, w_callF, w_oe, w_ol, w_ocall, w_onew, w_osN, w_osC, w_ssN, w_ssC, w_asg, w_asgL, w_asgO, w_app, w_set, w_fset, w_aug, w_ex, w_retE, w_retN, w_retO, w_if, w_for, w_rse, w_try, w_brk, w_cont, w_pass, w_hret, w_hunl, OptK_s, RdK_bl, RdK_int, RdK_str, RdK_non, RdK_tup, RdK_lst, RdK_dK, RdK_dT, RdK_ins, RdK_fn, RdK_scr, RdK_ol, ChkK_fz, ChkK_l, ChkK_i, ChkK_k, ChkK_t, ValK_int, ValK_bl, ValK_lst, ValK_tup, LstK_l, BlK_b, InK_i, FlK_nx, FlK_ct, FlK_bk, FlK_rt, RcK_ok, RcK_exc, LoK_nx, LoK_ct, LoK_bk, LoK_rt, c_eq, c_ne, c_eqb, c_neb, c_lt, c_gt, c_le, c_ge, c_is, c_isnt, bn_f, bn_t, b_add, b_sub, a_add, a_sub, t_ii, t_ib, t_it, t_il, t_is, t_bi, t_bb, t_bt, t_bl, t_bs, t_ti, t_tb, t_tt, t_tl, t_ts, t_li, t_lb, t_lt, t_ll, t_ls, t_ni, t_nb, t_nt, t_nl, t_ns, t_si, t_sb, t_st, t_sl, t_ss, n_i, n_b, n_t, n_l, n_s, n_n, i_lenT, i_lenL, i_lenK, i_tupL, i_tupT, i_lstL, i_lstT, i_lstS, i_intI, i_intB, i_abs, i_min2, i_max2, i_all, i_any, i_sum, x_lst, x_tup, at0, at1, at2, at3, q_tup, q_lst, g_nil, g_l0, g_l1, g_l2, g_l3, g_fz, s_l0, s_l1, s_l2, s_l3, qv_i, qv_l, qv_t, qv_s, qv_b, qq_var, qq_int, qq_pl, p_nil, p_ix, st_nm, st_tup, sn_nil, sn_cons, ta_nil, ta_d, ta_io, pb_nil, pb_c, fr_i, fr_b, fr_t, fr_l, fr_s, fr_n, fr_c, fr_k, fr_ol, fr_oc, fz_nil, fz_cons, fz_fz, ou_nil, ou_c, un_l, un_f, un_c, fin_nx, fin_rt, wp_nil, wp_c, tpL, tpT, NwK_ok, NwK_exc, m_t2, m_il, m_it, m_ik, sl_t, sl_l, Option.bind_some, Option.map_some, Option.map, List.any_cons, List.any_nil, Bool.or_self, List.getElem?_cons_zero, List.getElem?_cons_succ, List.set_cons_zero, List.set_cons_succ, List.length_cons, List.length_nil, Nat.reduceAdd, Nat.reduceLT, Nat.lt_add_one, Nat.zero_add, Int.cast_ofNat_Int, Int.reduceLE, Int.reduceLT, Int.reduceEq, Int.reduceNeg, Nat.reduceLeDiff, ↓reduceIte, Option.getD, List.nil_append, List.cons_append, decide_eq_true_eq, decide_true, decide_false, Bool.false_eq_true, Bool.not_true, Bool.not_false, Bool.and_true, Bool.and_false, Bool.true_and, Bool.or_true, Bool.or_false, and_true, true_and, and_false, false_and, not_true, not_false_eq_true, Bool.not_eq_true, decide_eq_false_iff_not, RdK_d gd_ne, is_game_ok n (hg g hx)]
    rfl
  simp only [w_bnd, w_ret, w_opt, w_fail, w_ite, w_tb, w_ti, w_rd, w_chk, w_chkL, w_plVal, w_plTop, w_q, w_setM, w_clr, w_setO1, w_modR, w_frz, w_var, w_non, w_bl, w_int, w_str, w_gint, w_bin, w_neg, w_inv, w_not, w_cmp, w_chn, w_isN, w_mem, w_andE, w_orE, w_ife, w_tup, w_lst, w_idx, w_eoN, w_eoS, w_slc, w_lrng1, w_fld, w_pl, w_call, w_new, w_bi, w_biP, w_isi, w_lc, w_dc, w_esN, w_esC, w_etN, w_etS, w_arE, w_arI, w_asN, w_asC, w_iE, w_iR1, w_iR2, w_pN, w_pX, w_pXX, w_pFX, w_pF, w_callF, w_oe, w_ol, w_ocall, w_onew, w_osN, w_osC, w_ssN, w_ssC, w_asg, w_asgL, w_asgO, w_app, w_set, w_fset, w_aug, w_ex, w_retE, w_retN, w_retO, w_if, w_for, w_rse, w_try, w_brk, w_cont, w_pass, w_hret, w_hunl, OptK_s, RdK_bl, RdK_int, RdK_str, RdK_non, RdK_tup, RdK_lst, RdK_dK, RdK_dT, RdK_ins, RdK_fn, RdK_scr, RdK_ol, ChkK_fz, ChkK_l, ChkK_i, ChkK_k, ChkK_t, ValK_int, ValK_bl, ValK_lst, ValK_tup, LstK_l, BlK_b, InK_i, FlK_nx, FlK_ct, FlK_bk, FlK_rt, RcK_ok, RcK_exc, LoK_nx, LoK_ct, LoK_bk, LoK_rt, c_eq, c_ne, c_eqb, c_neb, c_lt, c_gt, c_le, c_ge, c_is, c_isnt, bn_f, bn_t, b_add, b_sub, a_add, a_sub, t_ii, t_ib, t_it, t_il, t_is, t_bi, t_bb, t_bt, t_bl, t_bs, t_ti, t_tb, t_tt, t_tl, t_ts, t_li, t_lb, t_lt, t_ll, t_ls, t_ni, t_nb, t_nt, t_nl, t_ns, t_si, t_sb, t_st, t_sl, t_ss, n_i, n_b, n_t, n_l, n_s, n_n, i_lenT, i_lenL, i_lenK, i_tupL, i_tupT, i_lstL, i_lstT, i_lstS, i_intI, i_intB, i_abs, i_min2, i_max2, i_all, i_any, i_sum, x_lst, x_tup, at0, at1, at2, at3, q_tup, q_lst, g_nil, g_l0, g_l1, g_l2, g_l3, g_fz, s_l0, s_l1, s_l2, s_l3, qv_i, qv_l, qv_t, qv_s, qv_b, qq_var, qq_int, qq_pl, p_nil, p_ix, st_nm, st_tup, sn_nil, sn_cons, ta_nil, ta_d, ta_io, pb_nil, pb_c, fr_i, fr_b, fr_t, fr_l, fr_s, fr_n, fr_c, fr_k, fr_ol, fr_oc, fz_nil, fz_cons, fz_fz, ou_nil, ou_c, un_l, un_f, un_c, fin_nx, fin_rt, wp_nil, wp_c, tpL, tpT, NwK_ok, NwK_exc, m_t2, m_il, m_it, m_ik, sl_t, sl_l, Option.bind_some, Option.map_some, Option.map, List.any_cons, List.any_nil, Bool.or_self, List.getElem?_cons_zero, List.getElem?_cons_succ, List.set_cons_zero, List.set_cons_succ, List.length_cons, List.length_nil, Nat.reduceAdd, Nat.reduceLT, Nat.lt_add_one, Nat.zero_add, Int.cast_ofNat_Int, Int.reduceLE, Int.reduceLT, Int.reduceEq, Int.reduceNeg, Nat.reduceLeDiff, ↓reduceIte, Option.getD, List.nil_append, List.cons_append, decide_eq_true_eq, decide_true, decide_false, Bool.false_eq_true, Bool.not_true, Bool.not_false, Bool.and_true, Bool.and_false, Bool.true_and, Bool.or_true, Bool.or_false, and_true, true_and, and_false, false_and, not_true, not_false_eq_true, Bool.not_eq_true, decide_eq_false_iff_not, List.length_map, hl, hall, set_size, set_games, show d1.io = [0] from rfl, un_c]
theorem cls0 : P.classes[0]? = some { nm := "Results", fields := ["size", "games"], init := 1, meths := [] } := rfl
theorem fz_res {s : Int} {gs : List Gm} : frzO (.ins 0 [.fz (.int s), .fz (.tup (gs.map gD))]) = some (resD s gs) := by
  simp only [fr_oc, fz_cons, fz_nil, fz_fz]
  rfl
theorem without_ok (n : Nat) {s k : Int} {gs : List Gm} (h0 : 1 ≤ s) (h1 : s ≤ 24) (hg : ∀ g ∈ gs, GmOk s g) (hs : gs.length ≤ 200) :
    run P (n + 4) 8 [.fz (resD s gs), .fz (.int k)] = .ok (.fz (resD s (cutD gs none (some k) ++ cutD gs (some (k + 1)) none))) [] := by
  have c1 : (cutD gs none (some k)).length ≤ 200 := Nat.le_trans cut_len hs
  have c2 : (cutD gs (some (k + 1)) none).length ≤ 200 := Nat.le_trans cut_len hs
  have hg' : ∀ g ∈ cutD gs none (some k) ++ cutD gs (some (k + 1)) none, GmOk s g := fun g h => by
    rcases List.mem_append.mp h with h | h
    · exact hg g (cut_mem h)
    · exact hg g (cut_mem h)
  have ii := init_ok n h0 h1 hg' (by rw [List.length_append]; omega)
  rw [List.map_append] at ii
  have fr := fz_res (s := s) (gs := cutD gs none (some k) ++ cutD gs (some (k + 1)) none)
  rw [List.map_append] at fr
  have ad : binD .add (.tup ((cutD gs none (some k)).map gD)) (.tup ((cutD gs (some (k + 1)) none).map gD)) = some (.tup ((cutD gs none (some k)).map gD ++ (cutD gs (some (k + 1)) none).map gD)) := b_addT (by rw [List.length_map, List.length_map]; omega)
  rw [run_s (d := d8) rfl]
  apply RcK.ok_eq
  refine w_run rfl ?_
  change WX (exs P _ b8) [.fz (resD s gs), .fz (.int k)] _ _
  unfold b8
  simp only [w_bnd, w_ret, w_opt, w_fail, w_ite, w_tb, w_ti, w_rd, w_chk, w_chkL, w_plVal, w_plTop, w_q, w_setM, w_clr, w_setO1, w_modR, w_frz, w_var, w_non, w_bl, w_int, w_str, w_gint, w_bin, w_neg, w_inv, w_not, w_cmp, w_chn, w_isN, w_mem, w_andE, w_orE, w_ife, w_tup, w_lst, w_idx, w_eoN, w_eoS, w_slc, w_lrng1, w_fld, w_pl, w_call, w_new, w_bi, w_biP, w_isi, w_lc, w_dc, w_esN, w_esC, w_etN, w_etS, w_arE, w_arI, w_asN, w_asC, w_iE, w_iR1, w_iR2, w_pN, w_pX, w_pXX, w_pFX, w_pF, w_callF, w_oe, w_ol, w_ocall, w_onew, w_osN, w_osC, w_ssN, w_ssC, w_asg, w_asgL, w_asgO, w_app, w_set, w_fset, w_aug, w_ex, w_retE, w_retN, w_retO, w_if, w_for, w_rse, w_try, w_brk, w_cont, w_pass, w_hret, w_hunl, OptK_s, RdK_bl, RdK_int, RdK_str, RdK_non, RdK_tup, RdK_lst, RdK_dK, RdK_dT, RdK_ins, RdK_fn, RdK_scr, RdK_ol, ChkK_fz, ChkK_l, ChkK_i, ChkK_k, ChkK_t, ValK_int, ValK_bl, ValK_lst, ValK_tup, LstK_l, BlK_b, InK_i, FlK_nx, FlK_ct, FlK_bk, FlK_rt, RcK_ok, RcK_exc, LoK_nx, LoK_ct, LoK_bk, LoK_rt, c_eq, c_ne, c_eqb, c_neb, c_lt, c_gt, c_le, c_ge, c_is, c_isnt, bn_f, bn_t, b_add, b_sub, a_add, a_sub, t_ii, t_ib, t_it, t_il, t_is, t_bi, t_bb, t_bt, t_bl, t_bs, t_ti, t_tb, t_tt, t_tl, t_ts, t_li, t_lb, t_lt, t_ll, t_ls, t_ni, t_nb, t_nt, t_nl, t_ns, t_si, t_sb, t_st, t_sl, t_ss, n_i, n_b, n_t, n_l, n_s, n_n, i_lenT, i_lenL, i_lenK, i_tupL, i_tupT, i_lstL, i_lstT, i_lstS, i_intI, i_intB, i_abs, i_min2, i_max2, i_all, i_any, i_sum, x_lst, x_tup, at0, at1, at2, at3, q_tup, q_lst, g_nil, g_l0, g_l1, g_l2, g_l3, g_fz, s_l0, s_l1, s_l2, s_l3, qv_i, qv_l, qv_t, qv_s, qv_b, qq_var, qq_int, qq_pl, p_nil, p_ix, st_nm, st_tup, sn_nil, sn_cons, ta_nil, ta_d, ta_io, pb_nil, pb_c, fr_i, fr_b, fr_t, fr_l, fr_s, fr_n, fr_c, fr_k, fr_ol, fr_oc, fz_nil, fz_cons, fz_fz, ou_nil, ou_c, un_l, un_f, un_c, fin_nx, fin_rt, wp_nil, wp_c, tpL, tpT, NwK_ok, NwK_exc, m_t2, m_il, m_it, m_ik, sl_t, sl_l, Option.bind_some, Option.map_some, Option.map, List.any_cons, List.any_nil, Bool.or_self, List.getElem?_cons_zero, List.getElem?_cons_succ, List.set_cons_zero, List.set_cons_succ, List.length_cons, List.length_nil, Nat.reduceAdd, Nat.reduceLT, Nat.lt_add_one, Nat.zero_add, Int.cast_ofNat_Int, Int.reduceLE, Int.reduceLT, Int.reduceEq, Int.reduceNeg, Nat.reduceLeDiff, ↓reduceIte, Option.getD, List.nil_append, List.cons_append, decide_eq_true_eq, decide_true, decide_false, Bool.false_eq_true, Bool.not_true, Bool.not_false, Bool.and_true, Bool.and_false, Bool.true_and, Bool.or_true, Bool.or_false, and_true, true_and, and_false, false_and, not_true, not_false_eq_true, Bool.not_eq_true, decide_eq_false_iff_not, RdK_res, f_size, f_games, cut_map, ad, w_newF cls0, fresh0, ii, fr, show d8.io = [] from rfl]
def swp (g : Gm) : Gm := ⟨g.a, g.h, g.t, g.o⟩
theorem swp_ok {s : Int} {g : Gm} (h : GmOk s g) : GmOk s (swp g) := ⟨h.2.1, h.1, fun z => h.2.2.1 z.symm, h.2.2.2.2, h.2.2.2.1⟩
theorem swapped_ok (n : Nat) {s : Int} {gs : List Gm} (h0 : 1 ≤ s) (h1 : s ≤ 24) (hg : ∀ g ∈ gs, GmOk s g) (hs : gs.length ≤ 200) :
    run P (n + 4) 9 [.fz (resD s gs)] = .ok (.fz (resD s (gs.map swp))) [] := by
  have hl : gs.length ≤ 100000 := by omega
  have ii := init_ok n (gs := gs.map swp) h0 h1 (fun g h => by
    obtain ⟨g', hg', rfl⟩ := List.mem_map.mp h
    exact swp_ok (hg g' hg')) (by rw [List.length_map]; omega)
  have fr := fz_res (s := s) (gs := gs.map swp)
  rw [List.map_map] at ii fr
  rw [run_s (d := d9) rfl]
  apply RcK.ok_eq
  refine w_run rfl ?_
  change WX (exs P _ b9) [.fz (resD s gs), .un, .un, .un, .un] _ _
  unfold b9
  simp only [w_bnd, w_ret, w_opt, w_fail, w_ite, w_tb, w_ti, w_rd, w_chk, w_chkL, w_plVal, w_plTop, w_q, w_setM, w_clr, w_setO1, w_modR, w_frz, w_var, w_non, w_bl, w_int, w_str, w_gint, w_bin, w_neg, w_inv, w_not, w_cmp, w_chn, w_isN, w_mem, w_andE, w_orE, w_ife, w_tup, w_lst, w_idx, w_eoN, w_eoS, w_slc, w_lrng1, w_fld, w_pl, w_call, w_new, w_bi, w_biP, w_isi, w_lc, w_dc, w_esN, w_esC, w_etN, w_etS, w_arE, w_arI, w_asN, w_asC, w_iE, w_iR1, w_iR2, w_pN, w_pX, w_pXX, w_pFX, w_pF, w_callF, w_oe, w_ol, w_ocall, w_onew, w_osN, w_osC, w_ssN, w_ssC, w_asg, w_asgL, w_asgO, w_app, w_set, w_fset, w_aug, w_ex, w_retE, w_retN, w_retO, w_if, w_for, w_rse, w_try, w_brk, w_cont, w_pass, w_hret, w_hunl, OptK_s, RdK_bl, RdK_int, RdK_str, RdK_non, RdK_tup, RdK_lst, RdK_dK, RdK_dT, RdK_ins, RdK_fn, RdK_scr, RdK_ol, ChkK_fz, ChkK_l, ChkK_i, ChkK_k, ChkK_t, ValK_int, ValK_bl, ValK_lst, ValK_tup, LstK_l, BlK_b, InK_i, FlK_nx, FlK_ct, FlK_bk, FlK_rt, RcK_ok, RcK_exc, LoK_nx, LoK_ct, LoK_bk, LoK_rt, c_eq, c_ne, c_eqb, c_neb, c_lt, c_gt, c_le, c_ge, c_is, c_isnt, bn_f, bn_t, b_add, b_sub, a_add, a_sub, t_ii, t_ib, t_it, t_il, t_is, t_bi, t_bb, t_bt, t_bl, t_bs, t_ti, t_tb, t_tt, t_tl, t_ts, t_li, t_lb, t_lt, t_ll, t_ls, t_ni, t_nb, t_nt, t_nl, t_ns, t_si, t_sb, t_st, t_sl, t_ss, n_i, n_b, n_t, n_l, n_s, n_n, i_lenT, i_lenL, i_lenK, i_tupL, i_tupT, i_lstL, i_lstT, i_lstS, i_intI, i_intB, i_abs, i_min2, i_max2, i_all, i_any, i_sum, x_lst, x_tup, at0, at1, at2, at3, q_tup, q_lst, g_nil, g_l0, g_l1, g_l2, g_l3, g_fz, s_l0, s_l1, s_l2, s_l3, qv_i, qv_l, qv_t, qv_s, qv_b, qq_var, qq_int, qq_pl, p_nil, p_ix, st_nm, st_tup, sn_nil, sn_cons, ta_nil, ta_d, ta_io, pb_nil, pb_c, fr_i, fr_b, fr_t, fr_l, fr_s, fr_n, fr_c, fr_k, fr_ol, fr_oc, fz_nil, fz_cons, fz_fz, ou_nil, ou_c, un_l, un_f, un_c, fin_nx, fin_rt, wp_nil, wp_c, tpL, tpT, NwK_ok, NwK_exc, m_t2, m_il, m_it, m_ik, sl_t, sl_l, Option.bind_some, Option.map_some, Option.map, List.any_cons, List.any_nil, Bool.or_self, List.getElem?_cons_zero, List.getElem?_cons_succ, List.set_cons_zero, List.set_cons_succ, List.length_cons, List.length_nil, Nat.reduceAdd, Nat.reduceLT, Nat.lt_add_one, Nat.zero_add, Int.cast_ofNat_Int, Int.reduceLE, Int.reduceLT, Int.reduceEq, Int.reduceNeg, Nat.reduceLeDiff, ↓reduceIte, Option.getD, List.nil_append, List.cons_append, decide_eq_true_eq, decide_true, decide_false, Bool.false_eq_true, Bool.not_true, Bool.not_false, Bool.and_true, Bool.and_false, Bool.true_and, Bool.or_true, Bool.or_false, and_true, true_and, and_false, false_and, not_true, not_false_eq_true, Bool.not_eq_true, decide_eq_false_iff_not, RdK_res, f_size, f_games]
  refine w_lcM (gD ∘ swp) rfl rfl (fun g hx => ?_) ?_
  · unfold gD
    simp only [w_bnd, w_ret, w_opt, w_fail, w_ite, w_tb, w_ti, w_rd, w_chk, w_chkL, w_plVal, w_plTop, w_q, w_setM, w_clr, w_setO1, w_modR, w_frz, w_var, w_non, w_bl, w_int, w_str, w_gint, w_bin, w_neg, w_inv, w_not, w_cmp, w_chn, w_isN, w_mem, w_andE, w_orE, w_ife, w_tup, w_lst, w_idx, w_eoN, w_eoS, w_slc, w_lrng1, w_fld, w_pl, w_call, w_new, w_bi, w_biP, w_isi, w_lc, w_dc, w_esN, w_esC, w_etN, w_etS, w_arE, w_arI, w_asN, w_asC, w_iE, w_iR1, w_iR2, w_pN, w_pX, w_pXX, w_pFX, w_pF, w_callF, w_oe, w_ol, w_ocall, w_onew, w_osN, w_osC, w_ssN, w_ssC, w_asg, w_asgL, w_asgO, w_app, w_set, w_fset, w_aug, w_ex, w_retE, w_retN, w_retO, w_if, w_for, w_rse, w_try, w_brk, w_cont, w_pass, w_hret, w_hunl, OptK_s, RdK_bl, RdK_int, RdK_str, RdK_non, RdK_tup, RdK_lst, RdK_dK, RdK_dT, RdK_ins, RdK_fn, RdK_scr, RdK_ol, ChkK_fz, ChkK_l, ChkK_i, ChkK_k, ChkK_t, ValK_int, ValK_bl, ValK_lst, ValK_tup, LstK_l, BlK_b, InK_i, FlK_nx, FlK_ct, FlK_bk, FlK_rt, RcK_ok, RcK_exc, LoK_nx, LoK_ct, LoK_bk, LoK_rt, c_eq, c_ne, c_eqb, c_neb, c_lt, c_gt, c_le, c_ge, c_is, c_isnt, bn_f, bn_t, b_add, b_sub, a_add, a_sub, t_ii, t_ib, t_it, t_il, t_is, t_bi, t_bb, t_bt, t_bl, t_bs, t_ti, t_tb, t_tt, t_tl, t_ts, t_li, t_lb, t_lt, t_ll, t_ls, t_ni, t_nb, t_nt, t_nl, t_ns, t_si, t_sb, t_st, t_sl, t_ss, n_i, n_b, n_t, n_l, n_s, n_n, i_lenT, i_lenL, i_lenK, i_tupL, i_tupT, i_lstL, i_lstT, i_lstS, i_intI, i_intB, i_abs, i_min2, i_max2, i_all, i_any, i_sum, x_lst, x_tup, at0, at1, at2, at3, q_tup, q_lst, g_nil, g_l0, g_l1, g_l2, g_l3, g_fz, s_l0, s_l1, s_l2, s_l3, qv_i, qv_l, qv_t, qv_s, qv_b, qq_var, qq_int, qq_pl, p_nil, p_ix, st_nm, st_tup, sn_nil, sn_cons, ta_nil, ta_d, ta_io, pb_nil, pb_c, fr_i, fr_b, fr_t, fr_l, fr_s, fr_n, fr_c, fr_k, fr_ol, fr_oc, fz_nil, fz_cons, fz_fz, ou_nil, ou_c, un_l, un_f, un_c, fin_nx, fin_rt, wp_nil, wp_c, tpL, tpT, NwK_ok, NwK_exc, m_t2, m_il, m_it, m_ik, sl_t, sl_l, Option.bind_some, Option.map_some, Option.map, List.any_cons, List.any_nil, Bool.or_self, List.getElem?_cons_zero, List.getElem?_cons_succ, List.set_cons_zero, List.set_cons_succ, List.length_cons, List.length_nil, Nat.reduceAdd, Nat.reduceLT, Nat.lt_add_one, Nat.zero_add, Int.cast_ofNat_Int, Int.reduceLE, Int.reduceLT, Int.reduceEq, Int.reduceNeg, Nat.reduceLeDiff, ↓reduceIte, Option.getD, List.nil_append, List.cons_append, decide_eq_true_eq, decide_true, decide_false, Bool.false_eq_true, Bool.not_true, Bool.not_false, Bool.and_true, Bool.and_false, Bool.true_and, Bool.or_true, Bool.or_false, and_true, true_and, and_false, false_and, not_true, not_false_eq_true, Bool.not_eq_true, decide_eq_false_iff_not]
    first | rfl | exact ⟨rfl, rfl⟩ | exact ⟨rfl, rfl, rfl⟩
  simp only [w_bnd, w_ret, w_opt, w_fail, w_ite, w_tb, w_ti, w_rd, w_chk, w_chkL, w_plVal, w_plTop, w_q, w_setM, w_clr, w_setO1, w_modR, w_frz, w_var, w_non, w_bl, w_int, w_str, w_gint, w_bin, w_neg, w_inv, w_not, w_cmp, w_chn, w_isN, w_mem, w_andE, w_orE, w_ife, w_tup, w_lst, w_idx, w_eoN, w_eoS, w_slc, w_lrng1, w_fld, w_pl, w_call, w_new, w_bi, w_biP, w_isi, w_lc, w_dc, w_esN, w_esC, w_etN, w_etS, w_arE, w_arI, w_asN, w_asC, w_iE, w_iR1, w_iR2, w_pN, w_pX, w_pXX, w_pFX, w_pF, w_callF, w_oe, w_ol, w_ocall, w_onew, w_osN, w_osC, w_ssN, w_ssC, w_asg, w_asgL, w_asgO, w_app, w_set, w_fset, w_aug, w_ex, w_retE, w_retN, w_retO, w_if, w_for, w_rse, w_try, w_brk, w_cont, w_pass, w_hret, w_hunl, OptK_s, RdK_bl, RdK_int, RdK_str, RdK_non, RdK_tup, RdK_lst, RdK_dK, RdK_dT, RdK_ins, RdK_fn, RdK_scr, RdK_ol, ChkK_fz, ChkK_l, ChkK_i, ChkK_k, ChkK_t, ValK_int, ValK_bl, ValK_lst, ValK_tup, LstK_l, BlK_b, InK_i, FlK_nx, FlK_ct, FlK_bk, FlK_rt, RcK_ok, RcK_exc, LoK_nx, LoK_ct, LoK_bk, LoK_rt, c_eq, c_ne, c_eqb, c_neb, c_lt, c_gt, c_le, c_ge, c_is, c_isnt, bn_f, bn_t, b_add, b_sub, a_add, a_sub, t_ii, t_ib, t_it, t_il, t_is, t_bi, t_bb, t_bt, t_bl, t_bs, t_ti, t_tb, t_tt, t_tl, t_ts, t_li, t_lb, t_lt, t_ll, t_ls, t_ni, t_nb, t_nt, t_nl, t_ns, t_si, t_sb, t_st, t_sl, t_ss, n_i, n_b, n_t, n_l, n_s, n_n, i_lenT, i_lenL, i_lenK, i_tupL, i_tupT, i_lstL, i_lstT, i_lstS, i_intI, i_intB, i_abs, i_min2, i_max2, i_all, i_any, i_sum, x_lst, x_tup, at0, at1, at2, at3, q_tup, q_lst, g_nil, g_l0, g_l1, g_l2, g_l3, g_fz, s_l0, s_l1, s_l2, s_l3, qv_i, qv_l, qv_t, qv_s, qv_b, qq_var, qq_int, qq_pl, p_nil, p_ix, st_nm, st_tup, sn_nil, sn_cons, ta_nil, ta_d, ta_io, pb_nil, pb_c, fr_i, fr_b, fr_t, fr_l, fr_s, fr_n, fr_c, fr_k, fr_ol, fr_oc, fz_nil, fz_cons, fz_fz, ou_nil, ou_c, un_l, un_f, un_c, fin_nx, fin_rt, wp_nil, wp_c, tpL, tpT, NwK_ok, NwK_exc, m_t2, m_il, m_it, m_ik, sl_t, sl_l, Option.bind_some, Option.map_some, Option.map, List.any_cons, List.any_nil, Bool.or_self, List.getElem?_cons_zero, List.getElem?_cons_succ, List.set_cons_zero, List.set_cons_succ, List.length_cons, List.length_nil, Nat.reduceAdd, Nat.reduceLT, Nat.lt_add_one, Nat.zero_add, Int.cast_ofNat_Int, Int.reduceLE, Int.reduceLT, Int.reduceEq, Int.reduceNeg, Nat.reduceLeDiff, ↓reduceIte, Option.getD, List.nil_append, List.cons_append, decide_eq_true_eq, decide_true, decide_false, Bool.false_eq_true, Bool.not_true, Bool.not_false, Bool.and_true, Bool.and_false, Bool.true_and, Bool.or_true, Bool.or_false, and_true, true_and, and_false, false_and, not_true, not_false_eq_true, Bool.not_eq_true, decide_eq_false_iff_not, List.length_map, hl, w_newF cls0, fresh0, ii, fr, show d9.io = [] from rfl]
end L35

namespace L35
open PySem Cr Cw
theorem dr (n : Nat) {o : O} (hd : Dr o) (k : Int) (h1 : 0 < k) (h2 : k < 1073741824) : ∃ x o', run P (n + 1) 11 [o, .fz (.int k)] = .ok (.fz (.int x)) [o'] ∧ Dr o' ∧ 0 ≤ x ∧ x < k := draw_ok (P := P) rfl hd h1 h2
theorem RcK.of {r : RC} {A : O → List O → Prop} (h : RcK r A fun _ _ _ => False) : ∃ o os, r = .ok o os ∧ A o os := by
  cases r with
  | ok a b => exact ⟨a, b, rfl, h⟩
  | exc c fs os => exact h.elim
  | bad => exact h.elim
theorem fz_gms {xs : List Gm} : fzds (xs.map fun g => .fz (gD g)) = xs.map gD := fz_map xs
theorem games_ok (n : Nat) {o : O} {s : Int} (hd : Dr o) (h0 : 1 ≤ s) (h1 : s ≤ 24) : ∃ (gs : List Gm) (o' : O), run P (n + 2) 13 [o, .fz (.int s)] = .ok (.fz (.tup (gs.map gD))) [o'] ∧ Dr o' ∧ (∀ g ∈ gs, GmOk s g) ∧ gs.length ≤ 12 := by
  suffices H : RcK (run P (n + 2) 13 [o, .fz (.int s)]) (fun r os => ∃ (gs : List Gm) (o' : O), r = .fz (.tup (gs.map gD)) ∧ os = [o'] ∧ Dr o' ∧ (∀ g ∈ gs, GmOk s g) ∧ gs.length ≤ 12) fun _ _ _ => False by
    obtain ⟨r, os, e, gs, o', e1, e2, e3⟩ := RcK.of H
    exact ⟨gs, o', by rw [e, e1, e2], e3⟩
  rw [run_s (d := d13) rfl]
  refine w_run rfl ?_
  change WX (exs P _ b13) [o, .fz (.int s), .un, .un, .un, .un] _ _
  unfold b13
  by_cases c : 1 < s
  · obtain ⟨m, o1, e1, hd1, m0, m1⟩ := dr n hd 12 (by omega) (by omega)
    have hm : m < 2 ^ 62 := by omega
    simp only [w_bnd, w_ret, w_opt, w_fail, w_ite, w_tb, w_ti, w_rd, w_chk, w_chkL, w_plVal, w_plTop, w_q, w_setM, w_clr, w_setO1, w_modR, w_frz, w_var, w_non, w_bl, w_int, w_str, w_gint, w_bin, w_neg, w_inv, w_not, w_cmp, w_chn, w_isN, w_mem, w_andE, w_orE, w_ife, w_tup, w_lst, w_idx, w_eoN, w_eoS, w_slc, w_lrng1, w_fld, w_pl, w_call, w_new, w_bi, w_biP, w_isi, w_lc, w_dc, w_esN, w_esC, w_etN, w_etS, w_arE, w_arI, w_asN, w_asC, w_iE, w_iR1, w_iR2, w_pN, w_pX, w_pXX, w_pFX, w_pF, w_callF, w_oe, w_ol, w_ocall, w_onew, w_osN, w_osC, w_ssN, w_ssC, w_asg, w_asgL, w_asgO, w_app, w_set, w_fset, w_aug, w_ex, w_retE, w_retN, w_retO, w_if, w_for, w_rse, w_try, w_brk, w_cont, w_pass, w_hret, w_hunl, OptK_s, RdK_bl, RdK_int, RdK_str, RdK_non, RdK_tup, RdK_lst, RdK_dK, RdK_dT, RdK_ins, RdK_fn, RdK_scr, RdK_ol, ChkK_fz, ChkK_l, ChkK_i, ChkK_k, ChkK_t, ValK_int, ValK_bl, ValK_lst, ValK_tup, LstK_l, BlK_b, InK_i, FlK_nx, FlK_ct, FlK_bk, FlK_rt, RcK_ok, RcK_exc, LoK_nx, LoK_ct, LoK_bk, LoK_rt, c_eq, c_ne, c_eqb, c_neb, c_lt, c_gt, c_le, c_ge, c_is, c_isnt, bn_f, bn_t, b_add, b_sub, a_add, a_sub, t_ii, t_ib, t_it, t_il, t_is, t_bi, t_bb, t_bt, t_bl, t_bs, t_ti, t_tb, t_tt, t_tl, t_ts, t_li, t_lb, t_lt, t_ll, t_ls, t_ni, t_nb, t_nt, t_nl, t_ns, t_si, t_sb, t_st, t_sl, t_ss, n_i, n_b, n_t, n_l, n_s, n_n, i_lenT, i_lenL, i_lenK, i_tupL, i_tupT, i_lstL, i_lstT, i_lstS, i_intI, i_intB, i_abs, i_min2, i_max2, i_all, i_any, i_sum, x_lst, x_tup, at0, at1, at2, at3, q_tup, q_lst, g_nil, g_l0, g_l1, g_l2, g_l3, g_fz, s_l0, s_l1, s_l2, s_l3, qv_i, qv_l, qv_t, qv_s, qv_b, qq_var, qq_int, qq_pl, p_nil, p_ix, st_nm, st_tup, sn_nil, sn_cons, ta_nil, ta_d, ta_io, pb_nil, pb_c, fr_i, fr_b, fr_t, fr_l, fr_s, fr_n, fr_c, fr_k, fr_ol, fr_oc, fz_nil, fz_cons, fz_fz, ou_nil, ou_c, un_l, un_f, un_c, fin_nx, fin_rt, wp_nil, wp_c, tpL, tpT, NwK_ok, NwK_exc, m_t2, m_il, m_it, m_ik, sl_t, sl_l, Option.bind_some, Option.map_some, Option.map, List.any_cons, List.any_nil, Bool.or_self, List.getElem?_cons_zero, List.getElem?_cons_succ, List.set_cons_zero, List.set_cons_succ, List.length_cons, List.length_nil, Nat.reduceAdd, Nat.reduceLT, Nat.lt_add_one, Nat.zero_add, Int.cast_ofNat_Int, Int.reduceLE, Int.reduceLT, Int.reduceEq, Int.reduceNeg, Nat.reduceLeDiff, ↓reduceIte, Option.getD, List.nil_append, List.cons_append, decide_eq_true_eq, decide_true, decide_false, Bool.false_eq_true, Bool.not_true, Bool.not_false, Bool.and_true, Bool.and_false, Bool.true_and, Bool.or_true, Bool.or_false, and_true, true_and, and_false, false_and, not_true, not_false_eq_true, Bool.not_eq_true, decide_eq_false_iff_not, c, ChkK_o hd.ne, tk_o hd.ne, e1, rg_i hm m0]
    refine w_forM (fun as zs f => ∃ (gs : List Gm) (o x3 x4 x5 : O), Dr o ∧ (∀ g ∈ gs, GmOk s g) ∧ gs.length = as.length ∧ f = [o, .fz (.int s), .lst (gs.map fun g => .fz (gD g)), x3, x4, x5]) ⟨[], o1, _, _, _, hd1, (fun g h => by cases h), rfl, rfl⟩ (fun as k zs f0 e hI => ?_) fun f1 hI => ?_
    · obtain ⟨gs, o, x3, x4, x5, hd, hg, hl, rfl⟩ := hI
      have hl2 : (gs.map fun g => O.fz (gD g)).length < 100000 := by
        have : as.length ≤ (rgI m.toNat).length := by rw [← e]; simp
        rw [rgI_len] at this
        rw [List.length_map]
        omega
      obtain ⟨a, o1, e1, hd1, a0, a1⟩ := dr n hd s (by omega) (by omega)
      obtain ⟨b, o2, e2, hd2, b0, b1⟩ := dr n hd1 (s - 1) (by omega) (by omega)
      obtain ⟨p, o3, e3, hd3, p0, p1⟩ := dr n hd2 4 (by omega) (by omega)
      obtain ⟨q, o4, e4, hd4, q0, q1⟩ := dr n hd3 4 (by omega) (by omega)
      simp only [w_bnd, w_ret, w_opt, w_fail, w_ite, w_tb, w_ti, w_rd, w_chk, w_chkL, w_plVal, w_plTop, w_q, w_setM, w_clr, w_setO1, w_modR, w_frz, w_var, w_non, w_bl, w_int, w_str, w_gint, w_bin, w_neg, w_inv, w_not, w_cmp, w_chn, w_isN, w_mem, w_andE, w_orE, w_ife, w_tup, w_lst, w_idx, w_eoN, w_eoS, w_slc, w_lrng1, w_fld, w_pl, w_call, w_new, w_bi, w_biP, w_isi, w_lc, w_dc, w_esN, w_esC, w_etN, w_etS, w_arE, w_arI, w_asN, w_asC, w_iE, w_iR1, w_iR2, w_pN, w_pX, w_pXX, w_pFX, w_pF, w_callF, w_oe, w_ol, w_ocall, w_onew, w_osN, w_osC, w_ssN, w_ssC, w_asg, w_asgL, w_asgO, w_app, w_set, w_fset, w_aug, w_ex, w_retE, w_retN, w_retO, w_if, w_for, w_rse, w_try, w_brk, w_cont, w_pass, w_hret, w_hunl, OptK_s, RdK_bl, RdK_int, RdK_str, RdK_non, RdK_tup, RdK_lst, RdK_dK, RdK_dT, RdK_ins, RdK_fn, RdK_scr, RdK_ol, ChkK_fz, ChkK_l, ChkK_i, ChkK_k, ChkK_t, ValK_int, ValK_bl, ValK_lst, ValK_tup, LstK_l, BlK_b, InK_i, FlK_nx, FlK_ct, FlK_bk, FlK_rt, RcK_ok, RcK_exc, LoK_nx, LoK_ct, LoK_bk, LoK_rt, c_eq, c_ne, c_eqb, c_neb, c_lt, c_gt, c_le, c_ge, c_is, c_isnt, bn_f, bn_t, b_add, b_sub, a_add, a_sub, t_ii, t_ib, t_it, t_il, t_is, t_bi, t_bb, t_bt, t_bl, t_bs, t_ti, t_tb, t_tt, t_tl, t_ts, t_li, t_lb, t_lt, t_ll, t_ls, t_ni, t_nb, t_nt, t_nl, t_ns, t_si, t_sb, t_st, t_sl, t_ss, n_i, n_b, n_t, n_l, n_s, n_n, i_lenT, i_lenL, i_lenK, i_tupL, i_tupT, i_lstL, i_lstT, i_lstS, i_intI, i_intB, i_abs, i_min2, i_max2, i_all, i_any, i_sum, x_lst, x_tup, at0, at1, at2, at3, q_tup, q_lst, g_nil, g_l0, g_l1, g_l2, g_l3, g_fz, s_l0, s_l1, s_l2, s_l3, qv_i, qv_l, qv_t, qv_s, qv_b, qq_var, qq_int, qq_pl, p_nil, p_ix, st_nm, st_tup, sn_nil, sn_cons, ta_nil, ta_d, ta_io, pb_nil, pb_c, fr_i, fr_b, fr_t, fr_l, fr_s, fr_n, fr_c, fr_k, fr_ol, fr_oc, fz_nil, fz_cons, fz_fz, ou_nil, ou_c, un_l, un_f, un_c, fin_nx, fin_rt, wp_nil, wp_c, tpL, tpT, NwK_ok, NwK_exc, m_t2, m_il, m_it, m_ik, sl_t, sl_l, Option.bind_some, Option.map_some, Option.map, List.any_cons, List.any_nil, Bool.or_self, List.getElem?_cons_zero, List.getElem?_cons_succ, List.set_cons_zero, List.set_cons_succ, List.length_cons, List.length_nil, Nat.reduceAdd, Nat.reduceLT, Nat.lt_add_one, Nat.zero_add, Int.cast_ofNat_Int, Int.reduceLE, Int.reduceLT, Int.reduceEq, Int.reduceNeg, Nat.reduceLeDiff, ↓reduceIte, Option.getD, List.nil_append, List.cons_append, decide_eq_true_eq, decide_true, decide_false, Bool.false_eq_true, Bool.not_true, Bool.not_false, Bool.and_true, Bool.and_false, Bool.true_and, Bool.or_true, Bool.or_false, and_true, true_and, and_false, false_and, not_true, not_false_eq_true, Bool.not_eq_true, decide_eq_false_iff_not, ChkK_o hd.ne, tk_o hd.ne, ChkK_o hd1.ne, tk_o hd1.ne, ChkK_o hd2.ne, tk_o hd2.ne, ChkK_o hd3.ne, tk_o hd3.ne, e1, e2, e3, e4, ap_l hl2]
      refine ⟨gs ++ [⟨a, b + (if a ≤ b then 1 else 0), p, q⟩], o4, _, _, _, hd4, ?_, by simp [hl], by rw [List.map_append]; rfl⟩
      intro g hg'
      rcases List.mem_append.mp hg' with h | h
      · exact hg g h
      · rw [List.mem_singleton.mp h]
        refine ⟨⟨a0, a1⟩, ⟨?_, ?_⟩, ?_, ⟨p0, ?_⟩, q0, ?_⟩ <;> dsimp only <;> (try split) <;> omega
    · obtain ⟨gs, o, x3, x4, x5, hd, hg, hl, rfl⟩ := hI
      simp only [w_bnd, w_ret, w_opt, w_fail, w_ite, w_tb, w_ti, w_rd, w_chk, w_chkL, w_plVal, w_plTop, w_q, w_setM, w_clr, w_setO1, w_modR, w_frz, w_var, w_non, w_bl, w_int, w_str, w_gint, w_bin, w_neg, w_inv, w_not, w_cmp, w_chn, w_isN, w_mem, w_andE, w_orE, w_ife, w_tup, w_lst, w_idx, w_eoN, w_eoS, w_slc, w_lrng1, w_fld, w_pl, w_call, w_new, w_bi, w_biP, w_isi, w_lc, w_dc, w_esN, w_esC, w_etN, w_etS, w_arE, w_arI, w_asN, w_asC, w_iE, w_iR1, w_iR2, w_pN, w_pX, w_pXX, w_pFX, w_pF, w_callF, w_oe, w_ol, w_ocall, w_onew, w_osN, w_osC, w_ssN, w_ssC, w_asg, w_asgL, w_asgO, w_app, w_set, w_fset, w_aug, w_ex, w_retE, w_retN, w_retO, w_if, w_for, w_rse, w_try, w_brk, w_cont, w_pass, w_hret, w_hunl, OptK_s, RdK_bl, RdK_int, RdK_str, RdK_non, RdK_tup, RdK_lst, RdK_dK, RdK_dT, RdK_ins, RdK_fn, RdK_scr, RdK_ol, ChkK_fz, ChkK_l, ChkK_i, ChkK_k, ChkK_t, ValK_int, ValK_bl, ValK_lst, ValK_tup, LstK_l, BlK_b, InK_i, FlK_nx, FlK_ct, FlK_bk, FlK_rt, RcK_ok, RcK_exc, LoK_nx, LoK_ct, LoK_bk, LoK_rt, c_eq, c_ne, c_eqb, c_neb, c_lt, c_gt, c_le, c_ge, c_is, c_isnt, bn_f, bn_t, b_add, b_sub, a_add, a_sub, t_ii, t_ib, t_it, t_il, t_is, t_bi, t_bb, t_bt, t_bl, t_bs, t_ti, t_tb, t_tt, t_tl, t_ts, t_li, t_lb, t_lt, t_ll, t_ls, t_ni, t_nb, t_nt, t_nl, t_ns, t_si, t_sb, t_st, t_sl, t_ss, n_i, n_b, n_t, n_l, n_s, n_n, i_lenT, i_lenL, i_lenK, i_tupL, i_tupT, i_lstL, i_lstT, i_lstS, i_intI, i_intB, i_abs, i_min2, i_max2, i_all, i_any, i_sum, x_lst, x_tup, at0, at1, at2, at3, q_tup, q_lst, g_nil, g_l0, g_l1, g_l2, g_l3, g_fz, s_l0, s_l1, s_l2, s_l3, qv_i, qv_l, qv_t, qv_s, qv_b, qq_var, qq_int, qq_pl, p_nil, p_ix, st_nm, st_tup, sn_nil, sn_cons, ta_nil, ta_d, ta_io, pb_nil, pb_c, fr_i, fr_b, fr_t, fr_l, fr_s, fr_n, fr_c, fr_k, fr_ol, fr_oc, fz_nil, fz_cons, fz_fz, ou_nil, ou_c, un_l, un_f, un_c, fin_nx, fin_rt, wp_nil, wp_c, tpL, tpT, NwK_ok, NwK_exc, m_t2, m_il, m_it, m_ik, sl_t, sl_l, Option.bind_some, Option.map_some, Option.map, List.any_cons, List.any_nil, Bool.or_self, List.getElem?_cons_zero, List.getElem?_cons_succ, List.set_cons_zero, List.set_cons_succ, List.length_cons, List.length_nil, Nat.reduceAdd, Nat.reduceLT, Nat.lt_add_one, Nat.zero_add, Int.cast_ofNat_Int, Int.reduceLE, Int.reduceLT, Int.reduceEq, Int.reduceNeg, Nat.reduceLeDiff, ↓reduceIte, Option.getD, List.nil_append, List.cons_append, decide_eq_true_eq, decide_true, decide_false, Bool.false_eq_true, Bool.not_true, Bool.not_false, Bool.and_true, Bool.and_false, Bool.true_and, Bool.or_true, Bool.or_false, and_true, true_and, and_false, false_and, not_true, not_false_eq_true, Bool.not_eq_true, decide_eq_false_iff_not, fz_gms, show d13.io = [0] from rfl, un_o hd.ne]
      exact ⟨gs, o, rfl, rfl, hd, hg, by rw [rgI_len] at hl; omega⟩
  · simp only [w_bnd, w_ret, w_opt, w_fail, w_ite, w_tb, w_ti, w_rd, w_chk, w_chkL, w_plVal, w_plTop, w_q, w_setM, w_clr, w_setO1, w_modR, w_frz, w_var, w_non, w_bl, w_int, w_str, w_gint, w_bin, w_neg, w_inv, w_not, w_cmp, w_chn, w_isN, w_mem, w_andE, w_orE, w_ife, w_tup, w_lst, w_idx, w_eoN, w_eoS, w_slc, w_lrng1, w_fld, w_pl, w_call, w_new, w_bi, w_biP, w_isi, w_lc, w_dc, w_esN, w_esC, w_etN, w_etS, w_arE, w_arI, w_asN, w_asC, w_iE, w_iR1, w_iR2, w_pN, w_pX, w_pXX, w_pFX, w_pF, w_callF, w_oe, w_ol, w_ocall, w_onew, w_osN, w_osC, w_ssN, w_ssC, w_asg, w_asgL, w_asgO, w_app, w_set, w_fset, w_aug, w_ex, w_retE, w_retN, w_retO, w_if, w_for, w_rse, w_try, w_brk, w_cont, w_pass, w_hret, w_hunl, OptK_s, RdK_bl, RdK_int, RdK_str, RdK_non, RdK_tup, RdK_lst, RdK_dK, RdK_dT, RdK_ins, RdK_fn, RdK_scr, RdK_ol, ChkK_fz, ChkK_l, ChkK_i, ChkK_k, ChkK_t, ValK_int, ValK_bl, ValK_lst, ValK_tup, LstK_l, BlK_b, InK_i, FlK_nx, FlK_ct, FlK_bk, FlK_rt, RcK_ok, RcK_exc, LoK_nx, LoK_ct, LoK_bk, LoK_rt, c_eq, c_ne, c_eqb, c_neb, c_lt, c_gt, c_le, c_ge, c_is, c_isnt, bn_f, bn_t, b_add, b_sub, a_add, a_sub, t_ii, t_ib, t_it, t_il, t_is, t_bi, t_bb, t_bt, t_bl, t_bs, t_ti, t_tb, t_tt, t_tl, t_ts, t_li, t_lb, t_lt, t_ll, t_ls, t_ni, t_nb, t_nt, t_nl, t_ns, t_si, t_sb, t_st, t_sl, t_ss, n_i, n_b, n_t, n_l, n_s, n_n, i_lenT, i_lenL, i_lenK, i_tupL, i_tupT, i_lstL, i_lstT, i_lstS, i_intI, i_intB, i_abs, i_min2, i_max2, i_all, i_any, i_sum, x_lst, x_tup, at0, at1, at2, at3, q_tup, q_lst, g_nil, g_l0, g_l1, g_l2, g_l3, g_fz, s_l0, s_l1, s_l2, s_l3, qv_i, qv_l, qv_t, qv_s, qv_b, qq_var, qq_int, qq_pl, p_nil, p_ix, st_nm, st_tup, sn_nil, sn_cons, ta_nil, ta_d, ta_io, pb_nil, pb_c, fr_i, fr_b, fr_t, fr_l, fr_s, fr_n, fr_c, fr_k, fr_ol, fr_oc, fz_nil, fz_cons, fz_fz, ou_nil, ou_c, un_l, un_f, un_c, fin_nx, fin_rt, wp_nil, wp_c, tpL, tpT, NwK_ok, NwK_exc, m_t2, m_il, m_it, m_ik, sl_t, sl_l, Option.bind_some, Option.map_some, Option.map, List.any_cons, List.any_nil, Bool.or_self, List.getElem?_cons_zero, List.getElem?_cons_succ, List.set_cons_zero, List.set_cons_succ, List.length_cons, List.length_nil, Nat.reduceAdd, Nat.reduceLT, Nat.lt_add_one, Nat.zero_add, Int.cast_ofNat_Int, Int.reduceLE, Int.reduceLT, Int.reduceEq, Int.reduceNeg, Nat.reduceLeDiff, ↓reduceIte, Option.getD, List.nil_append, List.cons_append, decide_eq_true_eq, decide_true, decide_false, Bool.false_eq_true, Bool.not_true, Bool.not_false, Bool.and_true, Bool.and_false, Bool.true_and, Bool.or_true, Bool.or_false, and_true, true_and, and_false, false_and, not_true, not_false_eq_true, Bool.not_eq_true, decide_eq_false_iff_not, c, rg_i (n := 0) (by omega) (by omega)]
    rw [show rgI (0 : Int).toNat = [] from rfl, List.map_nil, w_fN]
    simp only [w_bnd, w_ret, w_opt, w_fail, w_ite, w_tb, w_ti, w_rd, w_chk, w_chkL, w_plVal, w_plTop, w_q, w_setM, w_clr, w_setO1, w_modR, w_frz, w_var, w_non, w_bl, w_int, w_str, w_gint, w_bin, w_neg, w_inv, w_not, w_cmp, w_chn, w_isN, w_mem, w_andE, w_orE, w_ife, w_tup, w_lst, w_idx, w_eoN, w_eoS, w_slc, w_lrng1, w_fld, w_pl, w_call, w_new, w_bi, w_biP, w_isi, w_lc, w_dc, w_esN, w_esC, w_etN, w_etS, w_arE, w_arI, w_asN, w_asC, w_iE, w_iR1, w_iR2, w_pN, w_pX, w_pXX, w_pFX, w_pF, w_callF, w_oe, w_ol, w_ocall, w_onew, w_osN, w_osC, w_ssN, w_ssC, w_asg, w_asgL, w_asgO, w_app, w_set, w_fset, w_aug, w_ex, w_retE, w_retN, w_retO, w_if, w_for, w_rse, w_try, w_brk, w_cont, w_pass, w_hret, w_hunl, OptK_s, RdK_bl, RdK_int, RdK_str, RdK_non, RdK_tup, RdK_lst, RdK_dK, RdK_dT, RdK_ins, RdK_fn, RdK_scr, RdK_ol, ChkK_fz, ChkK_l, ChkK_i, ChkK_k, ChkK_t, ValK_int, ValK_bl, ValK_lst, ValK_tup, LstK_l, BlK_b, InK_i, FlK_nx, FlK_ct, FlK_bk, FlK_rt, RcK_ok, RcK_exc, LoK_nx, LoK_ct, LoK_bk, LoK_rt, c_eq, c_ne, c_eqb, c_neb, c_lt, c_gt, c_le, c_ge, c_is, c_isnt, bn_f, bn_t, b_add, b_sub, a_add, a_sub, t_ii, t_ib, t_it, t_il, t_is, t_bi, t_bb, t_bt, t_bl, t_bs, t_ti, t_tb, t_tt, t_tl, t_ts, t_li, t_lb, t_lt, t_ll, t_ls, t_ni, t_nb, t_nt, t_nl, t_ns, t_si, t_sb, t_st, t_sl, t_ss, n_i, n_b, n_t, n_l, n_s, n_n, i_lenT, i_lenL, i_lenK, i_tupL, i_tupT, i_lstL, i_lstT, i_lstS, i_intI, i_intB, i_abs, i_min2, i_max2, i_all, i_any, i_sum, x_lst, x_tup, at0, at1, at2, at3, q_tup, q_lst, g_nil, g_l0, g_l1, g_l2, g_l3, g_fz, s_l0, s_l1, s_l2, s_l3, qv_i, qv_l, qv_t, qv_s, qv_b, qq_var, qq_int, qq_pl, p_nil, p_ix, st_nm, st_tup, sn_nil, sn_cons, ta_nil, ta_d, ta_io, pb_nil, pb_c, fr_i, fr_b, fr_t, fr_l, fr_s, fr_n, fr_c, fr_k, fr_ol, fr_oc, fz_nil, fz_cons, fz_fz, ou_nil, ou_c, un_l, un_f, un_c, fin_nx, fin_rt, wp_nil, wp_c, tpL, tpT, NwK_ok, NwK_exc, m_t2, m_il, m_it, m_ik, sl_t, sl_l, Option.bind_some, Option.map_some, Option.map, List.any_cons, List.any_nil, Bool.or_self, List.getElem?_cons_zero, List.getElem?_cons_succ, List.set_cons_zero, List.set_cons_succ, List.length_cons, List.length_nil, Nat.reduceAdd, Nat.reduceLT, Nat.lt_add_one, Nat.zero_add, Int.cast_ofNat_Int, Int.reduceLE, Int.reduceLT, Int.reduceEq, Int.reduceNeg, Nat.reduceLeDiff, ↓reduceIte, Option.getD, List.nil_append, List.cons_append, decide_eq_true_eq, decide_true, decide_false, Bool.false_eq_true, Bool.not_true, Bool.not_false, Bool.and_true, Bool.and_false, Bool.true_and, Bool.or_true, Bool.or_false, and_true, true_and, and_false, false_and, not_true, not_false_eq_true, Bool.not_eq_true, decide_eq_false_iff_not, show d13.io = [0] from rfl, un_o hd.ne]
    exact ⟨[], o, rfl, rfl, hd, (fun g h => by cases h), by simp⟩
end L35

namespace L35
open PySem Cr Cw
/-! ### sums told by counts -/
theorem pts_sum (u v w : Int) : ∀ rs : List Rw, (rs.map (pv u v w)).sum = ptsOf u v w rs
  | [] => by simp [ptsOf, wonOf, drawnOf]
  | r :: rs => by
    have ih := pts_sum u v w rs
    rw [List.map_cons, List.sum_cons, ih]
    unfold ptsOf wonOf drawnOf pv
    rw [List.filter_cons, List.filter_cons, List.length_cons]
    by_cases c1 : r.y < r.x
    · have c2 : ¬ r.x = r.y := by omega
      simp only [c1, c2, decide_true, decide_false, if_true, if_false, List.length_cons, Bool.false_eq_true]
      generalize (rs.filter fun r => decide (r.y < r.x)).length = a
      generalize (rs.filter fun r => decide (r.x = r.y)).length = b
      generalize rs.length = c
      have e : ((c + 1 : Nat) : Int) - ((a + 1 : Nat) : Int) - (b : Int) = (c : Int) - a - b := by omega
      rw [e, show ((a + 1 : Nat) : Int) = (a : Int) + 1 by omega, Int.add_mul]
      omega
    · by_cases c2 : r.x = r.y
      · simp only [c1, eq_true c2, decide_true, decide_false, if_true, if_false, List.length_cons, Bool.false_eq_true]
        generalize (rs.filter fun r => decide (r.y < r.x)).length = a
        generalize (rs.filter fun r => decide (r.x = r.y)).length = b
        generalize rs.length = c
        have e : ((c + 1 : Nat) : Int) - (a : Int) - ((b + 1 : Nat) : Int) = (c : Int) - a - b := by omega
        rw [e, show ((b + 1 : Nat) : Int) = (b : Int) + 1 by omega, Int.add_mul]
        omega
      · simp only [c1, c2, decide_true, decide_false, if_true, if_false, List.length_cons, Bool.false_eq_true]
        generalize (rs.filter fun r => decide (r.y < r.x)).length = a
        generalize (rs.filter fun r => decide (r.x = r.y)).length = b
        generalize rs.length = c
        have e : ((c + 1 : Nat) : Int) - (a : Int) - (b : Int) = ((c : Int) - a - b) + 1 := by omega
        rw [e, Int.add_mul]
        omega
theorem points_of_ok' (n : Nat) {s u v w : Int} {gs : List Gm} (h0 : 0 ≤ s) (h1 : s ≤ 24) (hg : ∀ g ∈ gs, g.h ≠ g.a) (hs : gs.length ≤ 400) :
    run P (n + 3) 6 [.fz (resD s gs), .fz (vD u v w)] = .ok (.fz (.tup ((rgI s.toNat).map fun i => .int (ptsOf u v w (ownR (pr s) i gs))))) [] := by
  rw [points_of_ok n h0 h1 hg hs]
  simp only [pts_sum]
/-! ### what is refused -/
theorem points_of_bad (n : Nat) {s : Int} {gs : List Gm} {d : D} (hd : d ∈ [D.non, .tup [.int 3, .int 1], .lst [.int 3, .int 1, .int 0], .tup [.int 3, .int 1, .non], .tup [.bl true, .int 1, .int 0]]) : run P (n + 3) 6 [.fz (resD s gs), .fz d] = .exc 1 [.str "values"] [] := by
  have hb := look_bad n d hd
  have hn : d ≠ .nil := fun z => by
    subst z
    simp at hd
  rw [run_s (d := d6) rfl]
  apply RcK.exc_eq
  refine w_run rfl ?_
  change WX (exs P _ b6) [.fz (resD s gs), .fz d, .un, .un] _ _
  unfold b6
  simp only [w_bnd, w_ret, w_opt, w_fail, w_ite, w_tb, w_ti, w_rd, w_chk, w_chkL, w_plVal, w_plTop, w_q, w_setM, w_clr, w_setO1, w_modR, w_frz, w_var, w_non, w_bl, w_int, w_str, w_gint, w_bin, w_neg, w_inv, w_not, w_cmp, w_chn, w_isN, w_mem, w_andE, w_orE, w_ife, w_tup, w_lst, w_idx, w_eoN, w_eoS, w_slc, w_lrng1, w_fld, w_pl, w_call, w_new, w_bi, w_biP, w_isi, w_lc, w_dc, w_esN, w_esC, w_etN, w_etS, w_arE, w_arI, w_asN, w_asC, w_iE, w_iR1, w_iR2, w_pN, w_pX, w_pXX, w_pFX, w_pF, w_callF, w_oe, w_ol, w_ocall, w_onew, w_osN, w_osC, w_ssN, w_ssC, w_asg, w_asgL, w_asgO, w_app, w_set, w_fset, w_aug, w_ex, w_retE, w_retN, w_retO, w_if, w_for, w_rse, w_try, w_brk, w_cont, w_pass, w_hret, w_hunl, OptK_s, RdK_bl, RdK_int, RdK_str, RdK_non, RdK_tup, RdK_lst, RdK_dK, RdK_dT, RdK_ins, RdK_fn, RdK_scr, RdK_ol, ChkK_fz, ChkK_l, ChkK_i, ChkK_k, ChkK_t, ValK_int, ValK_bl, ValK_lst, ValK_tup, LstK_l, BlK_b, InK_i, FlK_nx, FlK_ct, FlK_bk, FlK_rt, RcK_ok, RcK_exc, LoK_nx, LoK_ct, LoK_bk, LoK_rt, c_eq, c_ne, c_eqb, c_neb, c_lt, c_gt, c_le, c_ge, c_is, c_isnt, bn_f, bn_t, b_add, b_sub, a_add, a_sub, t_ii, t_ib, t_it, t_il, t_is, t_bi, t_bb, t_bt, t_bl, t_bs, t_ti, t_tb, t_tt, t_tl, t_ts, t_li, t_lb, t_lt, t_ll, t_ls, t_ni, t_nb, t_nt, t_nl, t_ns, t_si, t_sb, t_st, t_sl, t_ss, n_i, n_b, n_t, n_l, n_s, n_n, i_lenT, i_lenL, i_lenK, i_tupL, i_tupT, i_lstL, i_lstT, i_lstS, i_intI, i_intB, i_abs, i_min2, i_max2, i_all, i_any, i_sum, x_lst, x_tup, at0, at1, at2, at3, q_tup, q_lst, g_nil, g_l0, g_l1, g_l2, g_l3, g_fz, s_l0, s_l1, s_l2, s_l3, qv_i, qv_l, qv_t, qv_s, qv_b, qq_var, qq_int, qq_pl, p_nil, p_ix, st_nm, st_tup, sn_nil, sn_cons, ta_nil, ta_d, ta_io, pb_nil, pb_c, fr_i, fr_b, fr_t, fr_l, fr_s, fr_n, fr_c, fr_k, fr_ol, fr_oc, fz_nil, fz_cons, fz_fz, ou_nil, ou_c, un_l, un_f, un_c, fin_nx, fin_rt, wp_nil, wp_c, tpL, tpT, NwK_ok, NwK_exc, m_t2, m_il, m_it, m_ik, sl_t, sl_l, Option.bind_some, Option.map_some, Option.map, List.any_cons, List.any_nil, Bool.or_self, List.getElem?_cons_zero, List.getElem?_cons_succ, List.set_cons_zero, List.set_cons_succ, List.length_cons, List.length_nil, Nat.reduceAdd, Nat.reduceLT, Nat.lt_add_one, Nat.zero_add, Int.cast_ofNat_Int, Int.reduceLE, Int.reduceLT, Int.reduceEq, Int.reduceNeg, Nat.reduceLeDiff, ↓reduceIte, Option.getD, List.nil_append, List.cons_append, decide_eq_true_eq, decide_true, decide_false, Bool.false_eq_true, Bool.not_true, Bool.not_false, Bool.and_true, Bool.and_false, Bool.true_and, Bool.or_true, Bool.or_false, and_true, true_and, and_false, false_and, not_true, not_false_eq_true, Bool.not_eq_true, decide_eq_false_iff_not, RdK_d hn, hb, show d6.io = [] from rfl]
theorem line_of_bad (n : Nat) {s u v w : Int} {gs : List Gm} {d : D} (hd : d = .non ∨ d = .int s ∨ d = .int (-1) ∨ d = .bl true) : run P (n + 3) 7 [.fz (resD s gs), .fz d, .fz (vD u v w)] = .exc 1 [.str "side"] [] := by
  rw [run_s (d := d7) rfl]
  apply RcK.exc_eq
  refine w_run rfl ?_
  change WX (exs P _ b7) [.fz (resD s gs), .fz d, .fz (vD u v w), .un, .un, .un, .un, .un, .un, .un, .un, .un] _ _
  unfold b7
  rcases hd with rfl | rfl | rfl | rfl
  · simp only [w_bnd, w_ret, w_opt, w_fail, w_ite, w_tb, w_ti, w_rd, w_chk, w_chkL, w_plVal, w_plTop, w_q, w_setM, w_clr, w_setO1, w_modR, w_frz, w_var, w_non, w_bl, w_int, w_str, w_gint, w_bin, w_neg, w_inv, w_not, w_cmp, w_chn, w_isN, w_mem, w_andE, w_orE, w_ife, w_tup, w_lst, w_idx, w_eoN, w_eoS, w_slc, w_lrng1, w_fld, w_pl, w_call, w_new, w_bi, w_biP, w_isi, w_lc, w_dc, w_esN, w_esC, w_etN, w_etS, w_arE, w_arI, w_asN, w_asC, w_iE, w_iR1, w_iR2, w_pN, w_pX, w_pXX, w_pFX, w_pF, w_callF, w_oe, w_ol, w_ocall, w_onew, w_osN, w_osC, w_ssN, w_ssC, w_asg, w_asgL, w_asgO, w_app, w_set, w_fset, w_aug, w_ex, w_retE, w_retN, w_retO, w_if, w_for, w_rse, w_try, w_brk, w_cont, w_pass, w_hret, w_hunl, OptK_s, RdK_bl, RdK_int, RdK_str, RdK_non, RdK_tup, RdK_lst, RdK_dK, RdK_dT, RdK_ins, RdK_fn, RdK_scr, RdK_ol, ChkK_fz, ChkK_l, ChkK_i, ChkK_k, ChkK_t, ValK_int, ValK_bl, ValK_lst, ValK_tup, LstK_l, BlK_b, InK_i, FlK_nx, FlK_ct, FlK_bk, FlK_rt, RcK_ok, RcK_exc, LoK_nx, LoK_ct, LoK_bk, LoK_rt, c_eq, c_ne, c_eqb, c_neb, c_lt, c_gt, c_le, c_ge, c_is, c_isnt, bn_f, bn_t, b_add, b_sub, a_add, a_sub, t_ii, t_ib, t_it, t_il, t_is, t_bi, t_bb, t_bt, t_bl, t_bs, t_ti, t_tb, t_tt, t_tl, t_ts, t_li, t_lb, t_lt, t_ll, t_ls, t_ni, t_nb, t_nt, t_nl, t_ns, t_si, t_sb, t_st, t_sl, t_ss, n_i, n_b, n_t, n_l, n_s, n_n, i_lenT, i_lenL, i_lenK, i_tupL, i_tupT, i_lstL, i_lstT, i_lstS, i_intI, i_intB, i_abs, i_min2, i_max2, i_all, i_any, i_sum, x_lst, x_tup, at0, at1, at2, at3, q_tup, q_lst, g_nil, g_l0, g_l1, g_l2, g_l3, g_fz, s_l0, s_l1, s_l2, s_l3, qv_i, qv_l, qv_t, qv_s, qv_b, qq_var, qq_int, qq_pl, p_nil, p_ix, st_nm, st_tup, sn_nil, sn_cons, ta_nil, ta_d, ta_io, pb_nil, pb_c, fr_i, fr_b, fr_t, fr_l, fr_s, fr_n, fr_c, fr_k, fr_ol, fr_oc, fz_nil, fz_cons, fz_fz, ou_nil, ou_c, un_l, un_f, un_c, fin_nx, fin_rt, wp_nil, wp_c, tpL, tpT, NwK_ok, NwK_exc, m_t2, m_il, m_it, m_ik, sl_t, sl_l, Option.bind_some, Option.map_some, Option.map, List.any_cons, List.any_nil, Bool.or_self, List.getElem?_cons_zero, List.getElem?_cons_succ, List.set_cons_zero, List.set_cons_succ, List.length_cons, List.length_nil, Nat.reduceAdd, Nat.reduceLT, Nat.lt_add_one, Nat.zero_add, Int.cast_ofNat_Int, Int.reduceLE, Int.reduceLT, Int.reduceEq, Int.reduceNeg, Nat.reduceLeDiff, ↓reduceIte, Option.getD, List.nil_append, List.cons_append, decide_eq_true_eq, decide_true, decide_false, Bool.false_eq_true, Bool.not_true, Bool.not_false, Bool.and_true, Bool.and_false, Bool.true_and, Bool.or_true, Bool.or_false, and_true, true_and, and_false, false_and, not_true, not_false_eq_true, Bool.not_eq_true, decide_eq_false_iff_not, RdK_d vd_ne, look_ok n, RdK_res, f_size, isn, show d7.io = [] from rfl]
  · by_cases c : 0 ≤ s
    · simp only [w_bnd, w_ret, w_opt, w_fail, w_ite, w_tb, w_ti, w_rd, w_chk, w_chkL, w_plVal, w_plTop, w_q, w_setM, w_clr, w_setO1, w_modR, w_frz, w_var, w_non, w_bl, w_int, w_str, w_gint, w_bin, w_neg, w_inv, w_not, w_cmp, w_chn, w_isN, w_mem, w_andE, w_orE, w_ife, w_tup, w_lst, w_idx, w_eoN, w_eoS, w_slc, w_lrng1, w_fld, w_pl, w_call, w_new, w_bi, w_biP, w_isi, w_lc, w_dc, w_esN, w_esC, w_etN, w_etS, w_arE, w_arI, w_asN, w_asC, w_iE, w_iR1, w_iR2, w_pN, w_pX, w_pXX, w_pFX, w_pF, w_callF, w_oe, w_ol, w_ocall, w_onew, w_osN, w_osC, w_ssN, w_ssC, w_asg, w_asgL, w_asgO, w_app, w_set, w_fset, w_aug, w_ex, w_retE, w_retN, w_retO, w_if, w_for, w_rse, w_try, w_brk, w_cont, w_pass, w_hret, w_hunl, OptK_s, RdK_bl, RdK_int, RdK_str, RdK_non, RdK_tup, RdK_lst, RdK_dK, RdK_dT, RdK_ins, RdK_fn, RdK_scr, RdK_ol, ChkK_fz, ChkK_l, ChkK_i, ChkK_k, ChkK_t, ValK_int, ValK_bl, ValK_lst, ValK_tup, LstK_l, BlK_b, InK_i, FlK_nx, FlK_ct, FlK_bk, FlK_rt, RcK_ok, RcK_exc, LoK_nx, LoK_ct, LoK_bk, LoK_rt, c_eq, c_ne, c_eqb, c_neb, c_lt, c_gt, c_le, c_ge, c_is, c_isnt, bn_f, bn_t, b_add, b_sub, a_add, a_sub, t_ii, t_ib, t_it, t_il, t_is, t_bi, t_bb, t_bt, t_bl, t_bs, t_ti, t_tb, t_tt, t_tl, t_ts, t_li, t_lb, t_lt, t_ll, t_ls, t_ni, t_nb, t_nt, t_nl, t_ns, t_si, t_sb, t_st, t_sl, t_ss, n_i, n_b, n_t, n_l, n_s, n_n, i_lenT, i_lenL, i_lenK, i_tupL, i_tupT, i_lstL, i_lstT, i_lstS, i_intI, i_intB, i_abs, i_min2, i_max2, i_all, i_any, i_sum, x_lst, x_tup, at0, at1, at2, at3, q_tup, q_lst, g_nil, g_l0, g_l1, g_l2, g_l3, g_fz, s_l0, s_l1, s_l2, s_l3, qv_i, qv_l, qv_t, qv_s, qv_b, qq_var, qq_int, qq_pl, p_nil, p_ix, st_nm, st_tup, sn_nil, sn_cons, ta_nil, ta_d, ta_io, pb_nil, pb_c, fr_i, fr_b, fr_t, fr_l, fr_s, fr_n, fr_c, fr_k, fr_ol, fr_oc, fz_nil, fz_cons, fz_fz, ou_nil, ou_c, un_l, un_f, un_c, fin_nx, fin_rt, wp_nil, wp_c, tpL, tpT, NwK_ok, NwK_exc, m_t2, m_il, m_it, m_ik, sl_t, sl_l, Option.bind_some, Option.map_some, Option.map, List.any_cons, List.any_nil, Bool.or_self, List.getElem?_cons_zero, List.getElem?_cons_succ, List.set_cons_zero, List.set_cons_succ, List.length_cons, List.length_nil, Nat.reduceAdd, Nat.reduceLT, Nat.lt_add_one, Nat.zero_add, Int.cast_ofNat_Int, Int.reduceLE, Int.reduceLT, Int.reduceEq, Int.reduceNeg, Nat.reduceLeDiff, ↓reduceIte, Option.getD, List.nil_append, List.cons_append, decide_eq_true_eq, decide_true, decide_false, Bool.false_eq_true, Bool.not_true, Bool.not_false, Bool.and_true, Bool.and_false, Bool.true_and, Bool.or_true, Bool.or_false, and_true, true_and, and_false, false_and, not_true, not_false_eq_true, Bool.not_eq_true, decide_eq_false_iff_not, RdK_d vd_ne, look_ok n, RdK_res, f_size, isi, c, show ¬ s < s from by omega, show d7.io = [] from rfl]
    · simp only [w_bnd, w_ret, w_opt, w_fail, w_ite, w_tb, w_ti, w_rd, w_chk, w_chkL, w_plVal, w_plTop, w_q, w_setM, w_clr, w_setO1, w_modR, w_frz, w_var, w_non, w_bl, w_int, w_str, w_gint, w_bin, w_neg, w_inv, w_not, w_cmp, w_chn, w_isN, w_mem, w_andE, w_orE, w_ife, w_tup, w_lst, w_idx, w_eoN, w_eoS, w_slc, w_lrng1, w_fld, w_pl, w_call, w_new, w_bi, w_biP, w_isi, w_lc, w_dc, w_esN, w_esC, w_etN, w_etS, w_arE, w_arI, w_asN, w_asC, w_iE, w_iR1, w_iR2, w_pN, w_pX, w_pXX, w_pFX, w_pF, w_callF, w_oe, w_ol, w_ocall, w_onew, w_osN, w_osC, w_ssN, w_ssC, w_asg, w_asgL, w_asgO, w_app, w_set, w_fset, w_aug, w_ex, w_retE, w_retN, w_retO, w_if, w_for, w_rse, w_try, w_brk, w_cont, w_pass, w_hret, w_hunl, OptK_s, RdK_bl, RdK_int, RdK_str, RdK_non, RdK_tup, RdK_lst, RdK_dK, RdK_dT, RdK_ins, RdK_fn, RdK_scr, RdK_ol, ChkK_fz, ChkK_l, ChkK_i, ChkK_k, ChkK_t, ValK_int, ValK_bl, ValK_lst, ValK_tup, LstK_l, BlK_b, InK_i, FlK_nx, FlK_ct, FlK_bk, FlK_rt, RcK_ok, RcK_exc, LoK_nx, LoK_ct, LoK_bk, LoK_rt, c_eq, c_ne, c_eqb, c_neb, c_lt, c_gt, c_le, c_ge, c_is, c_isnt, bn_f, bn_t, b_add, b_sub, a_add, a_sub, t_ii, t_ib, t_it, t_il, t_is, t_bi, t_bb, t_bt, t_bl, t_bs, t_ti, t_tb, t_tt, t_tl, t_ts, t_li, t_lb, t_lt, t_ll, t_ls, t_ni, t_nb, t_nt, t_nl, t_ns, t_si, t_sb, t_st, t_sl, t_ss, n_i, n_b, n_t, n_l, n_s, n_n, i_lenT, i_lenL, i_lenK, i_tupL, i_tupT, i_lstL, i_lstT, i_lstS, i_intI, i_intB, i_abs, i_min2, i_max2, i_all, i_any, i_sum, x_lst, x_tup, at0, at1, at2, at3, q_tup, q_lst, g_nil, g_l0, g_l1, g_l2, g_l3, g_fz, s_l0, s_l1, s_l2, s_l3, qv_i, qv_l, qv_t, qv_s, qv_b, qq_var, qq_int, qq_pl, p_nil, p_ix, st_nm, st_tup, sn_nil, sn_cons, ta_nil, ta_d, ta_io, pb_nil, pb_c, fr_i, fr_b, fr_t, fr_l, fr_s, fr_n, fr_c, fr_k, fr_ol, fr_oc, fz_nil, fz_cons, fz_fz, ou_nil, ou_c, un_l, un_f, un_c, fin_nx, fin_rt, wp_nil, wp_c, tpL, tpT, NwK_ok, NwK_exc, m_t2, m_il, m_it, m_ik, sl_t, sl_l, Option.bind_some, Option.map_some, Option.map, List.any_cons, List.any_nil, Bool.or_self, List.getElem?_cons_zero, List.getElem?_cons_succ, List.set_cons_zero, List.set_cons_succ, List.length_cons, List.length_nil, Nat.reduceAdd, Nat.reduceLT, Nat.lt_add_one, Nat.zero_add, Int.cast_ofNat_Int, Int.reduceLE, Int.reduceLT, Int.reduceEq, Int.reduceNeg, Nat.reduceLeDiff, ↓reduceIte, Option.getD, List.nil_append, List.cons_append, decide_eq_true_eq, decide_true, decide_false, Bool.false_eq_true, Bool.not_true, Bool.not_false, Bool.and_true, Bool.and_false, Bool.true_and, Bool.or_true, Bool.or_false, and_true, true_and, and_false, false_and, not_true, not_false_eq_true, Bool.not_eq_true, decide_eq_false_iff_not, RdK_d vd_ne, look_ok n, RdK_res, f_size, isi, c, show d7.io = [] from rfl]
  · simp only [w_bnd, w_ret, w_opt, w_fail, w_ite, w_tb, w_ti, w_rd, w_chk, w_chkL, w_plVal, w_plTop, w_q, w_setM, w_clr, w_setO1, w_modR, w_frz, w_var, w_non, w_bl, w_int, w_str, w_gint, w_bin, w_neg, w_inv, w_not, w_cmp, w_chn, w_isN, w_mem, w_andE, w_orE, w_ife, w_tup, w_lst, w_idx, w_eoN, w_eoS, w_slc, w_lrng1, w_fld, w_pl, w_call, w_new, w_bi, w_biP, w_isi, w_lc, w_dc, w_esN, w_esC, w_etN, w_etS, w_arE, w_arI, w_asN, w_asC, w_iE, w_iR1, w_iR2, w_pN, w_pX, w_pXX, w_pFX, w_pF, w_callF, w_oe, w_ol, w_ocall, w_onew, w_osN, w_osC, w_ssN, w_ssC, w_asg, w_asgL, w_asgO, w_app, w_set, w_fset, w_aug, w_ex, w_retE, w_retN, w_retO, w_if, w_for, w_rse, w_try, w_brk, w_cont, w_pass, w_hret, w_hunl, OptK_s, RdK_bl, RdK_int, RdK_str, RdK_non, RdK_tup, RdK_lst, RdK_dK, RdK_dT, RdK_ins, RdK_fn, RdK_scr, RdK_ol, ChkK_fz, ChkK_l, ChkK_i, ChkK_k, ChkK_t, ValK_int, ValK_bl, ValK_lst, ValK_tup, LstK_l, BlK_b, InK_i, FlK_nx, FlK_ct, FlK_bk, FlK_rt, RcK_ok, RcK_exc, LoK_nx, LoK_ct, LoK_bk, LoK_rt, c_eq, c_ne, c_eqb, c_neb, c_lt, c_gt, c_le, c_ge, c_is, c_isnt, bn_f, bn_t, b_add, b_sub, a_add, a_sub, t_ii, t_ib, t_it, t_il, t_is, t_bi, t_bb, t_bt, t_bl, t_bs, t_ti, t_tb, t_tt, t_tl, t_ts, t_li, t_lb, t_lt, t_ll, t_ls, t_ni, t_nb, t_nt, t_nl, t_ns, t_si, t_sb, t_st, t_sl, t_ss, n_i, n_b, n_t, n_l, n_s, n_n, i_lenT, i_lenL, i_lenK, i_tupL, i_tupT, i_lstL, i_lstT, i_lstS, i_intI, i_intB, i_abs, i_min2, i_max2, i_all, i_any, i_sum, x_lst, x_tup, at0, at1, at2, at3, q_tup, q_lst, g_nil, g_l0, g_l1, g_l2, g_l3, g_fz, s_l0, s_l1, s_l2, s_l3, qv_i, qv_l, qv_t, qv_s, qv_b, qq_var, qq_int, qq_pl, p_nil, p_ix, st_nm, st_tup, sn_nil, sn_cons, ta_nil, ta_d, ta_io, pb_nil, pb_c, fr_i, fr_b, fr_t, fr_l, fr_s, fr_n, fr_c, fr_k, fr_ol, fr_oc, fz_nil, fz_cons, fz_fz, ou_nil, ou_c, un_l, un_f, un_c, fin_nx, fin_rt, wp_nil, wp_c, tpL, tpT, NwK_ok, NwK_exc, m_t2, m_il, m_it, m_ik, sl_t, sl_l, Option.bind_some, Option.map_some, Option.map, List.any_cons, List.any_nil, Bool.or_self, List.getElem?_cons_zero, List.getElem?_cons_succ, List.set_cons_zero, List.set_cons_succ, List.length_cons, List.length_nil, Nat.reduceAdd, Nat.reduceLT, Nat.lt_add_one, Nat.zero_add, Int.cast_ofNat_Int, Int.reduceLE, Int.reduceLT, Int.reduceEq, Int.reduceNeg, Nat.reduceLeDiff, ↓reduceIte, Option.getD, List.nil_append, List.cons_append, decide_eq_true_eq, decide_true, decide_false, Bool.false_eq_true, Bool.not_true, Bool.not_false, Bool.and_true, Bool.and_false, Bool.true_and, Bool.or_true, Bool.or_false, and_true, true_and, and_false, false_and, not_true, not_false_eq_true, Bool.not_eq_true, decide_eq_false_iff_not, RdK_d vd_ne, look_ok n, RdK_res, f_size, isi, show ¬ (0 : Int) ≤ -1 from by omega, show d7.io = [] from rfl]
  · simp only [w_bnd, w_ret, w_opt, w_fail, w_ite, w_tb, w_ti, w_rd, w_chk, w_chkL, w_plVal, w_plTop, w_q, w_setM, w_clr, w_setO1, w_modR, w_frz, w_var, w_non, w_bl, w_int, w_str, w_gint, w_bin, w_neg, w_inv, w_not, w_cmp, w_chn, w_isN, w_mem, w_andE, w_orE, w_ife, w_tup, w_lst, w_idx, w_eoN, w_eoS, w_slc, w_lrng1, w_fld, w_pl, w_call, w_new, w_bi, w_biP, w_isi, w_lc, w_dc, w_esN, w_esC, w_etN, w_etS, w_arE, w_arI, w_asN, w_asC, w_iE, w_iR1, w_iR2, w_pN, w_pX, w_pXX, w_pFX, w_pF, w_callF, w_oe, w_ol, w_ocall, w_onew, w_osN, w_osC, w_ssN, w_ssC, w_asg, w_asgL, w_asgO, w_app, w_set, w_fset, w_aug, w_ex, w_retE, w_retN, w_retO, w_if, w_for, w_rse, w_try, w_brk, w_cont, w_pass, w_hret, w_hunl, OptK_s, RdK_bl, RdK_int, RdK_str, RdK_non, RdK_tup, RdK_lst, RdK_dK, RdK_dT, RdK_ins, RdK_fn, RdK_scr, RdK_ol, ChkK_fz, ChkK_l, ChkK_i, ChkK_k, ChkK_t, ValK_int, ValK_bl, ValK_lst, ValK_tup, LstK_l, BlK_b, InK_i, FlK_nx, FlK_ct, FlK_bk, FlK_rt, RcK_ok, RcK_exc, LoK_nx, LoK_ct, LoK_bk, LoK_rt, c_eq, c_ne, c_eqb, c_neb, c_lt, c_gt, c_le, c_ge, c_is, c_isnt, bn_f, bn_t, b_add, b_sub, a_add, a_sub, t_ii, t_ib, t_it, t_il, t_is, t_bi, t_bb, t_bt, t_bl, t_bs, t_ti, t_tb, t_tt, t_tl, t_ts, t_li, t_lb, t_lt, t_ll, t_ls, t_ni, t_nb, t_nt, t_nl, t_ns, t_si, t_sb, t_st, t_sl, t_ss, n_i, n_b, n_t, n_l, n_s, n_n, i_lenT, i_lenL, i_lenK, i_tupL, i_tupT, i_lstL, i_lstT, i_lstS, i_intI, i_intB, i_abs, i_min2, i_max2, i_all, i_any, i_sum, x_lst, x_tup, at0, at1, at2, at3, q_tup, q_lst, g_nil, g_l0, g_l1, g_l2, g_l3, g_fz, s_l0, s_l1, s_l2, s_l3, qv_i, qv_l, qv_t, qv_s, qv_b, qq_var, qq_int, qq_pl, p_nil, p_ix, st_nm, st_tup, sn_nil, sn_cons, ta_nil, ta_d, ta_io, pb_nil, pb_c, fr_i, fr_b, fr_t, fr_l, fr_s, fr_n, fr_c, fr_k, fr_ol, fr_oc, fz_nil, fz_cons, fz_fz, ou_nil, ou_c, un_l, un_f, un_c, fin_nx, fin_rt, wp_nil, wp_c, tpL, tpT, NwK_ok, NwK_exc, m_t2, m_il, m_it, m_ik, sl_t, sl_l, Option.bind_some, Option.map_some, Option.map, List.any_cons, List.any_nil, Bool.or_self, List.getElem?_cons_zero, List.getElem?_cons_succ, List.set_cons_zero, List.set_cons_succ, List.length_cons, List.length_nil, Nat.reduceAdd, Nat.reduceLT, Nat.lt_add_one, Nat.zero_add, Int.cast_ofNat_Int, Int.reduceLE, Int.reduceLT, Int.reduceEq, Int.reduceNeg, Nat.reduceLeDiff, ↓reduceIte, Option.getD, List.nil_append, List.cons_append, decide_eq_true_eq, decide_true, decide_false, Bool.false_eq_true, Bool.not_true, Bool.not_false, Bool.and_true, Bool.and_false, Bool.true_and, Bool.or_true, Bool.or_false, and_true, true_and, and_false, false_and, not_true, not_false_eq_true, Bool.not_eq_true, decide_eq_false_iff_not, RdK_d vd_ne, look_ok n, RdK_res, f_size, isb, show d7.io = [] from rfl]
theorem wrong_ok (n : Nat) : ∀ d ∈ [D.non, .tup [.int 0, .int 1, .int 1], .tup [.int 0, .int 0, .int 1, .int 1], .tup [.int 0, .int 3, .int 1, .int 1], .tup [.int 0, .int 1, .int (-1), .int 0], .tup [.int 0, .int 1, .int 1001, .int 0], .tup [.int 0, .int 1, .bl true, .int 0], .lst [.int 0, .int 1, .int 1, .int 1], .tup [.int (-1), .int 0, .int 0, .int 0], .tup [.int 0, .int 1, .int 1, .non]],
    d ≠ .nil ∧ run P (n + 2) 2 [.fz (.int 3), .fz d] = .ok (.fz (.bl false)) [] := by
  intro d hd
  simp only [List.mem_cons, List.not_mem_nil, or_false] at hd
  rcases hd with rfl | rfl | rfl | rfl | rfl | rfl | rfl | rfl | rfl | rfl <;> exact ⟨(fun z => by cases z), rfl⟩
theorem right_ok (n : Nat) : run P (n + 2) 2 [.fz (.int 3), .fz (.tup [.int 0, .int 2, .int 1000, .int 0])] = .ok (.fz (.bl true)) [] := rfl
def big401 : D := .tup (List.replicate 401 [D.tup [.int 0, .int 1, .int 0, .int 0]]).flatten
theorem mul401 : binD .mul (.tup [.tup [.int 0, .int 1, .int 0, .int 0]]) (.int 401) = some big401 := rfl
theorem no_ok : ∀ d ∈ [D.tup [.int 0, .tup []], .tup [.int 25, .tup []], .tup [.non, .tup []], .tup [.bl true, .tup []], .tup [.int 2, .non], .tup [.int 2, .lst [.tup [.int 0, .int 1, .int 1, .int 1]]], .tup [.int 2, .tup [.tup [.int 0, .int 2, .int 0, .int 0]]], .tup [.int 2, big401]],
    ∃ a b, d = .tup [a, b] ∧ a ≠ .nil ∧ b ≠ .nil ∧ run P 11 15 [.fz a, .fz b] = .ok (.fz (.bl true)) [] := by
  intro d hd
  simp only [List.mem_cons, List.not_mem_nil, or_false] at hd
  rcases hd with rfl | rfl | rfl | rfl | rfl | rfl | rfl | rfl <;> exact ⟨_, _, rfl, (fun z => by cases z), (fun z => by cases z), by kernel_rfl⟩
end L35

set_option maxHeartbeats 0
namespace L35
open PySem Cr Cw
theorem rgI3 : rgI (3 : Int).toNat = [0, 1, 2] := rfl
theorem rgI5 : rgI (5 : Int).toNat = [0, 1, 2, 3, 4] := rfl
theorem exl : P.excs.length = 2 := rfl
theorem he1 (fs : List D) : evHE 1 fs (.isE [0, 1]) = some (.bl true) := rfl
theorem ct1 : ([1] : List Nat).contains 1 = true := rfl
theorem atm1 {a b c d e f g : D} : atD [a, b, c, d, e, f, g] (-1) = some g := rfl
theorem okS_lines {k : Nat} {u v w s : Int} {gs : List Gm} (h1 : s ≤ 24) : okS (k + 2) (.lst ((rgI s.toNat).map fun i => lineD u v w (ownR (pr s) i gs))) := by
  rw [okS]
  refine ⟨by rw [List.length_map, rgI_len]; omega, fun x hx => ?_⟩
  obtain ⟨i, _, rfl⟩ := List.mem_map.mp hx
  unfold lineD
  rw [okS]
  refine ⟨by simp, fun x hx => ?_⟩
  simp only [List.mem_cons, List.not_mem_nil, or_false] at hx
  rcases hx with rfl | rfl | rfl | rfl | rfl | rfl | rfl <;> cases k <;> trivial
theorem okS_int {k : Nat} {i : Int} : okS k (.int i) := by cases k <;> trivial
theorem okS_bl {k : Nat} {i : Bool} : okS k (.bl i) := by cases k <;> trivial
theorem okS_ints {k : Nat} {α : Type} {xs : List α} {g : α → Int} (h : xs.length ≤ 100000) : okS (k + 1) (.tup (xs.map fun x => .int (g x))) := by
  rw [okS]
  refine ⟨by rw [List.length_map]; exact h, fun x hx => ?_⟩
  obtain ⟨i, _, rfl⟩ := List.mem_map.mp hx
  exact okS_int
theorem okS_rows {k : Nat} {rs : List Rw} (h : rs.length ≤ 100000) : okS (k + 2) (.lst (rs.map rD)) := by
  rw [okS]
  refine ⟨by rw [List.length_map]; exact h, fun x hx => ?_⟩
  obtain ⟨i, _, rfl⟩ := List.mem_map.mp hx
  unfold rD
  rw [okS]
  refine ⟨by simp, fun x hx => ?_⟩
  simp only [List.mem_cons, List.not_mem_nil, or_false] at hx
  rcases hx with rfl | rfl | rfl
  · exact okS_bl
  · exact okS_int
  · exact okS_int
theorem okS_gms {k : Nat} {gs : List Gm} (h : gs.length ≤ 100000) : okS (k + 2) (.tup (gs.map gD)) := by
  rw [okS]
  refine ⟨by rw [List.length_map]; exact h, fun x hx => ?_⟩
  obtain ⟨i, _, rfl⟩ := List.mem_map.mp hx
  unfold gD
  rw [okS]
  refine ⟨by simp, fun x hx => ?_⟩
  simp only [List.mem_cons, List.not_mem_nil, or_false] at hx
  rcases hx with rfl | rfl | rfl | rfl <;> exact okS_int
theorem okS_l2 {k : Nat} {a b : D} (ha : okS k a) (hb : okS k b) : okS (k + 1) (.lst [a, b]) := by
  rw [okS]
  refine ⟨by simp, fun x hx => ?_⟩
  simp only [List.mem_cons, List.not_mem_nil, or_false] at hx
  rcases hx with rfl | rfl <;> assumption
theorem okS_l3 {k : Nat} {a b c : D} (ha : okS k a) (hb : okS k b) (hc : okS k c) : okS (k + 1) (.lst [a, b, c]) := by
  rw [okS]
  refine ⟨by simp, fun x hx => ?_⟩
  simp only [List.mem_cons, List.not_mem_nil, or_false] at hx
  rcases hx with rfl | rfl | rfl <;> assumption
theorem same3 {d : D} (h : okS 3 d) : run P 11 12 [.fz d, .fz d] = .ok (.fz (.bl true)) [] := same_ok (P := P) (g := 12) rfl 7 3 d h
theorem fz_lines {u v w s : Int} {gs : List Gm} {xs : List Int} : fzds (xs.map fun i => .fz (lineD u v w (ownR (pr s) i gs))) = xs.map fun i => lineD u v w (ownR (pr s) i gs) := fz_map xs
theorem law_run (ns : List Int) (h : ns.length ≤ 63) : run P 12 16 [.fz (.scr ns)] = .ok (.fz (.bl true)) [] := by
  rw [run_s (d := d16) rfl]
  apply RcK.ok_eq
  refine w_run rfl ?_
  change WX (exs P _ b16) [.fz (.scr ns), .un, .un, .un, .un, .un, .un, .un, .un, .un, .un, .un, .un, .un, .un, .un, .un, .un, .un, .un, .un, .un, .un, .un, .un, .un, .un] _ _
  unfold b16
  have e0 : run P 11 10 [.fz (.scr ns)] = .ok (drO ns 0 0 1) [] := draws_ok (P := P) rfl ns
  simp only [w_bnd, w_ret, w_opt, w_fail, w_ite, w_tb, w_ti, w_rd, w_chk, w_chkL, w_plVal, w_plTop, w_q, w_setM, w_clr, w_setO1, w_modR, w_frz, w_var, w_non, w_bl, w_int, w_str, w_gint, w_bin, w_neg, w_inv, w_not, w_cmp, w_chn, w_isN, w_mem, w_andE, w_orE, w_ife, w_tup, w_lst, w_idx, w_eoN, w_eoS, w_slc, w_lrng1, w_fld, w_pl, w_call, w_new, w_bi, w_biP, w_isi, w_lc, w_dc, w_esN, w_esC, w_etN, w_etS, w_arE, w_arI, w_asN, w_asC, w_iE, w_iR1, w_iR2, w_pN, w_pX, w_pXX, w_pFX, w_pF, w_callF, w_oe, w_ol, w_ocall, w_onew, w_osN, w_osC, w_ssN, w_ssC, w_asg, w_asgL, w_asgO, w_app, w_set, w_fset, w_aug, w_ex, w_retE, w_retN, w_retO, w_if, w_for, w_rse, w_try, w_brk, w_cont, w_pass, w_hret, w_hunl, OptK_s, RdK_bl, RdK_int, RdK_str, RdK_non, RdK_tup, RdK_lst, RdK_dK, RdK_dT, RdK_ins, RdK_fn, RdK_scr, RdK_ol, ChkK_fz, ChkK_l, ChkK_i, ChkK_k, ChkK_t, ValK_int, ValK_bl, ValK_lst, ValK_tup, LstK_l, BlK_b, InK_i, FlK_nx, FlK_ct, FlK_bk, FlK_rt, RcK_ok, RcK_exc, LoK_nx, LoK_ct, LoK_bk, LoK_rt, c_eq, c_ne, c_eqb, c_neb, c_lt, c_gt, c_le, c_ge, c_is, c_isnt, bn_f, bn_t, b_add, b_sub, a_add, a_sub, t_ii, t_ib, t_it, t_il, t_is, t_bi, t_bb, t_bt, t_bl, t_bs, t_ti, t_tb, t_tt, t_tl, t_ts, t_li, t_lb, t_lt, t_ll, t_ls, t_ni, t_nb, t_nt, t_nl, t_ns, t_si, t_sb, t_st, t_sl, t_ss, n_i, n_b, n_t, n_l, n_s, n_n, i_lenT, i_lenL, i_lenK, i_tupL, i_tupT, i_lstL, i_lstT, i_lstS, i_intI, i_intB, i_abs, i_min2, i_max2, i_all, i_any, i_sum, x_lst, x_tup, at0, at1, at2, at3, q_tup, q_lst, g_nil, g_l0, g_l1, g_l2, g_l3, g_fz, s_l0, s_l1, s_l2, s_l3, qv_i, qv_l, qv_t, qv_s, qv_b, qq_var, qq_int, qq_pl, p_nil, p_ix, st_nm, st_tup, sn_nil, sn_cons, ta_nil, ta_d, ta_io, pb_nil, pb_c, fr_i, fr_b, fr_t, fr_l, fr_s, fr_n, fr_c, fr_k, fr_ol, fr_oc, fz_nil, fz_cons, fz_fz, ou_nil, ou_c, un_l, un_f, un_c, fin_nx, fin_rt, wp_nil, wp_c, tpL, tpT, NwK_ok, NwK_exc, m_t2, m_il, m_it, m_ik, sl_t, sl_l, Option.bind_some, Option.map_some, Option.map, List.any_cons, List.any_nil, Bool.or_self, List.getElem?_cons_zero, List.getElem?_cons_succ, List.set_cons_zero, List.set_cons_succ, List.length_cons, List.length_nil, Nat.reduceAdd, Nat.reduceLT, Nat.lt_add_one, Nat.zero_add, Int.cast_ofNat_Int, Int.reduceLE, Int.reduceLT, Int.reduceEq, Int.reduceNeg, Nat.reduceLeDiff, ↓reduceIte, Option.getD, List.nil_append, List.cons_append, decide_eq_true_eq, decide_true, decide_false, Bool.false_eq_true, Bool.not_true, Bool.not_false, Bool.and_true, Bool.and_false, Bool.true_and, Bool.or_true, Bool.or_false, and_true, true_and, and_false, false_and, not_true, not_false_eq_true, Bool.not_eq_true, decide_eq_false_iff_not, e0, rg_i (n := 5) (by omega) (by omega)]
  refine w_forM (fun as zs f => ∃ (o x2 x5 x6 x7 x8 x9 x10 x11 x12 x13 x14 x15 x16 x17 x18 x19 : O), Dr o ∧ isOwn x10 = false ∧ f = [.fz (.scr ns), o, x2, .un, .un, x5, x6, x7, x8, x9, x10, x11, x12, x13, x14, x15, x16, x17, x18, x19, .un, .un, .un, .un, .un, .un, .un]) ⟨_, _, _, _, _, _, _, _, _, _, _, _, _, _, _, _, _, ⟨ns, 0, 0, 1, rfl, by omega, by omega, by omega⟩, rfl, rfl⟩ (fun as turn zs f0 e hI => ?_) fun f1 hI => ?_
  · obtain ⟨o, x2, x5, x6, x7, x8, x9, x10, x11, x12, x13, x14, x15, x16, x17, x18, x19, hd, hx10, rfl⟩ := hI
    obtain ⟨s0, o1, e1, hd1, s00, s01⟩ := dr 10 hd 6 (by omega) (by omega)
    obtain ⟨gs, o2, e2, hd2, hg, hgl⟩ := games_ok 9 (s := 1 + s0) hd1 (by omega) (by omega)
    generalize hs : 1 + s0 = s at *
    have h0 : 1 ≤ s := by omega
    have h1 : s ≤ 6 := by omega
    have ei := init_ok 8 (s := s) (gs := gs) h0 (by omega) hg (by omega)
    obtain ⟨u0, o3, e3, hd3, u00, u01⟩ := dr 10 hd2 5 (by omega) (by omega)
    obtain ⟨v0, o4, e4, hd4, v00, v01⟩ := dr 10 hd3 5 (by omega) (by omega)
    obtain ⟨w0, o5, e5, hd5, w00, w01⟩ := dr 10 hd4 5 (by omega) (by omega)
    obtain ⟨u, hu⟩ : ∃ u, u0 - 1 = u := ⟨_, rfl⟩
    obtain ⟨v, hv⟩ : ∃ v, v0 - 1 = v := ⟨_, rfl⟩
    obtain ⟨w, hw⟩ : ∃ w, w0 - 1 = w := ⟨_, rfl⟩
    have hres : D.ins 0 [.int s, .tup (gs.map gD)] = resD s gs := rfl
    have hvd : D.tup [.int u, .int v, .int w] = vD u v w := rfl
    have ku : okV u := ⟨by omega, by omega⟩
    have kv : okV v := ⟨by omega, by omega⟩
    have kw : okV w := ⟨by omega, by omega⟩
    have hna : ∀ g ∈ gs, g.h ≠ g.a := fun g hh => (hg g hh).2.2.1
    have hrl : ∀ p i, (ownR p i gs).length ≤ 24 := fun p i => by
      have := ownR_len (p := p) (i := i) (gs := gs)
      omega
    have hrF : ∀ p i (q : Rw → Bool), ((ownR p i gs).filter q).length ≤ 100000 := fun p i q => Nat.le_trans (List.length_filter_le _ _) (by have := hrl p i; omega)
    have hrL : ∀ p i, (ownR p i gs).length ≤ 100000 := fun p i => by
      have := hrl p i
      omega
    simp only [w_bnd, w_ret, w_opt, w_fail, w_ite, w_tb, w_ti, w_rd, w_chk, w_chkL, w_plVal, w_plTop, w_q, w_setM, w_clr, w_setO1, w_modR, w_frz, w_var, w_non, w_bl, w_int, w_str, w_gint, w_bin, w_neg, w_inv, w_not, w_cmp, w_chn, w_isN, w_mem, w_andE, w_orE, w_ife, w_tup, w_lst, w_idx, w_eoN, w_eoS, w_slc, w_lrng1, w_fld, w_pl, w_call, w_new, w_bi, w_biP, w_isi, w_lc, w_dc, w_esN, w_esC, w_etN, w_etS, w_arE, w_arI, w_asN, w_asC, w_iE, w_iR1, w_iR2, w_pN, w_pX, w_pXX, w_pFX, w_pF, w_callF, w_oe, w_ol, w_ocall, w_onew, w_osN, w_osC, w_ssN, w_ssC, w_asg, w_asgL, w_asgO, w_app, w_set, w_fset, w_aug, w_ex, w_retE, w_retN, w_retO, w_if, w_for, w_rse, w_try, w_brk, w_cont, w_pass, w_hret, w_hunl, OptK_s, RdK_bl, RdK_int, RdK_str, RdK_non, RdK_tup, RdK_lst, RdK_dK, RdK_dT, RdK_ins, RdK_fn, RdK_scr, RdK_ol, ChkK_fz, ChkK_l, ChkK_i, ChkK_k, ChkK_t, ValK_int, ValK_bl, ValK_lst, ValK_tup, LstK_l, BlK_b, InK_i, FlK_nx, FlK_ct, FlK_bk, FlK_rt, RcK_ok, RcK_exc, LoK_nx, LoK_ct, LoK_bk, LoK_rt, c_eq, c_ne, c_eqb, c_neb, c_lt, c_gt, c_le, c_ge, c_is, c_isnt, bn_f, bn_t, b_add, b_sub, a_add, a_sub, t_ii, t_ib, t_it, t_il, t_is, t_bi, t_bb, t_bt, t_bl, t_bs, t_ti, t_tb, t_tt, t_tl, t_ts, t_li, t_lb, t_lt, t_ll, t_ls, t_ni, t_nb, t_nt, t_nl, t_ns, t_si, t_sb, t_st, t_sl, t_ss, n_i, n_b, n_t, n_l, n_s, n_n, i_lenT, i_lenL, i_lenK, i_tupL, i_tupT, i_lstL, i_lstT, i_lstS, i_intI, i_intB, i_abs, i_min2, i_max2, i_all, i_any, i_sum, x_lst, x_tup, at0, at1, at2, at3, q_tup, q_lst, g_nil, g_l0, g_l1, g_l2, g_l3, g_fz, s_l0, s_l1, s_l2, s_l3, qv_i, qv_l, qv_t, qv_s, qv_b, qq_var, qq_int, qq_pl, p_nil, p_ix, st_nm, st_tup, sn_nil, sn_cons, ta_nil, ta_d, ta_io, pb_nil, pb_c, fr_i, fr_b, fr_t, fr_l, fr_s, fr_n, fr_c, fr_k, fr_ol, fr_oc, fz_nil, fz_cons, fz_fz, ou_nil, ou_c, un_l, un_f, un_c, fin_nx, fin_rt, wp_nil, wp_c, tpL, tpT, NwK_ok, NwK_exc, m_t2, m_il, m_it, m_ik, sl_t, sl_l, Option.bind_some, Option.map_some, Option.map, List.any_cons, List.any_nil, Bool.or_self, List.getElem?_cons_zero, List.getElem?_cons_succ, List.set_cons_zero, List.set_cons_succ, List.length_cons, List.length_nil, Nat.reduceAdd, Nat.reduceLT, Nat.lt_add_one, Nat.zero_add, Int.cast_ofNat_Int, Int.reduceLE, Int.reduceLT, Int.reduceEq, Int.reduceNeg, Nat.reduceLeDiff, ↓reduceIte, Option.getD, List.nil_append, List.cons_append, decide_eq_true_eq, decide_true, decide_false, Bool.false_eq_true, Bool.not_true, Bool.not_false, Bool.and_true, Bool.and_false, Bool.true_and, Bool.or_true, Bool.or_false, and_true, true_and, and_false, false_and, not_true, not_false_eq_true, Bool.not_eq_true, decide_eq_false_iff_not, w_blockE, w_lC, w_lN, w_fC, w_fN, cw_nil, cw_c, io_un, io_fz, bk_nil, bk_c, i_allC, i_anyC, i_sumC, bls_nil, bls_c, intL_nil, intL_c, List.all_cons, List.all_nil, id_eq, Option.getD_some, Option.getD_none, ChkK_o hd.ne, tk_o hd.ne, e1, hs, ChkK_o hd1.ne, tk_o hd1.ne, e2, w_newF cls0, fresh0, ei, fz_res, rg_i (n := 3) (by omega) (by omega), rgI3, List.map_cons, List.map_nil, ChkK_o hd2.ne, tk_o hd2.ne, ChkK_o hd3.ne, tk_o hd3.ne, ChkK_o hd4.ne, tk_o hd4.ne, e3, e4, e5, rg_i (n := s) (by omega) (by omega), hres, hu, hv, hw, hvd]
    -- the rows due
    refine w_forM (fun as zs f => ∃ (x10 x13 x14 x18 x19 : O), isOwn x10 = false ∧ f = [.fz (.scr ns), o5, .fz (.int turn), .un, .un, .fz (.int s), .fz (.tup (gs.map gD)), .fz (resD s gs), .fz (vD u v w), .lst (as.map fun i => .fz (lineD u v w (ownR (pr s) i gs))), x10, x11, x12, x13, x14, x15, x16, x17, x18, x19, .un, .un, .un, .un, .un, .un, .un]) ⟨_, _, _, _, _, hx10, rfl⟩ (fun as2 i zs2 f2 e22 hI => ?_) fun f2 hI => ?_
    · obtain ⟨x10, x13, x14, x18, x19, hx10, rfl⟩ := hI
      have hll : (as2.map fun i => O.fz (lineD u v w (ownR (pr s) i gs))).length < 100000 := by
        have : as2.length ≤ (rgI s.toNat).length := by rw [← e22]; simp
        rw [rgI_len] at this
        rw [List.length_map]
        omega
      have eo : run P 11 14 [.fz (.tup (gs.map gD)), .fz (.int i), .fz (.lst ((rgI s.toNat).map D.int))] = .ok (.fz (.lst ((ownR (pr s) i gs).map rD))) [] := law_own_ok 10 (p := pr s) (fun j => m_il) (fun z => by cases z) (by omega)
      obtain ⟨rs, hrs⟩ : ∃ rs, ownR (pr s) i gs = rs := ⟨_, rfl⟩
      rw [hrs] at eo
      simp only [w_bnd, w_ret, w_opt, w_fail, w_ite, w_tb, w_ti, w_rd, w_chk, w_chkL, w_plVal, w_plTop, w_q, w_setM, w_clr, w_setO1, w_modR, w_frz, w_var, w_non, w_bl, w_int, w_str, w_gint, w_bin, w_neg, w_inv, w_not, w_cmp, w_chn, w_isN, w_mem, w_andE, w_orE, w_ife, w_tup, w_lst, w_idx, w_eoN, w_eoS, w_slc, w_lrng1, w_fld, w_pl, w_call, w_new, w_bi, w_biP, w_isi, w_lc, w_dc, w_esN, w_esC, w_etN, w_etS, w_arE, w_arI, w_asN, w_asC, w_iE, w_iR1, w_iR2, w_pN, w_pX, w_pXX, w_pFX, w_pF, w_callF, w_oe, w_ol, w_ocall, w_onew, w_osN, w_osC, w_ssN, w_ssC, w_asg, w_asgL, w_asgO, w_app, w_set, w_fset, w_aug, w_ex, w_retE, w_retN, w_retO, w_if, w_for, w_rse, w_try, w_brk, w_cont, w_pass, w_hret, w_hunl, OptK_s, RdK_bl, RdK_int, RdK_str, RdK_non, RdK_tup, RdK_lst, RdK_dK, RdK_dT, RdK_ins, RdK_fn, RdK_scr, RdK_ol, ChkK_fz, ChkK_l, ChkK_i, ChkK_k, ChkK_t, ValK_int, ValK_bl, ValK_lst, ValK_tup, LstK_l, BlK_b, InK_i, FlK_nx, FlK_ct, FlK_bk, FlK_rt, RcK_ok, RcK_exc, LoK_nx, LoK_ct, LoK_bk, LoK_rt, c_eq, c_ne, c_eqb, c_neb, c_lt, c_gt, c_le, c_ge, c_is, c_isnt, bn_f, bn_t, b_add, b_sub, a_add, a_sub, t_ii, t_ib, t_it, t_il, t_is, t_bi, t_bb, t_bt, t_bl, t_bs, t_ti, t_tb, t_tt, t_tl, t_ts, t_li, t_lb, t_lt, t_ll, t_ls, t_ni, t_nb, t_nt, t_nl, t_ns, t_si, t_sb, t_st, t_sl, t_ss, n_i, n_b, n_t, n_l, n_s, n_n, i_lenT, i_lenL, i_lenK, i_tupL, i_tupT, i_lstL, i_lstT, i_lstS, i_intI, i_intB, i_abs, i_min2, i_max2, i_all, i_any, i_sum, x_lst, x_tup, at0, at1, at2, at3, q_tup, q_lst, g_nil, g_l0, g_l1, g_l2, g_l3, g_fz, s_l0, s_l1, s_l2, s_l3, qv_i, qv_l, qv_t, qv_s, qv_b, qq_var, qq_int, qq_pl, p_nil, p_ix, st_nm, st_tup, sn_nil, sn_cons, ta_nil, ta_d, ta_io, pb_nil, pb_c, fr_i, fr_b, fr_t, fr_l, fr_s, fr_n, fr_c, fr_k, fr_ol, fr_oc, fz_nil, fz_cons, fz_fz, ou_nil, ou_c, un_l, un_f, un_c, fin_nx, fin_rt, wp_nil, wp_c, tpL, tpT, NwK_ok, NwK_exc, m_t2, m_il, m_it, m_ik, sl_t, sl_l, Option.bind_some, Option.map_some, Option.map, List.any_cons, List.any_nil, Bool.or_self, List.getElem?_cons_zero, List.getElem?_cons_succ, List.set_cons_zero, List.set_cons_succ, List.length_cons, List.length_nil, Nat.reduceAdd, Nat.reduceLT, Nat.lt_add_one, Nat.zero_add, Int.cast_ofNat_Int, Int.reduceLE, Int.reduceLT, Int.reduceEq, Int.reduceNeg, Nat.reduceLeDiff, ↓reduceIte, Option.getD, List.nil_append, List.cons_append, decide_eq_true_eq, decide_true, decide_false, Bool.false_eq_true, Bool.not_true, Bool.not_false, Bool.and_true, Bool.and_false, Bool.true_and, Bool.or_true, Bool.or_false, and_true, true_and, and_false, false_and, not_true, not_false_eq_true, Bool.not_eq_true, decide_eq_false_iff_not, lr_i (n := s) (by omega) (by omega), eo]
      have rl : rs.length ≤ 100000 := hrs ▸ hrL (pr s) i
      have rF : ∀ q : Rw → Bool, (rs.filter q).length ≤ 100000 := fun q => Nat.le_trans (List.length_filter_le _ _) rl
      refine w_lcF (fun r => decide (r.y < r.x)) (fun _ => D.int 1) rfl rfl (fun r hr => ?_) ?_
      · unfold rD
        by_cases c : r.y < r.x
        · simp only [w_bnd, w_ret, w_opt, w_fail, w_ite, w_tb, w_ti, w_rd, w_chk, w_chkL, w_plVal, w_plTop, w_q, w_setM, w_clr, w_setO1, w_modR, w_frz, w_var, w_non, w_bl, w_int, w_str, w_gint, w_bin, w_neg, w_inv, w_not, w_cmp, w_chn, w_isN, w_mem, w_andE, w_orE, w_ife, w_tup, w_lst, w_idx, w_eoN, w_eoS, w_slc, w_lrng1, w_fld, w_pl, w_call, w_new, w_bi, w_biP, w_isi, w_lc, w_dc, w_esN, w_esC, w_etN, w_etS, w_arE, w_arI, w_asN, w_asC, w_iE, w_iR1, w_iR2, w_pN, w_pX, w_pXX, w_pFX, w_pF, w_callF, w_oe, w_ol, w_ocall, w_onew, w_osN, w_osC, w_ssN, w_ssC, w_asg, w_asgL, w_asgO, w_app, w_set, w_fset, w_aug, w_ex, w_retE, w_retN, w_retO, w_if, w_for, w_rse, w_try, w_brk, w_cont, w_pass, w_hret, w_hunl, OptK_s, RdK_bl, RdK_int, RdK_str, RdK_non, RdK_tup, RdK_lst, RdK_dK, RdK_dT, RdK_ins, RdK_fn, RdK_scr, RdK_ol, ChkK_fz, ChkK_l, ChkK_i, ChkK_k, ChkK_t, ValK_int, ValK_bl, ValK_lst, ValK_tup, LstK_l, BlK_b, InK_i, FlK_nx, FlK_ct, FlK_bk, FlK_rt, RcK_ok, RcK_exc, LoK_nx, LoK_ct, LoK_bk, LoK_rt, c_eq, c_ne, c_eqb, c_neb, c_lt, c_gt, c_le, c_ge, c_is, c_isnt, bn_f, bn_t, b_add, b_sub, a_add, a_sub, t_ii, t_ib, t_it, t_il, t_is, t_bi, t_bb, t_bt, t_bl, t_bs, t_ti, t_tb, t_tt, t_tl, t_ts, t_li, t_lb, t_lt, t_ll, t_ls, t_ni, t_nb, t_nt, t_nl, t_ns, t_si, t_sb, t_st, t_sl, t_ss, n_i, n_b, n_t, n_l, n_s, n_n, i_lenT, i_lenL, i_lenK, i_tupL, i_tupT, i_lstL, i_lstT, i_lstS, i_intI, i_intB, i_abs, i_min2, i_max2, i_all, i_any, i_sum, x_lst, x_tup, at0, at1, at2, at3, q_tup, q_lst, g_nil, g_l0, g_l1, g_l2, g_l3, g_fz, s_l0, s_l1, s_l2, s_l3, qv_i, qv_l, qv_t, qv_s, qv_b, qq_var, qq_int, qq_pl, p_nil, p_ix, st_nm, st_tup, sn_nil, sn_cons, ta_nil, ta_d, ta_io, pb_nil, pb_c, fr_i, fr_b, fr_t, fr_l, fr_s, fr_n, fr_c, fr_k, fr_ol, fr_oc, fz_nil, fz_cons, fz_fz, ou_nil, ou_c, un_l, un_f, un_c, fin_nx, fin_rt, wp_nil, wp_c, tpL, tpT, NwK_ok, NwK_exc, m_t2, m_il, m_it, m_ik, sl_t, sl_l, Option.bind_some, Option.map_some, Option.map, List.any_cons, List.any_nil, Bool.or_self, List.getElem?_cons_zero, List.getElem?_cons_succ, List.set_cons_zero, List.set_cons_succ, List.length_cons, List.length_nil, Nat.reduceAdd, Nat.reduceLT, Nat.lt_add_one, Nat.zero_add, Int.cast_ofNat_Int, Int.reduceLE, Int.reduceLT, Int.reduceEq, Int.reduceNeg, Nat.reduceLeDiff, ↓reduceIte, Option.getD, List.nil_append, List.cons_append, decide_eq_true_eq, decide_true, decide_false, Bool.false_eq_true, Bool.not_true, Bool.not_false, Bool.and_true, Bool.and_false, Bool.true_and, Bool.or_true, Bool.or_false, and_true, true_and, and_false, false_and, not_true, not_false_eq_true, Bool.not_eq_true, decide_eq_false_iff_not, c]
          first | rfl | exact ⟨rfl, rfl⟩ | exact ⟨rfl, rfl, rfl⟩
        · simp only [w_bnd, w_ret, w_opt, w_fail, w_ite, w_tb, w_ti, w_rd, w_chk, w_chkL, w_plVal, w_plTop, w_q, w_setM, w_clr, w_setO1, w_modR, w_frz, w_var, w_non, w_bl, w_int, w_str, w_gint, w_bin, w_neg, w_inv, w_not, w_cmp, w_chn, w_isN, w_mem, w_andE, w_orE, w_ife, w_tup, w_lst, w_idx, w_eoN, w_eoS, w_slc, w_lrng1, w_fld, w_pl, w_call, w_new, w_bi, w_biP, w_isi, w_lc, w_dc, w_esN, w_esC, w_etN, w_etS, w_arE, w_arI, w_asN, w_asC, w_iE, w_iR1, w_iR2, w_pN, w_pX, w_pXX, w_pFX, w_pF, w_callF, w_oe, w_ol, w_ocall, w_onew, w_osN, w_osC, w_ssN, w_ssC, w_asg, w_asgL, w_asgO, w_app, w_set, w_fset, w_aug, w_ex, w_retE, w_retN, w_retO, w_if, w_for, w_rse, w_try, w_brk, w_cont, w_pass, w_hret, w_hunl, OptK_s, RdK_bl, RdK_int, RdK_str, RdK_non, RdK_tup, RdK_lst, RdK_dK, RdK_dT, RdK_ins, RdK_fn, RdK_scr, RdK_ol, ChkK_fz, ChkK_l, ChkK_i, ChkK_k, ChkK_t, ValK_int, ValK_bl, ValK_lst, ValK_tup, LstK_l, BlK_b, InK_i, FlK_nx, FlK_ct, FlK_bk, FlK_rt, RcK_ok, RcK_exc, LoK_nx, LoK_ct, LoK_bk, LoK_rt, c_eq, c_ne, c_eqb, c_neb, c_lt, c_gt, c_le, c_ge, c_is, c_isnt, bn_f, bn_t, b_add, b_sub, a_add, a_sub, t_ii, t_ib, t_it, t_il, t_is, t_bi, t_bb, t_bt, t_bl, t_bs, t_ti, t_tb, t_tt, t_tl, t_ts, t_li, t_lb, t_lt, t_ll, t_ls, t_ni, t_nb, t_nt, t_nl, t_ns, t_si, t_sb, t_st, t_sl, t_ss, n_i, n_b, n_t, n_l, n_s, n_n, i_lenT, i_lenL, i_lenK, i_tupL, i_tupT, i_lstL, i_lstT, i_lstS, i_intI, i_intB, i_abs, i_min2, i_max2, i_all, i_any, i_sum, x_lst, x_tup, at0, at1, at2, at3, q_tup, q_lst, g_nil, g_l0, g_l1, g_l2, g_l3, g_fz, s_l0, s_l1, s_l2, s_l3, qv_i, qv_l, qv_t, qv_s, qv_b, qq_var, qq_int, qq_pl, p_nil, p_ix, st_nm, st_tup, sn_nil, sn_cons, ta_nil, ta_d, ta_io, pb_nil, pb_c, fr_i, fr_b, fr_t, fr_l, fr_s, fr_n, fr_c, fr_k, fr_ol, fr_oc, fz_nil, fz_cons, fz_fz, ou_nil, ou_c, un_l, un_f, un_c, fin_nx, fin_rt, wp_nil, wp_c, tpL, tpT, NwK_ok, NwK_exc, m_t2, m_il, m_it, m_ik, sl_t, sl_l, Option.bind_some, Option.map_some, Option.map, List.any_cons, List.any_nil, Bool.or_self, List.getElem?_cons_zero, List.getElem?_cons_succ, List.set_cons_zero, List.set_cons_succ, List.length_cons, List.length_nil, Nat.reduceAdd, Nat.reduceLT, Nat.lt_add_one, Nat.zero_add, Int.cast_ofNat_Int, Int.reduceLE, Int.reduceLT, Int.reduceEq, Int.reduceNeg, Nat.reduceLeDiff, ↓reduceIte, Option.getD, List.nil_append, List.cons_append, decide_eq_true_eq, decide_true, decide_false, Bool.false_eq_true, Bool.not_true, Bool.not_false, Bool.and_true, Bool.and_false, Bool.true_and, Bool.or_true, Bool.or_false, and_true, true_and, and_false, false_and, not_true, not_false_eq_true, Bool.not_eq_true, decide_eq_false_iff_not, c]
          first | rfl | exact ⟨rfl, rfl⟩ | exact ⟨rfl, rfl, rfl⟩
      simp only [w_bnd, w_ret, w_opt, w_fail, w_ite, w_tb, w_ti, w_rd, w_chk, w_chkL, w_plVal, w_plTop, w_q, w_setM, w_clr, w_setO1, w_modR, w_frz, w_var, w_non, w_bl, w_int, w_str, w_gint, w_bin, w_neg, w_inv, w_not, w_cmp, w_chn, w_isN, w_mem, w_andE, w_orE, w_ife, w_tup, w_lst, w_idx, w_eoN, w_eoS, w_slc, w_lrng1, w_fld, w_pl, w_call, w_new, w_bi, w_biP, w_isi, w_lc, w_dc, w_esN, w_esC, w_etN, w_etS, w_arE, w_arI, w_asN, w_asC, w_iE, w_iR1, w_iR2, w_pN, w_pX, w_pXX, w_pFX, w_pF, w_callF, w_oe, w_ol, w_ocall, w_onew, w_osN, w_osC, w_ssN, w_ssC, w_asg, w_asgL, w_asgO, w_app, w_set, w_fset, w_aug, w_ex, w_retE, w_retN, w_retO, w_if, w_for, w_rse, w_try, w_brk, w_cont, w_pass, w_hret, w_hunl, OptK_s, RdK_bl, RdK_int, RdK_str, RdK_non, RdK_tup, RdK_lst, RdK_dK, RdK_dT, RdK_ins, RdK_fn, RdK_scr, RdK_ol, ChkK_fz, ChkK_l, ChkK_i, ChkK_k, ChkK_t, ValK_int, ValK_bl, ValK_lst, ValK_tup, LstK_l, BlK_b, InK_i, FlK_nx, FlK_ct, FlK_bk, FlK_rt, RcK_ok, RcK_exc, LoK_nx, LoK_ct, LoK_bk, LoK_rt, c_eq, c_ne, c_eqb, c_neb, c_lt, c_gt, c_le, c_ge, c_is, c_isnt, bn_f, bn_t, b_add, b_sub, a_add, a_sub, t_ii, t_ib, t_it, t_il, t_is, t_bi, t_bb, t_bt, t_bl, t_bs, t_ti, t_tb, t_tt, t_tl, t_ts, t_li, t_lb, t_lt, t_ll, t_ls, t_ni, t_nb, t_nt, t_nl, t_ns, t_si, t_sb, t_st, t_sl, t_ss, n_i, n_b, n_t, n_l, n_s, n_n, i_lenT, i_lenL, i_lenK, i_tupL, i_tupT, i_lstL, i_lstT, i_lstS, i_intI, i_intB, i_abs, i_min2, i_max2, i_all, i_any, i_sum, x_lst, x_tup, at0, at1, at2, at3, q_tup, q_lst, g_nil, g_l0, g_l1, g_l2, g_l3, g_fz, s_l0, s_l1, s_l2, s_l3, qv_i, qv_l, qv_t, qv_s, qv_b, qq_var, qq_int, qq_pl, p_nil, p_ix, st_nm, st_tup, sn_nil, sn_cons, ta_nil, ta_d, ta_io, pb_nil, pb_c, fr_i, fr_b, fr_t, fr_l, fr_s, fr_n, fr_c, fr_k, fr_ol, fr_oc, fz_nil, fz_cons, fz_fz, ou_nil, ou_c, un_l, un_f, un_c, fin_nx, fin_rt, wp_nil, wp_c, tpL, tpT, NwK_ok, NwK_exc, m_t2, m_il, m_it, m_ik, sl_t, sl_l, Option.bind_some, Option.map_some, Option.map, List.any_cons, List.any_nil, Bool.or_self, List.getElem?_cons_zero, List.getElem?_cons_succ, List.set_cons_zero, List.set_cons_succ, List.length_cons, List.length_nil, Nat.reduceAdd, Nat.reduceLT, Nat.lt_add_one, Nat.zero_add, Int.cast_ofNat_Int, Int.reduceLE, Int.reduceLT, Int.reduceEq, Int.reduceNeg, Nat.reduceLeDiff, ↓reduceIte, Option.getD, List.nil_append, List.cons_append, decide_eq_true_eq, decide_true, decide_false, Bool.false_eq_true, Bool.not_true, Bool.not_false, Bool.and_true, Bool.and_false, Bool.true_and, Bool.or_true, Bool.or_false, and_true, true_and, and_false, false_and, not_true, not_false_eq_true, Bool.not_eq_true, decide_eq_false_iff_not, List.length_map, rF]
      refine w_lcF (fun r => decide (r.x = r.y)) (fun _ => D.int 1) rfl rfl (fun r hr => ?_) ?_
      · unfold rD
        by_cases c : r.x = r.y
        · simp only [w_bnd, w_ret, w_opt, w_fail, w_ite, w_tb, w_ti, w_rd, w_chk, w_chkL, w_plVal, w_plTop, w_q, w_setM, w_clr, w_setO1, w_modR, w_frz, w_var, w_non, w_bl, w_int, w_str, w_gint, w_bin, w_neg, w_inv, w_not, w_cmp, w_chn, w_isN, w_mem, w_andE, w_orE, w_ife, w_tup, w_lst, w_idx, w_eoN, w_eoS, w_slc, w_lrng1, w_fld, w_pl, w_call, w_new, w_bi, w_biP, w_isi, w_lc, w_dc, w_esN, w_esC, w_etN, w_etS, w_arE, w_arI, w_asN, w_asC, w_iE, w_iR1, w_iR2, w_pN, w_pX, w_pXX, w_pFX, w_pF, w_callF, w_oe, w_ol, w_ocall, w_onew, w_osN, w_osC, w_ssN, w_ssC, w_asg, w_asgL, w_asgO, w_app, w_set, w_fset, w_aug, w_ex, w_retE, w_retN, w_retO, w_if, w_for, w_rse, w_try, w_brk, w_cont, w_pass, w_hret, w_hunl, OptK_s, RdK_bl, RdK_int, RdK_str, RdK_non, RdK_tup, RdK_lst, RdK_dK, RdK_dT, RdK_ins, RdK_fn, RdK_scr, RdK_ol, ChkK_fz, ChkK_l, ChkK_i, ChkK_k, ChkK_t, ValK_int, ValK_bl, ValK_lst, ValK_tup, LstK_l, BlK_b, InK_i, FlK_nx, FlK_ct, FlK_bk, FlK_rt, RcK_ok, RcK_exc, LoK_nx, LoK_ct, LoK_bk, LoK_rt, c_eq, c_ne, c_eqb, c_neb, c_lt, c_gt, c_le, c_ge, c_is, c_isnt, bn_f, bn_t, b_add, b_sub, a_add, a_sub, t_ii, t_ib, t_it, t_il, t_is, t_bi, t_bb, t_bt, t_bl, t_bs, t_ti, t_tb, t_tt, t_tl, t_ts, t_li, t_lb, t_lt, t_ll, t_ls, t_ni, t_nb, t_nt, t_nl, t_ns, t_si, t_sb, t_st, t_sl, t_ss, n_i, n_b, n_t, n_l, n_s, n_n, i_lenT, i_lenL, i_lenK, i_tupL, i_tupT, i_lstL, i_lstT, i_lstS, i_intI, i_intB, i_abs, i_min2, i_max2, i_all, i_any, i_sum, x_lst, x_tup, at0, at1, at2, at3, q_tup, q_lst, g_nil, g_l0, g_l1, g_l2, g_l3, g_fz, s_l0, s_l1, s_l2, s_l3, qv_i, qv_l, qv_t, qv_s, qv_b, qq_var, qq_int, qq_pl, p_nil, p_ix, st_nm, st_tup, sn_nil, sn_cons, ta_nil, ta_d, ta_io, pb_nil, pb_c, fr_i, fr_b, fr_t, fr_l, fr_s, fr_n, fr_c, fr_k, fr_ol, fr_oc, fz_nil, fz_cons, fz_fz, ou_nil, ou_c, un_l, un_f, un_c, fin_nx, fin_rt, wp_nil, wp_c, tpL, tpT, NwK_ok, NwK_exc, m_t2, m_il, m_it, m_ik, sl_t, sl_l, Option.bind_some, Option.map_some, Option.map, List.any_cons, List.any_nil, Bool.or_self, List.getElem?_cons_zero, List.getElem?_cons_succ, List.set_cons_zero, List.set_cons_succ, List.length_cons, List.length_nil, Nat.reduceAdd, Nat.reduceLT, Nat.lt_add_one, Nat.zero_add, Int.cast_ofNat_Int, Int.reduceLE, Int.reduceLT, Int.reduceEq, Int.reduceNeg, Nat.reduceLeDiff, ↓reduceIte, Option.getD, List.nil_append, List.cons_append, decide_eq_true_eq, decide_true, decide_false, Bool.false_eq_true, Bool.not_true, Bool.not_false, Bool.and_true, Bool.and_false, Bool.true_and, Bool.or_true, Bool.or_false, and_true, true_and, and_false, false_and, not_true, not_false_eq_true, Bool.not_eq_true, decide_eq_false_iff_not, eq_true c]
          first | rfl | exact ⟨rfl, rfl⟩ | exact ⟨rfl, rfl, rfl⟩
        · simp only [w_bnd, w_ret, w_opt, w_fail, w_ite, w_tb, w_ti, w_rd, w_chk, w_chkL, w_plVal, w_plTop, w_q, w_setM, w_clr, w_setO1, w_modR, w_frz, w_var, w_non, w_bl, w_int, w_str, w_gint, w_bin, w_neg, w_inv, w_not, w_cmp, w_chn, w_isN, w_mem, w_andE, w_orE, w_ife, w_tup, w_lst, w_idx, w_eoN, w_eoS, w_slc, w_lrng1, w_fld, w_pl, w_call, w_new, w_bi, w_biP, w_isi, w_lc, w_dc, w_esN, w_esC, w_etN, w_etS, w_arE, w_arI, w_asN, w_asC, w_iE, w_iR1, w_iR2, w_pN, w_pX, w_pXX, w_pFX, w_pF, w_callF, w_oe, w_ol, w_ocall, w_onew, w_osN, w_osC, w_ssN, w_ssC, w_asg, w_asgL, w_asgO, w_app, w_set, w_fset, w_aug, w_ex, w_retE, w_retN, w_retO, w_if, w_for, w_rse, w_try, w_brk, w_cont, w_pass, w_hret, w_hunl, OptK_s, RdK_bl, RdK_int, RdK_str, RdK_non, RdK_tup, RdK_lst, RdK_dK, RdK_dT, RdK_ins, RdK_fn, RdK_scr, RdK_ol, ChkK_fz, ChkK_l, ChkK_i, ChkK_k, ChkK_t, ValK_int, ValK_bl, ValK_lst, ValK_tup, LstK_l, BlK_b, InK_i, FlK_nx, FlK_ct, FlK_bk, FlK_rt, RcK_ok, RcK_exc, LoK_nx, LoK_ct, LoK_bk, LoK_rt, c_eq, c_ne, c_eqb, c_neb, c_lt, c_gt, c_le, c_ge, c_is, c_isnt, bn_f, bn_t, b_add, b_sub, a_add, a_sub, t_ii, t_ib, t_it, t_il, t_is, t_bi, t_bb, t_bt, t_bl, t_bs, t_ti, t_tb, t_tt, t_tl, t_ts, t_li, t_lb, t_lt, t_ll, t_ls, t_ni, t_nb, t_nt, t_nl, t_ns, t_si, t_sb, t_st, t_sl, t_ss, n_i, n_b, n_t, n_l, n_s, n_n, i_lenT, i_lenL, i_lenK, i_tupL, i_tupT, i_lstL, i_lstT, i_lstS, i_intI, i_intB, i_abs, i_min2, i_max2, i_all, i_any, i_sum, x_lst, x_tup, at0, at1, at2, at3, q_tup, q_lst, g_nil, g_l0, g_l1, g_l2, g_l3, g_fz, s_l0, s_l1, s_l2, s_l3, qv_i, qv_l, qv_t, qv_s, qv_b, qq_var, qq_int, qq_pl, p_nil, p_ix, st_nm, st_tup, sn_nil, sn_cons, ta_nil, ta_d, ta_io, pb_nil, pb_c, fr_i, fr_b, fr_t, fr_l, fr_s, fr_n, fr_c, fr_k, fr_ol, fr_oc, fz_nil, fz_cons, fz_fz, ou_nil, ou_c, un_l, un_f, un_c, fin_nx, fin_rt, wp_nil, wp_c, tpL, tpT, NwK_ok, NwK_exc, m_t2, m_il, m_it, m_ik, sl_t, sl_l, Option.bind_some, Option.map_some, Option.map, List.any_cons, List.any_nil, Bool.or_self, List.getElem?_cons_zero, List.getElem?_cons_succ, List.set_cons_zero, List.set_cons_succ, List.length_cons, List.length_nil, Nat.reduceAdd, Nat.reduceLT, Nat.lt_add_one, Nat.zero_add, Int.cast_ofNat_Int, Int.reduceLE, Int.reduceLT, Int.reduceEq, Int.reduceNeg, Nat.reduceLeDiff, ↓reduceIte, Option.getD, List.nil_append, List.cons_append, decide_eq_true_eq, decide_true, decide_false, Bool.false_eq_true, Bool.not_true, Bool.not_false, Bool.and_true, Bool.and_false, Bool.true_and, Bool.or_true, Bool.or_false, and_true, true_and, and_false, false_and, not_true, not_false_eq_true, Bool.not_eq_true, decide_eq_false_iff_not, c]
          first | rfl | exact ⟨rfl, rfl⟩ | exact ⟨rfl, rfl, rfl⟩
      simp only [w_bnd, w_ret, w_opt, w_fail, w_ite, w_tb, w_ti, w_rd, w_chk, w_chkL, w_plVal, w_plTop, w_q, w_setM, w_clr, w_setO1, w_modR, w_frz, w_var, w_non, w_bl, w_int, w_str, w_gint, w_bin, w_neg, w_inv, w_not, w_cmp, w_chn, w_isN, w_mem, w_andE, w_orE, w_ife, w_tup, w_lst, w_idx, w_eoN, w_eoS, w_slc, w_lrng1, w_fld, w_pl, w_call, w_new, w_bi, w_biP, w_isi, w_lc, w_dc, w_esN, w_esC, w_etN, w_etS, w_arE, w_arI, w_asN, w_asC, w_iE, w_iR1, w_iR2, w_pN, w_pX, w_pXX, w_pFX, w_pF, w_callF, w_oe, w_ol, w_ocall, w_onew, w_osN, w_osC, w_ssN, w_ssC, w_asg, w_asgL, w_asgO, w_app, w_set, w_fset, w_aug, w_ex, w_retE, w_retN, w_retO, w_if, w_for, w_rse, w_try, w_brk, w_cont, w_pass, w_hret, w_hunl, OptK_s, RdK_bl, RdK_int, RdK_str, RdK_non, RdK_tup, RdK_lst, RdK_dK, RdK_dT, RdK_ins, RdK_fn, RdK_scr, RdK_ol, ChkK_fz, ChkK_l, ChkK_i, ChkK_k, ChkK_t, ValK_int, ValK_bl, ValK_lst, ValK_tup, LstK_l, BlK_b, InK_i, FlK_nx, FlK_ct, FlK_bk, FlK_rt, RcK_ok, RcK_exc, LoK_nx, LoK_ct, LoK_bk, LoK_rt, c_eq, c_ne, c_eqb, c_neb, c_lt, c_gt, c_le, c_ge, c_is, c_isnt, bn_f, bn_t, b_add, b_sub, a_add, a_sub, t_ii, t_ib, t_it, t_il, t_is, t_bi, t_bb, t_bt, t_bl, t_bs, t_ti, t_tb, t_tt, t_tl, t_ts, t_li, t_lb, t_lt, t_ll, t_ls, t_ni, t_nb, t_nt, t_nl, t_ns, t_si, t_sb, t_st, t_sl, t_ss, n_i, n_b, n_t, n_l, n_s, n_n, i_lenT, i_lenL, i_lenK, i_tupL, i_tupT, i_lstL, i_lstT, i_lstS, i_intI, i_intB, i_abs, i_min2, i_max2, i_all, i_any, i_sum, x_lst, x_tup, at0, at1, at2, at3, q_tup, q_lst, g_nil, g_l0, g_l1, g_l2, g_l3, g_fz, s_l0, s_l1, s_l2, s_l3, qv_i, qv_l, qv_t, qv_s, qv_b, qq_var, qq_int, qq_pl, p_nil, p_ix, st_nm, st_tup, sn_nil, sn_cons, ta_nil, ta_d, ta_io, pb_nil, pb_c, fr_i, fr_b, fr_t, fr_l, fr_s, fr_n, fr_c, fr_k, fr_ol, fr_oc, fz_nil, fz_cons, fz_fz, ou_nil, ou_c, un_l, un_f, un_c, fin_nx, fin_rt, wp_nil, wp_c, tpL, tpT, NwK_ok, NwK_exc, m_t2, m_il, m_it, m_ik, sl_t, sl_l, Option.bind_some, Option.map_some, Option.map, List.any_cons, List.any_nil, Bool.or_self, List.getElem?_cons_zero, List.getElem?_cons_succ, List.set_cons_zero, List.set_cons_succ, List.length_cons, List.length_nil, Nat.reduceAdd, Nat.reduceLT, Nat.lt_add_one, Nat.zero_add, Int.cast_ofNat_Int, Int.reduceLE, Int.reduceLT, Int.reduceEq, Int.reduceNeg, Nat.reduceLeDiff, ↓reduceIte, Option.getD, List.nil_append, List.cons_append, decide_eq_true_eq, decide_true, decide_false, Bool.false_eq_true, Bool.not_true, Bool.not_false, Bool.and_true, Bool.and_false, Bool.true_and, Bool.or_true, Bool.or_false, and_true, true_and, and_false, false_and, not_true, not_false_eq_true, Bool.not_eq_true, decide_eq_false_iff_not, List.length_map, rF]
      refine w_lcM (fun r => D.int r.x) rfl rfl (fun r hr => ?_) ?_
      · unfold rD
        simp only [w_bnd, w_ret, w_opt, w_fail, w_ite, w_tb, w_ti, w_rd, w_chk, w_chkL, w_plVal, w_plTop, w_q, w_setM, w_clr, w_setO1, w_modR, w_frz, w_var, w_non, w_bl, w_int, w_str, w_gint, w_bin, w_neg, w_inv, w_not, w_cmp, w_chn, w_isN, w_mem, w_andE, w_orE, w_ife, w_tup, w_lst, w_idx, w_eoN, w_eoS, w_slc, w_lrng1, w_fld, w_pl, w_call, w_new, w_bi, w_biP, w_isi, w_lc, w_dc, w_esN, w_esC, w_etN, w_etS, w_arE, w_arI, w_asN, w_asC, w_iE, w_iR1, w_iR2, w_pN, w_pX, w_pXX, w_pFX, w_pF, w_callF, w_oe, w_ol, w_ocall, w_onew, w_osN, w_osC, w_ssN, w_ssC, w_asg, w_asgL, w_asgO, w_app, w_set, w_fset, w_aug, w_ex, w_retE, w_retN, w_retO, w_if, w_for, w_rse, w_try, w_brk, w_cont, w_pass, w_hret, w_hunl, OptK_s, RdK_bl, RdK_int, RdK_str, RdK_non, RdK_tup, RdK_lst, RdK_dK, RdK_dT, RdK_ins, RdK_fn, RdK_scr, RdK_ol, ChkK_fz, ChkK_l, ChkK_i, ChkK_k, ChkK_t, ValK_int, ValK_bl, ValK_lst, ValK_tup, LstK_l, BlK_b, InK_i, FlK_nx, FlK_ct, FlK_bk, FlK_rt, RcK_ok, RcK_exc, LoK_nx, LoK_ct, LoK_bk, LoK_rt, c_eq, c_ne, c_eqb, c_neb, c_lt, c_gt, c_le, c_ge, c_is, c_isnt, bn_f, bn_t, b_add, b_sub, a_add, a_sub, t_ii, t_ib, t_it, t_il, t_is, t_bi, t_bb, t_bt, t_bl, t_bs, t_ti, t_tb, t_tt, t_tl, t_ts, t_li, t_lb, t_lt, t_ll, t_ls, t_ni, t_nb, t_nt, t_nl, t_ns, t_si, t_sb, t_st, t_sl, t_ss, n_i, n_b, n_t, n_l, n_s, n_n, i_lenT, i_lenL, i_lenK, i_tupL, i_tupT, i_lstL, i_lstT, i_lstS, i_intI, i_intB, i_abs, i_min2, i_max2, i_all, i_any, i_sum, x_lst, x_tup, at0, at1, at2, at3, q_tup, q_lst, g_nil, g_l0, g_l1, g_l2, g_l3, g_fz, s_l0, s_l1, s_l2, s_l3, qv_i, qv_l, qv_t, qv_s, qv_b, qq_var, qq_int, qq_pl, p_nil, p_ix, st_nm, st_tup, sn_nil, sn_cons, ta_nil, ta_d, ta_io, pb_nil, pb_c, fr_i, fr_b, fr_t, fr_l, fr_s, fr_n, fr_c, fr_k, fr_ol, fr_oc, fz_nil, fz_cons, fz_fz, ou_nil, ou_c, un_l, un_f, un_c, fin_nx, fin_rt, wp_nil, wp_c, tpL, tpT, NwK_ok, NwK_exc, m_t2, m_il, m_it, m_ik, sl_t, sl_l, Option.bind_some, Option.map_some, Option.map, List.any_cons, List.any_nil, Bool.or_self, List.getElem?_cons_zero, List.getElem?_cons_succ, List.set_cons_zero, List.set_cons_succ, List.length_cons, List.length_nil, Nat.reduceAdd, Nat.reduceLT, Nat.lt_add_one, Nat.zero_add, Int.cast_ofNat_Int, Int.reduceLE, Int.reduceLT, Int.reduceEq, Int.reduceNeg, Nat.reduceLeDiff, ↓reduceIte, Option.getD, List.nil_append, List.cons_append, decide_eq_true_eq, decide_true, decide_false, Bool.false_eq_true, Bool.not_true, Bool.not_false, Bool.and_true, Bool.and_false, Bool.true_and, Bool.or_true, Bool.or_false, and_true, true_and, and_false, false_and, not_true, not_false_eq_true, Bool.not_eq_true, decide_eq_false_iff_not]
        first | rfl | exact ⟨rfl, rfl⟩ | exact ⟨rfl, rfl, rfl⟩
      simp only [w_bnd, w_ret, w_opt, w_fail, w_ite, w_tb, w_ti, w_rd, w_chk, w_chkL, w_plVal, w_plTop, w_q, w_setM, w_clr, w_setO1, w_modR, w_frz, w_var, w_non, w_bl, w_int, w_str, w_gint, w_bin, w_neg, w_inv, w_not, w_cmp, w_chn, w_isN, w_mem, w_andE, w_orE, w_ife, w_tup, w_lst, w_idx, w_eoN, w_eoS, w_slc, w_lrng1, w_fld, w_pl, w_call, w_new, w_bi, w_biP, w_isi, w_lc, w_dc, w_esN, w_esC, w_etN, w_etS, w_arE, w_arI, w_asN, w_asC, w_iE, w_iR1, w_iR2, w_pN, w_pX, w_pXX, w_pFX, w_pF, w_callF, w_oe, w_ol, w_ocall, w_onew, w_osN, w_osC, w_ssN, w_ssC, w_asg, w_asgL, w_asgO, w_app, w_set, w_fset, w_aug, w_ex, w_retE, w_retN, w_retO, w_if, w_for, w_rse, w_try, w_brk, w_cont, w_pass, w_hret, w_hunl, OptK_s, RdK_bl, RdK_int, RdK_str, RdK_non, RdK_tup, RdK_lst, RdK_dK, RdK_dT, RdK_ins, RdK_fn, RdK_scr, RdK_ol, ChkK_fz, ChkK_l, ChkK_i, ChkK_k, ChkK_t, ValK_int, ValK_bl, ValK_lst, ValK_tup, LstK_l, BlK_b, InK_i, FlK_nx, FlK_ct, FlK_bk, FlK_rt, RcK_ok, RcK_exc, LoK_nx, LoK_ct, LoK_bk, LoK_rt, c_eq, c_ne, c_eqb, c_neb, c_lt, c_gt, c_le, c_ge, c_is, c_isnt, bn_f, bn_t, b_add, b_sub, a_add, a_sub, t_ii, t_ib, t_it, t_il, t_is, t_bi, t_bb, t_bt, t_bl, t_bs, t_ti, t_tb, t_tt, t_tl, t_ts, t_li, t_lb, t_lt, t_ll, t_ls, t_ni, t_nb, t_nt, t_nl, t_ns, t_si, t_sb, t_st, t_sl, t_ss, n_i, n_b, n_t, n_l, n_s, n_n, i_lenT, i_lenL, i_lenK, i_tupL, i_tupT, i_lstL, i_lstT, i_lstS, i_intI, i_intB, i_abs, i_min2, i_max2, i_all, i_any, i_sum, x_lst, x_tup, at0, at1, at2, at3, q_tup, q_lst, g_nil, g_l0, g_l1, g_l2, g_l3, g_fz, s_l0, s_l1, s_l2, s_l3, qv_i, qv_l, qv_t, qv_s, qv_b, qq_var, qq_int, qq_pl, p_nil, p_ix, st_nm, st_tup, sn_nil, sn_cons, ta_nil, ta_d, ta_io, pb_nil, pb_c, fr_i, fr_b, fr_t, fr_l, fr_s, fr_n, fr_c, fr_k, fr_ol, fr_oc, fz_nil, fz_cons, fz_fz, ou_nil, ou_c, un_l, un_f, un_c, fin_nx, fin_rt, wp_nil, wp_c, tpL, tpT, NwK_ok, NwK_exc, m_t2, m_il, m_it, m_ik, sl_t, sl_l, Option.bind_some, Option.map_some, Option.map, List.any_cons, List.any_nil, Bool.or_self, List.getElem?_cons_zero, List.getElem?_cons_succ, List.set_cons_zero, List.set_cons_succ, List.length_cons, List.length_nil, Nat.reduceAdd, Nat.reduceLT, Nat.lt_add_one, Nat.zero_add, Int.cast_ofNat_Int, Int.reduceLE, Int.reduceLT, Int.reduceEq, Int.reduceNeg, Nat.reduceLeDiff, ↓reduceIte, Option.getD, List.nil_append, List.cons_append, decide_eq_true_eq, decide_true, decide_false, Bool.false_eq_true, Bool.not_true, Bool.not_false, Bool.and_true, Bool.and_false, Bool.true_and, Bool.or_true, Bool.or_false, and_true, true_and, and_false, false_and, not_true, not_false_eq_true, Bool.not_eq_true, decide_eq_false_iff_not, List.length_map, rl]
      refine w_lcM (fun r => D.int r.y) rfl rfl (fun r hr => ?_) ?_
      · unfold rD
        simp only [w_bnd, w_ret, w_opt, w_fail, w_ite, w_tb, w_ti, w_rd, w_chk, w_chkL, w_plVal, w_plTop, w_q, w_setM, w_clr, w_setO1, w_modR, w_frz, w_var, w_non, w_bl, w_int, w_str, w_gint, w_bin, w_neg, w_inv, w_not, w_cmp, w_chn, w_isN, w_mem, w_andE, w_orE, w_ife, w_tup, w_lst, w_idx, w_eoN, w_eoS, w_slc, w_lrng1, w_fld, w_pl, w_call, w_new, w_bi, w_biP, w_isi, w_lc, w_dc, w_esN, w_esC, w_etN, w_etS, w_arE, w_arI, w_asN, w_asC, w_iE, w_iR1, w_iR2, w_pN, w_pX, w_pXX, w_pFX, w_pF, w_callF, w_oe, w_ol, w_ocall, w_onew, w_osN, w_osC, w_ssN, w_ssC, w_asg, w_asgL, w_asgO, w_app, w_set, w_fset, w_aug, w_ex, w_retE, w_retN, w_retO, w_if, w_for, w_rse, w_try, w_brk, w_cont, w_pass, w_hret, w_hunl, OptK_s, RdK_bl, RdK_int, RdK_str, RdK_non, RdK_tup, RdK_lst, RdK_dK, RdK_dT, RdK_ins, RdK_fn, RdK_scr, RdK_ol, ChkK_fz, ChkK_l, ChkK_i, ChkK_k, ChkK_t, ValK_int, ValK_bl, ValK_lst, ValK_tup, LstK_l, BlK_b, InK_i, FlK_nx, FlK_ct, FlK_bk, FlK_rt, RcK_ok, RcK_exc, LoK_nx, LoK_ct, LoK_bk, LoK_rt, c_eq, c_ne, c_eqb, c_neb, c_lt, c_gt, c_le, c_ge, c_is, c_isnt, bn_f, bn_t, b_add, b_sub, a_add, a_sub, t_ii, t_ib, t_it, t_il, t_is, t_bi, t_bb, t_bt, t_bl, t_bs, t_ti, t_tb, t_tt, t_tl, t_ts, t_li, t_lb, t_lt, t_ll, t_ls, t_ni, t_nb, t_nt, t_nl, t_ns, t_si, t_sb, t_st, t_sl, t_ss, n_i, n_b, n_t, n_l, n_s, n_n, i_lenT, i_lenL, i_lenK, i_tupL, i_tupT, i_lstL, i_lstT, i_lstS, i_intI, i_intB, i_abs, i_min2, i_max2, i_all, i_any, i_sum, x_lst, x_tup, at0, at1, at2, at3, q_tup, q_lst, g_nil, g_l0, g_l1, g_l2, g_l3, g_fz, s_l0, s_l1, s_l2, s_l3, qv_i, qv_l, qv_t, qv_s, qv_b, qq_var, qq_int, qq_pl, p_nil, p_ix, st_nm, st_tup, sn_nil, sn_cons, ta_nil, ta_d, ta_io, pb_nil, pb_c, fr_i, fr_b, fr_t, fr_l, fr_s, fr_n, fr_c, fr_k, fr_ol, fr_oc, fz_nil, fz_cons, fz_fz, ou_nil, ou_c, un_l, un_f, un_c, fin_nx, fin_rt, wp_nil, wp_c, tpL, tpT, NwK_ok, NwK_exc, m_t2, m_il, m_it, m_ik, sl_t, sl_l, Option.bind_some, Option.map_some, Option.map, List.any_cons, List.any_nil, Bool.or_self, List.getElem?_cons_zero, List.getElem?_cons_succ, List.set_cons_zero, List.set_cons_succ, List.length_cons, List.length_nil, Nat.reduceAdd, Nat.reduceLT, Nat.lt_add_one, Nat.zero_add, Int.cast_ofNat_Int, Int.reduceLE, Int.reduceLT, Int.reduceEq, Int.reduceNeg, Nat.reduceLeDiff, ↓reduceIte, Option.getD, List.nil_append, List.cons_append, decide_eq_true_eq, decide_true, decide_false, Bool.false_eq_true, Bool.not_true, Bool.not_false, Bool.and_true, Bool.and_false, Bool.true_and, Bool.or_true, Bool.or_false, and_true, true_and, and_false, false_and, not_true, not_false_eq_true, Bool.not_eq_true, decide_eq_false_iff_not]
        first | rfl | exact ⟨rfl, rfl⟩ | exact ⟨rfl, rfl, rfl⟩
      simp only [w_bnd, w_ret, w_opt, w_fail, w_ite, w_tb, w_ti, w_rd, w_chk, w_chkL, w_plVal, w_plTop, w_q, w_setM, w_clr, w_setO1, w_modR, w_frz, w_var, w_non, w_bl, w_int, w_str, w_gint, w_bin, w_neg, w_inv, w_not, w_cmp, w_chn, w_isN, w_mem, w_andE, w_orE, w_ife, w_tup, w_lst, w_idx, w_eoN, w_eoS, w_slc, w_lrng1, w_fld, w_pl, w_call, w_new, w_bi, w_biP, w_isi, w_lc, w_dc, w_esN, w_esC, w_etN, w_etS, w_arE, w_arI, w_asN, w_asC, w_iE, w_iR1, w_iR2, w_pN, w_pX, w_pXX, w_pFX, w_pF, w_callF, w_oe, w_ol, w_ocall, w_onew, w_osN, w_osC, w_ssN, w_ssC, w_asg, w_asgL, w_asgO, w_app, w_set, w_fset, w_aug, w_ex, w_retE, w_retN, w_retO, w_if, w_for, w_rse, w_try, w_brk, w_cont, w_pass, w_hret, w_hunl, OptK_s, RdK_bl, RdK_int, RdK_str, RdK_non, RdK_tup, RdK_lst, RdK_dK, RdK_dT, RdK_ins, RdK_fn, RdK_scr, RdK_ol, ChkK_fz, ChkK_l, ChkK_i, ChkK_k, ChkK_t, ValK_int, ValK_bl, ValK_lst, ValK_tup, LstK_l, BlK_b, InK_i, FlK_nx, FlK_ct, FlK_bk, FlK_rt, RcK_ok, RcK_exc, LoK_nx, LoK_ct, LoK_bk, LoK_rt, c_eq, c_ne, c_eqb, c_neb, c_lt, c_gt, c_le, c_ge, c_is, c_isnt, bn_f, bn_t, b_add, b_sub, a_add, a_sub, t_ii, t_ib, t_it, t_il, t_is, t_bi, t_bb, t_bt, t_bl, t_bs, t_ti, t_tb, t_tt, t_tl, t_ts, t_li, t_lb, t_lt, t_ll, t_ls, t_ni, t_nb, t_nt, t_nl, t_ns, t_si, t_sb, t_st, t_sl, t_ss, n_i, n_b, n_t, n_l, n_s, n_n, i_lenT, i_lenL, i_lenK, i_tupL, i_tupT, i_lstL, i_lstT, i_lstS, i_intI, i_intB, i_abs, i_min2, i_max2, i_all, i_any, i_sum, x_lst, x_tup, at0, at1, at2, at3, q_tup, q_lst, g_nil, g_l0, g_l1, g_l2, g_l3, g_fz, s_l0, s_l1, s_l2, s_l3, qv_i, qv_l, qv_t, qv_s, qv_b, qq_var, qq_int, qq_pl, p_nil, p_ix, st_nm, st_tup, sn_nil, sn_cons, ta_nil, ta_d, ta_io, pb_nil, pb_c, fr_i, fr_b, fr_t, fr_l, fr_s, fr_n, fr_c, fr_k, fr_ol, fr_oc, fz_nil, fz_cons, fz_fz, ou_nil, ou_c, un_l, un_f, un_c, fin_nx, fin_rt, wp_nil, wp_c, tpL, tpT, NwK_ok, NwK_exc, m_t2, m_il, m_it, m_ik, sl_t, sl_l, Option.bind_some, Option.map_some, Option.map, List.any_cons, List.any_nil, Bool.or_self, List.getElem?_cons_zero, List.getElem?_cons_succ, List.set_cons_zero, List.set_cons_succ, List.length_cons, List.length_nil, Nat.reduceAdd, Nat.reduceLT, Nat.lt_add_one, Nat.zero_add, Int.cast_ofNat_Int, Int.reduceLE, Int.reduceLT, Int.reduceEq, Int.reduceNeg, Nat.reduceLeDiff, ↓reduceIte, Option.getD, List.nil_append, List.cons_append, decide_eq_true_eq, decide_true, decide_false, Bool.false_eq_true, Bool.not_true, Bool.not_false, Bool.and_true, Bool.and_false, Bool.true_and, Bool.or_true, Bool.or_false, and_true, true_and, and_false, false_and, not_true, not_false_eq_true, Bool.not_eq_true, decide_eq_false_iff_not, List.length_map, rl, RdK_d vd_ne, L35.v0, L35.v1, L35.v2, mul_r ku, mul_r kv, mul_r kw, ap_l hll]
      refine ⟨.fz (.int i), _, _, _, _, rfl, by rw [List.map_append, List.map_singleton, hrs]; rfl⟩
    obtain ⟨y10, y13, y14, y18, y19, hy10, rfl⟩ := hI
    have eP : run P 11 6 [.fz (resD s gs), .fz (vD u v w)] = .ok (.fz (.tup ((rgI s.toNat).map fun i => .int (ptsOf u v w (ownR (pr s) i gs))))) [] := points_of_ok' 8 (by omega) (by omega) hna (by omega)
    have eL : ∀ i, 0 ≤ i ∧ i < s → run P 11 7 [.fz (resD s gs), .fz (.int i), .fz (vD u v w)] = .ok (.fz (lineD u v w (ownR (pr s) i gs))) [] := fun i hi => line_of_ok 8 (by omega) (by omega) hi ku kv kw hna (by omega)
    have rl : (rgI s.toNat).length ≤ 100000 := by rw [rgI_len]; omega
    have eS := same3 (okS_l2 (okS_ints (k := 1) (g := fun i => ptsOf u v w (ownR (pr s) i gs)) rl) (okS_lines (k := 0) (u := u) (v := v) (w := w) (s := s) (gs := gs) (by omega)))
    simp only [w_bnd, w_ret, w_opt, w_fail, w_ite, w_tb, w_ti, w_rd, w_chk, w_chkL, w_plVal, w_plTop, w_q, w_setM, w_clr, w_setO1, w_modR, w_frz, w_var, w_non, w_bl, w_int, w_str, w_gint, w_bin, w_neg, w_inv, w_not, w_cmp, w_chn, w_isN, w_mem, w_andE, w_orE, w_ife, w_tup, w_lst, w_idx, w_eoN, w_eoS, w_slc, w_lrng1, w_fld, w_pl, w_call, w_new, w_bi, w_biP, w_isi, w_lc, w_dc, w_esN, w_esC, w_etN, w_etS, w_arE, w_arI, w_asN, w_asC, w_iE, w_iR1, w_iR2, w_pN, w_pX, w_pXX, w_pFX, w_pF, w_callF, w_oe, w_ol, w_ocall, w_onew, w_osN, w_osC, w_ssN, w_ssC, w_asg, w_asgL, w_asgO, w_app, w_set, w_fset, w_aug, w_ex, w_retE, w_retN, w_retO, w_if, w_for, w_rse, w_try, w_brk, w_cont, w_pass, w_hret, w_hunl, OptK_s, RdK_bl, RdK_int, RdK_str, RdK_non, RdK_tup, RdK_lst, RdK_dK, RdK_dT, RdK_ins, RdK_fn, RdK_scr, RdK_ol, ChkK_fz, ChkK_l, ChkK_i, ChkK_k, ChkK_t, ValK_int, ValK_bl, ValK_lst, ValK_tup, LstK_l, BlK_b, InK_i, FlK_nx, FlK_ct, FlK_bk, FlK_rt, RcK_ok, RcK_exc, LoK_nx, LoK_ct, LoK_bk, LoK_rt, c_eq, c_ne, c_eqb, c_neb, c_lt, c_gt, c_le, c_ge, c_is, c_isnt, bn_f, bn_t, b_add, b_sub, a_add, a_sub, t_ii, t_ib, t_it, t_il, t_is, t_bi, t_bb, t_bt, t_bl, t_bs, t_ti, t_tb, t_tt, t_tl, t_ts, t_li, t_lb, t_lt, t_ll, t_ls, t_ni, t_nb, t_nt, t_nl, t_ns, t_si, t_sb, t_st, t_sl, t_ss, n_i, n_b, n_t, n_l, n_s, n_n, i_lenT, i_lenL, i_lenK, i_tupL, i_tupT, i_lstL, i_lstT, i_lstS, i_intI, i_intB, i_abs, i_min2, i_max2, i_all, i_any, i_sum, x_lst, x_tup, at0, at1, at2, at3, q_tup, q_lst, g_nil, g_l0, g_l1, g_l2, g_l3, g_fz, s_l0, s_l1, s_l2, s_l3, qv_i, qv_l, qv_t, qv_s, qv_b, qq_var, qq_int, qq_pl, p_nil, p_ix, st_nm, st_tup, sn_nil, sn_cons, ta_nil, ta_d, ta_io, pb_nil, pb_c, fr_i, fr_b, fr_t, fr_l, fr_s, fr_n, fr_c, fr_k, fr_ol, fr_oc, fz_nil, fz_cons, fz_fz, ou_nil, ou_c, un_l, un_f, un_c, fin_nx, fin_rt, wp_nil, wp_c, tpL, tpT, NwK_ok, NwK_exc, m_t2, m_il, m_it, m_ik, sl_t, sl_l, Option.bind_some, Option.map_some, Option.map, List.any_cons, List.any_nil, Bool.or_self, List.getElem?_cons_zero, List.getElem?_cons_succ, List.set_cons_zero, List.set_cons_succ, List.length_cons, List.length_nil, Nat.reduceAdd, Nat.reduceLT, Nat.lt_add_one, Nat.zero_add, Int.cast_ofNat_Int, Int.reduceLE, Int.reduceLT, Int.reduceEq, Int.reduceNeg, Nat.reduceLeDiff, ↓reduceIte, Option.getD, List.nil_append, List.cons_append, decide_eq_true_eq, decide_true, decide_false, Bool.false_eq_true, Bool.not_true, Bool.not_false, Bool.and_true, Bool.and_false, Bool.true_and, Bool.or_true, Bool.or_false, and_true, true_and, and_false, false_and, not_true, not_false_eq_true, Bool.not_eq_true, decide_eq_false_iff_not, RdK_res, RdK_d vd_ne, eP, rg_i (n := s) (by omega) (by omega)]
    refine w_lcM (fun i => lineD u v w (ownR (pr s) i gs)) (by simp only [w_bnd, w_ret, w_opt, w_fail, w_ite, w_tb, w_ti, w_rd, w_chk, w_chkL, w_plVal, w_plTop, w_q, w_setM, w_clr, w_setO1, w_modR, w_frz, w_var, w_non, w_bl, w_int, w_str, w_gint, w_bin, w_neg, w_inv, w_not, w_cmp, w_chn, w_isN, w_mem, w_andE, w_orE, w_ife, w_tup, w_lst, w_idx, w_eoN, w_eoS, w_slc, w_lrng1, w_fld, w_pl, w_call, w_new, w_bi, w_biP, w_isi, w_lc, w_dc, w_esN, w_esC, w_etN, w_etS, w_arE, w_arI, w_asN, w_asC, w_iE, w_iR1, w_iR2, w_pN, w_pX, w_pXX, w_pFX, w_pF, w_callF, w_oe, w_ol, w_ocall, w_onew, w_osN, w_osC, w_ssN, w_ssC, w_asg, w_asgL, w_asgO, w_app, w_set, w_fset, w_aug, w_ex, w_retE, w_retN, w_retO, w_if, w_for, w_rse, w_try, w_brk, w_cont, w_pass, w_hret, w_hunl, OptK_s, RdK_bl, RdK_int, RdK_str, RdK_non, RdK_tup, RdK_lst, RdK_dK, RdK_dT, RdK_ins, RdK_fn, RdK_scr, RdK_ol, ChkK_fz, ChkK_l, ChkK_i, ChkK_k, ChkK_t, ValK_int, ValK_bl, ValK_lst, ValK_tup, LstK_l, BlK_b, InK_i, FlK_nx, FlK_ct, FlK_bk, FlK_rt, RcK_ok, RcK_exc, LoK_nx, LoK_ct, LoK_bk, LoK_rt, c_eq, c_ne, c_eqb, c_neb, c_lt, c_gt, c_le, c_ge, c_is, c_isnt, bn_f, bn_t, b_add, b_sub, a_add, a_sub, t_ii, t_ib, t_it, t_il, t_is, t_bi, t_bb, t_bt, t_bl, t_bs, t_ti, t_tb, t_tt, t_tl, t_ts, t_li, t_lb, t_lt, t_ll, t_ls, t_ni, t_nb, t_nt, t_nl, t_ns, t_si, t_sb, t_st, t_sl, t_ss, n_i, n_b, n_t, n_l, n_s, n_n, i_lenT, i_lenL, i_lenK, i_tupL, i_tupT, i_lstL, i_lstT, i_lstS, i_intI, i_intB, i_abs, i_min2, i_max2, i_all, i_any, i_sum, x_lst, x_tup, at0, at1, at2, at3, q_tup, q_lst, g_nil, g_l0, g_l1, g_l2, g_l3, g_fz, s_l0, s_l1, s_l2, s_l3, qv_i, qv_l, qv_t, qv_s, qv_b, qq_var, qq_int, qq_pl, p_nil, p_ix, st_nm, st_tup, sn_nil, sn_cons, ta_nil, ta_d, ta_io, pb_nil, pb_c, fr_i, fr_b, fr_t, fr_l, fr_s, fr_n, fr_c, fr_k, fr_ol, fr_oc, fz_nil, fz_cons, fz_fz, ou_nil, ou_c, un_l, un_f, un_c, fin_nx, fin_rt, wp_nil, wp_c, tpL, tpT, NwK_ok, NwK_exc, m_t2, m_il, m_it, m_ik, sl_t, sl_l, Option.bind_some, Option.map_some, Option.map, List.any_cons, List.any_nil, Bool.or_self, List.getElem?_cons_zero, List.getElem?_cons_succ, List.set_cons_zero, List.set_cons_succ, List.length_cons, List.length_nil, Nat.reduceAdd, Nat.reduceLT, Nat.lt_add_one, Nat.zero_add, Int.cast_ofNat_Int, Int.reduceLE, Int.reduceLT, Int.reduceEq, Int.reduceNeg, Nat.reduceLeDiff, ↓reduceIte, Option.getD, List.nil_append, List.cons_append, decide_eq_true_eq, decide_true, decide_false, Bool.false_eq_true, Bool.not_true, Bool.not_false, Bool.and_true, Bool.and_false, Bool.true_and, Bool.or_true, Bool.or_false, and_true, true_and, and_false, false_and, not_true, not_false_eq_true, Bool.not_eq_true, decide_eq_false_iff_not, w_blockE, w_lC, w_lN, w_fC, w_fN, cw_nil, cw_c, io_un, io_fz, bk_nil, bk_c, i_allC, i_anyC, i_sumC, bls_nil, bls_c, intL_nil, intL_c, List.all_cons, List.all_nil, id_eq, Option.getD_some, Option.getD_none, hy10]) rfl (fun i hi => ?_) ?_
    · have hi' := rgI_mem.mp hi
      simp only [w_bnd, w_ret, w_opt, w_fail, w_ite, w_tb, w_ti, w_rd, w_chk, w_chkL, w_plVal, w_plTop, w_q, w_setM, w_clr, w_setO1, w_modR, w_frz, w_var, w_non, w_bl, w_int, w_str, w_gint, w_bin, w_neg, w_inv, w_not, w_cmp, w_chn, w_isN, w_mem, w_andE, w_orE, w_ife, w_tup, w_lst, w_idx, w_eoN, w_eoS, w_slc, w_lrng1, w_fld, w_pl, w_call, w_new, w_bi, w_biP, w_isi, w_lc, w_dc, w_esN, w_esC, w_etN, w_etS, w_arE, w_arI, w_asN, w_asC, w_iE, w_iR1, w_iR2, w_pN, w_pX, w_pXX, w_pFX, w_pF, w_callF, w_oe, w_ol, w_ocall, w_onew, w_osN, w_osC, w_ssN, w_ssC, w_asg, w_asgL, w_asgO, w_app, w_set, w_fset, w_aug, w_ex, w_retE, w_retN, w_retO, w_if, w_for, w_rse, w_try, w_brk, w_cont, w_pass, w_hret, w_hunl, OptK_s, RdK_bl, RdK_int, RdK_str, RdK_non, RdK_tup, RdK_lst, RdK_dK, RdK_dT, RdK_ins, RdK_fn, RdK_scr, RdK_ol, ChkK_fz, ChkK_l, ChkK_i, ChkK_k, ChkK_t, ValK_int, ValK_bl, ValK_lst, ValK_tup, LstK_l, BlK_b, InK_i, FlK_nx, FlK_ct, FlK_bk, FlK_rt, RcK_ok, RcK_exc, LoK_nx, LoK_ct, LoK_bk, LoK_rt, c_eq, c_ne, c_eqb, c_neb, c_lt, c_gt, c_le, c_ge, c_is, c_isnt, bn_f, bn_t, b_add, b_sub, a_add, a_sub, t_ii, t_ib, t_it, t_il, t_is, t_bi, t_bb, t_bt, t_bl, t_bs, t_ti, t_tb, t_tt, t_tl, t_ts, t_li, t_lb, t_lt, t_ll, t_ls, t_ni, t_nb, t_nt, t_nl, t_ns, t_si, t_sb, t_st, t_sl, t_ss, n_i, n_b, n_t, n_l, n_s, n_n, i_lenT, i_lenL, i_lenK, i_tupL, i_tupT, i_lstL, i_lstT, i_lstS, i_intI, i_intB, i_abs, i_min2, i_max2, i_all, i_any, i_sum, x_lst, x_tup, at0, at1, at2, at3, q_tup, q_lst, g_nil, g_l0, g_l1, g_l2, g_l3, g_fz, s_l0, s_l1, s_l2, s_l3, qv_i, qv_l, qv_t, qv_s, qv_b, qq_var, qq_int, qq_pl, p_nil, p_ix, st_nm, st_tup, sn_nil, sn_cons, ta_nil, ta_d, ta_io, pb_nil, pb_c, fr_i, fr_b, fr_t, fr_l, fr_s, fr_n, fr_c, fr_k, fr_ol, fr_oc, fz_nil, fz_cons, fz_fz, ou_nil, ou_c, un_l, un_f, un_c, fin_nx, fin_rt, wp_nil, wp_c, tpL, tpT, NwK_ok, NwK_exc, m_t2, m_il, m_it, m_ik, sl_t, sl_l, Option.bind_some, Option.map_some, Option.map, List.any_cons, List.any_nil, Bool.or_self, List.getElem?_cons_zero, List.getElem?_cons_succ, List.set_cons_zero, List.set_cons_succ, List.length_cons, List.length_nil, Nat.reduceAdd, Nat.reduceLT, Nat.lt_add_one, Nat.zero_add, Int.cast_ofNat_Int, Int.reduceLE, Int.reduceLT, Int.reduceEq, Int.reduceNeg, Nat.reduceLeDiff, ↓reduceIte, Option.getD, List.nil_append, List.cons_append, decide_eq_true_eq, decide_true, decide_false, Bool.false_eq_true, Bool.not_true, Bool.not_false, Bool.and_true, Bool.and_false, Bool.true_and, Bool.or_true, Bool.or_false, and_true, true_and, and_false, false_and, not_true, not_false_eq_true, Bool.not_eq_true, decide_eq_false_iff_not, RdK_res, RdK_d vd_ne, eL i ⟨hi'.1, by omega⟩, show frzO (.fz (lineD u v w (ownR (pr s) i gs))) = some (lineD u v w (ownR (pr s) i gs)) from rfl]
      first | rfl | exact ⟨rfl, rfl⟩ | exact ⟨rfl, rfl, rfl⟩
    simp only [w_bnd, w_ret, w_opt, w_fail, w_ite, w_tb, w_ti, w_rd, w_chk, w_chkL, w_plVal, w_plTop, w_q, w_setM, w_clr, w_setO1, w_modR, w_frz, w_var, w_non, w_bl, w_int, w_str, w_gint, w_bin, w_neg, w_inv, w_not, w_cmp, w_chn, w_isN, w_mem, w_andE, w_orE, w_ife, w_tup, w_lst, w_idx, w_eoN, w_eoS, w_slc, w_lrng1, w_fld, w_pl, w_call, w_new, w_bi, w_biP, w_isi, w_lc, w_dc, w_esN, w_esC, w_etN, w_etS, w_arE, w_arI, w_asN, w_asC, w_iE, w_iR1, w_iR2, w_pN, w_pX, w_pXX, w_pFX, w_pF, w_callF, w_oe, w_ol, w_ocall, w_onew, w_osN, w_osC, w_ssN, w_ssC, w_asg, w_asgL, w_asgO, w_app, w_set, w_fset, w_aug, w_ex, w_retE, w_retN, w_retO, w_if, w_for, w_rse, w_try, w_brk, w_cont, w_pass, w_hret, w_hunl, OptK_s, RdK_bl, RdK_int, RdK_str, RdK_non, RdK_tup, RdK_lst, RdK_dK, RdK_dT, RdK_ins, RdK_fn, RdK_scr, RdK_ol, ChkK_fz, ChkK_l, ChkK_i, ChkK_k, ChkK_t, ValK_int, ValK_bl, ValK_lst, ValK_tup, LstK_l, BlK_b, InK_i, FlK_nx, FlK_ct, FlK_bk, FlK_rt, RcK_ok, RcK_exc, LoK_nx, LoK_ct, LoK_bk, LoK_rt, c_eq, c_ne, c_eqb, c_neb, c_lt, c_gt, c_le, c_ge, c_is, c_isnt, bn_f, bn_t, b_add, b_sub, a_add, a_sub, t_ii, t_ib, t_it, t_il, t_is, t_bi, t_bb, t_bt, t_bl, t_bs, t_ti, t_tb, t_tt, t_tl, t_ts, t_li, t_lb, t_lt, t_ll, t_ls, t_ni, t_nb, t_nt, t_nl, t_ns, t_si, t_sb, t_st, t_sl, t_ss, n_i, n_b, n_t, n_l, n_s, n_n, i_lenT, i_lenL, i_lenK, i_tupL, i_tupT, i_lstL, i_lstT, i_lstS, i_intI, i_intB, i_abs, i_min2, i_max2, i_all, i_any, i_sum, x_lst, x_tup, at0, at1, at2, at3, q_tup, q_lst, g_nil, g_l0, g_l1, g_l2, g_l3, g_fz, s_l0, s_l1, s_l2, s_l3, qv_i, qv_l, qv_t, qv_s, qv_b, qq_var, qq_int, qq_pl, p_nil, p_ix, st_nm, st_tup, sn_nil, sn_cons, ta_nil, ta_d, ta_io, pb_nil, pb_c, fr_i, fr_b, fr_t, fr_l, fr_s, fr_n, fr_c, fr_k, fr_ol, fr_oc, fz_nil, fz_cons, fz_fz, ou_nil, ou_c, un_l, un_f, un_c, fin_nx, fin_rt, wp_nil, wp_c, tpL, tpT, NwK_ok, NwK_exc, m_t2, m_il, m_it, m_ik, sl_t, sl_l, Option.bind_some, Option.map_some, Option.map, List.any_cons, List.any_nil, Bool.or_self, List.getElem?_cons_zero, List.getElem?_cons_succ, List.set_cons_zero, List.set_cons_succ, List.length_cons, List.length_nil, Nat.reduceAdd, Nat.reduceLT, Nat.lt_add_one, Nat.zero_add, Int.cast_ofNat_Int, Int.reduceLE, Int.reduceLT, Int.reduceEq, Int.reduceNeg, Nat.reduceLeDiff, ↓reduceIte, Option.getD, List.nil_append, List.cons_append, decide_eq_true_eq, decide_true, decide_false, Bool.false_eq_true, Bool.not_true, Bool.not_false, Bool.and_true, Bool.and_false, Bool.true_and, Bool.or_true, Bool.or_false, and_true, true_and, and_false, false_and, not_true, not_false_eq_true, Bool.not_eq_true, decide_eq_false_iff_not, List.length_map, rl, fz_lines]
    refine w_lcM (fun i => .int (ptsOf u v w (ownR (pr s) i gs))) rfl rfl (fun i hi => ?_) ?_
    · unfold lineD
      simp only [w_bnd, w_ret, w_opt, w_fail, w_ite, w_tb, w_ti, w_rd, w_chk, w_chkL, w_plVal, w_plTop, w_q, w_setM, w_clr, w_setO1, w_modR, w_frz, w_var, w_non, w_bl, w_int, w_str, w_gint, w_bin, w_neg, w_inv, w_not, w_cmp, w_chn, w_isN, w_mem, w_andE, w_orE, w_ife, w_tup, w_lst, w_idx, w_eoN, w_eoS, w_slc, w_lrng1, w_fld, w_pl, w_call, w_new, w_bi, w_biP, w_isi, w_lc, w_dc, w_esN, w_esC, w_etN, w_etS, w_arE, w_arI, w_asN, w_asC, w_iE, w_iR1, w_iR2, w_pN, w_pX, w_pXX, w_pFX, w_pF, w_callF, w_oe, w_ol, w_ocall, w_onew, w_osN, w_osC, w_ssN, w_ssC, w_asg, w_asgL, w_asgO, w_app, w_set, w_fset, w_aug, w_ex, w_retE, w_retN, w_retO, w_if, w_for, w_rse, w_try, w_brk, w_cont, w_pass, w_hret, w_hunl, OptK_s, RdK_bl, RdK_int, RdK_str, RdK_non, RdK_tup, RdK_lst, RdK_dK, RdK_dT, RdK_ins, RdK_fn, RdK_scr, RdK_ol, ChkK_fz, ChkK_l, ChkK_i, ChkK_k, ChkK_t, ValK_int, ValK_bl, ValK_lst, ValK_tup, LstK_l, BlK_b, InK_i, FlK_nx, FlK_ct, FlK_bk, FlK_rt, RcK_ok, RcK_exc, LoK_nx, LoK_ct, LoK_bk, LoK_rt, c_eq, c_ne, c_eqb, c_neb, c_lt, c_gt, c_le, c_ge, c_is, c_isnt, bn_f, bn_t, b_add, b_sub, a_add, a_sub, t_ii, t_ib, t_it, t_il, t_is, t_bi, t_bb, t_bt, t_bl, t_bs, t_ti, t_tb, t_tt, t_tl, t_ts, t_li, t_lb, t_lt, t_ll, t_ls, t_ni, t_nb, t_nt, t_nl, t_ns, t_si, t_sb, t_st, t_sl, t_ss, n_i, n_b, n_t, n_l, n_s, n_n, i_lenT, i_lenL, i_lenK, i_tupL, i_tupT, i_lstL, i_lstT, i_lstS, i_intI, i_intB, i_abs, i_min2, i_max2, i_all, i_any, i_sum, x_lst, x_tup, at0, at1, at2, at3, q_tup, q_lst, g_nil, g_l0, g_l1, g_l2, g_l3, g_fz, s_l0, s_l1, s_l2, s_l3, qv_i, qv_l, qv_t, qv_s, qv_b, qq_var, qq_int, qq_pl, p_nil, p_ix, st_nm, st_tup, sn_nil, sn_cons, ta_nil, ta_d, ta_io, pb_nil, pb_c, fr_i, fr_b, fr_t, fr_l, fr_s, fr_n, fr_c, fr_k, fr_ol, fr_oc, fz_nil, fz_cons, fz_fz, ou_nil, ou_c, un_l, un_f, un_c, fin_nx, fin_rt, wp_nil, wp_c, tpL, tpT, NwK_ok, NwK_exc, m_t2, m_il, m_it, m_ik, sl_t, sl_l, Option.bind_some, Option.map_some, Option.map, List.any_cons, List.any_nil, Bool.or_self, List.getElem?_cons_zero, List.getElem?_cons_succ, List.set_cons_zero, List.set_cons_succ, List.length_cons, List.length_nil, Nat.reduceAdd, Nat.reduceLT, Nat.lt_add_one, Nat.zero_add, Int.cast_ofNat_Int, Int.reduceLE, Int.reduceLT, Int.reduceEq, Int.reduceNeg, Nat.reduceLeDiff, ↓reduceIte, Option.getD, List.nil_append, List.cons_append, decide_eq_true_eq, decide_true, decide_false, Bool.false_eq_true, Bool.not_true, Bool.not_false, Bool.and_true, Bool.and_false, Bool.true_and, Bool.or_true, Bool.or_false, and_true, true_and, and_false, false_and, not_true, not_false_eq_true, Bool.not_eq_true, decide_eq_false_iff_not, atm1]
      first | rfl | exact ⟨rfl, rfl⟩ | exact ⟨rfl, rfl, rfl⟩
    simp only [w_bnd, w_ret, w_opt, w_fail, w_ite, w_tb, w_ti, w_rd, w_chk, w_chkL, w_plVal, w_plTop, w_q, w_setM, w_clr, w_setO1, w_modR, w_frz, w_var, w_non, w_bl, w_int, w_str, w_gint, w_bin, w_neg, w_inv, w_not, w_cmp, w_chn, w_isN, w_mem, w_andE, w_orE, w_ife, w_tup, w_lst, w_idx, w_eoN, w_eoS, w_slc, w_lrng1, w_fld, w_pl, w_call, w_new, w_bi, w_biP, w_isi, w_lc, w_dc, w_esN, w_esC, w_etN, w_etS, w_arE, w_arI, w_asN, w_asC, w_iE, w_iR1, w_iR2, w_pN, w_pX, w_pXX, w_pFX, w_pF, w_callF, w_oe, w_ol, w_ocall, w_onew, w_osN, w_osC, w_ssN, w_ssC, w_asg, w_asgL, w_asgO, w_app, w_set, w_fset, w_aug, w_ex, w_retE, w_retN, w_retO, w_if, w_for, w_rse, w_try, w_brk, w_cont, w_pass, w_hret, w_hunl, OptK_s, RdK_bl, RdK_int, RdK_str, RdK_non, RdK_tup, RdK_lst, RdK_dK, RdK_dT, RdK_ins, RdK_fn, RdK_scr, RdK_ol, ChkK_fz, ChkK_l, ChkK_i, ChkK_k, ChkK_t, ValK_int, ValK_bl, ValK_lst, ValK_tup, LstK_l, BlK_b, InK_i, FlK_nx, FlK_ct, FlK_bk, FlK_rt, RcK_ok, RcK_exc, LoK_nx, LoK_ct, LoK_bk, LoK_rt, c_eq, c_ne, c_eqb, c_neb, c_lt, c_gt, c_le, c_ge, c_is, c_isnt, bn_f, bn_t, b_add, b_sub, a_add, a_sub, t_ii, t_ib, t_it, t_il, t_is, t_bi, t_bb, t_bt, t_bl, t_bs, t_ti, t_tb, t_tt, t_tl, t_ts, t_li, t_lb, t_lt, t_ll, t_ls, t_ni, t_nb, t_nt, t_nl, t_ns, t_si, t_sb, t_st, t_sl, t_ss, n_i, n_b, n_t, n_l, n_s, n_n, i_lenT, i_lenL, i_lenK, i_tupL, i_tupT, i_lstL, i_lstT, i_lstS, i_intI, i_intB, i_abs, i_min2, i_max2, i_all, i_any, i_sum, x_lst, x_tup, at0, at1, at2, at3, q_tup, q_lst, g_nil, g_l0, g_l1, g_l2, g_l3, g_fz, s_l0, s_l1, s_l2, s_l3, qv_i, qv_l, qv_t, qv_s, qv_b, qq_var, qq_int, qq_pl, p_nil, p_ix, st_nm, st_tup, sn_nil, sn_cons, ta_nil, ta_d, ta_io, pb_nil, pb_c, fr_i, fr_b, fr_t, fr_l, fr_s, fr_n, fr_c, fr_k, fr_ol, fr_oc, fz_nil, fz_cons, fz_fz, ou_nil, ou_c, un_l, un_f, un_c, fin_nx, fin_rt, wp_nil, wp_c, tpL, tpT, NwK_ok, NwK_exc, m_t2, m_il, m_it, m_ik, sl_t, sl_l, Option.bind_some, Option.map_some, Option.map, List.any_cons, List.any_nil, Bool.or_self, List.getElem?_cons_zero, List.getElem?_cons_succ, List.set_cons_zero, List.set_cons_succ, List.length_cons, List.length_nil, Nat.reduceAdd, Nat.reduceLT, Nat.lt_add_one, Nat.zero_add, Int.cast_ofNat_Int, Int.reduceLE, Int.reduceLT, Int.reduceEq, Int.reduceNeg, Nat.reduceLeDiff, ↓reduceIte, Option.getD, List.nil_append, List.cons_append, decide_eq_true_eq, decide_true, decide_false, Bool.false_eq_true, Bool.not_true, Bool.not_false, Bool.and_true, Bool.and_false, Bool.true_and, Bool.or_true, Bool.or_false, and_true, true_and, and_false, false_and, not_true, not_false_eq_true, Bool.not_eq_true, decide_eq_false_iff_not, List.length_map, rl, eS, rg_i (n := s) (by omega) (by omega)]
    -- the lot
    refine w_lcI (fun ds acc f => ∃ (o x10 : O) (ls : List Int), Dr o ∧ isOwn x10 = false ∧ acc = ls.map .int ∧ ls.length + ds.length ≤ 6 ∧ (∀ d ∈ ds, ∃ i : Int, d = .int i) ∧ f = [.fz (.scr ns), o, .fz (.int turn), .un, .un, .fz (.int s), .fz (.tup (gs.map gD)), .fz (resD s gs), .fz (vD u v w), .fz (.lst ((rgI s.toNat).map fun i => lineD u v w (ownR (pr s) i gs))), x10, x11, x12, y13, y14, x15, x16, x17, y18, y19, .un, .un, .un, .un, .un, .un, .un]) (by simp only [w_bnd, w_ret, w_opt, w_fail, w_ite, w_tb, w_ti, w_rd, w_chk, w_chkL, w_plVal, w_plTop, w_q, w_setM, w_clr, w_setO1, w_modR, w_frz, w_var, w_non, w_bl, w_int, w_str, w_gint, w_bin, w_neg, w_inv, w_not, w_cmp, w_chn, w_isN, w_mem, w_andE, w_orE, w_ife, w_tup, w_lst, w_idx, w_eoN, w_eoS, w_slc, w_lrng1, w_fld, w_pl, w_call, w_new, w_bi, w_biP, w_isi, w_lc, w_dc, w_esN, w_esC, w_etN, w_etS, w_arE, w_arI, w_asN, w_asC, w_iE, w_iR1, w_iR2, w_pN, w_pX, w_pXX, w_pFX, w_pF, w_callF, w_oe, w_ol, w_ocall, w_onew, w_osN, w_osC, w_ssN, w_ssC, w_asg, w_asgL, w_asgO, w_app, w_set, w_fset, w_aug, w_ex, w_retE, w_retN, w_retO, w_if, w_for, w_rse, w_try, w_brk, w_cont, w_pass, w_hret, w_hunl, OptK_s, RdK_bl, RdK_int, RdK_str, RdK_non, RdK_tup, RdK_lst, RdK_dK, RdK_dT, RdK_ins, RdK_fn, RdK_scr, RdK_ol, ChkK_fz, ChkK_l, ChkK_i, ChkK_k, ChkK_t, ValK_int, ValK_bl, ValK_lst, ValK_tup, LstK_l, BlK_b, InK_i, FlK_nx, FlK_ct, FlK_bk, FlK_rt, RcK_ok, RcK_exc, LoK_nx, LoK_ct, LoK_bk, LoK_rt, c_eq, c_ne, c_eqb, c_neb, c_lt, c_gt, c_le, c_ge, c_is, c_isnt, bn_f, bn_t, b_add, b_sub, a_add, a_sub, t_ii, t_ib, t_it, t_il, t_is, t_bi, t_bb, t_bt, t_bl, t_bs, t_ti, t_tb, t_tt, t_tl, t_ts, t_li, t_lb, t_lt, t_ll, t_ls, t_ni, t_nb, t_nt, t_nl, t_ns, t_si, t_sb, t_st, t_sl, t_ss, n_i, n_b, n_t, n_l, n_s, n_n, i_lenT, i_lenL, i_lenK, i_tupL, i_tupT, i_lstL, i_lstT, i_lstS, i_intI, i_intB, i_abs, i_min2, i_max2, i_all, i_any, i_sum, x_lst, x_tup, at0, at1, at2, at3, q_tup, q_lst, g_nil, g_l0, g_l1, g_l2, g_l3, g_fz, s_l0, s_l1, s_l2, s_l3, qv_i, qv_l, qv_t, qv_s, qv_b, qq_var, qq_int, qq_pl, p_nil, p_ix, st_nm, st_tup, sn_nil, sn_cons, ta_nil, ta_d, ta_io, pb_nil, pb_c, fr_i, fr_b, fr_t, fr_l, fr_s, fr_n, fr_c, fr_k, fr_ol, fr_oc, fz_nil, fz_cons, fz_fz, ou_nil, ou_c, un_l, un_f, un_c, fin_nx, fin_rt, wp_nil, wp_c, tpL, tpT, NwK_ok, NwK_exc, m_t2, m_il, m_it, m_ik, sl_t, sl_l, Option.bind_some, Option.map_some, Option.map, List.any_cons, List.any_nil, Bool.or_self, List.getElem?_cons_zero, List.getElem?_cons_succ, List.set_cons_zero, List.set_cons_succ, List.length_cons, List.length_nil, Nat.reduceAdd, Nat.reduceLT, Nat.lt_add_one, Nat.zero_add, Int.cast_ofNat_Int, Int.reduceLE, Int.reduceLT, Int.reduceEq, Int.reduceNeg, Nat.reduceLeDiff, ↓reduceIte, Option.getD, List.nil_append, List.cons_append, decide_eq_true_eq, decide_true, decide_false, Bool.false_eq_true, Bool.not_true, Bool.not_false, Bool.and_true, Bool.and_false, Bool.true_and, Bool.or_true, Bool.or_false, and_true, true_and, and_false, false_and, not_true, not_false_eq_true, Bool.not_eq_true, decide_eq_false_iff_not, w_blockE, w_lC, w_lN, w_fC, w_fN, cw_nil, cw_c, io_un, io_fz, bk_nil, bk_c, i_allC, i_anyC, i_sumC, bls_nil, bls_c, intL_nil, intL_c, List.all_cons, List.all_nil, id_eq, Option.getD_some, Option.getD_none, hy10]) ⟨o5, y10, [], hd5, hy10, rfl, by simp [rgI_len]; omega, (fun d hd => by obtain ⟨i, _, rfl⟩ := List.mem_map.mp hd; exact ⟨i, rfl⟩), rfl⟩ (fun d ds acc f0 hI => ?_) fun acc f2 hI => ?_
    · obtain ⟨o6, z10, ls, hd6, hz10, rfl, hlen, hds, rfl⟩ := hI
      obtain ⟨i, rfl⟩ := hds d List.mem_cons_self
      obtain ⟨x, o7, e7, hd7, _, _⟩ := dr 10 hd6 2 (by omega) (by omega)
      by_cases c : x = 0
      · simp only [w_bnd, w_ret, w_opt, w_fail, w_ite, w_tb, w_ti, w_rd, w_chk, w_chkL, w_plVal, w_plTop, w_q, w_setM, w_clr, w_setO1, w_modR, w_frz, w_var, w_non, w_bl, w_int, w_str, w_gint, w_bin, w_neg, w_inv, w_not, w_cmp, w_chn, w_isN, w_mem, w_andE, w_orE, w_ife, w_tup, w_lst, w_idx, w_eoN, w_eoS, w_slc, w_lrng1, w_fld, w_pl, w_call, w_new, w_bi, w_biP, w_isi, w_lc, w_dc, w_esN, w_esC, w_etN, w_etS, w_arE, w_arI, w_asN, w_asC, w_iE, w_iR1, w_iR2, w_pN, w_pX, w_pXX, w_pFX, w_pF, w_callF, w_oe, w_ol, w_ocall, w_onew, w_osN, w_osC, w_ssN, w_ssC, w_asg, w_asgL, w_asgO, w_app, w_set, w_fset, w_aug, w_ex, w_retE, w_retN, w_retO, w_if, w_for, w_rse, w_try, w_brk, w_cont, w_pass, w_hret, w_hunl, OptK_s, RdK_bl, RdK_int, RdK_str, RdK_non, RdK_tup, RdK_lst, RdK_dK, RdK_dT, RdK_ins, RdK_fn, RdK_scr, RdK_ol, ChkK_fz, ChkK_l, ChkK_i, ChkK_k, ChkK_t, ValK_int, ValK_bl, ValK_lst, ValK_tup, LstK_l, BlK_b, InK_i, FlK_nx, FlK_ct, FlK_bk, FlK_rt, RcK_ok, RcK_exc, LoK_nx, LoK_ct, LoK_bk, LoK_rt, c_eq, c_ne, c_eqb, c_neb, c_lt, c_gt, c_le, c_ge, c_is, c_isnt, bn_f, bn_t, b_add, b_sub, a_add, a_sub, t_ii, t_ib, t_it, t_il, t_is, t_bi, t_bb, t_bt, t_bl, t_bs, t_ti, t_tb, t_tt, t_tl, t_ts, t_li, t_lb, t_lt, t_ll, t_ls, t_ni, t_nb, t_nt, t_nl, t_ns, t_si, t_sb, t_st, t_sl, t_ss, n_i, n_b, n_t, n_l, n_s, n_n, i_lenT, i_lenL, i_lenK, i_tupL, i_tupT, i_lstL, i_lstT, i_lstS, i_intI, i_intB, i_abs, i_min2, i_max2, i_all, i_any, i_sum, x_lst, x_tup, at0, at1, at2, at3, q_tup, q_lst, g_nil, g_l0, g_l1, g_l2, g_l3, g_fz, s_l0, s_l1, s_l2, s_l3, qv_i, qv_l, qv_t, qv_s, qv_b, qq_var, qq_int, qq_pl, p_nil, p_ix, st_nm, st_tup, sn_nil, sn_cons, ta_nil, ta_d, ta_io, pb_nil, pb_c, fr_i, fr_b, fr_t, fr_l, fr_s, fr_n, fr_c, fr_k, fr_ol, fr_oc, fz_nil, fz_cons, fz_fz, ou_nil, ou_c, un_l, un_f, un_c, fin_nx, fin_rt, wp_nil, wp_c, tpL, tpT, NwK_ok, NwK_exc, m_t2, m_il, m_it, m_ik, sl_t, sl_l, Option.bind_some, Option.map_some, Option.map, List.any_cons, List.any_nil, Bool.or_self, List.getElem?_cons_zero, List.getElem?_cons_succ, List.set_cons_zero, List.set_cons_succ, List.length_cons, List.length_nil, Nat.reduceAdd, Nat.reduceLT, Nat.lt_add_one, Nat.zero_add, Int.cast_ofNat_Int, Int.reduceLE, Int.reduceLT, Int.reduceEq, Int.reduceNeg, Nat.reduceLeDiff, ↓reduceIte, Option.getD, List.nil_append, List.cons_append, decide_eq_true_eq, decide_true, decide_false, Bool.false_eq_true, Bool.not_true, Bool.not_false, Bool.and_true, Bool.and_false, Bool.true_and, Bool.or_true, Bool.or_false, and_true, true_and, and_false, false_and, not_true, not_false_eq_true, Bool.not_eq_true, decide_eq_false_iff_not, w_blockE, w_lC, w_lN, w_fC, w_fN, cw_nil, cw_c, io_un, io_fz, bk_nil, bk_c, i_allC, i_anyC, i_sumC, bls_nil, bls_c, intL_nil, intL_c, List.all_cons, List.all_nil, id_eq, Option.getD_some, Option.getD_none, hz10, ChkK_o hd6.ne, tk_o hd6.ne, e7, eq_true c]
        exact ⟨o7, .fz (.int i), ls ++ [i], hd7, rfl, by simp, by simp at hlen ⊢; omega, (fun d hd => hds d (List.mem_cons_of_mem _ hd)), rfl⟩
      · simp only [w_bnd, w_ret, w_opt, w_fail, w_ite, w_tb, w_ti, w_rd, w_chk, w_chkL, w_plVal, w_plTop, w_q, w_setM, w_clr, w_setO1, w_modR, w_frz, w_var, w_non, w_bl, w_int, w_str, w_gint, w_bin, w_neg, w_inv, w_not, w_cmp, w_chn, w_isN, w_mem, w_andE, w_orE, w_ife, w_tup, w_lst, w_idx, w_eoN, w_eoS, w_slc, w_lrng1, w_fld, w_pl, w_call, w_new, w_bi, w_biP, w_isi, w_lc, w_dc, w_esN, w_esC, w_etN, w_etS, w_arE, w_arI, w_asN, w_asC, w_iE, w_iR1, w_iR2, w_pN, w_pX, w_pXX, w_pFX, w_pF, w_callF, w_oe, w_ol, w_ocall, w_onew, w_osN, w_osC, w_ssN, w_ssC, w_asg, w_asgL, w_asgO, w_app, w_set, w_fset, w_aug, w_ex, w_retE, w_retN, w_retO, w_if, w_for, w_rse, w_try, w_brk, w_cont, w_pass, w_hret, w_hunl, OptK_s, RdK_bl, RdK_int, RdK_str, RdK_non, RdK_tup, RdK_lst, RdK_dK, RdK_dT, RdK_ins, RdK_fn, RdK_scr, RdK_ol, ChkK_fz, ChkK_l, ChkK_i, ChkK_k, ChkK_t, ValK_int, ValK_bl, ValK_lst, ValK_tup, LstK_l, BlK_b, InK_i, FlK_nx, FlK_ct, FlK_bk, FlK_rt, RcK_ok, RcK_exc, LoK_nx, LoK_ct, LoK_bk, LoK_rt, c_eq, c_ne, c_eqb, c_neb, c_lt, c_gt, c_le, c_ge, c_is, c_isnt, bn_f, bn_t, b_add, b_sub, a_add, a_sub, t_ii, t_ib, t_it, t_il, t_is, t_bi, t_bb, t_bt, t_bl, t_bs, t_ti, t_tb, t_tt, t_tl, t_ts, t_li, t_lb, t_lt, t_ll, t_ls, t_ni, t_nb, t_nt, t_nl, t_ns, t_si, t_sb, t_st, t_sl, t_ss, n_i, n_b, n_t, n_l, n_s, n_n, i_lenT, i_lenL, i_lenK, i_tupL, i_tupT, i_lstL, i_lstT, i_lstS, i_intI, i_intB, i_abs, i_min2, i_max2, i_all, i_any, i_sum, x_lst, x_tup, at0, at1, at2, at3, q_tup, q_lst, g_nil, g_l0, g_l1, g_l2, g_l3, g_fz, s_l0, s_l1, s_l2, s_l3, qv_i, qv_l, qv_t, qv_s, qv_b, qq_var, qq_int, qq_pl, p_nil, p_ix, st_nm, st_tup, sn_nil, sn_cons, ta_nil, ta_d, ta_io, pb_nil, pb_c, fr_i, fr_b, fr_t, fr_l, fr_s, fr_n, fr_c, fr_k, fr_ol, fr_oc, fz_nil, fz_cons, fz_fz, ou_nil, ou_c, un_l, un_f, un_c, fin_nx, fin_rt, wp_nil, wp_c, tpL, tpT, NwK_ok, NwK_exc, m_t2, m_il, m_it, m_ik, sl_t, sl_l, Option.bind_some, Option.map_some, Option.map, List.any_cons, List.any_nil, Bool.or_self, List.getElem?_cons_zero, List.getElem?_cons_succ, List.set_cons_zero, List.set_cons_succ, List.length_cons, List.length_nil, Nat.reduceAdd, Nat.reduceLT, Nat.lt_add_one, Nat.zero_add, Int.cast_ofNat_Int, Int.reduceLE, Int.reduceLT, Int.reduceEq, Int.reduceNeg, Nat.reduceLeDiff, ↓reduceIte, Option.getD, List.nil_append, List.cons_append, decide_eq_true_eq, decide_true, decide_false, Bool.false_eq_true, Bool.not_true, Bool.not_false, Bool.and_true, Bool.and_false, Bool.true_and, Bool.or_true, Bool.or_false, and_true, true_and, and_false, false_and, not_true, not_false_eq_true, Bool.not_eq_true, decide_eq_false_iff_not, w_blockE, w_lC, w_lN, w_fC, w_fN, cw_nil, cw_c, io_un, io_fz, bk_nil, bk_c, i_allC, i_anyC, i_sumC, bls_nil, bls_c, intL_nil, intL_c, List.all_cons, List.all_nil, id_eq, Option.getD_some, Option.getD_none, hz10, ChkK_o hd6.ne, tk_o hd6.ne, e7, c]
        exact ⟨o7, .fz (.int i), ls, hd7, rfl, by simp, by simp at hlen ⊢; omega, (fun d hd => hds d (List.mem_cons_of_mem _ hd)), rfl⟩
    obtain ⟨o6, z10, ls, hd6, hz10, rfl, hlen, _, rfl⟩ := hI
    refine ⟨by simp only [w_bnd, w_ret, w_opt, w_fail, w_ite, w_tb, w_ti, w_rd, w_chk, w_chkL, w_plVal, w_plTop, w_q, w_setM, w_clr, w_setO1, w_modR, w_frz, w_var, w_non, w_bl, w_int, w_str, w_gint, w_bin, w_neg, w_inv, w_not, w_cmp, w_chn, w_isN, w_mem, w_andE, w_orE, w_ife, w_tup, w_lst, w_idx, w_eoN, w_eoS, w_slc, w_lrng1, w_fld, w_pl, w_call, w_new, w_bi, w_biP, w_isi, w_lc, w_dc, w_esN, w_esC, w_etN, w_etS, w_arE, w_arI, w_asN, w_asC, w_iE, w_iR1, w_iR2, w_pN, w_pX, w_pXX, w_pFX, w_pF, w_callF, w_oe, w_ol, w_ocall, w_onew, w_osN, w_osC, w_ssN, w_ssC, w_asg, w_asgL, w_asgO, w_app, w_set, w_fset, w_aug, w_ex, w_retE, w_retN, w_retO, w_if, w_for, w_rse, w_try, w_brk, w_cont, w_pass, w_hret, w_hunl, OptK_s, RdK_bl, RdK_int, RdK_str, RdK_non, RdK_tup, RdK_lst, RdK_dK, RdK_dT, RdK_ins, RdK_fn, RdK_scr, RdK_ol, ChkK_fz, ChkK_l, ChkK_i, ChkK_k, ChkK_t, ValK_int, ValK_bl, ValK_lst, ValK_tup, LstK_l, BlK_b, InK_i, FlK_nx, FlK_ct, FlK_bk, FlK_rt, RcK_ok, RcK_exc, LoK_nx, LoK_ct, LoK_bk, LoK_rt, c_eq, c_ne, c_eqb, c_neb, c_lt, c_gt, c_le, c_ge, c_is, c_isnt, bn_f, bn_t, b_add, b_sub, a_add, a_sub, t_ii, t_ib, t_it, t_il, t_is, t_bi, t_bb, t_bt, t_bl, t_bs, t_ti, t_tb, t_tt, t_tl, t_ts, t_li, t_lb, t_lt, t_ll, t_ls, t_ni, t_nb, t_nt, t_nl, t_ns, t_si, t_sb, t_st, t_sl, t_ss, n_i, n_b, n_t, n_l, n_s, n_n, i_lenT, i_lenL, i_lenK, i_tupL, i_tupT, i_lstL, i_lstT, i_lstS, i_intI, i_intB, i_abs, i_min2, i_max2, i_all, i_any, i_sum, x_lst, x_tup, at0, at1, at2, at3, q_tup, q_lst, g_nil, g_l0, g_l1, g_l2, g_l3, g_fz, s_l0, s_l1, s_l2, s_l3, qv_i, qv_l, qv_t, qv_s, qv_b, qq_var, qq_int, qq_pl, p_nil, p_ix, st_nm, st_tup, sn_nil, sn_cons, ta_nil, ta_d, ta_io, pb_nil, pb_c, fr_i, fr_b, fr_t, fr_l, fr_s, fr_n, fr_c, fr_k, fr_ol, fr_oc, fz_nil, fz_cons, fz_fz, ou_nil, ou_c, un_l, un_f, un_c, fin_nx, fin_rt, wp_nil, wp_c, tpL, tpT, NwK_ok, NwK_exc, m_t2, m_il, m_it, m_ik, sl_t, sl_l, Option.bind_some, Option.map_some, Option.map, List.any_cons, List.any_nil, Bool.or_self, List.getElem?_cons_zero, List.getElem?_cons_succ, List.set_cons_zero, List.set_cons_succ, List.length_cons, List.length_nil, Nat.reduceAdd, Nat.reduceLT, Nat.lt_add_one, Nat.zero_add, Int.cast_ofNat_Int, Int.reduceLE, Int.reduceLT, Int.reduceEq, Int.reduceNeg, Nat.reduceLeDiff, ↓reduceIte, Option.getD, List.nil_append, List.cons_append, decide_eq_true_eq, decide_true, decide_false, Bool.false_eq_true, Bool.not_true, Bool.not_false, Bool.and_true, Bool.and_false, Bool.true_and, Bool.or_true, Bool.or_false, and_true, true_and, and_false, false_and, not_true, not_false_eq_true, Bool.not_eq_true, decide_eq_false_iff_not, w_blockE, w_lC, w_lN, w_fC, w_fN, cw_nil, cw_c, io_un, io_fz, bk_nil, bk_c, i_allC, i_anyC, i_sumC, bls_nil, bls_c, intL_nil, intL_c, List.all_cons, List.all_nil, id_eq, Option.getD_some, Option.getD_none, hz10], ?_⟩
    have lsl : ls.length ≤ 6 := by simp at hlen; omega
    have lsl2 : (ls.map D.int).length ≤ 100000 := by rw [List.length_map]; omega
    simp only [w_bnd, w_ret, w_opt, w_fail, w_ite, w_tb, w_ti, w_rd, w_chk, w_chkL, w_plVal, w_plTop, w_q, w_setM, w_clr, w_setO1, w_modR, w_frz, w_var, w_non, w_bl, w_int, w_str, w_gint, w_bin, w_neg, w_inv, w_not, w_cmp, w_chn, w_isN, w_mem, w_andE, w_orE, w_ife, w_tup, w_lst, w_idx, w_eoN, w_eoS, w_slc, w_lrng1, w_fld, w_pl, w_call, w_new, w_bi, w_biP, w_isi, w_lc, w_dc, w_esN, w_esC, w_etN, w_etS, w_arE, w_arI, w_asN, w_asC, w_iE, w_iR1, w_iR2, w_pN, w_pX, w_pXX, w_pFX, w_pF, w_callF, w_oe, w_ol, w_ocall, w_onew, w_osN, w_osC, w_ssN, w_ssC, w_asg, w_asgL, w_asgO, w_app, w_set, w_fset, w_aug, w_ex, w_retE, w_retN, w_retO, w_if, w_for, w_rse, w_try, w_brk, w_cont, w_pass, w_hret, w_hunl, OptK_s, RdK_bl, RdK_int, RdK_str, RdK_non, RdK_tup, RdK_lst, RdK_dK, RdK_dT, RdK_ins, RdK_fn, RdK_scr, RdK_ol, ChkK_fz, ChkK_l, ChkK_i, ChkK_k, ChkK_t, ValK_int, ValK_bl, ValK_lst, ValK_tup, LstK_l, BlK_b, InK_i, FlK_nx, FlK_ct, FlK_bk, FlK_rt, RcK_ok, RcK_exc, LoK_nx, LoK_ct, LoK_bk, LoK_rt, c_eq, c_ne, c_eqb, c_neb, c_lt, c_gt, c_le, c_ge, c_is, c_isnt, bn_f, bn_t, b_add, b_sub, a_add, a_sub, t_ii, t_ib, t_it, t_il, t_is, t_bi, t_bb, t_bt, t_bl, t_bs, t_ti, t_tb, t_tt, t_tl, t_ts, t_li, t_lb, t_lt, t_ll, t_ls, t_ni, t_nb, t_nt, t_nl, t_ns, t_si, t_sb, t_st, t_sl, t_ss, n_i, n_b, n_t, n_l, n_s, n_n, i_lenT, i_lenL, i_lenK, i_tupL, i_tupT, i_lstL, i_lstT, i_lstS, i_intI, i_intB, i_abs, i_min2, i_max2, i_all, i_any, i_sum, x_lst, x_tup, at0, at1, at2, at3, q_tup, q_lst, g_nil, g_l0, g_l1, g_l2, g_l3, g_fz, s_l0, s_l1, s_l2, s_l3, qv_i, qv_l, qv_t, qv_s, qv_b, qq_var, qq_int, qq_pl, p_nil, p_ix, st_nm, st_tup, sn_nil, sn_cons, ta_nil, ta_d, ta_io, pb_nil, pb_c, fr_i, fr_b, fr_t, fr_l, fr_s, fr_n, fr_c, fr_k, fr_ol, fr_oc, fz_nil, fz_cons, fz_fz, ou_nil, ou_c, un_l, un_f, un_c, fin_nx, fin_rt, wp_nil, wp_c, tpL, tpT, NwK_ok, NwK_exc, m_t2, m_il, m_it, m_ik, sl_t, sl_l, Option.bind_some, Option.map_some, Option.map, List.any_cons, List.any_nil, Bool.or_self, List.getElem?_cons_zero, List.getElem?_cons_succ, List.set_cons_zero, List.set_cons_succ, List.length_cons, List.length_nil, Nat.reduceAdd, Nat.reduceLT, Nat.lt_add_one, Nat.zero_add, Int.cast_ofNat_Int, Int.reduceLE, Int.reduceLT, Int.reduceEq, Int.reduceNeg, Nat.reduceLeDiff, ↓reduceIte, Option.getD, List.nil_append, List.cons_append, decide_eq_true_eq, decide_true, decide_false, Bool.false_eq_true, Bool.not_true, Bool.not_false, Bool.and_true, Bool.and_false, Bool.true_and, Bool.or_true, Bool.or_false, and_true, true_and, and_false, false_and, not_true, not_false_eq_true, Bool.not_eq_true, decide_eq_false_iff_not, w_blockE, w_lC, w_lN, w_fC, w_fN, cw_nil, cw_c, io_un, io_fz, bk_nil, bk_c, i_allC, i_anyC, i_sumC, bls_nil, bls_c, intL_nil, intL_c, List.all_cons, List.all_nil, id_eq, Option.getD_some, Option.getD_none, lsl2]
    refine w_forM (fun as zs f => ∃ (x10 x13 x15 : O), isOwn x10 = false ∧ f = [.fz (.scr ns), o6, .fz (.int turn), .un, .un, .fz (.int s), .fz (.tup (gs.map gD)), .fz (resD s gs), .fz (vD u v w), .fz (.lst ((rgI s.toNat).map fun i => lineD u v w (ownR (pr s) i gs))), x10, .fz (.lst (ls.map .int)), x12, x13, y14, x15, x16, x17, y18, y19, .un, .un, .un, .un, .un, .un, .un]) ⟨y10, _, _, hy10, rfl⟩ (fun as3 i zs3 f3 e33 hI => ?_) fun f3 hI => ?_
    · obtain ⟨z10, z13, z15, hz10, rfl⟩ := hI
      have eo : run P 11 14 [.fz (.tup (gs.map gD)), .fz (.int i), .fz (.lst (ls.map D.int))] = .ok (.fz (.lst ((ownR (fun j => ls.any fun x => decide (x = j)) i gs).map rD))) [] := law_own_ok 10 (fun j => m_il) (fun z => by cases z) (by omega)
      have g1 : run P 11 3 [.fz (resD s gs), .fz (.int i), .fz (.lst (ls.map D.int))] = .ok (.fz (.lst ((ownR (fun j => ls.any fun x => decide (x = j)) i gs).map rD))) [] := own_games_ok 10 (fun j => m_il) (fun z => by cases z) hna (by omega)
      have g2 : run P 11 3 [.fz (resD s gs), .fz (.int i), .fz (.tup (ls.map D.int))] = .ok (.fz (.lst ((ownR (fun j => ls.any fun x => decide (x = j)) i gs).map rD))) [] := own_games_ok 10 (fun j => m_it) (fun z => by cases z) hna (by omega)
      have g3 : run P 11 5 [.fz (resD s gs), .fz (.int i), .fz (.lst (ls.map D.int)), .fz (vD u v w)] = .ok (.fz (.int ((ownR (fun j => ls.any fun x => decide (x = j)) i gs).map (pv u v w)).sum)) [] := points_in_ok 9 (fun j => m_il) (fun z => by cases z) hna (by omega)
      obtain ⟨rs, hrs⟩ : ∃ rs, ownR (fun j => ls.any fun x => decide (x = j)) i gs = rs := ⟨_, rfl⟩
      rw [hrs] at eo g1 g2 g3
      have rl : rs.length ≤ 100000 := hrs ▸ hrL _ i
      have eS := same3 (okS_l3 (okS_rows (k := 0) rl) (okS_rows (k := 0) rl) (okS_int (k := 2) (i := (rs.map (pv u v w)).sum)))
      simp only [w_bnd, w_ret, w_opt, w_fail, w_ite, w_tb, w_ti, w_rd, w_chk, w_chkL, w_plVal, w_plTop, w_q, w_setM, w_clr, w_setO1, w_modR, w_frz, w_var, w_non, w_bl, w_int, w_str, w_gint, w_bin, w_neg, w_inv, w_not, w_cmp, w_chn, w_isN, w_mem, w_andE, w_orE, w_ife, w_tup, w_lst, w_idx, w_eoN, w_eoS, w_slc, w_lrng1, w_fld, w_pl, w_call, w_new, w_bi, w_biP, w_isi, w_lc, w_dc, w_esN, w_esC, w_etN, w_etS, w_arE, w_arI, w_asN, w_asC, w_iE, w_iR1, w_iR2, w_pN, w_pX, w_pXX, w_pFX, w_pF, w_callF, w_oe, w_ol, w_ocall, w_onew, w_osN, w_osC, w_ssN, w_ssC, w_asg, w_asgL, w_asgO, w_app, w_set, w_fset, w_aug, w_ex, w_retE, w_retN, w_retO, w_if, w_for, w_rse, w_try, w_brk, w_cont, w_pass, w_hret, w_hunl, OptK_s, RdK_bl, RdK_int, RdK_str, RdK_non, RdK_tup, RdK_lst, RdK_dK, RdK_dT, RdK_ins, RdK_fn, RdK_scr, RdK_ol, ChkK_fz, ChkK_l, ChkK_i, ChkK_k, ChkK_t, ValK_int, ValK_bl, ValK_lst, ValK_tup, LstK_l, BlK_b, InK_i, FlK_nx, FlK_ct, FlK_bk, FlK_rt, RcK_ok, RcK_exc, LoK_nx, LoK_ct, LoK_bk, LoK_rt, c_eq, c_ne, c_eqb, c_neb, c_lt, c_gt, c_le, c_ge, c_is, c_isnt, bn_f, bn_t, b_add, b_sub, a_add, a_sub, t_ii, t_ib, t_it, t_il, t_is, t_bi, t_bb, t_bt, t_bl, t_bs, t_ti, t_tb, t_tt, t_tl, t_ts, t_li, t_lb, t_lt, t_ll, t_ls, t_ni, t_nb, t_nt, t_nl, t_ns, t_si, t_sb, t_st, t_sl, t_ss, n_i, n_b, n_t, n_l, n_s, n_n, i_lenT, i_lenL, i_lenK, i_tupL, i_tupT, i_lstL, i_lstT, i_lstS, i_intI, i_intB, i_abs, i_min2, i_max2, i_all, i_any, i_sum, x_lst, x_tup, at0, at1, at2, at3, q_tup, q_lst, g_nil, g_l0, g_l1, g_l2, g_l3, g_fz, s_l0, s_l1, s_l2, s_l3, qv_i, qv_l, qv_t, qv_s, qv_b, qq_var, qq_int, qq_pl, p_nil, p_ix, st_nm, st_tup, sn_nil, sn_cons, ta_nil, ta_d, ta_io, pb_nil, pb_c, fr_i, fr_b, fr_t, fr_l, fr_s, fr_n, fr_c, fr_k, fr_ol, fr_oc, fz_nil, fz_cons, fz_fz, ou_nil, ou_c, un_l, un_f, un_c, fin_nx, fin_rt, wp_nil, wp_c, tpL, tpT, NwK_ok, NwK_exc, m_t2, m_il, m_it, m_ik, sl_t, sl_l, Option.bind_some, Option.map_some, Option.map, List.any_cons, List.any_nil, Bool.or_self, List.getElem?_cons_zero, List.getElem?_cons_succ, List.set_cons_zero, List.set_cons_succ, List.length_cons, List.length_nil, Nat.reduceAdd, Nat.reduceLT, Nat.lt_add_one, Nat.zero_add, Int.cast_ofNat_Int, Int.reduceLE, Int.reduceLT, Int.reduceEq, Int.reduceNeg, Nat.reduceLeDiff, ↓reduceIte, Option.getD, List.nil_append, List.cons_append, decide_eq_true_eq, decide_true, decide_false, Bool.false_eq_true, Bool.not_true, Bool.not_false, Bool.and_true, Bool.and_false, Bool.true_and, Bool.or_true, Bool.or_false, and_true, true_and, and_false, false_and, not_true, not_false_eq_true, Bool.not_eq_true, decide_eq_false_iff_not, eo]
      refine w_lcM (fun r => D.int (pv u v w r)) rfl rfl (fun r hr => ?_) ?_
      · unfold rD
        by_cases c1 : r.y < r.x
        · simp only [w_bnd, w_ret, w_opt, w_fail, w_ite, w_tb, w_ti, w_rd, w_chk, w_chkL, w_plVal, w_plTop, w_q, w_setM, w_clr, w_setO1, w_modR, w_frz, w_var, w_non, w_bl, w_int, w_str, w_gint, w_bin, w_neg, w_inv, w_not, w_cmp, w_chn, w_isN, w_mem, w_andE, w_orE, w_ife, w_tup, w_lst, w_idx, w_eoN, w_eoS, w_slc, w_lrng1, w_fld, w_pl, w_call, w_new, w_bi, w_biP, w_isi, w_lc, w_dc, w_esN, w_esC, w_etN, w_etS, w_arE, w_arI, w_asN, w_asC, w_iE, w_iR1, w_iR2, w_pN, w_pX, w_pXX, w_pFX, w_pF, w_callF, w_oe, w_ol, w_ocall, w_onew, w_osN, w_osC, w_ssN, w_ssC, w_asg, w_asgL, w_asgO, w_app, w_set, w_fset, w_aug, w_ex, w_retE, w_retN, w_retO, w_if, w_for, w_rse, w_try, w_brk, w_cont, w_pass, w_hret, w_hunl, OptK_s, RdK_bl, RdK_int, RdK_str, RdK_non, RdK_tup, RdK_lst, RdK_dK, RdK_dT, RdK_ins, RdK_fn, RdK_scr, RdK_ol, ChkK_fz, ChkK_l, ChkK_i, ChkK_k, ChkK_t, ValK_int, ValK_bl, ValK_lst, ValK_tup, LstK_l, BlK_b, InK_i, FlK_nx, FlK_ct, FlK_bk, FlK_rt, RcK_ok, RcK_exc, LoK_nx, LoK_ct, LoK_bk, LoK_rt, c_eq, c_ne, c_eqb, c_neb, c_lt, c_gt, c_le, c_ge, c_is, c_isnt, bn_f, bn_t, b_add, b_sub, a_add, a_sub, t_ii, t_ib, t_it, t_il, t_is, t_bi, t_bb, t_bt, t_bl, t_bs, t_ti, t_tb, t_tt, t_tl, t_ts, t_li, t_lb, t_lt, t_ll, t_ls, t_ni, t_nb, t_nt, t_nl, t_ns, t_si, t_sb, t_st, t_sl, t_ss, n_i, n_b, n_t, n_l, n_s, n_n, i_lenT, i_lenL, i_lenK, i_tupL, i_tupT, i_lstL, i_lstT, i_lstS, i_intI, i_intB, i_abs, i_min2, i_max2, i_all, i_any, i_sum, x_lst, x_tup, at0, at1, at2, at3, q_tup, q_lst, g_nil, g_l0, g_l1, g_l2, g_l3, g_fz, s_l0, s_l1, s_l2, s_l3, qv_i, qv_l, qv_t, qv_s, qv_b, qq_var, qq_int, qq_pl, p_nil, p_ix, st_nm, st_tup, sn_nil, sn_cons, ta_nil, ta_d, ta_io, pb_nil, pb_c, fr_i, fr_b, fr_t, fr_l, fr_s, fr_n, fr_c, fr_k, fr_ol, fr_oc, fz_nil, fz_cons, fz_fz, ou_nil, ou_c, un_l, un_f, un_c, fin_nx, fin_rt, wp_nil, wp_c, tpL, tpT, NwK_ok, NwK_exc, m_t2, m_il, m_it, m_ik, sl_t, sl_l, Option.bind_some, Option.map_some, Option.map, List.any_cons, List.any_nil, Bool.or_self, List.getElem?_cons_zero, List.getElem?_cons_succ, List.set_cons_zero, List.set_cons_succ, List.length_cons, List.length_nil, Nat.reduceAdd, Nat.reduceLT, Nat.lt_add_one, Nat.zero_add, Int.cast_ofNat_Int, Int.reduceLE, Int.reduceLT, Int.reduceEq, Int.reduceNeg, Nat.reduceLeDiff, ↓reduceIte, Option.getD, List.nil_append, List.cons_append, decide_eq_true_eq, decide_true, decide_false, Bool.false_eq_true, Bool.not_true, Bool.not_false, Bool.and_true, Bool.and_false, Bool.true_and, Bool.or_true, Bool.or_false, and_true, true_and, and_false, false_and, not_true, not_false_eq_true, Bool.not_eq_true, decide_eq_false_iff_not, c1, RdK_d vd_ne, L35.v0, L35.v1, L35.v2, show pv u v w r = u by unfold pv; rw [if_pos c1]]
          first | rfl | exact ⟨rfl, rfl⟩ | exact ⟨rfl, rfl, rfl⟩
        · by_cases c2 : r.x = r.y
          · simp only [w_bnd, w_ret, w_opt, w_fail, w_ite, w_tb, w_ti, w_rd, w_chk, w_chkL, w_plVal, w_plTop, w_q, w_setM, w_clr, w_setO1, w_modR, w_frz, w_var, w_non, w_bl, w_int, w_str, w_gint, w_bin, w_neg, w_inv, w_not, w_cmp, w_chn, w_isN, w_mem, w_andE, w_orE, w_ife, w_tup, w_lst, w_idx, w_eoN, w_eoS, w_slc, w_lrng1, w_fld, w_pl, w_call, w_new, w_bi, w_biP, w_isi, w_lc, w_dc, w_esN, w_esC, w_etN, w_etS, w_arE, w_arI, w_asN, w_asC, w_iE, w_iR1, w_iR2, w_pN, w_pX, w_pXX, w_pFX, w_pF, w_callF, w_oe, w_ol, w_ocall, w_onew, w_osN, w_osC, w_ssN, w_ssC, w_asg, w_asgL, w_asgO, w_app, w_set, w_fset, w_aug, w_ex, w_retE, w_retN, w_retO, w_if, w_for, w_rse, w_try, w_brk, w_cont, w_pass, w_hret, w_hunl, OptK_s, RdK_bl, RdK_int, RdK_str, RdK_non, RdK_tup, RdK_lst, RdK_dK, RdK_dT, RdK_ins, RdK_fn, RdK_scr, RdK_ol, ChkK_fz, ChkK_l, ChkK_i, ChkK_k, ChkK_t, ValK_int, ValK_bl, ValK_lst, ValK_tup, LstK_l, BlK_b, InK_i, FlK_nx, FlK_ct, FlK_bk, FlK_rt, RcK_ok, RcK_exc, LoK_nx, LoK_ct, LoK_bk, LoK_rt, c_eq, c_ne, c_eqb, c_neb, c_lt, c_gt, c_le, c_ge, c_is, c_isnt, bn_f, bn_t, b_add, b_sub, a_add, a_sub, t_ii, t_ib, t_it, t_il, t_is, t_bi, t_bb, t_bt, t_bl, t_bs, t_ti, t_tb, t_tt, t_tl, t_ts, t_li, t_lb, t_lt, t_ll, t_ls, t_ni, t_nb, t_nt, t_nl, t_ns, t_si, t_sb, t_st, t_sl, t_ss, n_i, n_b, n_t, n_l, n_s, n_n, i_lenT, i_lenL, i_lenK, i_tupL, i_tupT, i_lstL, i_lstT, i_lstS, i_intI, i_intB, i_abs, i_min2, i_max2, i_all, i_any, i_sum, x_lst, x_tup, at0, at1, at2, at3, q_tup, q_lst, g_nil, g_l0, g_l1, g_l2, g_l3, g_fz, s_l0, s_l1, s_l2, s_l3, qv_i, qv_l, qv_t, qv_s, qv_b, qq_var, qq_int, qq_pl, p_nil, p_ix, st_nm, st_tup, sn_nil, sn_cons, ta_nil, ta_d, ta_io, pb_nil, pb_c, fr_i, fr_b, fr_t, fr_l, fr_s, fr_n, fr_c, fr_k, fr_ol, fr_oc, fz_nil, fz_cons, fz_fz, ou_nil, ou_c, un_l, un_f, un_c, fin_nx, fin_rt, wp_nil, wp_c, tpL, tpT, NwK_ok, NwK_exc, m_t2, m_il, m_it, m_ik, sl_t, sl_l, Option.bind_some, Option.map_some, Option.map, List.any_cons, List.any_nil, Bool.or_self, List.getElem?_cons_zero, List.getElem?_cons_succ, List.set_cons_zero, List.set_cons_succ, List.length_cons, List.length_nil, Nat.reduceAdd, Nat.reduceLT, Nat.lt_add_one, Nat.zero_add, Int.cast_ofNat_Int, Int.reduceLE, Int.reduceLT, Int.reduceEq, Int.reduceNeg, Nat.reduceLeDiff, ↓reduceIte, Option.getD, List.nil_append, List.cons_append, decide_eq_true_eq, decide_true, decide_false, Bool.false_eq_true, Bool.not_true, Bool.not_false, Bool.and_true, Bool.and_false, Bool.true_and, Bool.or_true, Bool.or_false, and_true, true_and, and_false, false_and, not_true, not_false_eq_true, Bool.not_eq_true, decide_eq_false_iff_not, c1, eq_true c2, RdK_d vd_ne, L35.v0, L35.v1, L35.v2, show pv u v w r = v by unfold pv; rw [if_neg c1, if_pos c2]]
            first | rfl | exact ⟨rfl, rfl⟩ | exact ⟨rfl, rfl, rfl⟩
          · simp only [w_bnd, w_ret, w_opt, w_fail, w_ite, w_tb, w_ti, w_rd, w_chk, w_chkL, w_plVal, w_plTop, w_q, w_setM, w_clr, w_setO1, w_modR, w_frz, w_var, w_non, w_bl, w_int, w_str, w_gint, w_bin, w_neg, w_inv, w_not, w_cmp, w_chn, w_isN, w_mem, w_andE, w_orE, w_ife, w_tup, w_lst, w_idx, w_eoN, w_eoS, w_slc, w_lrng1, w_fld, w_pl, w_call, w_new, w_bi, w_biP, w_isi, w_lc, w_dc, w_esN, w_esC, w_etN, w_etS, w_arE, w_arI, w_asN, w_asC, w_iE, w_iR1, w_iR2, w_pN, w_pX, w_pXX, w_pFX, w_pF, w_callF, w_oe, w_ol, w_ocall, w_onew, w_osN, w_osC, w_ssN, w_ssC, w_asg, w_asgL, w_asgO, w_app, w_set, w_fset, w_aug, w_ex, w_retE, w_retN, w_retO, w_if, w_for, w_rse, w_try, w_brk, w_cont, w_pass, w_hret, w_hunl, OptK_s, RdK_bl, RdK_int, RdK_str, RdK_non, RdK_tup, RdK_lst, RdK_dK, RdK_dT, RdK_ins, RdK_fn, RdK_scr, RdK_ol, ChkK_fz, ChkK_l, ChkK_i, ChkK_k, ChkK_t, ValK_int, ValK_bl, ValK_lst, ValK_tup, LstK_l, BlK_b, InK_i, FlK_nx, FlK_ct, FlK_bk, FlK_rt, RcK_ok, RcK_exc, LoK_nx, LoK_ct, LoK_bk, LoK_rt, c_eq, c_ne, c_eqb, c_neb, c_lt, c_gt, c_le, c_ge, c_is, c_isnt, bn_f, bn_t, b_add, b_sub, a_add, a_sub, t_ii, t_ib, t_it, t_il, t_is, t_bi, t_bb, t_bt, t_bl, t_bs, t_ti, t_tb, t_tt, t_tl, t_ts, t_li, t_lb, t_lt, t_ll, t_ls, t_ni, t_nb, t_nt, t_nl, t_ns, t_si, t_sb, t_st, t_sl, t_ss, n_i, n_b, n_t, n_l, n_s, n_n, i_lenT, i_lenL, i_lenK, i_tupL, i_tupT, i_lstL, i_lstT, i_lstS, i_intI, i_intB, i_abs, i_min2, i_max2, i_all, i_any, i_sum, x_lst, x_tup, at0, at1, at2, at3, q_tup, q_lst, g_nil, g_l0, g_l1, g_l2, g_l3, g_fz, s_l0, s_l1, s_l2, s_l3, qv_i, qv_l, qv_t, qv_s, qv_b, qq_var, qq_int, qq_pl, p_nil, p_ix, st_nm, st_tup, sn_nil, sn_cons, ta_nil, ta_d, ta_io, pb_nil, pb_c, fr_i, fr_b, fr_t, fr_l, fr_s, fr_n, fr_c, fr_k, fr_ol, fr_oc, fz_nil, fz_cons, fz_fz, ou_nil, ou_c, un_l, un_f, un_c, fin_nx, fin_rt, wp_nil, wp_c, tpL, tpT, NwK_ok, NwK_exc, m_t2, m_il, m_it, m_ik, sl_t, sl_l, Option.bind_some, Option.map_some, Option.map, List.any_cons, List.any_nil, Bool.or_self, List.getElem?_cons_zero, List.getElem?_cons_succ, List.set_cons_zero, List.set_cons_succ, List.length_cons, List.length_nil, Nat.reduceAdd, Nat.reduceLT, Nat.lt_add_one, Nat.zero_add, Int.cast_ofNat_Int, Int.reduceLE, Int.reduceLT, Int.reduceEq, Int.reduceNeg, Nat.reduceLeDiff, ↓reduceIte, Option.getD, List.nil_append, List.cons_append, decide_eq_true_eq, decide_true, decide_false, Bool.false_eq_true, Bool.not_true, Bool.not_false, Bool.and_true, Bool.and_false, Bool.true_and, Bool.or_true, Bool.or_false, and_true, true_and, and_false, false_and, not_true, not_false_eq_true, Bool.not_eq_true, decide_eq_false_iff_not, c1, c2, RdK_d vd_ne, L35.v0, L35.v1, L35.v2, show pv u v w r = w by unfold pv; rw [if_neg c1, if_neg c2]]
            first | rfl | exact ⟨rfl, rfl⟩ | exact ⟨rfl, rfl, rfl⟩
      simp only [w_bnd, w_ret, w_opt, w_fail, w_ite, w_tb, w_ti, w_rd, w_chk, w_chkL, w_plVal, w_plTop, w_q, w_setM, w_clr, w_setO1, w_modR, w_frz, w_var, w_non, w_bl, w_int, w_str, w_gint, w_bin, w_neg, w_inv, w_not, w_cmp, w_chn, w_isN, w_mem, w_andE, w_orE, w_ife, w_tup, w_lst, w_idx, w_eoN, w_eoS, w_slc, w_lrng1, w_fld, w_pl, w_call, w_new, w_bi, w_biP, w_isi, w_lc, w_dc, w_esN, w_esC, w_etN, w_etS, w_arE, w_arI, w_asN, w_asC, w_iE, w_iR1, w_iR2, w_pN, w_pX, w_pXX, w_pFX, w_pF, w_callF, w_oe, w_ol, w_ocall, w_onew, w_osN, w_osC, w_ssN, w_ssC, w_asg, w_asgL, w_asgO, w_app, w_set, w_fset, w_aug, w_ex, w_retE, w_retN, w_retO, w_if, w_for, w_rse, w_try, w_brk, w_cont, w_pass, w_hret, w_hunl, OptK_s, RdK_bl, RdK_int, RdK_str, RdK_non, RdK_tup, RdK_lst, RdK_dK, RdK_dT, RdK_ins, RdK_fn, RdK_scr, RdK_ol, ChkK_fz, ChkK_l, ChkK_i, ChkK_k, ChkK_t, ValK_int, ValK_bl, ValK_lst, ValK_tup, LstK_l, BlK_b, InK_i, FlK_nx, FlK_ct, FlK_bk, FlK_rt, RcK_ok, RcK_exc, LoK_nx, LoK_ct, LoK_bk, LoK_rt, c_eq, c_ne, c_eqb, c_neb, c_lt, c_gt, c_le, c_ge, c_is, c_isnt, bn_f, bn_t, b_add, b_sub, a_add, a_sub, t_ii, t_ib, t_it, t_il, t_is, t_bi, t_bb, t_bt, t_bl, t_bs, t_ti, t_tb, t_tt, t_tl, t_ts, t_li, t_lb, t_lt, t_ll, t_ls, t_ni, t_nb, t_nt, t_nl, t_ns, t_si, t_sb, t_st, t_sl, t_ss, n_i, n_b, n_t, n_l, n_s, n_n, i_lenT, i_lenL, i_lenK, i_tupL, i_tupT, i_lstL, i_lstT, i_lstS, i_intI, i_intB, i_abs, i_min2, i_max2, i_all, i_any, i_sum, x_lst, x_tup, at0, at1, at2, at3, q_tup, q_lst, g_nil, g_l0, g_l1, g_l2, g_l3, g_fz, s_l0, s_l1, s_l2, s_l3, qv_i, qv_l, qv_t, qv_s, qv_b, qq_var, qq_int, qq_pl, p_nil, p_ix, st_nm, st_tup, sn_nil, sn_cons, ta_nil, ta_d, ta_io, pb_nil, pb_c, fr_i, fr_b, fr_t, fr_l, fr_s, fr_n, fr_c, fr_k, fr_ol, fr_oc, fz_nil, fz_cons, fz_fz, ou_nil, ou_c, un_l, un_f, un_c, fin_nx, fin_rt, wp_nil, wp_c, tpL, tpT, NwK_ok, NwK_exc, m_t2, m_il, m_it, m_ik, sl_t, sl_l, Option.bind_some, Option.map_some, Option.map, List.any_cons, List.any_nil, Bool.or_self, List.getElem?_cons_zero, List.getElem?_cons_succ, List.set_cons_zero, List.set_cons_succ, List.length_cons, List.length_nil, Nat.reduceAdd, Nat.reduceLT, Nat.lt_add_one, Nat.zero_add, Int.cast_ofNat_Int, Int.reduceLE, Int.reduceLT, Int.reduceEq, Int.reduceNeg, Nat.reduceLeDiff, ↓reduceIte, Option.getD, List.nil_append, List.cons_append, decide_eq_true_eq, decide_true, decide_false, Bool.false_eq_true, Bool.not_true, Bool.not_false, Bool.and_true, Bool.and_false, Bool.true_and, Bool.or_true, Bool.or_false, and_true, true_and, and_false, false_and, not_true, not_false_eq_true, Bool.not_eq_true, decide_eq_false_iff_not, List.length_map, rl, RdK_res, RdK_d vd_ne, g1, g2, g3, eS]
      exact ⟨.fz (.int i), _, _, rfl, rfl⟩
    obtain ⟨z10, z13, z15, hz10, rfl⟩ := hI
    -- without a game
    have eSw : run P 11 9 [.fz (resD s gs)] = .ok (.fz (resD s (gs.map swp))) [] := swapped_ok 7 h0 (by omega) hg (by omega)
    have glm : gs.length ≤ 100000 := by omega
    have eS3 := same3 (okS_l3 (okS_gms (k := 0) (gs := gs.map swp) (by rw [List.length_map]; omega)) (okS_int (k := 2) (i := s)) (okS_gms (k := 0) (gs := gs) glm))
    rw [List.map_map] at eS3
    have bads := fun d hd => points_of_bad 8 (s := s) (gs := gs) (d := d) hd
    have b1 := bads .non (by simp)
    have b2 := bads (.tup [.int 3, .int 1]) (by simp)
    have b3 := bads (.lst [.int 3, .int 1, .int 0]) (by simp)
    have b4 := bads (.tup [.int 3, .int 1, .non]) (by simp)
    have b5 := bads (.tup [.bl true, .int 1, .int 0]) (by simp)
    have badl := fun d hd => line_of_bad 8 (s := s) (gs := gs) (u := u) (v := v) (w := w) (d := d) hd
    have c1 := badl .non (.inl rfl)
    have c2 := badl (.int s) (.inr (.inl rfl))
    have c3 := badl (.int (-1)) (.inr (.inr (.inl rfl)))
    have c4 := badl (.bl true) (.inr (.inr (.inr rfl)))
    obtain ⟨R, hR⟩ : ∃ R : Ss, R = ((.cons (.ite (.not (.call 12 (.cons (.e (.lst (.cons (.fld (.call 9 (.cons (.e (.var 7)) .nil)) "games") (.cons (.fld (.var 7) "size") (.cons (.fld (.var 7) "games") .nil))))) (.cons (.e (.lst (.cons (.bi .tuple (.cons (.lc (.tup (.cons (.var 26) (.cons (.var 23) (.cons (.var 24) (.cons (.var 22) .nil))))) (.tup [23, 26, 22, 24]) (.e (.var 6)) .none [23, 26, 22, 24]) .nil)) (.cons (.var 5) (.cons (.var 6) .nil))))) .nil)))) (.cons (.ret (.bl false)) .nil) .nil) (.cons (.for (.nm 12) (.e (.lst (.cons .non (.cons (.tup (.cons (.int 3) (.cons (.int 1) .nil))) (.cons (.lst (.cons (.int 3) (.cons (.int 1) (.cons (.int 0) .nil)))) (.cons (.tup (.cons (.int 3) (.cons (.int 1) (.cons .non .nil)))) (.cons (.tup (.cons (.bl true) (.cons (.int 1) (.cons (.int 0) .nil)))) .nil))))))) (.cons (.try (.cons (.ex (.call 6 (.cons (.e (.var 7)) (.cons (.e (.var 12)) .nil)))) (.cons (.ret (.bl false)) .nil)) [1] (.some 17) (.unless (.isE [0, 1]) (.bl false))) .nil)) (.cons (.for (.nm 12) (.e (.lst (.cons .non (.cons (.var 5) (.cons (.neg (.int 1)) (.cons (.bl true) .nil)))))) (.cons (.try (.cons (.ex (.call 7 (.cons (.e (.var 7)) (.cons (.e (.var 12)) (.cons (.e (.var 8)) .nil))))) (.cons (.ret (.bl false)) .nil)) [1] (.some 17) (.unless (.isE [0, 1]) (.bl false))) .nil)) .nil))) : Ss) := ⟨_, rfl⟩
    rw [← hR]
    have rest : ∀ (o7 x16 : O), Dr o7 → WX (exs P (run P 11) R) [.fz (.scr ns), o7, .fz (.int turn), .un, .un, .fz (.int s), .fz (.tup (gs.map gD)), .fz (resD s gs), .fz (vD u v w), .fz (.lst ((rgI s.toNat).map fun i => lineD u v w (ownR (pr s) i gs))), z10, .fz (.lst (ls.map .int)), x12, z13, y14, z15, x16, x17, y18, y19, .un, .un, .un, .un, .un, .un, .un] (fun fl f2 => fl = .nx ∧ ∃ (o x2 x5 x6 x7 x8 x9 x10 x11 x12 x13 x14 x15 x16 x17 x18 x19 : O), Dr o ∧ isOwn x10 = false ∧ f2 = [.fz (.scr ns), o, x2, .un, .un, x5, x6, x7, x8, x9, x10, x11, x12, x13, x14, x15, x16, x17, x18, x19, .un, .un, .un, .un, .un, .un, .un]) (fun _ _ _ => False) := by
      intro o7 x16 hd7
      subst hR
      simp only [w_bnd, w_ret, w_opt, w_fail, w_ite, w_tb, w_ti, w_rd, w_chk, w_chkL, w_plVal, w_plTop, w_q, w_setM, w_clr, w_setO1, w_modR, w_frz, w_var, w_non, w_bl, w_int, w_str, w_gint, w_bin, w_neg, w_inv, w_not, w_cmp, w_chn, w_isN, w_mem, w_andE, w_orE, w_ife, w_tup, w_lst, w_idx, w_eoN, w_eoS, w_slc, w_lrng1, w_fld, w_pl, w_call, w_new, w_bi, w_biP, w_isi, w_lc, w_dc, w_esN, w_esC, w_etN, w_etS, w_arE, w_arI, w_asN, w_asC, w_iE, w_iR1, w_iR2, w_pN, w_pX, w_pXX, w_pFX, w_pF, w_callF, w_oe, w_ol, w_ocall, w_onew, w_osN, w_osC, w_ssN, w_ssC, w_asg, w_asgL, w_asgO, w_app, w_set, w_fset, w_aug, w_ex, w_retE, w_retN, w_retO, w_if, w_for, w_rse, w_try, w_brk, w_cont, w_pass, w_hret, w_hunl, OptK_s, RdK_bl, RdK_int, RdK_str, RdK_non, RdK_tup, RdK_lst, RdK_dK, RdK_dT, RdK_ins, RdK_fn, RdK_scr, RdK_ol, ChkK_fz, ChkK_l, ChkK_i, ChkK_k, ChkK_t, ValK_int, ValK_bl, ValK_lst, ValK_tup, LstK_l, BlK_b, InK_i, FlK_nx, FlK_ct, FlK_bk, FlK_rt, RcK_ok, RcK_exc, LoK_nx, LoK_ct, LoK_bk, LoK_rt, c_eq, c_ne, c_eqb, c_neb, c_lt, c_gt, c_le, c_ge, c_is, c_isnt, bn_f, bn_t, b_add, b_sub, a_add, a_sub, t_ii, t_ib, t_it, t_il, t_is, t_bi, t_bb, t_bt, t_bl, t_bs, t_ti, t_tb, t_tt, t_tl, t_ts, t_li, t_lb, t_lt, t_ll, t_ls, t_ni, t_nb, t_nt, t_nl, t_ns, t_si, t_sb, t_st, t_sl, t_ss, n_i, n_b, n_t, n_l, n_s, n_n, i_lenT, i_lenL, i_lenK, i_tupL, i_tupT, i_lstL, i_lstT, i_lstS, i_intI, i_intB, i_abs, i_min2, i_max2, i_all, i_any, i_sum, x_lst, x_tup, at0, at1, at2, at3, q_tup, q_lst, g_nil, g_l0, g_l1, g_l2, g_l3, g_fz, s_l0, s_l1, s_l2, s_l3, qv_i, qv_l, qv_t, qv_s, qv_b, qq_var, qq_int, qq_pl, p_nil, p_ix, st_nm, st_tup, sn_nil, sn_cons, ta_nil, ta_d, ta_io, pb_nil, pb_c, fr_i, fr_b, fr_t, fr_l, fr_s, fr_n, fr_c, fr_k, fr_ol, fr_oc, fz_nil, fz_cons, fz_fz, ou_nil, ou_c, un_l, un_f, un_c, fin_nx, fin_rt, wp_nil, wp_c, tpL, tpT, NwK_ok, NwK_exc, m_t2, m_il, m_it, m_ik, sl_t, sl_l, Option.bind_some, Option.map_some, Option.map, List.any_cons, List.any_nil, Bool.or_self, List.getElem?_cons_zero, List.getElem?_cons_succ, List.set_cons_zero, List.set_cons_succ, List.length_cons, List.length_nil, Nat.reduceAdd, Nat.reduceLT, Nat.lt_add_one, Nat.zero_add, Int.cast_ofNat_Int, Int.reduceLE, Int.reduceLT, Int.reduceEq, Int.reduceNeg, Nat.reduceLeDiff, ↓reduceIte, Option.getD, List.nil_append, List.cons_append, decide_eq_true_eq, decide_true, decide_false, Bool.false_eq_true, Bool.not_true, Bool.not_false, Bool.and_true, Bool.and_false, Bool.true_and, Bool.or_true, Bool.or_false, and_true, true_and, and_false, false_and, not_true, not_false_eq_true, Bool.not_eq_true, decide_eq_false_iff_not, RdK_res, eSw, fr_res, f_games, f_size]
      refine w_lcM (gD ∘ swp) rfl rfl (fun g hx => ?_) ?_
      · unfold gD
        simp only [w_bnd, w_ret, w_opt, w_fail, w_ite, w_tb, w_ti, w_rd, w_chk, w_chkL, w_plVal, w_plTop, w_q, w_setM, w_clr, w_setO1, w_modR, w_frz, w_var, w_non, w_bl, w_int, w_str, w_gint, w_bin, w_neg, w_inv, w_not, w_cmp, w_chn, w_isN, w_mem, w_andE, w_orE, w_ife, w_tup, w_lst, w_idx, w_eoN, w_eoS, w_slc, w_lrng1, w_fld, w_pl, w_call, w_new, w_bi, w_biP, w_isi, w_lc, w_dc, w_esN, w_esC, w_etN, w_etS, w_arE, w_arI, w_asN, w_asC, w_iE, w_iR1, w_iR2, w_pN, w_pX, w_pXX, w_pFX, w_pF, w_callF, w_oe, w_ol, w_ocall, w_onew, w_osN, w_osC, w_ssN, w_ssC, w_asg, w_asgL, w_asgO, w_app, w_set, w_fset, w_aug, w_ex, w_retE, w_retN, w_retO, w_if, w_for, w_rse, w_try, w_brk, w_cont, w_pass, w_hret, w_hunl, OptK_s, RdK_bl, RdK_int, RdK_str, RdK_non, RdK_tup, RdK_lst, RdK_dK, RdK_dT, RdK_ins, RdK_fn, RdK_scr, RdK_ol, ChkK_fz, ChkK_l, ChkK_i, ChkK_k, ChkK_t, ValK_int, ValK_bl, ValK_lst, ValK_tup, LstK_l, BlK_b, InK_i, FlK_nx, FlK_ct, FlK_bk, FlK_rt, RcK_ok, RcK_exc, LoK_nx, LoK_ct, LoK_bk, LoK_rt, c_eq, c_ne, c_eqb, c_neb, c_lt, c_gt, c_le, c_ge, c_is, c_isnt, bn_f, bn_t, b_add, b_sub, a_add, a_sub, t_ii, t_ib, t_it, t_il, t_is, t_bi, t_bb, t_bt, t_bl, t_bs, t_ti, t_tb, t_tt, t_tl, t_ts, t_li, t_lb, t_lt, t_ll, t_ls, t_ni, t_nb, t_nt, t_nl, t_ns, t_si, t_sb, t_st, t_sl, t_ss, n_i, n_b, n_t, n_l, n_s, n_n, i_lenT, i_lenL, i_lenK, i_tupL, i_tupT, i_lstL, i_lstT, i_lstS, i_intI, i_intB, i_abs, i_min2, i_max2, i_all, i_any, i_sum, x_lst, x_tup, at0, at1, at2, at3, q_tup, q_lst, g_nil, g_l0, g_l1, g_l2, g_l3, g_fz, s_l0, s_l1, s_l2, s_l3, qv_i, qv_l, qv_t, qv_s, qv_b, qq_var, qq_int, qq_pl, p_nil, p_ix, st_nm, st_tup, sn_nil, sn_cons, ta_nil, ta_d, ta_io, pb_nil, pb_c, fr_i, fr_b, fr_t, fr_l, fr_s, fr_n, fr_c, fr_k, fr_ol, fr_oc, fz_nil, fz_cons, fz_fz, ou_nil, ou_c, un_l, un_f, un_c, fin_nx, fin_rt, wp_nil, wp_c, tpL, tpT, NwK_ok, NwK_exc, m_t2, m_il, m_it, m_ik, sl_t, sl_l, Option.bind_some, Option.map_some, Option.map, List.any_cons, List.any_nil, Bool.or_self, List.getElem?_cons_zero, List.getElem?_cons_succ, List.set_cons_zero, List.set_cons_succ, List.length_cons, List.length_nil, Nat.reduceAdd, Nat.reduceLT, Nat.lt_add_one, Nat.zero_add, Int.cast_ofNat_Int, Int.reduceLE, Int.reduceLT, Int.reduceEq, Int.reduceNeg, Nat.reduceLeDiff, ↓reduceIte, Option.getD, List.nil_append, List.cons_append, decide_eq_true_eq, decide_true, decide_false, Bool.false_eq_true, Bool.not_true, Bool.not_false, Bool.and_true, Bool.and_false, Bool.true_and, Bool.or_true, Bool.or_false, and_true, true_and, and_false, false_and, not_true, not_false_eq_true, Bool.not_eq_true, decide_eq_false_iff_not]
        first | rfl | exact ⟨rfl, rfl⟩ | exact ⟨rfl, rfl, rfl⟩
      simp only [w_bnd, w_ret, w_opt, w_fail, w_ite, w_tb, w_ti, w_rd, w_chk, w_chkL, w_plVal, w_plTop, w_q, w_setM, w_clr, w_setO1, w_modR, w_frz, w_var, w_non, w_bl, w_int, w_str, w_gint, w_bin, w_neg, w_inv, w_not, w_cmp, w_chn, w_isN, w_mem, w_andE, w_orE, w_ife, w_tup, w_lst, w_idx, w_eoN, w_eoS, w_slc, w_lrng1, w_fld, w_pl, w_call, w_new, w_bi, w_biP, w_isi, w_lc, w_dc, w_esN, w_esC, w_etN, w_etS, w_arE, w_arI, w_asN, w_asC, w_iE, w_iR1, w_iR2, w_pN, w_pX, w_pXX, w_pFX, w_pF, w_callF, w_oe, w_ol, w_ocall, w_onew, w_osN, w_osC, w_ssN, w_ssC, w_asg, w_asgL, w_asgO, w_app, w_set, w_fset, w_aug, w_ex, w_retE, w_retN, w_retO, w_if, w_for, w_rse, w_try, w_brk, w_cont, w_pass, w_hret, w_hunl, OptK_s, RdK_bl, RdK_int, RdK_str, RdK_non, RdK_tup, RdK_lst, RdK_dK, RdK_dT, RdK_ins, RdK_fn, RdK_scr, RdK_ol, ChkK_fz, ChkK_l, ChkK_i, ChkK_k, ChkK_t, ValK_int, ValK_bl, ValK_lst, ValK_tup, LstK_l, BlK_b, InK_i, FlK_nx, FlK_ct, FlK_bk, FlK_rt, RcK_ok, RcK_exc, LoK_nx, LoK_ct, LoK_bk, LoK_rt, c_eq, c_ne, c_eqb, c_neb, c_lt, c_gt, c_le, c_ge, c_is, c_isnt, bn_f, bn_t, b_add, b_sub, a_add, a_sub, t_ii, t_ib, t_it, t_il, t_is, t_bi, t_bb, t_bt, t_bl, t_bs, t_ti, t_tb, t_tt, t_tl, t_ts, t_li, t_lb, t_lt, t_ll, t_ls, t_ni, t_nb, t_nt, t_nl, t_ns, t_si, t_sb, t_st, t_sl, t_ss, n_i, n_b, n_t, n_l, n_s, n_n, i_lenT, i_lenL, i_lenK, i_tupL, i_tupT, i_lstL, i_lstT, i_lstS, i_intI, i_intB, i_abs, i_min2, i_max2, i_all, i_any, i_sum, x_lst, x_tup, at0, at1, at2, at3, q_tup, q_lst, g_nil, g_l0, g_l1, g_l2, g_l3, g_fz, s_l0, s_l1, s_l2, s_l3, qv_i, qv_l, qv_t, qv_s, qv_b, qq_var, qq_int, qq_pl, p_nil, p_ix, st_nm, st_tup, sn_nil, sn_cons, ta_nil, ta_d, ta_io, pb_nil, pb_c, fr_i, fr_b, fr_t, fr_l, fr_s, fr_n, fr_c, fr_k, fr_ol, fr_oc, fz_nil, fz_cons, fz_fz, ou_nil, ou_c, un_l, un_f, un_c, fin_nx, fin_rt, wp_nil, wp_c, tpL, tpT, NwK_ok, NwK_exc, m_t2, m_il, m_it, m_ik, sl_t, sl_l, Option.bind_some, Option.map_some, Option.map, List.any_cons, List.any_nil, Bool.or_self, List.getElem?_cons_zero, List.getElem?_cons_succ, List.set_cons_zero, List.set_cons_succ, List.length_cons, List.length_nil, Nat.reduceAdd, Nat.reduceLT, Nat.lt_add_one, Nat.zero_add, Int.cast_ofNat_Int, Int.reduceLE, Int.reduceLT, Int.reduceEq, Int.reduceNeg, Nat.reduceLeDiff, ↓reduceIte, Option.getD, List.nil_append, List.cons_append, decide_eq_true_eq, decide_true, decide_false, Bool.false_eq_true, Bool.not_true, Bool.not_false, Bool.and_true, Bool.and_false, Bool.true_and, Bool.or_true, Bool.or_false, and_true, true_and, and_false, false_and, not_true, not_false_eq_true, Bool.not_eq_true, decide_eq_false_iff_not, w_blockE, w_lC, w_lN, w_fC, w_fN, cw_nil, cw_c, io_un, io_fz, bk_nil, bk_c, i_allC, i_anyC, i_sumC, bls_nil, bls_c, intL_nil, intL_c, List.all_cons, List.all_nil, id_eq, Option.getD_some, Option.getD_none, List.length_map, glm, List.map_map, eS3, RdK_res, b1, b2, b3, b4, b5, exl, ct1, he1, RdK_d vd_ne, c1, c2, c3, c4]
      exact ⟨_, _, _, _, _, _, _, _, _, _, _, _, _, _, _, _, _, hd7, hz10, rfl⟩
    by_cases hpos : (0 : Int) < (gs.length : Int)
    · obtain ⟨k, o7, e7, hd7, k0, k1⟩ := dr 10 hd6 (gs.length : Int) hpos (by omega)
      have eW : run P 11 8 [.fz (resD s gs), .fz (.int k)] = .ok (.fz (resD s (cutD gs none (some k) ++ cutD gs (some (k + 1)) none))) [] := without_ok 7 h0 (by omega) hg (by omega)
      have l1 : (cutD gs none (some k)).length ≤ 12 := Nat.le_trans cut_len hgl
      have l2 : (cutD gs (some (k + 1)) none).length ≤ 12 := Nat.le_trans cut_len hgl
      have ad : binD .add (.tup ((cutD gs none (some k)).map gD)) (.tup ((cutD gs (some (k + 1)) none).map gD)) = some (.tup ((cutD gs none (some k)).map gD ++ (cutD gs (some (k + 1)) none).map gD)) := b_addT (by rw [List.length_map, List.length_map]; omega)
      have eS2 := same3 (okS_gms (k := 1) (gs := cutD gs none (some k) ++ cutD gs (some (k + 1)) none) (by rw [List.length_append]; omega))
      rw [List.map_append] at eS2
      simp only [w_bnd, w_ret, w_opt, w_fail, w_ite, w_tb, w_ti, w_rd, w_chk, w_chkL, w_plVal, w_plTop, w_q, w_setM, w_clr, w_setO1, w_modR, w_frz, w_var, w_non, w_bl, w_int, w_str, w_gint, w_bin, w_neg, w_inv, w_not, w_cmp, w_chn, w_isN, w_mem, w_andE, w_orE, w_ife, w_tup, w_lst, w_idx, w_eoN, w_eoS, w_slc, w_lrng1, w_fld, w_pl, w_call, w_new, w_bi, w_biP, w_isi, w_lc, w_dc, w_esN, w_esC, w_etN, w_etS, w_arE, w_arI, w_asN, w_asC, w_iE, w_iR1, w_iR2, w_pN, w_pX, w_pXX, w_pFX, w_pF, w_callF, w_oe, w_ol, w_ocall, w_onew, w_osN, w_osC, w_ssN, w_ssC, w_asg, w_asgL, w_asgO, w_app, w_set, w_fset, w_aug, w_ex, w_retE, w_retN, w_retO, w_if, w_for, w_rse, w_try, w_brk, w_cont, w_pass, w_hret, w_hunl, OptK_s, RdK_bl, RdK_int, RdK_str, RdK_non, RdK_tup, RdK_lst, RdK_dK, RdK_dT, RdK_ins, RdK_fn, RdK_scr, RdK_ol, ChkK_fz, ChkK_l, ChkK_i, ChkK_k, ChkK_t, ValK_int, ValK_bl, ValK_lst, ValK_tup, LstK_l, BlK_b, InK_i, FlK_nx, FlK_ct, FlK_bk, FlK_rt, RcK_ok, RcK_exc, LoK_nx, LoK_ct, LoK_bk, LoK_rt, c_eq, c_ne, c_eqb, c_neb, c_lt, c_gt, c_le, c_ge, c_is, c_isnt, bn_f, bn_t, b_add, b_sub, a_add, a_sub, t_ii, t_ib, t_it, t_il, t_is, t_bi, t_bb, t_bt, t_bl, t_bs, t_ti, t_tb, t_tt, t_tl, t_ts, t_li, t_lb, t_lt, t_ll, t_ls, t_ni, t_nb, t_nt, t_nl, t_ns, t_si, t_sb, t_st, t_sl, t_ss, n_i, n_b, n_t, n_l, n_s, n_n, i_lenT, i_lenL, i_lenK, i_tupL, i_tupT, i_lstL, i_lstT, i_lstS, i_intI, i_intB, i_abs, i_min2, i_max2, i_all, i_any, i_sum, x_lst, x_tup, at0, at1, at2, at3, q_tup, q_lst, g_nil, g_l0, g_l1, g_l2, g_l3, g_fz, s_l0, s_l1, s_l2, s_l3, qv_i, qv_l, qv_t, qv_s, qv_b, qq_var, qq_int, qq_pl, p_nil, p_ix, st_nm, st_tup, sn_nil, sn_cons, ta_nil, ta_d, ta_io, pb_nil, pb_c, fr_i, fr_b, fr_t, fr_l, fr_s, fr_n, fr_c, fr_k, fr_ol, fr_oc, fz_nil, fz_cons, fz_fz, ou_nil, ou_c, un_l, un_f, un_c, fin_nx, fin_rt, wp_nil, wp_c, tpL, tpT, NwK_ok, NwK_exc, m_t2, m_il, m_it, m_ik, sl_t, sl_l, Option.bind_some, Option.map_some, Option.map, List.any_cons, List.any_nil, Bool.or_self, List.getElem?_cons_zero, List.getElem?_cons_succ, List.set_cons_zero, List.set_cons_succ, List.length_cons, List.length_nil, Nat.reduceAdd, Nat.reduceLT, Nat.lt_add_one, Nat.zero_add, Int.cast_ofNat_Int, Int.reduceLE, Int.reduceLT, Int.reduceEq, Int.reduceNeg, Nat.reduceLeDiff, ↓reduceIte, Option.getD, List.nil_append, List.cons_append, decide_eq_true_eq, decide_true, decide_false, Bool.false_eq_true, Bool.not_true, Bool.not_false, Bool.and_true, Bool.and_false, Bool.true_and, Bool.or_true, Bool.or_false, and_true, true_and, and_false, false_and, not_true, not_false_eq_true, Bool.not_eq_true, decide_eq_false_iff_not, List.length_map, hpos, ChkK_o hd6.ne, tk_o hd6.ne, e7, RdK_res, eW, fr_res, f_games, cut_map, ad, List.map_append, eS2]
      refine (rest o7 _ hd7).mono (fun fl f2 q => ?_) fun _ _ _ z => z.elim
      obtain ⟨e8, q⟩ := q
      subst e8
      simp only [LoK_nx]
      exact q
    · simp only [w_bnd, w_ret, w_opt, w_fail, w_ite, w_tb, w_ti, w_rd, w_chk, w_chkL, w_plVal, w_plTop, w_q, w_setM, w_clr, w_setO1, w_modR, w_frz, w_var, w_non, w_bl, w_int, w_str, w_gint, w_bin, w_neg, w_inv, w_not, w_cmp, w_chn, w_isN, w_mem, w_andE, w_orE, w_ife, w_tup, w_lst, w_idx, w_eoN, w_eoS, w_slc, w_lrng1, w_fld, w_pl, w_call, w_new, w_bi, w_biP, w_isi, w_lc, w_dc, w_esN, w_esC, w_etN, w_etS, w_arE, w_arI, w_asN, w_asC, w_iE, w_iR1, w_iR2, w_pN, w_pX, w_pXX, w_pFX, w_pF, w_callF, w_oe, w_ol, w_ocall, w_onew, w_osN, w_osC, w_ssN, w_ssC, w_asg, w_asgL, w_asgO, w_app, w_set, w_fset, w_aug, w_ex, w_retE, w_retN, w_retO, w_if, w_for, w_rse, w_try, w_brk, w_cont, w_pass, w_hret, w_hunl, OptK_s, RdK_bl, RdK_int, RdK_str, RdK_non, RdK_tup, RdK_lst, RdK_dK, RdK_dT, RdK_ins, RdK_fn, RdK_scr, RdK_ol, ChkK_fz, ChkK_l, ChkK_i, ChkK_k, ChkK_t, ValK_int, ValK_bl, ValK_lst, ValK_tup, LstK_l, BlK_b, InK_i, FlK_nx, FlK_ct, FlK_bk, FlK_rt, RcK_ok, RcK_exc, LoK_nx, LoK_ct, LoK_bk, LoK_rt, c_eq, c_ne, c_eqb, c_neb, c_lt, c_gt, c_le, c_ge, c_is, c_isnt, bn_f, bn_t, b_add, b_sub, a_add, a_sub, t_ii, t_ib, t_it, t_il, t_is, t_bi, t_bb, t_bt, t_bl, t_bs, t_ti, t_tb, t_tt, t_tl, t_ts, t_li, t_lb, t_lt, t_ll, t_ls, t_ni, t_nb, t_nt, t_nl, t_ns, t_si, t_sb, t_st, t_sl, t_ss, n_i, n_b, n_t, n_l, n_s, n_n, i_lenT, i_lenL, i_lenK, i_tupL, i_tupT, i_lstL, i_lstT, i_lstS, i_intI, i_intB, i_abs, i_min2, i_max2, i_all, i_any, i_sum, x_lst, x_tup, at0, at1, at2, at3, q_tup, q_lst, g_nil, g_l0, g_l1, g_l2, g_l3, g_fz, s_l0, s_l1, s_l2, s_l3, qv_i, qv_l, qv_t, qv_s, qv_b, qq_var, qq_int, qq_pl, p_nil, p_ix, st_nm, st_tup, sn_nil, sn_cons, ta_nil, ta_d, ta_io, pb_nil, pb_c, fr_i, fr_b, fr_t, fr_l, fr_s, fr_n, fr_c, fr_k, fr_ol, fr_oc, fz_nil, fz_cons, fz_fz, ou_nil, ou_c, un_l, un_f, un_c, fin_nx, fin_rt, wp_nil, wp_c, tpL, tpT, NwK_ok, NwK_exc, m_t2, m_il, m_it, m_ik, sl_t, sl_l, Option.bind_some, Option.map_some, Option.map, List.any_cons, List.any_nil, Bool.or_self, List.getElem?_cons_zero, List.getElem?_cons_succ, List.set_cons_zero, List.set_cons_succ, List.length_cons, List.length_nil, Nat.reduceAdd, Nat.reduceLT, Nat.lt_add_one, Nat.zero_add, Int.cast_ofNat_Int, Int.reduceLE, Int.reduceLT, Int.reduceEq, Int.reduceNeg, Nat.reduceLeDiff, ↓reduceIte, Option.getD, List.nil_append, List.cons_append, decide_eq_true_eq, decide_true, decide_false, Bool.false_eq_true, Bool.not_true, Bool.not_false, Bool.and_true, Bool.and_false, Bool.true_and, Bool.or_true, Bool.or_false, and_true, true_and, and_false, false_and, not_true, not_false_eq_true, Bool.not_eq_true, decide_eq_false_iff_not, List.length_map, hpos]
      refine (rest o6 _ hd6).mono (fun fl f2 q => ?_) fun _ _ _ z => z.elim
      obtain ⟨e8, q⟩ := q
      subst e8
      simp only [LoK_nx]
      exact q
  · obtain ⟨o, x2, x5, x6, x7, x8, x9, x10, x11, x12, x13, x14, x15, x16, x17, x18, x19, hd, hx10, rfl⟩ := hI
    simp only [w_bnd, w_ret, w_opt, w_fail, w_ite, w_tb, w_ti, w_rd, w_chk, w_chkL, w_plVal, w_plTop, w_q, w_setM, w_clr, w_setO1, w_modR, w_frz, w_var, w_non, w_bl, w_int, w_str, w_gint, w_bin, w_neg, w_inv, w_not, w_cmp, w_chn, w_isN, w_mem, w_andE, w_orE, w_ife, w_tup, w_lst, w_idx, w_eoN, w_eoS, w_slc, w_lrng1, w_fld, w_pl, w_call, w_new, w_bi, w_biP, w_isi, w_lc, w_dc, w_esN, w_esC, w_etN, w_etS, w_arE, w_arI, w_asN, w_asC, w_iE, w_iR1, w_iR2, w_pN, w_pX, w_pXX, w_pFX, w_pF, w_callF, w_oe, w_ol, w_ocall, w_onew, w_osN, w_osC, w_ssN, w_ssC, w_asg, w_asgL, w_asgO, w_app, w_set, w_fset, w_aug, w_ex, w_retE, w_retN, w_retO, w_if, w_for, w_rse, w_try, w_brk, w_cont, w_pass, w_hret, w_hunl, OptK_s, RdK_bl, RdK_int, RdK_str, RdK_non, RdK_tup, RdK_lst, RdK_dK, RdK_dT, RdK_ins, RdK_fn, RdK_scr, RdK_ol, ChkK_fz, ChkK_l, ChkK_i, ChkK_k, ChkK_t, ValK_int, ValK_bl, ValK_lst, ValK_tup, LstK_l, BlK_b, InK_i, FlK_nx, FlK_ct, FlK_bk, FlK_rt, RcK_ok, RcK_exc, LoK_nx, LoK_ct, LoK_bk, LoK_rt, c_eq, c_ne, c_eqb, c_neb, c_lt, c_gt, c_le, c_ge, c_is, c_isnt, bn_f, bn_t, b_add, b_sub, a_add, a_sub, t_ii, t_ib, t_it, t_il, t_is, t_bi, t_bb, t_bt, t_bl, t_bs, t_ti, t_tb, t_tt, t_tl, t_ts, t_li, t_lb, t_lt, t_ll, t_ls, t_ni, t_nb, t_nt, t_nl, t_ns, t_si, t_sb, t_st, t_sl, t_ss, n_i, n_b, n_t, n_l, n_s, n_n, i_lenT, i_lenL, i_lenK, i_tupL, i_tupT, i_lstL, i_lstT, i_lstS, i_intI, i_intB, i_abs, i_min2, i_max2, i_all, i_any, i_sum, x_lst, x_tup, at0, at1, at2, at3, q_tup, q_lst, g_nil, g_l0, g_l1, g_l2, g_l3, g_fz, s_l0, s_l1, s_l2, s_l3, qv_i, qv_l, qv_t, qv_s, qv_b, qq_var, qq_int, qq_pl, p_nil, p_ix, st_nm, st_tup, sn_nil, sn_cons, ta_nil, ta_d, ta_io, pb_nil, pb_c, fr_i, fr_b, fr_t, fr_l, fr_s, fr_n, fr_c, fr_k, fr_ol, fr_oc, fz_nil, fz_cons, fz_fz, ou_nil, ou_c, un_l, un_f, un_c, fin_nx, fin_rt, wp_nil, wp_c, tpL, tpT, NwK_ok, NwK_exc, m_t2, m_il, m_it, m_ik, sl_t, sl_l, Option.bind_some, Option.map_some, Option.map, List.any_cons, List.any_nil, Bool.or_self, List.getElem?_cons_zero, List.getElem?_cons_succ, List.set_cons_zero, List.set_cons_succ, List.length_cons, List.length_nil, Nat.reduceAdd, Nat.reduceLT, Nat.lt_add_one, Nat.zero_add, Int.cast_ofNat_Int, Int.reduceLE, Int.reduceLT, Int.reduceEq, Int.reduceNeg, Nat.reduceLeDiff, ↓reduceIte, Option.getD, List.nil_append, List.cons_append, decide_eq_true_eq, decide_true, decide_false, Bool.false_eq_true, Bool.not_true, Bool.not_false, Bool.and_true, Bool.and_false, Bool.true_and, Bool.or_true, Bool.or_false, and_true, true_and, and_false, false_and, not_true, not_false_eq_true, Bool.not_eq_true, decide_eq_false_iff_not]
    refine w_lcP (fun _ => []) rfl rfl (fun d hd => ?_) ?_
    · obtain ⟨hn, er⟩ := wrong_ok 9 d hd
      simp only [w_bnd, w_ret, w_opt, w_fail, w_ite, w_tb, w_ti, w_rd, w_chk, w_chkL, w_plVal, w_plTop, w_q, w_setM, w_clr, w_setO1, w_modR, w_frz, w_var, w_non, w_bl, w_int, w_str, w_gint, w_bin, w_neg, w_inv, w_not, w_cmp, w_chn, w_isN, w_mem, w_andE, w_orE, w_ife, w_tup, w_lst, w_idx, w_eoN, w_eoS, w_slc, w_lrng1, w_fld, w_pl, w_call, w_new, w_bi, w_biP, w_isi, w_lc, w_dc, w_esN, w_esC, w_etN, w_etS, w_arE, w_arI, w_asN, w_asC, w_iE, w_iR1, w_iR2, w_pN, w_pX, w_pXX, w_pFX, w_pF, w_callF, w_oe, w_ol, w_ocall, w_onew, w_osN, w_osC, w_ssN, w_ssC, w_asg, w_asgL, w_asgO, w_app, w_set, w_fset, w_aug, w_ex, w_retE, w_retN, w_retO, w_if, w_for, w_rse, w_try, w_brk, w_cont, w_pass, w_hret, w_hunl, OptK_s, RdK_bl, RdK_int, RdK_str, RdK_non, RdK_tup, RdK_lst, RdK_dK, RdK_dT, RdK_ins, RdK_fn, RdK_scr, RdK_ol, ChkK_fz, ChkK_l, ChkK_i, ChkK_k, ChkK_t, ValK_int, ValK_bl, ValK_lst, ValK_tup, LstK_l, BlK_b, InK_i, FlK_nx, FlK_ct, FlK_bk, FlK_rt, RcK_ok, RcK_exc, LoK_nx, LoK_ct, LoK_bk, LoK_rt, c_eq, c_ne, c_eqb, c_neb, c_lt, c_gt, c_le, c_ge, c_is, c_isnt, bn_f, bn_t, b_add, b_sub, a_add, a_sub, t_ii, t_ib, t_it, t_il, t_is, t_bi, t_bb, t_bt, t_bl, t_bs, t_ti, t_tb, t_tt, t_tl, t_ts, t_li, t_lb, t_lt, t_ll, t_ls, t_ni, t_nb, t_nt, t_nl, t_ns, t_si, t_sb, t_st, t_sl, t_ss, n_i, n_b, n_t, n_l, n_s, n_n, i_lenT, i_lenL, i_lenK, i_tupL, i_tupT, i_lstL, i_lstT, i_lstS, i_intI, i_intB, i_abs, i_min2, i_max2, i_all, i_any, i_sum, x_lst, x_tup, at0, at1, at2, at3, q_tup, q_lst, g_nil, g_l0, g_l1, g_l2, g_l3, g_fz, s_l0, s_l1, s_l2, s_l3, qv_i, qv_l, qv_t, qv_s, qv_b, qq_var, qq_int, qq_pl, p_nil, p_ix, st_nm, st_tup, sn_nil, sn_cons, ta_nil, ta_d, ta_io, pb_nil, pb_c, fr_i, fr_b, fr_t, fr_l, fr_s, fr_n, fr_c, fr_k, fr_ol, fr_oc, fz_nil, fz_cons, fz_fz, ou_nil, ou_c, un_l, un_f, un_c, fin_nx, fin_rt, wp_nil, wp_c, tpL, tpT, NwK_ok, NwK_exc, m_t2, m_il, m_it, m_ik, sl_t, sl_l, Option.bind_some, Option.map_some, Option.map, List.any_cons, List.any_nil, Bool.or_self, List.getElem?_cons_zero, List.getElem?_cons_succ, List.set_cons_zero, List.set_cons_succ, List.length_cons, List.length_nil, Nat.reduceAdd, Nat.reduceLT, Nat.lt_add_one, Nat.zero_add, Int.cast_ofNat_Int, Int.reduceLE, Int.reduceLT, Int.reduceEq, Int.reduceNeg, Nat.reduceLeDiff, ↓reduceIte, Option.getD, List.nil_append, List.cons_append, decide_eq_true_eq, decide_true, decide_false, Bool.false_eq_true, Bool.not_true, Bool.not_false, Bool.and_true, Bool.and_false, Bool.true_and, Bool.or_true, Bool.or_false, and_true, true_and, and_false, false_and, not_true, not_false_eq_true, Bool.not_eq_true, decide_eq_false_iff_not, RdK_d hn, er]
      first | rfl | exact ⟨rfl, rfl⟩ | exact ⟨rfl, rfl, rfl⟩
    have fm : ∀ xs : List D, xs.flatMap (fun _ => ([] : List D)) = [] := fun xs => by induction xs with
      | nil => rfl
      | cons x xs ih => rw [List.flatMap_cons, ih]; rfl
    simp only [w_bnd, w_ret, w_opt, w_fail, w_ite, w_tb, w_ti, w_rd, w_chk, w_chkL, w_plVal, w_plTop, w_q, w_setM, w_clr, w_setO1, w_modR, w_frz, w_var, w_non, w_bl, w_int, w_str, w_gint, w_bin, w_neg, w_inv, w_not, w_cmp, w_chn, w_isN, w_mem, w_andE, w_orE, w_ife, w_tup, w_lst, w_idx, w_eoN, w_eoS, w_slc, w_lrng1, w_fld, w_pl, w_call, w_new, w_bi, w_biP, w_isi, w_lc, w_dc, w_esN, w_esC, w_etN, w_etS, w_arE, w_arI, w_asN, w_asC, w_iE, w_iR1, w_iR2, w_pN, w_pX, w_pXX, w_pFX, w_pF, w_callF, w_oe, w_ol, w_ocall, w_onew, w_osN, w_osC, w_ssN, w_ssC, w_asg, w_asgL, w_asgO, w_app, w_set, w_fset, w_aug, w_ex, w_retE, w_retN, w_retO, w_if, w_for, w_rse, w_try, w_brk, w_cont, w_pass, w_hret, w_hunl, OptK_s, RdK_bl, RdK_int, RdK_str, RdK_non, RdK_tup, RdK_lst, RdK_dK, RdK_dT, RdK_ins, RdK_fn, RdK_scr, RdK_ol, ChkK_fz, ChkK_l, ChkK_i, ChkK_k, ChkK_t, ValK_int, ValK_bl, ValK_lst, ValK_tup, LstK_l, BlK_b, InK_i, FlK_nx, FlK_ct, FlK_bk, FlK_rt, RcK_ok, RcK_exc, LoK_nx, LoK_ct, LoK_bk, LoK_rt, c_eq, c_ne, c_eqb, c_neb, c_lt, c_gt, c_le, c_ge, c_is, c_isnt, bn_f, bn_t, b_add, b_sub, a_add, a_sub, t_ii, t_ib, t_it, t_il, t_is, t_bi, t_bb, t_bt, t_bl, t_bs, t_ti, t_tb, t_tt, t_tl, t_ts, t_li, t_lb, t_lt, t_ll, t_ls, t_ni, t_nb, t_nt, t_nl, t_ns, t_si, t_sb, t_st, t_sl, t_ss, n_i, n_b, n_t, n_l, n_s, n_n, i_lenT, i_lenL, i_lenK, i_tupL, i_tupT, i_lstL, i_lstT, i_lstS, i_intI, i_intB, i_abs, i_min2, i_max2, i_all, i_any, i_sum, x_lst, x_tup, at0, at1, at2, at3, q_tup, q_lst, g_nil, g_l0, g_l1, g_l2, g_l3, g_fz, s_l0, s_l1, s_l2, s_l3, qv_i, qv_l, qv_t, qv_s, qv_b, qq_var, qq_int, qq_pl, p_nil, p_ix, st_nm, st_tup, sn_nil, sn_cons, ta_nil, ta_d, ta_io, pb_nil, pb_c, fr_i, fr_b, fr_t, fr_l, fr_s, fr_n, fr_c, fr_k, fr_ol, fr_oc, fz_nil, fz_cons, fz_fz, ou_nil, ou_c, un_l, un_f, un_c, fin_nx, fin_rt, wp_nil, wp_c, tpL, tpT, NwK_ok, NwK_exc, m_t2, m_il, m_it, m_ik, sl_t, sl_l, Option.bind_some, Option.map_some, Option.map, List.any_cons, List.any_nil, Bool.or_self, List.getElem?_cons_zero, List.getElem?_cons_succ, List.set_cons_zero, List.set_cons_succ, List.length_cons, List.length_nil, Nat.reduceAdd, Nat.reduceLT, Nat.lt_add_one, Nat.zero_add, Int.cast_ofNat_Int, Int.reduceLE, Int.reduceLT, Int.reduceEq, Int.reduceNeg, Nat.reduceLeDiff, ↓reduceIte, Option.getD, List.nil_append, List.cons_append, decide_eq_true_eq, decide_true, decide_false, Bool.false_eq_true, Bool.not_true, Bool.not_false, Bool.and_true, Bool.and_false, Bool.true_and, Bool.or_true, Bool.or_false, and_true, true_and, and_false, false_and, not_true, not_false_eq_true, Bool.not_eq_true, decide_eq_false_iff_not, fm, right_ok 9, mul401]
    refine w_lcP (fun _ => []) rfl rfl (fun d hd => ?_) ?_
    · obtain ⟨a, b, rfl, ha, hb, er⟩ := no_ok d hd
      simp only [w_bnd, w_ret, w_opt, w_fail, w_ite, w_tb, w_ti, w_rd, w_chk, w_chkL, w_plVal, w_plTop, w_q, w_setM, w_clr, w_setO1, w_modR, w_frz, w_var, w_non, w_bl, w_int, w_str, w_gint, w_bin, w_neg, w_inv, w_not, w_cmp, w_chn, w_isN, w_mem, w_andE, w_orE, w_ife, w_tup, w_lst, w_idx, w_eoN, w_eoS, w_slc, w_lrng1, w_fld, w_pl, w_call, w_new, w_bi, w_biP, w_isi, w_lc, w_dc, w_esN, w_esC, w_etN, w_etS, w_arE, w_arI, w_asN, w_asC, w_iE, w_iR1, w_iR2, w_pN, w_pX, w_pXX, w_pFX, w_pF, w_callF, w_oe, w_ol, w_ocall, w_onew, w_osN, w_osC, w_ssN, w_ssC, w_asg, w_asgL, w_asgO, w_app, w_set, w_fset, w_aug, w_ex, w_retE, w_retN, w_retO, w_if, w_for, w_rse, w_try, w_brk, w_cont, w_pass, w_hret, w_hunl, OptK_s, RdK_bl, RdK_int, RdK_str, RdK_non, RdK_tup, RdK_lst, RdK_dK, RdK_dT, RdK_ins, RdK_fn, RdK_scr, RdK_ol, ChkK_fz, ChkK_l, ChkK_i, ChkK_k, ChkK_t, ValK_int, ValK_bl, ValK_lst, ValK_tup, LstK_l, BlK_b, InK_i, FlK_nx, FlK_ct, FlK_bk, FlK_rt, RcK_ok, RcK_exc, LoK_nx, LoK_ct, LoK_bk, LoK_rt, c_eq, c_ne, c_eqb, c_neb, c_lt, c_gt, c_le, c_ge, c_is, c_isnt, bn_f, bn_t, b_add, b_sub, a_add, a_sub, t_ii, t_ib, t_it, t_il, t_is, t_bi, t_bb, t_bt, t_bl, t_bs, t_ti, t_tb, t_tt, t_tl, t_ts, t_li, t_lb, t_lt, t_ll, t_ls, t_ni, t_nb, t_nt, t_nl, t_ns, t_si, t_sb, t_st, t_sl, t_ss, n_i, n_b, n_t, n_l, n_s, n_n, i_lenT, i_lenL, i_lenK, i_tupL, i_tupT, i_lstL, i_lstT, i_lstS, i_intI, i_intB, i_abs, i_min2, i_max2, i_all, i_any, i_sum, x_lst, x_tup, at0, at1, at2, at3, q_tup, q_lst, g_nil, g_l0, g_l1, g_l2, g_l3, g_fz, s_l0, s_l1, s_l2, s_l3, qv_i, qv_l, qv_t, qv_s, qv_b, qq_var, qq_int, qq_pl, p_nil, p_ix, st_nm, st_tup, sn_nil, sn_cons, ta_nil, ta_d, ta_io, pb_nil, pb_c, fr_i, fr_b, fr_t, fr_l, fr_s, fr_n, fr_c, fr_k, fr_ol, fr_oc, fz_nil, fz_cons, fz_fz, ou_nil, ou_c, un_l, un_f, un_c, fin_nx, fin_rt, wp_nil, wp_c, tpL, tpT, NwK_ok, NwK_exc, m_t2, m_il, m_it, m_ik, sl_t, sl_l, Option.bind_some, Option.map_some, Option.map, List.any_cons, List.any_nil, Bool.or_self, List.getElem?_cons_zero, List.getElem?_cons_succ, List.set_cons_zero, List.set_cons_succ, List.length_cons, List.length_nil, Nat.reduceAdd, Nat.reduceLT, Nat.lt_add_one, Nat.zero_add, Int.cast_ofNat_Int, Int.reduceLE, Int.reduceLT, Int.reduceEq, Int.reduceNeg, Nat.reduceLeDiff, ↓reduceIte, Option.getD, List.nil_append, List.cons_append, decide_eq_true_eq, decide_true, decide_false, Bool.false_eq_true, Bool.not_true, Bool.not_false, Bool.and_true, Bool.and_false, Bool.true_and, Bool.or_true, Bool.or_false, and_true, true_and, and_false, false_and, not_true, not_false_eq_true, Bool.not_eq_true, decide_eq_false_iff_not, RdK_d ha, RdK_d hb, er]
      first | rfl | exact ⟨rfl, rfl⟩ | exact ⟨rfl, rfl, rfl⟩
    simp only [w_bnd, w_ret, w_opt, w_fail, w_ite, w_tb, w_ti, w_rd, w_chk, w_chkL, w_plVal, w_plTop, w_q, w_setM, w_clr, w_setO1, w_modR, w_frz, w_var, w_non, w_bl, w_int, w_str, w_gint, w_bin, w_neg, w_inv, w_not, w_cmp, w_chn, w_isN, w_mem, w_andE, w_orE, w_ife, w_tup, w_lst, w_idx, w_eoN, w_eoS, w_slc, w_lrng1, w_fld, w_pl, w_call, w_new, w_bi, w_biP, w_isi, w_lc, w_dc, w_esN, w_esC, w_etN, w_etS, w_arE, w_arI, w_asN, w_asC, w_iE, w_iR1, w_iR2, w_pN, w_pX, w_pXX, w_pFX, w_pF, w_callF, w_oe, w_ol, w_ocall, w_onew, w_osN, w_osC, w_ssN, w_ssC, w_asg, w_asgL, w_asgO, w_app, w_set, w_fset, w_aug, w_ex, w_retE, w_retN, w_retO, w_if, w_for, w_rse, w_try, w_brk, w_cont, w_pass, w_hret, w_hunl, OptK_s, RdK_bl, RdK_int, RdK_str, RdK_non, RdK_tup, RdK_lst, RdK_dK, RdK_dT, RdK_ins, RdK_fn, RdK_scr, RdK_ol, ChkK_fz, ChkK_l, ChkK_i, ChkK_k, ChkK_t, ValK_int, ValK_bl, ValK_lst, ValK_tup, LstK_l, BlK_b, InK_i, FlK_nx, FlK_ct, FlK_bk, FlK_rt, RcK_ok, RcK_exc, LoK_nx, LoK_ct, LoK_bk, LoK_rt, c_eq, c_ne, c_eqb, c_neb, c_lt, c_gt, c_le, c_ge, c_is, c_isnt, bn_f, bn_t, b_add, b_sub, a_add, a_sub, t_ii, t_ib, t_it, t_il, t_is, t_bi, t_bb, t_bt, t_bl, t_bs, t_ti, t_tb, t_tt, t_tl, t_ts, t_li, t_lb, t_lt, t_ll, t_ls, t_ni, t_nb, t_nt, t_nl, t_ns, t_si, t_sb, t_st, t_sl, t_ss, n_i, n_b, n_t, n_l, n_s, n_n, i_lenT, i_lenL, i_lenK, i_tupL, i_tupT, i_lstL, i_lstT, i_lstS, i_intI, i_intB, i_abs, i_min2, i_max2, i_all, i_any, i_sum, x_lst, x_tup, at0, at1, at2, at3, q_tup, q_lst, g_nil, g_l0, g_l1, g_l2, g_l3, g_fz, s_l0, s_l1, s_l2, s_l3, qv_i, qv_l, qv_t, qv_s, qv_b, qq_var, qq_int, qq_pl, p_nil, p_ix, st_nm, st_tup, sn_nil, sn_cons, ta_nil, ta_d, ta_io, pb_nil, pb_c, fr_i, fr_b, fr_t, fr_l, fr_s, fr_n, fr_c, fr_k, fr_ol, fr_oc, fz_nil, fz_cons, fz_fz, ou_nil, ou_c, un_l, un_f, un_c, fin_nx, fin_rt, wp_nil, wp_c, tpL, tpT, NwK_ok, NwK_exc, m_t2, m_il, m_it, m_ik, sl_t, sl_l, Option.bind_some, Option.map_some, Option.map, List.any_cons, List.any_nil, Bool.or_self, List.getElem?_cons_zero, List.getElem?_cons_succ, List.set_cons_zero, List.set_cons_succ, List.length_cons, List.length_nil, Nat.reduceAdd, Nat.reduceLT, Nat.lt_add_one, Nat.zero_add, Int.cast_ofNat_Int, Int.reduceLE, Int.reduceLT, Int.reduceEq, Int.reduceNeg, Nat.reduceLeDiff, ↓reduceIte, Option.getD, List.nil_append, List.cons_append, decide_eq_true_eq, decide_true, decide_false, Bool.false_eq_true, Bool.not_true, Bool.not_false, Bool.and_true, Bool.and_false, Bool.true_and, Bool.or_true, Bool.or_false, and_true, true_and, and_false, false_and, not_true, not_false_eq_true, Bool.not_eq_true, decide_eq_false_iff_not, fm, show d16.io = [] from rfl]
end L35

set_option maxHeartbeats 0
namespace L35
open PySem PySem.Spec L2 Cr
abbrev R : PySem.W.OpenRow := PySem.W.OpenLaw.row PySem.Challenge.rw_whobeatwhom_k35_goals_and_points
abbrev hk : PySem.W.Hook := hookB 5 P ts
def ob (s : PySem.W.SharedT) : AlB := obsBG 5 P ts (HandSHeadRun.getT s)
theorem ob_eq (s : PySem.W.SharedT) : ob s = hk.obs s.abs := obsBG_eq (HandSHeadRun.getT_eq s)
theorem run_eq (w : World) : HandSHeadRun.RunEq R (PySem.W.view R.prog [23]) hk ob 2000 ["MeetError", "BadPlan", "is_integer", "MOST_GAMES", "Results", "is_game", "own_games", "look_at_values", "points_in", "points_of", "line_of", "without", "swapped_homes", "_law_draws", "_law_draw", "_law_same", "_law_games", "_law_own", "_law_no"] w := by
  intro os
  kernel_rfl
end L35

set_option maxHeartbeats 0
open PySem PySem.W PySem.Calls PyProof.Rows
theorem PySem.Challenge.cw_whobeatwhom_k35_goals_and_points_holds : PySem.Challenge.rw_whobeatwhom_k35_goals_and_points.Holds := by
  w_on; o_law
  refine HandSHeadRun.head_any (r := L35.R) (q := view L35.R.prog [23]) (H := L35.hk) (ob := L35.ob) (M := 2000) (loose := ["MeetError", "BadPlan", "is_integer", "MOST_GAMES", "Results", "is_game", "own_games", "look_at_values", "points_in", "points_of", "line_of", "without", "swapped_homes", "_law_draws", "_law_draw", "_law_same", "_law_games", "_law_own", "_law_no"]) (d := HandSHeadRun.topDef L35.R.prog 23) (kwd := []) L35.ob_eq
    (by kernel_rfl) (fun s => by kernel_rfl) L35.run_eq (by kernel_rfl) (by kernel_rfl) (by kernel_rfl) (by rfl) (by first | assumption | decide +kernel) (by decide +kernel) ⟨rfl, rfl, rfl, rfl, rfl, by decide +kernel⟩ ?hw ?hc
  case hw => w_witness2
  case hc =>
    refine Cr.walk_ofB (l := PySem.Challenge.rw_whobeatwhom_k35_goals_and_points) (n := 63) (k := 24) (x := "script") rfl (by decide) (by kernel_rfl) ⟨rfl, by decide, by decide⟩ ?F
    intro w mg fa h Y G hmg0
    obtain ⟨K, KX, c⟩ := Y
    have hmg : mg ("law" : PySem.Str) = some (.ref fa) := by
      have e : (HandSHeadRun.topDef L35.R.prog 23).name = ("law" : PySem.Str) := by kernel_rfl
      rw [← e]
      exact hmg0
    exact Cr.law_end KX G c L35.agree L35.init (n := 12) (g := 16) (d := L35.d16) (t := L35.t16) rfl rfl hmg rfl rfl rfl (by decide +kernel) L35.law_run

