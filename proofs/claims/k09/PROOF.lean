import PyProof.Rows.All
import Wide.All
import OpenK.AllK
import Wide.FinOn
import HandS.ForExc
import HandS.TupAny
import HandS.TupMul
import HandS.TupLe
import HandS.Style
import HandS.Conv
import HandS.IsInst
import HandS.SortInts
import HandS.Iter
import HandS.Zip
import HandS.Star
import HandS.DeepEq
import HandS.Defaults
import HandS.SetFor
import HandS.Deep
import HandS.Flow
import HandS.Comp
import KE.DataMinKey
import KE.DataMinMax
import HandS.WordsExc
import HandS.Head0
import HandS.Head1
import HandS.Head2
import HandS.HeadEnd
import HandS.HeadHook1
import HandS.HeadHook2
import HandS.HeadHook4
import PySem.Challenge.RW_graphbench_k09_connectivity
set_option Elab.async false
set_option maxRecDepth 100000
/-! Pl: a small evaluator for a fragment of Python, over data. -/
namespace Pl
open PySem

/-- data; scr: the script -/
inductive D where
  | non | bl (b : Bool) | int (i : Int) | str (s : Str) | tup (xs : List D) | lst (xs : List D)
  | obj (c : Nat) (ks : List Nat) (xs : List D) | fn (f : Nat) | dct | scr (ns : List Int)

inductive Slot where
  | un | val (d : D) | own (xs : List D) | io (xs : List D) | slf (c : Nat) (ks : List Nat) (xs : List D)
abbrev Sl := List Slot
inductive Res (α : Type) where
  | ok (a : α) (S : Sl) | ex (c : Nat) (d : Option D) (S : Sl) | bad
/-- a value, or a new list -/
inductive RV where
  | val (d : D) | fr (xs : List D)
def RV.d : RV → D
  | .val d => d
  | .fr xs => .lst xs
inductive CRes where
  | ok (r : RV) (out : Option (List D)) | ex (c : Nat) (d : Option D) | bad
/-- how defs and classes answer -/
structure Gam where
  call : Nat → List D → Option (List D) → CRes
  make : Nat → List D → CRes
  meth : Nat → Nat → Option Nat

def M (α : Type) := Sl → Res α
def M.pure {α : Type} (a : α) : M α := fun S => .ok a S
def M.bad {α : Type} : M α := fun _ => .bad
def M.bind {α β : Type} (m : M α) (f : α → M β) : M β := fun S => match m S with
  | .ok a S' => f a S'
  | .ex c d S' => .ex c d S'
  | .bad => .bad
def M.opt {α : Type} : Option α → M α
  | some a => M.pure a
  | none => M.bad

inductive Bop where
  | add | sub | mul | fdiv | mod | pow | shl | shr | and | or | xor
  deriving DecidableEq
inductive Uop where
  | neg | inv
  deriving DecidableEq
inductive Cop where
  | eq | ne | lt | le | gt | ge | isin | notin | is | isnot
  deriving DecidableEq
inductive Blt where
  | len | abs | max2 | min2 | int | sum | all | any | tuple | list | sorted | maxl | minl | trng1 | trng2 | lrng1 | lrng2 | index | count | minlen
  deriving DecidableEq
inductive Mut where
  | app | ext | pop | popat | ins | rev | sort | clear
  deriving DecidableEq
/-- what isinstance asks for -/
inductive Tg where
  | int | bool | str | tuple | list | dict | cls (c : Nat)
  deriving DecidableEq
/-- what a loop walks -/
inductive Ik where
  | seq | rng1 | rng2 | rng3 | enum | zip
  deriving DecidableEq
inductive Tgt where
  | nm (i : Nat) | tp (is : List Nat)
inductive Pm where
  | at (i : Nat) | df (d : D)
inductive Ex where
  | nev | c (d : D) | v (i : Nat) | io (i : Nat)
  | bin (o : Bop) (a b : Ex) | un (o : Uop) (a : Ex)
  | cmp (o : Cop) (a b : Ex) | chain (o o' : Cop) (a b c : Ex)
  | and (a b : Ex) | or (a b : Ex) | not (a : Ex) | ite (t a b : Ex)
  | tup (es : List Ex) | lst (es : List Ex) | star (e : Ex)
  | ix (a b : Ex) | sl (a lo hi : Ex) | rev (a : Ex) | nil
  | fld (a : Ex) (f : Nat) | sfld (f : Nat)
  | call (f : Nat) (es kes : List Ex) (pm : List Pm)
  | make (c : Nat) (es kes : List Ex) (pm : List Pm)
  | meth (o : Ex) (m : Nat) (es kes : List Ex) (pm : List Pm)
  | blt (b : Blt) (es : List Ex)
  | bmt (b : Blt) (o : Ex) (es : List Ex)
  | isi (a : Ex) (ts : List Tg)
  | mut (i : Nat) (m : Mut) (es : List Ex)
  | lc1 (vs : List Nat) (k : Ik) (it : List Ex) (g : Tgt) (fs : List Ex) (e : Ex)
  | lc2 (vs vs1 : List Nat) (k : Ik) (it : List Ex) (g : Tgt) (fs : List Ex) (k1 : Ik) (it1 : List Ex) (g1 : Tgt) (fs1 : List Ex) (e : Ex)
/-- a target of an assignment: a name (own: it is to hold a list that changes), a place in a list of our own, an attribute of self -/
inductive Ta where
  | nm (i : Nat) (own : Bool) | sub (i : Nat) (e : Ex) | fld (f : Nat)
inductive Sm where
  | asg (t : Ta) (e : Ex) | unp (is : List Nat) (e : Ex) | par (ts : List Ta) (es : List Ex) | aug (i : Nat) (o : Bop) (e : Ex) | augs (i : Nat) (a : Ex) (o : Bop) (e : Ex)
  | expr (e : Ex) | ret (e : Ex) | iff (t : Ex) (a b : List Sm) | for (k : Ik) (it : List Ex) (g : Tgt) (b : List Sm) | wh (t : Ex) (b : List Sm)
  | nev | pass | brk | cont | raise (c : Nat) (e : List Ex)
inductive Ctl where
  | nx | rt (r : RV) | bk | ct


/-! ### operations on data -/
def lim : Nat := 100000
def small (i : Int) : Bool := decide (-(2 ^ 64) < i ∧ i < 2 ^ 64)
mutual
def D.py : D → PyData
  | .non => .none
  | .bl b => .bool b
  | .int i => .int i
  | .str s => .str s
  | .tup xs => .tuple (pys xs)
  | .lst xs => .list (pys xs)
  | _ => .none
def pys : List D → List PyData
  | [] => []
  | x :: xs => x.py :: pys xs
end
mutual
def D.data : D → Bool
  | .non => true
  | .bl _ => true
  | .int _ => true
  | .str _ => true
  | .tup xs => datas xs
  | .lst xs => datas xs
  | _ => false
def datas : List D → Bool
  | [] => true
  | x :: xs => x.data && datas xs
end
/-- what == may be asked of -/
def D.plain (d : D) : Bool := d.data && SeqAt.shaped d.py
def eqD (a b : D) : Option Bool := if a.plain && b.plain then some (PyData.eqv a.py b.py) else none
def flat : D → Bool
  | .non => true
  | .bl _ => true
  | .int _ => true
  | .str _ => true
  | _ => false
/-- == of flat things -/
def eqF : D → D → Bool
  | .non, .non => true
  | .bl a, .bl b => a == b
  | .bl a, .int b => (if a then 1 else 0) == b
  | .int a, .bl b => a == (if b then 1 else 0)
  | .int a, .int b => a == b
  | .str a, .str b => a == b
  | _, _ => false
def inF (x : D) (xs : List D) : Bool := xs.any fun y => eqF y x
def intsD : List D → Option (List Int)
  | [] => some []
  | .int i :: r => (intsD r).map (i :: ·)
  | _ => none
def boolsD : List D → Option (List Bool)
  | [] => some []
  | .bl i :: r => (boolsD r).map (i :: ·)
  | _ => none
def ltInts : List Int → List Int → Bool
  | [], [] => false
  | [], _ :: _ => true
  | _ :: _, [] => false
  | a :: r, b :: s => if a = b then ltInts r s else decide (a < b)
def items : D → Option (List D)
  | .tup xs => some xs
  | .lst xs => some xs
  | .scr ns => some (ns.map D.int)
  | _ => none
def truth : D → Option Bool
  | .non => some false
  | .bl b => some b
  | .int i => some (i != 0)
  | .str s => if s.length ≤ lim then some (s.length != 0) else none
  | .tup xs => some (!xs.isEmpty)
  | .lst xs => some (!xs.isEmpty)
  | .scr ns => some (!ns.isEmpty)
  | _ => none
def newL (xs : List D) : Option RV := if xs.length ≤ lim then some (.fr xs) else none
def newT (xs : List D) : Option RV := if xs.length ≤ lim then some (.val (.tup xs)) else none
def vi (i : Int) : Option RV := some (.val (.int i))
def vb (b : Bool) : Option RV := some (.val (.bl b))
def binD : Bop → D → D → Option RV
  | .add, .int i, .int j => vi (i + j)
  | .add, .str s, .str t => if s.length + t.length ≤ lim then some (.val (.str (s ++ t))) else none
  | .add, .lst xs, .lst ys => newL (xs ++ ys)
  | .add, .tup xs, .tup ys => newT (xs ++ ys)
  | .sub, .int i, .int j => vi (i - j)
  | .mul, .int i, .int j => if small i || small j then vi (i * j) else none
  | .mul, .lst xs, .int k => if xs.length * k.toNat ≤ lim ∧ -(2 ^ 62) < k ∧ k < 2 ^ 62 then some (.fr (List.replicate k.toNat xs).flatten) else none
  | .mul, .tup xs, .int k => if xs.isEmpty = false ∧ xs.length ≤ 1000 ∧ 2 ≤ k ∧ k ≤ 1000 then some (.val (.tup (List.replicate k.toNat xs).flatten)) else none
  | .fdiv, .int i, .int j => if j ≠ 0 ∧ j.natAbs < 1073741824 then vi (i.fdiv j) else none
  | .mod, .int i, .int j => if j ≠ 0 then vi (i.fmod j) else none
  | .pow, .int i, .int j => if 0 ≤ j ∧ j ≤ 1000 ∧ small i then vi (i ^ j.toNat) else none
  | .shl, .int i, .int j => if 0 ≤ j ∧ j ≤ 1000 ∧ small i then vi (i * 2 ^ j.toNat) else none
  | .shr, .int i, .int j => if 0 ≤ j then vi (i / 2 ^ j.toNat) else none
  | .and, .int i, .int j => vi (Builtin.bitAnd i j)
  | .or, .int i, .int j => vi (Builtin.bitOr i j)
  | .xor, .int i, .int j => vi (Builtin.bitXor i j)
  | _, _, _ => none
/-- name op= ..: ints -/
def augD : Bop → D → D → Option D
  | .add, .int i, .int j => some (.int (i + j))
  | .sub, .int i, .int j => some (.int (i - j))
  | _, _, _ => none
def unD : Uop → D → Option RV
  | .neg, .int i => vi (-i)
  | .inv, .int i => vi (Builtin.bitNot i)
  | _, _ => none
def cmpD : Cop → D → D → Option Bool
  | .eq, a, b => eqD a b
  | .ne, a, b => (eqD a b).map (!·)
  | .lt, .int i, .int j => some (decide (i < j))
  | .le, .int i, .int j => some (decide (i ≤ j))
  | .gt, .int i, .int j => some (decide (j < i))
  | .ge, .int i, .int j => some (decide (j ≤ i))
  | .isin, x, .lst ys => if flat x && ys.all flat then some (inF x ys) else if x.plain && (D.lst ys).plain then some ((pys ys).any fun z => PyData.eqv z x.py) else none
  | .isin, x, .tup ys => if flat x && ys.all flat then some (inF x ys) else none
  | .notin, x, .lst ys => if flat x && ys.all flat then some (!inF x ys) else if x.plain && (D.lst ys).plain then some (!(pys ys).any fun z => PyData.eqv z x.py) else none
  | .notin, x, .tup ys => if flat x && ys.all flat then some (!inF x ys) else none
  | .is, .non, .non => some true
  | .is, .bl _, .non => some false
  | .is, .int _, .non => some false
  | .is, .str _, .non => some false
  | .is, .tup _, .non => some false
  | .is, .lst _, .non => some false
  | .is, .obj _ _ _, .non => some false
  | .is, .dct, .non => some false
  | .isnot, .non, .non => some false
  | .isnot, .bl _, .non => some true
  | .isnot, .int _, .non => some true
  | .isnot, .str _, .non => some true
  | .isnot, .tup _, .non => some true
  | .isnot, .lst _, .non => some true
  | .isnot, .obj _ _ _, .non => some true
  | .isnot, .dct, .non => some true
  | .is, .bl a, .bl b => some (decide (a = b))
  | .isnot, .bl a, .bl b => some (!decide (a = b))
  | _, _, _ => none
/-- where a[i] lies -/
def ixD (n : Nat) (i : Int) : Option Nat := L2.ixN n i
def atD (xs : List D) (i : Int) : Option D := (ixD xs.length i).bind fun j => xs[j]?
def itemD : D → D → Option RV
  | .lst xs, .int i => (atD xs i).map .val
  | .tup xs, .int i => (atD xs i).map .val
  | .scr ns, .int i => (L2.atI ns i).map fun j => .val (.int j)
  | .str s, .int i => if s.length ≤ lim then (L2.atI s.cps.toList i).map fun c => .val (.str ⟨#[c]⟩) else none
  | _, _ => none
def cutD {α : Type} (xs : List α) (lo hi : Option Int) : List α := (xs.drop (HT.sIx xs.length 0 lo)).take (HT.sIx xs.length xs.length hi - HT.sIx xs.length 0 lo)
def sliceD : D → Option Int → Option Int → Option RV
  | .lst xs, lo, hi => some (.fr (cutD xs lo hi))
  | .tup xs, lo, hi => some (.val (.tup (cutD xs lo hi)))
  | .scr ns, lo, hi => some (.fr ((cutD ns lo hi).map D.int))
  | _, _, _ => none
def sumI : List Int → Int := List.sum
def maxI : List Int → Option Int
  | [] => none
  | a :: r => some (r.foldl (fun m x => if m < x then x else m) a)
def minI : List Int → Option Int
  | [] => none
  | a :: r => some (r.foldl (fun m x => if x < m then x else m) a)
def irng (lo : Int) (n : Nat) : List D := (List.range n).map fun (k : Nat) => D.int (lo + (k : Int))
def rngOk (a b : Int) : Bool := decide (-(2 ^ 60) < a ∧ a < 2 ^ 60 ∧ -(2 ^ 60) < b ∧ b < 2 ^ 60)
def rngD (a b : Int) : Option (List D) := if rngOk a b then some (irng a (b - a).toNat) else none
/-- stable, by ltInts -/
def ins (x : List Int) : List (List Int) → List (List Int)
  | [] => [x]
  | y :: r => if ltInts x y then x :: y :: r else y :: ins x r
def insI (x : Int) : List Int → List Int
  | [] => [x]
  | y :: r => if x < y then x :: y :: r else y :: insI x r
def sortI (xs : List Int) : List Int := xs.foldl (fun r x => insI x r) []
def dlen : D → Option Nat
  | .lst xs => some xs.length
  | .tup xs => some xs.length
  | _ => none
def dl (d : D) : Nat := (dlen d).getD 0
/-- the first of the shortest -/
def minlenD : List D → Option RV
  | [] => none
  | x :: r => if (x :: r).all (fun d => (dlen d).isSome) then some (.val (r.foldl (fun m y => if decide (dl y < dl m) then y else m) x)) else none
def bltD : Blt → List D → Option RV
  | .len, [.lst xs] => vi xs.length
  | .len, [.tup xs] => vi xs.length
  | .len, [.scr ns] => vi ns.length
  | .len, [.str s] => if s.length ≤ lim then vi s.length else none
  | .abs, [.int i] => vi (if i < 0 then -i else i)
  | .max2, [.int i, .int j] => vi (if j > i then j else i)
  | .min2, [.int i, .int j] => vi (if j < i then j else i)
  | .int, [.int i] => vi i
  | .int, [.bl b] => vi (if b then 1 else 0)
  | .sum, [.lst xs] => (intsD xs).bind fun ns => vi (sumI ns)
  | .all, [.lst xs] => (boolsD xs).bind fun bs => vb (bs.all id)
  | .any, [.lst xs] => (boolsD xs).bind fun bs => vb (bs.any id)
  | .tuple, [.lst xs] => some (.val (.tup xs))
  | .tuple, [.tup xs] => some (.val (.tup xs))
  | .list, [.lst xs] => some (.fr xs)
  | .list, [.tup xs] => some (.fr xs)
  | .trng1, [.int b] => if b ≤ lim then (rngD 0 b).map fun xs => .val (.tup xs) else none
  | .lrng1, [.int b] => if b ≤ lim then (rngD 0 b).map .fr else none
  | .trng2, [.int a, .int b] => if b - a ≤ lim then (rngD a b).map fun xs => .val (.tup xs) else none
  | .lrng2, [.int a, .int b] => if b - a ≤ lim then (rngD a b).map .fr else none
  | .index, [.lst xs, y] => if flat y && xs.all flat then (xs.findIdx? fun x => eqF x y).bind fun j => vi (j : Int) else none
  | .count, [.lst xs, .int k] => (intsD xs).bind fun ns => vi (ns.count k : Nat)
  | .maxl, [.lst xs] => (intsD xs).bind fun ns => (maxI ns).bind vi
  | .minl, [.lst xs] => (intsD xs).bind fun ns => (minI ns).bind vi
  | .minlen, [.lst xs] => minlenD xs
  | .sorted, [.lst xs] => (intsD xs).bind fun ns => some (.fr ((sortI ns).map D.int))
  | _, _ => none
def isTg : Tg → D → Option Bool
  | .int, .int _ => some true
  | .int, .bl _ => some true
  | .bool, .bl _ => some true
  | .str, .str _ => some true
  | .tuple, .tup _ => some true
  | .list, .lst _ => some true
  | .dict, .dct => some true
  | .cls c, .obj k _ _ => some (decide (c = k))
  | _, .fn _ => none
  | _, .scr _ => none
  | _, _ => some false
def isTgs (d : D) : List Tg → Option Bool
  | [] => some false
  | [t] => isTg t d
  | t :: r => match isTg t d, isTgs d r with
    | some a, some b => some (a || b)
    | _, _ => none
def enumD : Nat → List D → List D
  | _, [] => []
  | n, x :: xs => .tup [.int (n : Int), x] :: enumD (n + 1) xs
/-- the walked things -/
def walkD : Ik → List D → Option (List D)
  | .seq, [d] => items d
  | .rng1, [.int b] => rngD 0 b
  | .rng2, [.int a, .int b] => rngD a b
  | .enum, [.lst xs] => some (enumD 0 xs)
  | .zip, [.lst xs, .lst ys] => some ((xs.zip ys).map fun p => .tup [p.1, p.2])
  | _, _ => none


/-! ### the evaluator -/
def getS (S : Sl) (i : Nat) : Slot := S.getD i .un
/-- a slot read as data: a list of our own changes no more -/
def rdS (i : Nat) : M RV := fun S => match getS S i with
  | .val d => .ok (.val d) S
  | .own xs => .ok (.val (.lst xs)) (S.set i (.val (.lst xs)))
  | _ => .bad
/-- a list of our own given away -/
def mvS (i : Nat) : M RV := fun S => match getS S i with
  | .val d => .ok (.val d) S
  | .own xs => .ok (.fr xs) (S.set i .un)
  | _ => .bad
/-- an operand: data, or a list of our own as it will be when the operation comes -/
inductive Op where
  | dat (x : D) | at (i : Nat)
def opS (i : Nat) : M Op := fun S => match getS S i with
  | .val d => .ok (.dat d) S
  | .own _ => .ok (.at i) S
  | .io _ => .ok (.at i) S
  | _ => .bad
def ownS (i : Nat) : M (List D) := fun S => match getS S i with
  | .own xs => .ok xs S
  | .io xs => .ok xs S
  | _ => .bad
def M.toD (m : M RV) : M D := m.bind fun r => M.pure r.d
def Op.get : Op → M D
  | .dat x => M.pure x
  | .at i => (ownS i).bind fun xs => M.pure (.lst xs)
def gets : List Op → M (List D)
  | [] => M.pure []
  | p :: ps => p.get.bind fun d => (gets ps).bind fun ds => M.pure (d :: ds)
/-- a list of our own gets another content -/
def putS (i : Nat) (xs : List D) : M Unit := fun S => match getS S i with
  | .own _ => .ok () (S.set i (.own xs))
  | .io _ => .ok () (S.set i (.io xs))
  | _ => .bad
def wipeS (S : Sl) : List Nat → Sl
  | [] => S
  | v :: vs => (wipeS S vs).set v .un
def tupS : List Nat → List D → Sl → Option Sl
  | [], [], S => some S
  | i :: is, x :: xs, S => if i < S.length then tupS is xs (S.set i (.val x)) else none
  | _, _, _ => none
def tgtS : Tgt → D → Sl → Option Sl
  | .nm i, d, S => if i < S.length then some (S.set i (.val d)) else none
  | .tp is, .tup xs, S => tupS is xs S
  | .tp is, .lst xs, S => tupS is xs S
  | _, _, _ => none
def pmD (ws : List D) : List Pm → Option (List D)
  | [] => some []
  | .at i :: r => match ws[i]?, pmD ws r with
    | some d, some ds => some (d :: ds)
    | _, _ => none
  | .df d :: r => (pmD ws r).map (d :: ·)
/-- which argument is the list that the callee changes -/
def ioOf : List Ex → Option Nat
  | [] => none
  | .io i :: _ => some i
  | _ :: r => ioOf r
/-- its content at the call -/
def ioS : Option Nat → M (Option (List D))
  | none => M.pure none
  | some i => (ownS i).bind fun xs => M.pure (some xs)
def backS : Option Nat → Option (List D) → M Unit
  | none, none => M.pure ()
  | some i, some xs => putS i xs
  | _, _ => M.bad
def mutD : Mut → List D → List D → Option (D × List D)
  | .app, xs, [d] => if xs.length < lim then some (.non, xs ++ [d]) else none
  | .ext, xs, [.lst ys] => if xs.length + ys.length ≤ lim then some (.non, xs ++ ys) else none
  | .pop, xs, [] => (xs[xs.length - 1]?).map fun d => (d, xs.dropLast)
  | .popat, xs, [.int i] => (ixD xs.length i).bind fun k => (xs[k]?).map fun d => (d, xs.eraseIdx k)
  | .rev, xs, [] => some (.non, xs.reverse)
  | .clear, _, [] => some (.non, [])
  | _, _, _ => none
/-- a comprehension's turns: the block's names are wiped ahead of each, f: the turn -/
def compM (vs : List Nat) (g : Tgt) (f : List D → M (List D)) : List D → List D → M (List D)
  | [], acc => M.pure acc
  | x :: xs, acc => fun S => match tgtS g x (wipeS S vs) with
    | none => .bad
    | some S1 => match f acc S1 with
      | .ok acc' S2 => compM vs g f xs acc' S2
      | _ => .bad
def backAll (S : Sl) : List Nat → Sl → Sl
  | [], S' => S'
  | v :: vs, S' => (backAll S vs S').set v (getS S v)
/-- what a block leaves -/
def blockM (vs : List Nat) (m : M (List D)) : M RV := fun S => match m S with
  | .ok acc S' => .ok (.fr acc) (backAll S vs S')
  | _ => .bad
/-- an inner loop within the block -/
def innerM (vs : List Nat) (m : M (List D)) : M (List D) := fun S => match m S with
  | .ok acc S' => .ok acc (backAll S vs S')
  | _ => .bad
def keepM (acc : List D) (y : D) : M (List D) := if acc.length < lim then M.pure (acc ++ [y]) else M.bad
def callM (c : Nat → List D → Option (List D) → CRes) (f : Nat) (io : Option Nat) (xs : List D) : M RV := (ioS io).bind fun o => match c f xs o with
  | .ok r out => (backS io out).bind fun _ => M.pure r
  | .ex c d => match io with
    | none => fun S => .ex c d S
    | some _ => M.bad
  | .bad => M.bad
def revD : D → Option RV
  | .lst xs => some (.fr xs.reverse)
  | _ => none
def fldD (f : Nat) : D → Option RV
  | .obj _ ks xs => ((ks.zip xs).lookup f).map .val
  | _ => none
def starD : D → Option (List D)
  | .lst xs => some xs
  | .tup xs => some xs
  | _ => none
def partD : D → Option Int
  | .int i => some i
  | _ => none

def opOf (a : Ex) (m : M RV) : M Op := match a with
  | .v i => opS i
  | _ => m.toD.bind fun d => M.pure (.dat d)
def partOf (a : Ex) (m : M RV) : M (Option Int) := match a with
  | .nil => M.pure none
  | _ => m.toD.bind fun d => (M.opt (partD d)).bind fun i => M.pure (some i)
def starM (e : Ex) (d : D) : M (List D) := match e with
  | .star _ => M.opt (starD d)
  | _ => M.pure [d]
def lstM : D → M Unit
  | .lst _ => M.pure ()
  | _ => M.bad
def truM (m : M RV) : M Bool := m.toD.bind fun d => M.opt (truth d)
def boolM (m : M Bool) : M RV := m.bind fun b => M.pure (.val (.bl b))
def makeM (c : Nat → List D → CRes) (f : Nat) (xs : List D) : M RV := match c f xs with
  | .ok r none => M.pure r
  | .ex c d => fun S => .ex c d S
  | _ => M.bad
def methD (G : Gam) (m : Nat) : D → Option Nat
  | .obj c ks _ => if ks.contains m then none else G.meth c m
  | _ => none
section
variable (G : Gam)
mutual
def evE : Ex → M RV
  | .nev => M.bad
  | .c d => M.pure (.val d)
  | .v i => rdS i
  | .io i => (ownS i).bind fun _ => M.pure (.val .non)
  | .nil => M.pure (.val .non)
  | .star a => evE a
  | .bin o a b => (opOf a (evE a)).bind fun p => (opOf b (evE b)).bind fun q => p.get.bind fun x => q.get.bind fun y => M.opt (binD o x y)
  | .un o a => (opOf a (evE a)).bind fun p => p.get.bind fun x => M.opt (unD o x)
  | .cmp o a b => boolM ((opOf a (evE a)).bind fun p => (opOf b (evE b)).bind fun q => p.get.bind fun x => q.get.bind fun y => M.opt (cmpD o x y))
  | .chain o o' a b c => boolM ((evE a).toD.bind fun x => (evE b).toD.bind fun y => (M.opt (cmpD o x y)).bind fun k =>
      if k then (evE c).toD.bind fun z => M.opt (cmpD o' y z) else M.pure false)
  | .and a b => (evE a).toD.bind fun x => (M.opt (truth x)).bind fun k => if k then evE b else M.pure (.val x)
  | .or a b => (evE a).toD.bind fun x => (M.opt (truth x)).bind fun k => if k then M.pure (.val x) else evE b
  | .not a => boolM ((truM (evE a)).bind fun k => M.pure (!k))
  | .ite t a b => (truM (evE t)).bind fun k => if k then evE a else evE b
  | .tup es => (evEs es).bind fun xs => M.opt (newT xs)
  | .lst es => (evEs es).bind fun xs => M.opt (newL xs)
  | .ix a b => (opOf a (evE a)).bind fun p => (evE b).toD.bind fun y => p.get.bind fun x => M.opt (itemD x y)
  | .sl a lo hi => (opOf a (evE a)).bind fun p => (partOf lo (evE lo)).bind fun l => (partOf hi (evE hi)).bind fun h => p.get.bind fun x => M.opt (sliceD x l h)
  | .rev a => (opOf a (evE a)).bind fun p => p.get.bind fun x => M.opt (revD x)
  | .fld a f => (evE a).toD.bind fun x => M.opt (fldD f x)
  | .sfld f => fun S => match getS S 0 with
    | .slf c ks xs => (M.opt (fldD f (.obj c ks xs))) S
    | _ => .bad
  | .call f es kes pm => (evEs es).bind fun ws => (evEs kes).bind fun zs => (M.opt (pmD (ws ++ zs) pm)).bind fun xs => callM G.call f (ioOf (es ++ kes)) xs
  | .make c es kes pm => (evEs es).bind fun ws => (evEs kes).bind fun zs => (M.opt (pmD (ws ++ zs) pm)).bind fun xs => makeM G.make c xs
  | .meth o m es kes pm => (evE o).toD.bind fun x => (M.opt (methD G m x)).bind fun f => (evEs es).bind fun ws => (evEs kes).bind fun zs => (M.opt (pmD (x :: (ws ++ zs)) pm)).bind fun xs => callM G.call f (ioOf (.nil :: (es ++ kes))) xs
  | .blt b es => (evPs es).bind fun ps => (gets ps).bind fun xs => M.opt (bltD b xs)
  | .bmt b o es => (opOf o (evE o)).bind fun p => (p.get.bind lstM).bind fun _ => (evPs es).bind fun ps => (gets (p :: ps)).bind fun xs => M.opt (bltD b xs)
  | .isi a ts => boolM ((opOf a (evE a)).bind fun p => p.get.bind fun x => M.opt (isTgs x ts))
  | .mut i m es => (ownS i).bind fun _ => (evEs es).bind fun ws => (ownS i).bind fun xs => (M.opt (mutD m xs ws)).bind fun p => (putS i p.2).bind fun _ => M.pure (.val p.1)
  | .lc1 vs k it g fs e => (evEs it).bind fun ds => (M.opt (walkD k ds)).bind fun xs =>
      blockM vs (compM vs g (fun acc => (evTs fs).bind fun b => if b then (evE e).toD.bind fun y => keepM acc y else M.pure acc) xs [])
  | .lc2 vs vs1 k it g fs k1 it1 g1 fs1 e => (evEs it).bind fun ds => (M.opt (walkD k ds)).bind fun xs =>
      blockM vs (compM vs g (fun acc => (evTs fs).bind fun b => if b then (evEs it1).bind fun ds1 => (M.opt (walkD k1 ds1)).bind fun ys =>
        innerM vs1 (compM vs1 g1 (fun acc => (evTs fs1).bind fun b => if b then (evE e).toD.bind fun y => keepM acc y else M.pure acc) ys acc) else M.pure acc) xs [])
/-- arguments, items: given away -/
def evEs : List Ex → M (List D)
  | [] => M.pure []
  | e :: es => (evE e).toD.bind fun d => (starM e d).bind fun xs => (evEs es).bind fun ds => M.pure (xs ++ ds)
/-- operands -/
def evPs : List Ex → M (List Op)
  | [] => M.pure []
  | e :: es => (opOf e (evE e)).bind fun p => (evPs es).bind fun ps => M.pure (p :: ps)
/-- all tests hold -/
def evTs : List Ex → M Bool
  | [] => M.pure true
  | e :: es => (truM (evE e)).bind fun k => if k then evTs es else M.pure false
end
/-- both sides written: new lists stay new -/
def evRs : List Ex → M (List RV)
  | [] => M.pure []
  | e :: es => (evE G e).bind fun r => (evRs es).bind fun rs => M.pure (r :: rs)
def stoS (i : Nat) (own : Bool) (r : RV) : M Unit := fun S => if i < S.length then match r, own with
    | .fr xs, true => .ok () (S.set i (.own xs))
    | r, _ => .ok () (S.set i (.val r.d))
  else .bad
def stoA (t : Ta) (r : RV) : M Unit := match t with
  | .nm i own => stoS i own r
  | .sub i e => (ownS i).bind fun _ => (evE G e).toD.bind fun k => (ownS i).bind fun xs => match k with
    | .int j => (M.opt (ixD xs.length j)).bind fun n => putS i (xs.set n r.d)
    | _ => M.bad
  | .fld f => fun S => match getS S 0 with
    | .slf c ks xs => if ks.contains f || decide (900 ≤ ks.length) then .bad else .ok () (S.set 0 (.slf c (ks ++ [f]) (xs ++ [r.d])))
    | _ => .bad
def stoLs : List (RV → M Unit) → List RV → M Unit
  | [], [] => M.pure ()
  | f :: fs, r :: rs => (f r).bind fun _ => stoLs fs rs
  | _, _ => M.bad
def parL (fs : List (RV → M Unit)) (rs : List RV) : M Unit := if rs.length = fs.length then stoLs fs rs else M.bad
def wlim : Nat := 10000
def forL (g : Tgt) (body : M Ctl) : List D → M Ctl
  | [] => M.pure .nx
  | x :: xs => fun S => match tgtS g x S with
    | none => .bad
    | some S1 => match body S1 with
      | .ok .nx S2 => forL g body xs S2
      | .ok .ct S2 => forL g body xs S2
      | .ok .bk S2 => .ok .nx S2
      | r => r
/-- a turn, then what comes -/
def turnM (body m : M Ctl) : M Ctl := fun S => match body S with
  | .ok .nx S2 => m S2
  | .ok .ct S2 => m S2
  | .ok .bk S2 => .ok .nx S2
  | r => r
def whL (t : M Bool) (body : M Ctl) : Nat → M Ctl
  | 0 => M.bad
  | n + 1 => t.bind fun b => if b then turnM body (whL t body n) else M.pure .nx
def unpM (is : List Nat) (d : D) : M Unit := fun S => match d with
  | .tup xs => (match tupS is xs S with | some S' => .ok () S' | none => .bad)
  | _ => .bad
/-- a slot that is data -/
def valS (i : Nat) : M D := fun S => match getS S i with
  | .val d => .ok d S
  | _ => .bad
def nxM (m : M Unit) : M Ctl := m.bind fun _ => M.pure .nx
def retOf (e : Ex) (m : M RV) : M RV := match e with
  | .v i => mvS i
  | _ => m
def raiseM (c : Nat) : List D → M Ctl
  | [] => fun S => .ex c none S
  | [d] => fun S => .ex c (some d) S
  | _ => M.bad
mutual
def exS : Sm → M Ctl
  | .nev => M.bad
  | .asg t e => nxM ((evE G e).bind fun r => stoA G t r)
  | .par ts es => nxM ((evRs G es).bind fun rs => parL (ts.map (stoA G)) rs)
  | .unp is e => nxM ((evE G e).toD.bind fun d => unpM is d)
  | .aug i o e => nxM ((valS i).bind fun x => (evE G e).toD.bind fun y => (M.opt (augD o x y)).bind fun d => stoS i false (.val d))
  | .augs i a o e => nxM ((evE G a).toD.bind fun k => (ownS i).bind fun xs => (M.opt (itemD (.lst xs) k)).bind fun x => (evE G e).toD.bind fun y => (M.opt (binD o x.d y)).bind fun r => stoA G (.sub i (.c k)) r)
  | .expr e => nxM ((evE G e).bind fun _ => M.pure ())
  | .ret e => (retOf e (evE G e)).bind fun r => M.pure (.rt r)
  | .iff t a b => (truM (evE G t)).bind fun k => if k then exSs a else exSs b
  | .for k it g b => (evEs G it).bind fun ds => (M.opt (walkD k ds)).bind fun xs => forL g (exSs b) xs
  | .wh t b => whL (truM (evE G t)) (exSs b) wlim
  | .pass => M.pure .nx
  | .brk => M.pure .bk
  | .cont => M.pure .ct
  | .raise c es => (evEs G es).bind fun ds => raiseM c ds
def exSs : List Sm → M Ctl
  | [] => M.pure .nx
  | s :: ss => (exS s).bind fun c => match c with
    | .nx => exSs ss
    | c => M.pure c
end
end
/-- a def: how many parameters, which of them is a list that it changes, how many names, its body -/
structure Fn where
  np : Nat
  io : Option Nat
  nn : Nat
  body : List Sm
def startS (f : Fn) (xs : List D) (io : Option (List D)) : Option Sl :=
  if xs.length = f.np ∧ f.np ≤ f.nn then
    let S := xs.map Slot.val ++ List.replicate (f.nn - f.np) .un
    match f.io, io with
    | none, none => some S
    | some i, some ys => some (S.set i (.io ys))
    | _, _ => none
  else none
def outOf (f : Fn) (S : Sl) : Option (Option (List D)) := match f.io with
  | none => some none
  | some i => match getS S i with
    | .io ys => some (some ys)
    | _ => none
def endOf (f : Fn) (S : Sl) (r : RV) : CRes := match outOf f S with
  | some o => .ok r o
  | none => .bad
def endR (f : Fn) (r : Res Ctl) : CRes := match r with
  | .ok .nx S' => endOf f S' (.val .non)
  | .ok (.rt r) S' => endOf f S' r
  | .ok _ _ => .bad
  | .ex c d _ => if f.io.isNone then .ex c d else .bad
  | .bad => .bad
def runFn (G : Gam) (f : Fn) (xs : List D) (io : Option (List D)) : CRes := match startS f xs io with
  | none => .bad
  | some S => endR f (exSs G f.body S)
/-- the program: its defs, its classes' __init__, their methods -/
structure Pr where
  fn : Nat → Option Fn
  ini : Nat → Option Fn
  meth : Nat → Nat → Option Nat
def endI (c : Nat) (r : Res Ctl) : CRes := match r with
  | .ok .nx S' => (match getS S' 0 with
    | .slf k ks ys => if k = c then .ok (.val (.obj k ks ys)) none else .bad
    | _ => .bad)
  | .ok _ _ => .bad
  | .ex k d S' => (match getS S' 0 with
    | .slf _ _ _ => .ex k d
    | _ => .bad)
  | .bad => .bad
def runIni (G : Gam) (c : Nat) (f : Fn) (xs : List D) : CRes := match startS f (.non :: xs) none with
  | none => .bad
  | some S => endI c (exSs G f.body (S.set 0 (.slf c [] [])))
def callG (P : Pr) (G : Gam) : Nat → List D → Option (List D) → CRes := fun f xs io => match P.fn f with
  | some d => runFn G d xs io
  | none => .bad
def makeG (P : Pr) (G : Gam) : Nat → List D → CRes := fun c xs => match P.ini c with
  | some d => runIni G c d xs
  | none => .bad
def gam (P : Pr) : Nat → Gam
  | 0 => ⟨fun _ _ _ => .bad, fun _ _ => .bad, fun _ _ => none⟩
  | 1 => ⟨callG P (gam P 0), fun _ _ => .bad, P.meth⟩
  | n + 2 => ⟨callG P (gam P (n + 1)), makeG P (gam P n), P.meth⟩
theorem gam_call (P : Pr) (n : Nat) : (gam P (n + 1)).call = callG P (gam P n) := by
  cases n <;> rfl
theorem gam_make (P : Pr) (n : Nat) : (gam P (n + 2)).make = makeG P (gam P n) := rfl
theorem gam_meth (P : Pr) (n : Nat) : (gam P (n + 1)).meth = P.meth := by
  cases n <;> rfl
end Pl
set_option Elab.async false
set_option linter.all false
set_option maxRecDepth 100000
/-! Pl: data and the heap; worlds, steps, results. -/
namespace Pl
open PySem L2

/-- the program's addresses and names -/
structure Cxt where
  K : PySem.W.Frag
  cls : Nat → Addr
  fnA : Nat → Addr
  nm : Nat → Str
  okc : Nat → Prop

mutual
def R (C : Cxt) (F : Hp) : D → V → Prop
  | .non, v => v = .non
  | .bl b, v => v = .bl b
  | .int i, v => v = .int i
  | .str s, v => v = .str s
  | .tup xs, v => ∃ a vs, v = .ref a ∧ SqT C.K F a vs ∧ Rs C F xs vs
  | .lst xs, v => ∃ a vs, v = .ref a ∧ F a = some (.lst vs) ∧ Rs C F xs vs
  | .obj c ks xs, v => ∃ a dx vs, v = .ref a ∧ F a = some (.ins (C.cls c) dx ((ks.map C.nm).zip vs)) ∧ Rs C F xs vs ∧ ks.length = xs.length ∧ C.okc c
  | .fn f, v => v = .ref (C.fnA f)
  | .dct, v => ∃ a, v = .ref a ∧ F a = some (.dK [])
  | .scr ns, v => ∃ a, v = .ref a ∧ SqL C.K F a (ns.map V.int)
def Rs (C : Cxt) (F : Hp) : List D → List V → Prop
  | [], vs => vs = []
  | x :: xs, vs => ∃ v r, vs = v :: r ∧ R C F x v ∧ Rs C F xs r
end
/-- one heap within another -/
def Sub (F H : Hp) : Prop := ∀ a o, F a = some o → H a = some o
theorem Sub.refl (F : Hp) : Sub F F := fun _ _ h => h
theorem Sub.trans {F G H : Hp} (a : Sub F G) (b : Sub G H) : Sub F H := fun x o h => b x o (a x o h)
theorem Sub.new {H : Hp} {p : Addr} {o : HO} (h : H p = none) : Sub H (upd H p o) := fun a u e => by rw [upd_ne (ne_of_none e h)]; exact e
theorem Sub.rd {F H : Hp} {a : Addr} {u : HO} (e : Sub F H) (h : Rd F a u) : Rd H a u := by
  rcases h with h | ⟨o, h⟩
  · exact .inl (e a _ h)
  · exact .inr ⟨o, e a _ h⟩
theorem Sub.l {K : PySem.W.Frag} {F H : Hp} {a : Addr} {xs : List V} (e : Sub F H) (h : SqL K F a xs) : SqL K H a xs := by
  rcases h with h | h
  · exact .inl (e.rd h)
  · exact .inr h
theorem Sub.t {K : PySem.W.Frag} {F H : Hp} {a : Addr} {xs : List V} (e : Sub F H) (h : SqT K F a xs) : SqT K H a xs := by
  rcases h with h | h
  · exact .inl (e.rd h)
  · exact .inr h
theorem Sub.none {F H : Hp} {a : Addr} (e : Sub F H) (h : H a = Option.none) : F a = Option.none := by
  cases h1 : F a with
  | none => rfl
  | some o => rw [e a o h1] at h; cases h
mutual
theorem R.mono {C : Cxt} {F H : Hp} (e : Sub F H) : ∀ (d : D) {v : V}, R C F d v → R C H d v
  | .non, _, h => by simpa only [R] using h
  | .bl _, _, h => by simpa only [R] using h
  | .int _, _, h => by simpa only [R] using h
  | .str _, _, h => by simpa only [R] using h
  | .tup xs, _, h => by
    simp only [R] at h ⊢
    obtain ⟨a, vs, h1, h2, h3⟩ := h
    exact ⟨a, vs, h1, e.t h2, Rs.mono e xs h3⟩
  | .lst xs, _, h => by
    simp only [R] at h ⊢
    obtain ⟨a, vs, h1, h2, h3⟩ := h
    exact ⟨a, vs, h1, e a _ h2, Rs.mono e xs h3⟩
  | .obj c ks xs, _, h => by
    simp only [R] at h ⊢
    obtain ⟨a, dx, vs, h1, h2, h3, h4⟩ := h
    exact ⟨a, dx, vs, h1, e a _ h2, Rs.mono e xs h3, h4⟩
  | .fn _, _, h => by simpa only [R] using h
  | .dct, _, h => by
    simp only [R] at h ⊢
    obtain ⟨a, h1, h2⟩ := h
    exact ⟨a, h1, e a _ h2⟩
  | .scr _, _, h => by
    simp only [R] at h ⊢
    obtain ⟨a, h1, h2⟩ := h
    exact ⟨a, h1, e.l h2⟩
theorem Rs.mono {C : Cxt} {F H : Hp} (e : Sub F H) : ∀ (xs : List D) {vs : List V}, Rs C F xs vs → Rs C H xs vs
  | [], _, h => by simpa only [Rs] using h
  | x :: xs, _, h => by
    simp only [Rs] at h ⊢
    obtain ⟨v, r, h1, h2, h3⟩ := h
    exact ⟨v, r, h1, R.mono e x h2, Rs.mono e xs h3⟩
end
section
variable {C : Cxt} {F : Hp}
theorem Rs.nil : Rs C F [] [] := by simp only [Rs]
theorem Rs.cons {x : D} {xs : List D} {v : V} {vs : List V} (h : R C F x v) (t : Rs C F xs vs) : Rs C F (x :: xs) (v :: vs) := by
  simp only [Rs]; exact ⟨v, vs, rfl, h, t⟩
theorem Rs.length : ∀ {xs : List D} {vs : List V}, Rs C F xs vs → xs.length = vs.length
  | [], _, h => by simp only [Rs] at h; subst h; rfl
  | x :: xs, _, h => by
    simp only [Rs] at h
    obtain ⟨v, r, rfl, _, h3⟩ := h
    simp [Rs.length h3]
theorem Rs.append : ∀ {xs ys : List D} {vs ws : List V}, Rs C F xs vs → Rs C F ys ws → Rs C F (xs ++ ys) (vs ++ ws)
  | [], _, _, _, h, k => by simp only [Rs] at h; subst h; exact k
  | x :: xs, _, _, _, h, k => by
    simp only [Rs] at h
    obtain ⟨v, r, rfl, h2, h3⟩ := h
    exact Rs.cons h2 (Rs.append h3 k)
theorem Rs.get : ∀ {xs : List D} {vs : List V} {i : Nat} {d : D}, Rs C F xs vs → xs[i]? = some d → ∃ v, vs[i]? = some v ∧ R C F d v
  | [], _, _, _, _, e => by simp at e
  | x :: xs, _, 0, d, h, e => by
    simp only [Rs] at h
    obtain ⟨v, r, rfl, h2, _⟩ := h
    simp at e; subst e; exact ⟨v, by simp, h2⟩
  | x :: xs, _, i + 1, d, h, e => by
    simp only [Rs] at h
    obtain ⟨v, r, rfl, _, h3⟩ := h
    obtain ⟨u, h4, h5⟩ := Rs.get (i := i) h3 (by simpa using e)
    exact ⟨u, by simpa using h4, h5⟩
theorem Rs.set {d : D} {v : V} (k : R C F d v) : ∀ {xs : List D} {vs : List V} (i : Nat), Rs C F xs vs → Rs C F (xs.set i d) (vs.set i v)
  | [], _, _, h => by simp only [Rs] at h; subst h; simpa using Rs.nil
  | x :: xs, _, 0, h => by
    simp only [Rs] at h
    obtain ⟨u, r, rfl, _, h3⟩ := h
    exact Rs.cons k h3
  | x :: xs, _, i + 1, h => by
    simp only [Rs] at h
    obtain ⟨u, r, rfl, h2, h3⟩ := h
    exact Rs.cons h2 (Rs.set k i h3)
theorem Rs.take : ∀ {xs : List D} {vs : List V} (n : Nat), Rs C F xs vs → Rs C F (xs.take n) (vs.take n)
  | _, _, 0, _ => by simpa using Rs.nil
  | [], _, n + 1, h => by simp only [Rs] at h; subst h; simpa using Rs.nil
  | x :: xs, _, n + 1, h => by
    simp only [Rs] at h
    obtain ⟨u, r, rfl, h2, h3⟩ := h
    exact Rs.cons h2 (Rs.take n h3)
theorem Rs.drop : ∀ {xs : List D} {vs : List V} (n : Nat), Rs C F xs vs → Rs C F (xs.drop n) (vs.drop n)
  | _, _, 0, h => h
  | [], _, n + 1, h => by simp only [Rs] at h; subst h; simpa using Rs.nil
  | x :: xs, _, n + 1, h => by
    simp only [Rs] at h
    obtain ⟨u, r, rfl, h2, h3⟩ := h
    exact Rs.drop n h3
theorem Rs.reverse : ∀ {xs : List D} {vs : List V}, Rs C F xs vs → Rs C F xs.reverse vs.reverse
  | [], _, h => by simp only [Rs] at h; subst h; simpa using Rs.nil
  | x :: xs, _, h => by
    simp only [Rs] at h
    obtain ⟨u, r, rfl, h2, h3⟩ := h
    rw [List.reverse_cons, List.reverse_cons]
    exact Rs.append (Rs.reverse h3) (Rs.cons h2 Rs.nil)
theorem Rs.eraseIdx : ∀ {xs : List D} {vs : List V} (i : Nat), Rs C F xs vs → Rs C F (xs.eraseIdx i) (vs.eraseIdx i)
  | [], _, _, h => by simp only [Rs] at h; subst h; simpa using Rs.nil
  | x :: xs, _, 0, h => by
    simp only [Rs] at h
    obtain ⟨u, r, rfl, _, h3⟩ := h
    exact h3
  | x :: xs, _, i + 1, h => by
    simp only [Rs] at h
    obtain ⟨u, r, rfl, h2, h3⟩ := h
    exact Rs.cons h2 (Rs.eraseIdx i h3)
theorem Rs.dropLast : ∀ {xs : List D} {vs : List V}, Rs C F xs vs → Rs C F xs.dropLast vs.dropLast := fun {xs vs} h => by
  rw [List.dropLast_eq_take, List.dropLast_eq_take, ← h.length]; exact h.take _
theorem Rs.rep {xs : List D} {vs : List V} (h : Rs C F xs vs) : ∀ n : Nat, Rs C F (List.replicate n xs).flatten (List.replicate n vs).flatten
  | 0 => by simpa using Rs.nil
  | n + 1 => by rw [List.replicate_succ, List.replicate_succ, List.flatten_cons, List.flatten_cons]; exact h.append (Rs.rep h n)
theorem Rs.ints_map : ∀ ns : List Int, Rs C F (ns.map D.int) (ns.map V.int)
  | [] => Rs.nil
  | n :: ns => Rs.cons (by simp only [R]) (Rs.ints_map ns)
theorem Rs.of_ints : ∀ {xs : List D} {vs : List V} {ns : List Int}, Rs C F xs vs → intsD xs = some ns → vs = ns.map V.int
  | [], _, _, h, e => by simp only [Rs] at h; subst h; simp [intsD] at e; subst e; rfl
  | x :: xs, _, _, h, e => by
    simp only [Rs] at h
    obtain ⟨u, r, rfl, h2, h3⟩ := h
    cases x <;> simp only [intsD] at e <;> try cases e
    cases e2 : intsD xs with
    | none => rw [e2] at e; cases e
    | some m =>
      rw [e2] at e
      simp only [Option.map_some, Option.some.injEq] at e
      subst e
      simp only [R] at h2
      subst h2
      rw [Rs.of_ints h3 e2]; rfl
theorem Rs.of_bools : ∀ {xs : List D} {vs : List V} {ns : List Bool}, Rs C F xs vs → boolsD xs = some ns → vs = ns.map V.bl
  | [], _, _, h, e => by simp only [Rs] at h; subst h; simp [boolsD] at e; subst e; rfl
  | x :: xs, _, _, h, e => by
    simp only [Rs] at h
    obtain ⟨u, r, rfl, h2, h3⟩ := h
    cases x <;> simp only [boolsD] at e <;> try cases e
    cases e2 : boolsD xs with
    | none => rw [e2] at e; cases e
    | some m =>
      rw [e2] at e
      simp only [Option.map_some, Option.some.injEq] at e
      subst e
      simp only [R] at h2
      subst h2
      rw [Rs.of_bools h3 e2]; rfl
end
end Pl
set_option Elab.async false
set_option linter.all false
set_option maxRecDepth 100000
/-! Pl: worlds, steps, results. -/
namespace Pl
open PySem L2

def isOwn : Slot → Bool
  | .own _ => true
  | .io _ => true
  | .slf _ _ _ => true
  | _ => false
structure Wd where
  σ : St
  F : Hp
  H : Hp
  S : Sl
def Wd.Own (w : Wd) (a : Addr) : Prop := ∃ i, isOwn (getS w.S i) = true ∧ w.σ[i]? = some (some (.ref a))
structure Rel (C : Cxt) (A : Addr) (w : Wd) : Prop where
  len : w.S.length = w.σ.length
  sub : Sub w.F w.H
  val : ∀ i d, getS w.S i = .val d → ∃ v, w.σ[i]? = some (some v) ∧ R C w.F d v
  own : ∀ i xs, getS w.S i = .own xs → ∃ a vs, w.σ[i]? = some (some (.ref a)) ∧ w.F a = none ∧ w.H a = some (.lst vs) ∧ Rs C w.F xs vs
  io : ∀ i xs, getS w.S i = .io xs → ∃ vs, w.σ[i]? = some (some (.ref A)) ∧ w.F A = none ∧ w.H A = some (.lst vs) ∧ Rs C w.F xs vs
  slf : ∀ i c ks xs, getS w.S i = .slf c ks xs → ∃ dx vs, w.σ[i]? = some (some (.ref A)) ∧ w.F A = none ∧ w.H A = some (.ins (C.cls c) dx ((ks.map C.nm).zip vs)) ∧ Rs C w.F xs vs ∧ ks.length = xs.length ∧ C.okc c
  inj : ∀ i j a, isOwn (getS w.S i) = true → isOwn (getS w.S j) = true → w.σ[i]? = some (some (.ref a)) → w.σ[j]? = some (some (.ref a)) → i = j
structure Step (w w' : Wd) : Prop where
  ex : Sub w.F w'.F
  keep : ∀ a o, w.H a = some o → ¬ w.Own a → w'.H a = some o
  frz : ∀ a, w.H a ≠ none → w.F a = none → ¬ w.Own a → w'.F a = none
  dom : ∀ a, w.H a ≠ none → w'.H a ≠ none
  own : ∀ a, w'.Own a → w.Own a ∨ w.H a = none
theorem Step.refl (w : Wd) : Step w w := ⟨Sub.refl _, fun _ _ h _ => h, fun _ _ h _ => h, fun _ h => h, fun _ h => .inl h⟩
theorem Step.trans {a b c : Wd} (x : Step a b) (y : Step b c) : Step a c := by
  have no : ∀ p, a.H p ≠ none → ¬ a.Own p → ¬ b.Own p := fun p h n k => by
    rcases x.own p k with q | q
    · exact n q
    · exact h q
  refine ⟨x.ex.trans y.ex, fun p o h n => ?_, fun p h f n => ?_, fun p h => y.dom p (x.dom p h), fun p h => ?_⟩
  · exact y.keep p o (x.keep p o h n) (no p (by rw [h]; exact fun z => nomatch z) n)
  · exact y.frz p (x.dom p h) (x.frz p h f n) (no p h n)
  · rcases y.own p h with q | q
    · exact x.own p q
    · right
      cases e : a.H p with
      | none => rfl
      | some o => exact absurd q (x.dom p (by rw [e]; exact fun z => nomatch z))
theorem Rel.own_none {C : Cxt} {A : Addr} {w : Wd} (r : Rel C A w) {a : Addr} (h : w.Own a) : w.F a = none ∧ w.H a ≠ none := by
  obtain ⟨i, h1, h2⟩ := h
  cases e : getS w.S i with
  | un => rw [e] at h1; cases h1
  | val d => rw [e] at h1; cases h1
  | own xs =>
    obtain ⟨b, vs, q1, q2, q3, _⟩ := r.own i xs e
    rw [h2] at q1; cases q1
    exact ⟨q2, by rw [q3]; exact fun z => nomatch z⟩
  | io xs =>
    obtain ⟨vs, q1, q2, q3, _⟩ := r.io i xs e
    rw [h2] at q1; cases q1
    exact ⟨q2, by rw [q3]; exact fun z => nomatch z⟩
  | slf c ks xs =>
    obtain ⟨dx, vs, q1, q2, q3, _⟩ := r.slf i c ks xs e
    rw [h2] at q1; cases q1
    exact ⟨q2, by rw [q3]; exact fun z => nomatch z⟩

/-- a result, from the world w on -/
def RVR (C : Cxt) (w w' : Wd) : RV → V → Prop
  | .val d, v => R C w'.F d v
  | .fr xs, v => ∃ p vs, v = .ref p ∧ w'.F p = none ∧ w'.H p = some (.lst vs) ∧ Rs C w'.F xs vs ∧ ¬ w'.Own p ∧ (w.H p = none ∨ w.Own p)
theorem RVR.lift {C : Cxt} {w w1 w2 : Wd} {r : RV} {v : V} (s : Step w w1) (h : RVR C w1 w2 r v) : RVR C w w2 r v := by
  cases r with
  | val d => exact h
  | fr xs =>
    obtain ⟨p, vs, h1, h2, h3, h4, h5, h6⟩ := h
    refine ⟨p, vs, h1, h2, h3, h4, h5, ?_⟩
    rcases h6 with q | q
    · left
      cases e : w.H p with
      | none => rfl
      | some o => exact absurd q (s.dom p (by rw [e]; exact fun z => nomatch z))
    · exact (s.own p q).symm
/-- an operand -/
def OpR' (C : Cxt) (w' : Wd) : Op → V → Prop
  | .dat d, v => R C w'.F d v
  | .at i, v => w'.σ[i]? = some (some v)
/-- an exception: its class, its value -/
def XR (C : Cxt) (w w' : Wd) (c : Nat) (d : Option D) (cls : Value) (dx : Option Addr) : Prop :=
  cls = .ref (C.cls c) ∧ match d with
    | none => dx = none
    | some d => ∃ a v f, dx = some a ∧ w'.H a = some (.xd [(f, v)]) ∧ R C w'.F d v ∧ w.H a = none
abbrev WX' := Value → Option Addr → St → Hp → Prop
/-- what is wanted behind m, from the world w on -/
def gAt {α β : Type} (C : Cxt) (A : Addr) (W : WX') (ρ : Wd → Wd → α → β → Prop) (m : M α) (w : Wd) (Q : β → Hp → Prop) : Prop := match m w.S with
  | .ok r S' => ∀ b F' H', Rel C A ⟨w.σ, F', H', S'⟩ → Step w ⟨w.σ, F', H', S'⟩ → ρ w ⟨w.σ, F', H', S'⟩ r b → Q b H'
  | .ex c d S' => ∀ F' H' cls dx, Rel C A ⟨w.σ, F', H', S'⟩ → Step w ⟨w.σ, F', H', S'⟩ → XR C w ⟨w.σ, F', H', S'⟩ c d cls dx → W cls dx w.σ H'
  | .bad => False
def gM {α β : Type} (C : Cxt) (A : Addr) (W : WX') (ρ : Wd → Wd → α → β → Prop) (m : M α) (σ : St) (H : Hp) (Q : β → Hp → Prop) : Prop :=
  ∃ F S, Rel C A ⟨σ, F, H, S⟩ ∧ gAt C A W ρ m ⟨σ, F, H, S⟩ Q
def Lifts {α β : Type} (ρ : Wd → Wd → α → β → Prop) : Prop := ∀ w w1 w2 a b, Step w w1 → ρ w1 w2 a b → ρ w w2 a b
theorem XR.lift {C : Cxt} {w w1 w2 : Wd} {c : Nat} {d : Option D} {cls : Value} {dx : Option Addr} (s : Step w w1) (h : XR C w1 w2 c d cls dx) : XR C w w2 c d cls dx := by
  obtain ⟨h1, h2⟩ := h
  refine ⟨h1, ?_⟩
  cases d with
  | none => exact h2
  | some d =>
    obtain ⟨a, v, f, e1, e2, e3, e4⟩ := h2
    refine ⟨a, v, f, e1, e2, e3, ?_⟩
    cases e : w.H a with
    | none => rfl
    | some o => exact absurd e4 (s.dom a (by rw [e]; exact fun z => nomatch z))
section
variable {C : Cxt} {A : Addr} {W : WX'} {α β γ δ : Type} {ρ1 : Wd → Wd → α → β → Prop} {ρ2 : Wd → Wd → γ → δ → Prop}
theorem gAt.imp {m : M α} {w : Wd} {Q Q' : β → Hp → Prop} (h : gAt C A W ρ1 m w Q) (k : ∀ b H, Q b H → Q' b H) : gAt C A W ρ1 m w Q' := by
  unfold gAt at h ⊢
  split at h
  · intro b F' H' r s x; exact k _ _ (h b F' H' r s x)
  · exact h
  · exact h
/-- first m, then f -/
theorem gAt.bind (hl : Lifts ρ2) {m : M α} {f : α → M γ} {w : Wd} {Q : δ → Hp → Prop} (h : gAt C A W ρ2 (m.bind f) w Q) :
    gAt C A W ρ1 m w (fun b H1 => ∃ F1 S1 a, Rel C A ⟨w.σ, F1, H1, S1⟩ ∧ Step w ⟨w.σ, F1, H1, S1⟩ ∧ ρ1 w ⟨w.σ, F1, H1, S1⟩ a b ∧ gAt C A W ρ2 (f a) ⟨w.σ, F1, H1, S1⟩ Q) := by
  unfold gAt at h ⊢
  unfold M.bind at h
  cases e : m w.S with
  | bad => rw [e] at h; exact h
  | ex c d S' => rw [e] at h; exact h
  | ok a S1 =>
    rw [e] at h
    simp only at h ⊢
    intro b F1 H1 r1 s1 x1
    refine ⟨F1, S1, a, r1, s1, x1, ?_⟩
    cases e2 : f a S1 with
    | bad => rw [e2] at h; exact h
    | ok c S2 =>
      rw [e2] at h
      intro b' F' H' r s x
      exact h b' F' H' r (s1.trans s) (hl _ _ _ _ _ s1 x)
    | ex c d S2 =>
      rw [e2] at h
      intro F' H' cls dx r s x
      exact h F' H' cls dx r (s1.trans s) (x.lift s1)
theorem gM.at {m : M α} {w : Wd} {Q : β → Hp → Prop} (r : Rel C A w) (h : gAt C A W ρ1 m w Q) : gM C A W ρ1 m w.σ w.H Q := ⟨w.F, w.S, r, h⟩
theorem gAt.pure {a : α} {b : β} {w : Wd} {Q : β → Hp → Prop} (h : gAt C A W ρ1 (M.pure a) w Q) (r : Rel C A w) (x : ρ1 w w a b) : Q b w.H := h b w.F w.H r (Step.refl w) x
theorem gAt.opt {o : Option α} {w : Wd} {Q : β → Hp → Prop} (h : gAt C A W ρ1 (M.opt o) w Q) : ∃ a, o = some a ∧ gAt C A W ρ1 (M.pure a) w Q := by
  cases o with
  | none => exact h.elim
  | some a => exact ⟨a, rfl, h⟩
theorem gAt.bind_opt {o : Option α} {f : α → M γ} {w : Wd} {Q : δ → Hp → Prop} (h : gAt C A W ρ2 ((M.opt o).bind f) w Q) : ∃ a, o = some a ∧ gAt C A W ρ2 (f a) w Q := by
  cases o with
  | none => exact h.elim
  | some a => exact ⟨a, rfl, h⟩
end
/-- the relations of results -/
def ρV (C : Cxt) : Wd → Wd → RV → V → Prop := RVR C
def ρD (C : Cxt) : Wd → Wd → D → V → Prop := fun _ w' d v => R C w'.F d v
def ρDs (C : Cxt) : Wd → Wd → List D → List V → Prop := fun _ w' d v => Rs C w'.F d v
def ρE {α : Type} : Wd → Wd → α → α → Prop := fun _ _ a b => a = b
def ρO (C : Cxt) : Wd → Wd → Op → V → Prop := fun _ w' p v => OpR' C w' p v
def ρOs (C : Cxt) : Wd → Wd → List Op → List V → Prop := fun _ w' ps vs => Paired (fun p v => OpR' C w' p v) ps vs
theorem lifts_V (C : Cxt) : Lifts (ρV C) := fun _ _ _ _ _ s h => RVR.lift s h
theorem lifts_D (C : Cxt) : Lifts (ρD C) := fun _ _ _ _ _ _ h => h
theorem lifts_Ds (C : Cxt) : Lifts (ρDs C) := fun _ _ _ _ _ _ h => h
theorem lifts_E {α : Type} : Lifts (ρE (α := α)) := fun _ _ _ _ _ _ h => h
theorem lifts_O (C : Cxt) : Lifts (ρO C) := fun _ _ _ _ _ _ h => h
theorem lifts_Os (C : Cxt) : Lifts (ρOs C) := fun _ _ _ _ _ _ h => h

/-! ### results at hand -/
section
variable {C : Cxt} {A : Addr} {W : WX'} {w : Wd} {Q : VK}
theorem res_val {d : D} {v : V} (r : Rel C A w) (h : gAt C A W (ρV C) (M.pure (.val d)) w Q) (x : R C w.F d v) : Q v w.H := h.pure r x
/-- a new object that nobody holds yet is laid -/
theorem Rel.lay {p : Addr} {o : HO} (r : Rel C A w) (hp : w.H p = none) : Rel C A ⟨w.σ, w.F, upd w.H p o, w.S⟩ := by
  have ne : ∀ a u, w.H a = some u → upd w.H p o a = some u := fun a u e => by rw [upd_ne (ne_of_none e hp)]; exact e
  refine ⟨r.len, fun a u e => ne a u (r.sub a u e), r.val, fun i xs e => ?_, fun i xs e => ?_, fun i c ks xs e => ?_, r.inj⟩
  · obtain ⟨a, vs, q1, q2, q3, q4⟩ := r.own i xs e
    exact ⟨a, vs, q1, q2, ne a _ q3, q4⟩
  · obtain ⟨vs, q1, q2, q3, q4⟩ := r.io i xs e
    exact ⟨vs, q1, q2, ne A _ q3, q4⟩
  · obtain ⟨dx, vs, q1, q2, q3, q4⟩ := r.slf i c ks xs e
    exact ⟨dx, vs, q1, q2, ne A _ q3, q4⟩
theorem Step.lay {p : Addr} {o : HO} (hp : w.H p = none) : Step w ⟨w.σ, w.F, upd w.H p o, w.S⟩ := by
  refine ⟨Sub.refl _, fun a u e _ => ?_, fun a _ h _ => h, fun a h => ?_, fun a h => .inl h⟩
  · show upd w.H p o a = some u
    rw [upd_ne (ne_of_none e hp)]; exact e
  · show upd w.H p o a ≠ none
    by_cases e : a = p
    · subst e; rw [upd_same]; exact fun z => nomatch z
    · rw [upd_ne e]; exact h
/-- an object that nobody owns becomes data -/
theorem Rel.frz {p : Addr} {o : HO} (r : Rel C A w) (hf : w.F p = none) (hp : w.H p = some o) (no : ¬ w.Own p) : Rel C A ⟨w.σ, upd w.F p o, w.H, w.S⟩ := by
  have sb : Sub w.F (upd w.F p o) := Sub.new hf
  have nn : ∀ a, w.Own a → upd w.F p o a = none := fun a h => by
    rw [upd_ne (fun e => no (by rw [← e]; exact h))]; exact (r.own_none h).1
  refine ⟨r.len, fun a u e => ?_, fun i d e => ?_, fun i xs e => ?_, fun i xs e => ?_, fun i c ks xs e => ?_, r.inj⟩
  · show w.H a = some u
    have e : upd w.F p o a = some u := e
    by_cases q : a = p
    · subst q; rw [upd_same] at e; cases e; exact hp
    · rw [upd_ne q] at e; exact r.sub a u e
  · obtain ⟨v, q1, q2⟩ := r.val i d e
    exact ⟨v, q1, R.mono sb d q2⟩
  · obtain ⟨a, vs, q1, q2, q3, q4⟩ := r.own i xs e
    exact ⟨a, vs, q1, nn a ⟨i, by rw [e]; rfl, q1⟩, q3, Rs.mono sb xs q4⟩
  · obtain ⟨vs, q1, q2, q3, q4⟩ := r.io i xs e
    exact ⟨vs, q1, nn A ⟨i, by rw [e]; rfl, q1⟩, q3, Rs.mono sb xs q4⟩
  · obtain ⟨dx, vs, q1, q2, q3, q4, q5⟩ := r.slf i c ks xs e
    exact ⟨dx, vs, q1, nn A ⟨i, by rw [e]; rfl, q1⟩, q3, Rs.mono sb xs q4, q5⟩
/-- what w did not have, or owned, is data from now on -/
theorem Step.data {w0 : Wd} {p : Addr} {o : HO} (s : Step w0 w) (hf : w.F p = none) (hn : w0.H p = none ∨ w0.Own p) : Step w0 ⟨w.σ, upd w.F p o, w.H, w.S⟩ := by
  refine ⟨s.ex.trans (Sub.new hf), s.keep, fun a h1 h2 h3 => ?_, s.dom, s.own⟩
  show upd w.F p o a = none
  rw [upd_ne (fun e => ?_)]
  · exact s.frz a h1 h2 h3
  · subst e
    rcases hn with q | q
    · exact h1 q
    · exact h3 q
/-- a new list -/
theorem res_fr {ds : List D} {vs : List V} {p : Addr} (r : Rel C A w) (h : gAt C A W (ρV C) (M.pure (.fr ds)) w Q) (hp : w.H p = none) (x : Rs C w.F ds vs) : Q (.ref p) (upd w.H p (.lst vs)) :=
  h (.ref p) w.F _ (r.lay hp) (Step.lay hp) ⟨p, vs, rfl, r.sub.none hp, upd_same, x, fun o => (r.own_none o).2 hp, .inl hp⟩
/-- a new tuple, a new object that is data at once -/
theorem res_new {d : D} {p : Addr} {o : HO} (r : Rel C A w) (h : gAt C A W (ρV C) (M.pure (.val d)) w Q) (hp : w.H p = none) (x : R C (upd w.F p o) d (.ref p)) : Q (.ref p) (upd w.H p o) := by
  have hf := r.sub.none hp
  have no : ¬ w.Own p := fun o => (r.own_none o).2 hp
  exact h (.ref p) (upd w.F p o) _ (Rel.frz (w := ⟨w.σ, w.F, upd w.H p o, w.S⟩) (r.lay hp) hf upd_same no) (Step.data (w := ⟨w.σ, w.F, upd w.H p o, w.S⟩) (Step.lay hp) hf (.inl hp)) x
theorem res_tup {ds : List D} {vs : List V} {p : Addr} (r : Rel C A w) (h : gAt C A W (ρV C) (M.pure (.val (.tup ds))) w Q) (hp : w.H p = none) (x : Rs C w.F ds vs) : Q (.ref p) (upd w.H p (.tup vs)) := by
  refine res_new r h hp ?_
  simp only [R]
  exact ⟨p, vs, rfl, SqT.of upd_same, Rs.mono (Sub.new (r.sub.none hp)) ds x⟩
/-- a result as data -/
theorem RVR.data {w0 : Wd} {rv : RV} {v : V} (r : Rel C A w) (s : Step w0 w) (x : RVR C w0 w rv v) : ∃ F', Rel C A ⟨w.σ, F', w.H, w.S⟩ ∧ Step w0 ⟨w.σ, F', w.H, w.S⟩ ∧ R C F' rv.d v := by
  cases rv with
  | val d => exact ⟨w.F, r, s, x⟩
  | fr xs =>
    obtain ⟨p, vs, rfl, h2, h3, h4, h5, h6⟩ := x
    refine ⟨upd w.F p (.lst vs), r.frz h2 h3 h5, s.data h2 h6, ?_⟩
    simp only [RV.d, R]
    exact ⟨p, vs, rfl, upd_same, Rs.mono (Sub.new h2) xs h4⟩
end
/-- m as data -/
theorem gAt.toD {C : Cxt} {A : Addr} {W : WX'} {m : M RV} {w : Wd} {Q : VK} (h : gAt C A W (ρD C) m.toD w Q) : gAt C A W (ρV C) m w Q := by
  unfold gAt at h ⊢
  unfold M.toD M.bind at h
  cases e : m w.S with
  | bad => rw [e] at h; exact h
  | ex c d S' => rw [e] at h; exact h
  | ok r S1 =>
    rw [e] at h
    simp only [M.pure] at h ⊢
    intro b F1 H1 r1 s1 x1
    obtain ⟨F', r', s', x'⟩ := RVR.data r1 s1 x1
    exact h b F' H1 r' s' x'
end Pl
set_option Elab.async false
set_option linter.all false
set_option maxRecDepth 100000
/-! Pl: the operations by values. -/
namespace Pl
open PySem L2

/-- data, or a list that is looked at -/
def PR (C : Cxt) (w : Wd) : D → V → Prop
  | .lst xs, v => ∃ a vs, v = .ref a ∧ w.H a = some (.lst vs) ∧ Rs C w.F xs vs
  | d, v => R C w.F d v
theorem PR.of {C : Cxt} {A : Addr} {w : Wd} (r : Rel C A w) {d : D} {v : V} (h : R C w.F d v) : PR C w d v := by
  cases d with
  | lst xs =>
    simp only [R] at h
    obtain ⟨a, vs, h1, h2, h3⟩ := h
    exact ⟨a, vs, h1, r.sub a _ h2, h3⟩
  | _ => exact h
theorem OpR'.mono {C : Cxt} {w : Wd} {F' H' : Hp} {S' : Sl} (s : Step w ⟨w.σ, F', H', S'⟩) {p : Op} {v : V} (h : OpR' C w p v) : OpR' C ⟨w.σ, F', H', S'⟩ p v := by
  cases p with
  | dat d => exact R.mono s.ex d h
  | «at» i => exact h
theorem get_ok {C : Cxt} {A : Addr} {w : Wd} (r : Rel C A w) {p : Op} {v : V} (x : OpR' C w p v) : p.get w.S = .bad ∨ ∃ d, p.get w.S = .ok d w.S ∧ PR C w d v := by
  cases p with
  | dat d => exact .inr ⟨d, rfl, PR.of r x⟩
  | «at» i =>
    have x : w.σ[i]? = some (some v) := x
    cases e : getS w.S i with
    | un => left; simp only [Op.get, ownS, M.bind, e]
    | val d => left; simp only [Op.get, ownS, M.bind, e]
    | slf c ks xs => left; simp only [Op.get, ownS, M.bind, e]
    | own xs =>
      right
      obtain ⟨a, vs, q1, q2, q3, q4⟩ := r.own i xs e
      rw [x] at q1; cases q1
      exact ⟨.lst xs, by simp only [Op.get, ownS, M.bind, e, M.pure], a, vs, rfl, q3, q4⟩
    | io xs =>
      right
      obtain ⟨vs, q1, q2, q3, q4⟩ := r.io i xs e
      rw [x] at q1; cases q1
      exact ⟨.lst xs, by simp only [Op.get, ownS, M.bind, e, M.pure], A, vs, rfl, q3, q4⟩
section
variable {C : Cxt} {A : Addr} {W : WX'} {γ δ : Type} {ρ : Wd → Wd → γ → δ → Prop}
theorem get_bind {w : Wd} (r : Rel C A w) {p : Op} {v : V} (x : OpR' C w p v) {f : D → M γ} {Q : δ → Hp → Prop} (h : gAt C A W ρ (p.get.bind f) w Q) : ∃ d, PR C w d v ∧ gAt C A W ρ (f d) w Q := by
  rcases get_ok r x with e | ⟨d, e, k⟩
  · unfold gAt M.bind at h; rw [e] at h; exact h.elim
  · refine ⟨d, k, ?_⟩
    unfold gAt M.bind at h; rw [e] at h; exact h
theorem gets_bind {w : Wd} (r : Rel C A w) : ∀ {ps : List Op} {vs : List V}, Paired (fun p v => OpR' C w p v) ps vs → ∀ {f : List D → M γ} {Q : δ → Hp → Prop}, gAt C A W ρ ((gets ps).bind f) w Q → ∃ ds, Paired (PR C w) ds vs ∧ gAt C A W ρ (f ds) w Q
  | [], _, .nil, f, Q, h => ⟨[], .nil, h⟩
  | p :: ps, v :: vs, .cons x t, f, Q, h => by
    have e : ((gets (p :: ps)).bind f) = p.get.bind fun d => (gets ps).bind fun ds => f (d :: ds) := by
      funext S
      simp only [gets, M.bind]
      cases p.get S with
      | ok d S1 =>
        simp only
        cases gets ps S1 <;> simp only [M.pure]
      | ex _ _ _ => rfl
      | bad => rfl
    rw [e] at h
    obtain ⟨d, h1, h2⟩ := get_bind r x h
    obtain ⟨ds, h3, h4⟩ := gets_bind r t h2
    exact ⟨d :: ds, .cons h1 h3, h4⟩
end

/-- what a two-place operation asks -/
def rBin (C : Cxt) (A : Addr) (W : WX') (o : Bop) : R2 := fun x y H Q => ∃ w dx dy, w.H = H ∧ Rel C A w ∧ PR C w dx x ∧ PR C w dy y ∧ gAt C A W (ρV C) (M.opt (binD o dx dy)) w Q
def rCmp (C : Cxt) (A : Addr) (W : WX') (o : Cop) : R2 := fun x y H Q => ∃ w dx dy, w.H = H ∧ Rel C A w ∧ PR C w dx x ∧ PR C w dy y ∧ gAt C A W (ρV C) (boolM (M.opt (cmpD o dx dy))) w Q
def rUn (C : Cxt) (A : Addr) (W : WX') (o : Uop) : V → Hp → VK → Prop := fun x H Q => ∃ w dx, w.H = H ∧ Rel C A w ∧ PR C w dx x ∧ gAt C A W (ρV C) (M.opt (unD o dx)) w Q
def bopOf : Operator → Option Bop
  | .Add => some .add
  | .Sub => some .sub
  | .Mult => some .mul
  | .FloorDiv => some .fdiv
  | .Mod => some .mod
  | .Pow => some .pow
  | .LShift => some .shl
  | .RShift => some .shr
  | .BitAnd => some .and
  | .BitOr => some .or
  | .BitXor => some .xor
  | _ => none
theorem lim_le {n : Nat} (h : n ≤ lim) : n ≤ sizeLine := Nat.le_trans h (by decide)
section
variable {C : Cxt} {A : Addr} {W : WX'} {w : Wd} {X : Cx} {Q : VK}
theorem r_int {i : Int} {v : V} (h : PR C w (.int i) v) : v = .int i := by simpa only [PR, R] using h
theorem r_bl {i : Bool} {v : V} (h : PR C w (.bl i) v) : v = .bl i := by simpa only [PR, R] using h
theorem r_str {i : Str} {v : V} (h : PR C w (.str i) v) : v = .str i := by simpa only [PR, R] using h
theorem r_non {v : V} (h : PR C w .non v) : v = .non := by simpa only [PR, R] using h
theorem r_tup {xs : List D} {v : V} (r : Rel C A w) (h : PR C w (.tup xs) v) : ∃ a vs, v = .ref a ∧ SqT C.K w.H a vs ∧ Rs C w.F xs vs ∧ R C w.F (.tup xs) (.ref a) := by
  have h : R C w.F (.tup xs) v := h
  have h' := h
  simp only [R] at h
  obtain ⟨a, vs, h1, h2, h3⟩ := h
  subst h1
  exact ⟨a, vs, rfl, r.sub.t h2, h3, h'⟩
theorem r_lst {xs : List D} {v : V} (h : PR C w (.lst xs) v) : ∃ a vs, v = .ref a ∧ w.H a = some (.lst vs) ∧ Rs C w.F xs vs := h
theorem r_scr {xs : List Int} {v : V} (r : Rel C A w) (h : PR C w (.scr xs) v) : ∃ a, v = .ref a ∧ SqL C.K w.H a (xs.map V.int) := by
  have h : R C w.F (.scr xs) v := h
  simp only [R] at h
  obtain ⟨a, h1, h2⟩ := h
  exact ⟨a, h1, r.sub.l h2⟩
theorem vi_res {i : Int} (r : Rel C A w) (h : gAt C A W (ρV C) (M.opt (vi i)) w Q) : Q (.int i) w.H := res_val (d := .int i) r h (by simp only [R])
theorem vb_res {i : Bool} (r : Rel C A w) (h : gAt C A W (ρV C) (M.opt (vb i)) w Q) : Q (.bl i) w.H := res_val (d := .bl i) r h (by simp only [R])
theorem small_or {i j : Int} (h : (small i || small j) = true) : CMul i j := by
  unfold small at h
  simp only [Bool.or_eq_true, decide_eq_true_eq] at h
  exact h
theorem small_abs {i : Int} (h : small i = true) : i.natAbs < 2 ^ 64 := by
  unfold small at h
  simp only [decide_eq_true_eq] at h
  omega


theorem opr_add (hK : X.K = C.K) : OpR X (binaryOp .Add) (rBin C A W .add) := by
  intro pins s σ H x y v u Q I rx ry h
  obtain ⟨w, dx, dy, hw, r, px, py, h⟩ := h
  subst hw
  cases dx <;> cases dy <;> first | exact (show False from h).elim | skip
  · cases r_int px; cases r_int py
    exact op_add pins s σ w.H _ _ v u Q I rx ry ⟨_, _, rfl, rfl, vi_res r h⟩
  · cases r_str px; cases r_str py
    simp only [binD] at h
    split at h
    · rename_i hl
      exact op_add_str pins s σ w.H _ _ v u Q I rx ry ⟨_, _, rfl, rfl, lim_le hl, res_val (d := .str _) r h (by simp only [R])⟩
    · exact (show False from h).elim
  · obtain ⟨a, vs, rfl, sa, ra, ta⟩ := r_tup r px
    obtain ⟨b, ws, rfl, sb, rb, tb⟩ := r_tup r py
    rename_i xs ys
    simp only [binD, newT] at h
    split at h
    · rename_i hl
      have h : gAt C A W (ρV C) (M.pure (.val (.tup (xs ++ ys)))) w Q := h
      have l1 := ra.length
      have l2 := rb.length
      refine op_catA pins s σ w.H _ _ v u Q I rx ry ⟨a, b, vs, ws, rfl, rfl, by rw [hK]; exact sa, by rw [hK]; exact sb, by rw [← l1, ← l2, ← List.length_append]; exact lim_le hl, fun e => ?_, fun _ e => ?_, fun _ _ p hp => res_tup r h hp (ra.append rb)⟩
      · have z : xs = [] := by cases xs with | nil => rfl | cons _ _ => rw [e] at l1; cases l1
        subst z
        exact res_val r h tb
      · have z : ys = [] := by cases ys with | nil => rfl | cons _ _ => rw [e] at l2; cases l2
        subst z
        rw [List.append_nil] at h
        exact res_val r h ta
    · exact (show False from h).elim
  · obtain ⟨a, vs, rfl, ha, ra⟩ := r_lst px
    obtain ⟨b, ws, rfl, hb, rb⟩ := r_lst py
    simp only [binD, newL] at h
    split at h
    · rename_i hl
      exact op_cat pins s σ w.H _ _ v u Q I rx ry ⟨a, b, vs, ws, rfl, rfl, ha, hb, by rw [← ra.length, ← rb.length, ← List.length_append]; exact lim_le hl, fun p hp => res_fr r h hp (ra.append rb)⟩
    · exact (show False from h).elim
theorem opr_sub : OpR X (binaryOp .Sub) (rBin C A W .sub) := by
  intro pins s σ H x y v u Q I rx ry h
  obtain ⟨w, dx, dy, hw, r, px, py, h⟩ := h
  subst hw
  cases dx <;> cases dy <;> first | exact (show False from h).elim | skip
  cases r_int px; cases r_int py
  exact op_sub pins s σ w.H _ _ v u Q I rx ry ⟨_, _, rfl, rfl, vi_res r h⟩
theorem opr_mul (hK : X.K = C.K) : OpR X (binaryOp .Mult) (rBin C A W .mul) := by
  intro pins s σ H x y v u Q I rx ry h
  obtain ⟨w, dx, dy, hw, r, px, py, h⟩ := h
  subst hw
  cases dx <;> cases dy <;> first | exact (show False from h).elim | skip
  · cases r_int px; cases r_int py
    simp only [binD] at h
    split at h
    · rename_i hl
      exact op_mul pins s σ w.H _ _ v u Q I rx ry ⟨_, _, rfl, rfl, small_or hl, vi_res r h⟩
    · exact (show False from h).elim
  · obtain ⟨a, vs, rfl, sa, ra, ta⟩ := r_tup r px
    cases r_int py
    rename_i xs k
    simp only [binD] at h
    split at h
    · rename_i hl
      obtain ⟨h1, h2, h3, h4⟩ := hl
      have l1 := ra.length
      refine op_repT pins s σ w.H _ _ v u Q I rx ry ⟨a, k, vs, rfl, rfl, by rw [hK]; exact sa, ?_, h3, h4, by rw [← l1]; exact h2, fun p hp => res_tup r h hp (ra.rep _)⟩
      rintro rfl
      cases xs with
      | nil => cases h1
      | cons _ _ => cases l1
    · exact (show False from h).elim
  · obtain ⟨a, vs, rfl, ha, ra⟩ := r_lst px
    cases r_int py
    simp only [binD] at h
    split at h
    · rename_i hl
      obtain ⟨h1, h2, h3⟩ := hl
      exact op_rep pins s σ w.H _ _ v u Q I rx ry ⟨a, _, vs, rfl, rfl, ha, by omega, by omega, by rw [← ra.length]; exact lim_le h1, fun p hp => res_fr r h hp (ra.rep _)⟩
    · exact (show False from h).elim
theorem opr_fdiv : OpR X (binaryOp .FloorDiv) (rBin C A W .fdiv) := by
  intro pins s σ H x y v u Q I rx ry h
  obtain ⟨w, dx, dy, hw, r, px, py, h⟩ := h
  subst hw
  cases dx <;> cases dy <;> first | exact (show False from h).elim | skip
  cases r_int px; cases r_int py
  simp only [binD] at h
  split at h
  · rename_i hl
    exact op_fdivN pins s σ w.H _ _ v u Q I rx ry ⟨_, _, rfl, rfl, hl, vi_res r h⟩
  · exact (show False from h).elim
theorem opr_mod : OpR X (binaryOp .Mod) (rBin C A W .mod) := by
  intro pins s σ H x y v u Q I rx ry h
  obtain ⟨w, dx, dy, hw, r, px, py, h⟩ := h
  subst hw
  cases dx <;> cases dy <;> first | exact (show False from h).elim | skip
  cases r_int px; cases r_int py
  simp only [binD] at h
  split at h
  · rename_i hl
    exact op_modN pins s σ w.H _ _ v u Q I rx ry ⟨_, _, rfl, rfl, hl, vi_res r h⟩
  · exact (show False from h).elim
theorem opr_pow : OpR X (binaryOp .Pow) (rBin C A W .pow) := by
  intro pins s σ H x y v u Q I rx ry h
  obtain ⟨w, dx, dy, hw, r, px, py, h⟩ := h
  subst hw
  cases dx <;> cases dy <;> first | exact (show False from h).elim | skip
  cases r_int px; cases r_int py
  simp only [binD] at h
  split at h
  · rename_i hl
    exact op_pow pins s σ w.H _ _ v u Q I rx ry ⟨_, _, rfl, rfl, ⟨hl.1, by omega, small_abs hl.2.2⟩, vi_res r h⟩
  · exact (show False from h).elim
theorem opr_shl : OpR X (binaryOp .LShift) (rBin C A W .shl) := by
  intro pins s σ H x y v u Q I rx ry h
  obtain ⟨w, dx, dy, hw, r, px, py, h⟩ := h
  subst hw
  cases dx <;> cases dy <;> first | exact (show False from h).elim | skip
  cases r_int px; cases r_int py
  simp only [binD] at h
  split at h
  · rename_i hl
    exact op_shl pins s σ w.H _ _ v u Q I rx ry ⟨_, _, rfl, rfl, ⟨hl.1, by omega, small_abs hl.2.2⟩, vi_res r h⟩
  · exact (show False from h).elim
theorem opr_shr : OpR X (binaryOp .RShift) (rBin C A W .shr) := by
  intro pins s σ H x y v u Q I rx ry h
  obtain ⟨w, dx, dy, hw, r, px, py, h⟩ := h
  subst hw
  cases dx <;> cases dy <;> first | exact (show False from h).elim | skip
  cases r_int px; cases r_int py
  simp only [binD] at h
  split at h
  · rename_i hl
    exact op_shr pins s σ w.H _ _ v u Q I rx ry ⟨_, _, rfl, rfl, hl, vi_res r h⟩
  · exact (show False from h).elim
theorem opr_and : OpR X (binaryOp .BitAnd) (rBin C A W .and) := by
  intro pins s σ H x y v u Q I rx ry h
  obtain ⟨w, dx, dy, hw, r, px, py, h⟩ := h
  subst hw
  cases dx <;> cases dy <;> first | exact (show False from h).elim | skip
  cases r_int px; cases r_int py
  exact op_and pins s σ w.H _ _ v u Q I rx ry ⟨_, _, rfl, rfl, vi_res r h⟩
theorem opr_or : OpR X (binaryOp .BitOr) (rBin C A W .or) := by
  intro pins s σ H x y v u Q I rx ry h
  obtain ⟨w, dx, dy, hw, r, px, py, h⟩ := h
  subst hw
  cases dx <;> cases dy <;> first | exact (show False from h).elim | skip
  cases r_int px; cases r_int py
  exact op_or pins s σ w.H _ _ v u Q I rx ry ⟨_, _, rfl, rfl, vi_res r h⟩
theorem opr_xor : OpR X (binaryOp .BitXor) (rBin C A W .xor) := by
  intro pins s σ H x y v u Q I rx ry h
  obtain ⟨w, dx, dy, hw, r, px, py, h⟩ := h
  subst hw
  cases dx <;> cases dy <;> first | exact (show False from h).elim | skip
  cases r_int px; cases r_int py
  exact op_xor pins s σ w.H _ _ v u Q I rx ry ⟨_, _, rfl, rfl, vi_res r h⟩
theorem opr_bin (hK : X.K = C.K) {op : Operator} {o : Bop} (e : bopOf op = some o) : OpR X (binaryOp op) (rBin C A W o) := by
  cases op <;> simp only [bopOf, Option.some.injEq, reduceCtorEq] at e <;> subst e
  · exact opr_add hK
  · exact opr_sub
  · exact opr_mul hK
  · exact opr_mod
  · exact opr_pow
  · exact opr_shl
  · exact opr_shr
  · exact opr_or
  · exact opr_xor
  · exact opr_and
  · exact opr_fdiv
theorem unr_neg : UnR X (unaryOp .USub) (rUn C A W .neg) := by
  intro pins s σ H x v Q I rx h
  obtain ⟨w, dx, hw, r, px, h⟩ := h
  subst hw
  cases dx <;> first | exact (show False from h).elim | skip
  cases r_int px
  exact un_neg pins s σ w.H _ v Q I rx ⟨_, rfl, vi_res r h⟩
theorem unr_inv : UnR X (unaryOp .Invert) (rUn C A W .inv) := by
  intro pins s σ H x v Q I rx h
  obtain ⟨w, dx, hw, r, px, h⟩ := h
  subst hw
  cases dx <;> first | exact (show False from h).elim | skip
  cases r_int px
  exact un_inv pins s σ w.H _ v Q I rx ⟨_, rfl, vi_res r h⟩
end
end Pl
set_option Elab.async false
set_option linter.all false
set_option maxRecDepth 100000
/-! Pl: comparisons by values. -/
namespace Pl
open PySem L2

mutual
theorem R.dp {C : Cxt} {F H : Hp} (e : Sub F H) : ∀ (d : D) {v : V}, R C F d v → d.data = true → Dp C.K H v d.py
  | .non, _, h, _ => by simp only [R] at h; subst h; simp only [D.py]; exact .non
  | .bl b, _, h, _ => by simp only [R] at h; subst h; simp only [D.py]; exact .bl b
  | .int b, _, h, _ => by simp only [R] at h; subst h; simp only [D.py]; exact .int b
  | .str b, _, h, _ => by simp only [R] at h; subst h; simp only [D.py]; exact .str b
  | .tup xs, _, h, k => by
    simp only [R] at h
    obtain ⟨a, vs, rfl, h2, h3⟩ := h
    simp only [D.py]
    simp only [D.data] at k
    exact .tup (e.t h2) (Rs.dp e xs h3 k)
  | .lst xs, _, h, k => by
    simp only [R] at h
    obtain ⟨a, vs, rfl, h2, h3⟩ := h
    simp only [D.py]
    simp only [D.data] at k
    exact .lst (SqL.of (e a _ h2)) (Rs.dp e xs h3 k)
  | .obj _ _ _, _, _, k => by simp [D.data] at k
  | .fn _, _, _, k => by simp [D.data] at k
  | .dct, _, _, k => by simp [D.data] at k
  | .scr _, _, _, k => by simp [D.data] at k
theorem Rs.dp {C : Cxt} {F H : Hp} (e : Sub F H) : ∀ (xs : List D) {vs : List V}, Rs C F xs vs → datas xs = true → DpAll C.K H vs (pys xs)
  | [], _, h, _ => by simp only [Rs] at h; subst h; simp only [pys]; exact .nil
  | x :: xs, _, h, k => by
    simp only [Rs] at h
    obtain ⟨v, r, rfl, h2, h3⟩ := h
    simp only [pys]
    simp only [datas, Bool.and_eq_true] at k
    exact .cons (R.dp e x h2 k.1) (Rs.dp e xs h3 k.2)
end
section
variable {C : Cxt} {A : Addr} {W : WX'} {w : Wd} {X : Cx} {Q : VK}
theorem PR.dp (r : Rel C A w) {d : D} {v : V} (h : PR C w d v) (k : d.data = true) : Dp C.K w.H v d.py := by
  cases d with
  | lst xs =>
    obtain ⟨a, vs, rfl, h2, h3⟩ := h
    simp only [D.py]
    simp only [D.data] at k
    exact .lst (SqL.of h2) (Rs.dp r.sub xs h3 k)
  | non => exact R.dp r.sub _ h k
  | bl _ => exact R.dp r.sub _ h k
  | int _ => exact R.dp r.sub _ h k
  | str _ => exact R.dp r.sub _ h k
  | tup _ => exact R.dp r.sub _ h k
  | obj _ _ _ => exact R.dp r.sub _ h k
  | fn _ => exact R.dp r.sub _ h k
  | dct => exact R.dp r.sub _ h k
  | scr _ => exact R.dp r.sub _ h k
theorem bool_res {b : Bool} (r : Rel C A w) (h : gAt C A W (ρV C) (boolM (M.opt (some b))) w Q) : Q (.bl b) w.H := res_val (d := .bl b) r h (by simp only [R])
theorem plain_of {a b : D} {c : Bool} (h : eqD a b = some c) : a.plain = true ∧ b.plain = true ∧ c = PyData.eqv a.py b.py := by
  unfold eqD at h
  split at h
  · rename_i k
    simp only [Bool.and_eq_true] at k
    cases h
    exact ⟨k.1, k.2, rfl⟩
  · cases h
theorem plain_and {a : D} (h : a.plain = true) : a.data = true ∧ SeqAt.shaped a.py = true := by
  unfold D.plain at h
  simpa only [Bool.and_eq_true] using h
theorem cmp_some {o : Option Bool} (h : gAt C A W (ρV C) (boolM (M.opt o)) w Q) : ∃ b, o = some b ∧ gAt C A W (ρV C) (boolM (M.opt (some b))) w Q := by
  cases o with
  | none => exact (show False from h).elim
  | some b => exact ⟨b, rfl, h⟩
theorem opr_eq (hK : X.K = C.K) (hu : X.A.units + 64 < cLine) : OpR X (compareOp .Eq) (rCmp C A W .eq) := by
  intro pins s σ H x y v u Q I rx ry h
  obtain ⟨w, dx, dy, hw, r, px, py, h⟩ := h
  subst hw
  obtain ⟨b, e, h⟩ := cmp_some h
  simp only [cmpD] at e
  obtain ⟨k1, k2, rfl⟩ := plain_of e
  exact op_eqD hu pins s σ w.H _ _ v u Q I rx ry ⟨dx.py, dy.py, by rw [hK]; exact PR.dp r px (plain_and k1).1, by rw [hK]; exact PR.dp r py (plain_and k2).1, (plain_and k1).2, (plain_and k2).2, bool_res r h⟩
theorem opr_ne (hK : X.K = C.K) (hu : X.A.units + 64 < cLine) : OpR X (compareOp .NotEq) (rCmp C A W .ne) := by
  intro pins s σ H x y v u Q I rx ry h
  obtain ⟨w, dx, dy, hw, r, px, py, h⟩ := h
  subst hw
  obtain ⟨b, e, h⟩ := cmp_some h
  simp only [cmpD] at e
  cases e2 : eqD dx dy with
  | none => rw [e2] at e; cases e
  | some c =>
    rw [e2] at e
    simp only [Option.map_some, Option.some.injEq] at e
    subst e
    obtain ⟨k1, k2, rfl⟩ := plain_of e2
    exact op_neD hu pins s σ w.H _ _ v u Q I rx ry ⟨dx.py, dy.py, by rw [hK]; exact PR.dp r px (plain_and k1).1, by rw [hK]; exact PR.dp r py (plain_and k2).1, (plain_and k1).2, (plain_and k2).2, bool_res r h⟩
theorem opr_lt : OpR X (compareOp .Lt) (rCmp C A W .lt) := by
  intro pins s σ H x y v u Q I rx ry h
  obtain ⟨w, dx, dy, hw, r, px, py, h⟩ := h
  subst hw
  cases dx <;> cases dy <;> first | exact (show False from h).elim | skip
  cases r_int px; cases r_int py
  exact op_lt pins s σ w.H _ _ v u Q I rx ry ⟨_, _, rfl, rfl, bool_res r h⟩
theorem opr_le : OpR X (compareOp .LtE) (rCmp C A W .le) := by
  intro pins s σ H x y v u Q I rx ry h
  obtain ⟨w, dx, dy, hw, r, px, py, h⟩ := h
  subst hw
  cases dx <;> cases dy <;> first | exact (show False from h).elim | skip
  cases r_int px; cases r_int py
  exact op_le pins s σ w.H _ _ v u Q I rx ry ⟨_, _, rfl, rfl, bool_res r h⟩
theorem opr_gt : OpR X (compareOp .Gt) (rCmp C A W .gt) := by
  intro pins s σ H x y v u Q I rx ry h
  obtain ⟨w, dx, dy, hw, r, px, py, h⟩ := h
  subst hw
  cases dx <;> cases dy <;> first | exact (show False from h).elim | skip
  cases r_int px; cases r_int py
  exact op_gt pins s σ w.H _ _ v u Q I rx ry ⟨_, _, rfl, rfl, bool_res r h⟩
theorem opr_ge : OpR X (compareOp .GtE) (rCmp C A W .ge) := by
  intro pins s σ H x y v u Q I rx ry h
  obtain ⟨w, dx, dy, hw, r, px, py, h⟩ := h
  subst hw
  cases dx <;> cases dy <;> first | exact (show False from h).elim | skip
  cases r_int px; cases r_int py
  exact op_ge pins s σ w.H _ _ v u Q I rx ry ⟨_, _, rfl, rfl, bool_res r h⟩
theorem R.flat {F : Hp} {d : D} {v : V} (h : R C F d v) (k : flat d = true) : flatV v = true := by
  cases d <;> simp only [Pl.flat, Bool.false_eq_true, reduceCtorEq] at k <;> simp only [R] at h <;> subst h <;> rfl
theorem PR.flatR {d : D} {v : V} (h : PR C w d v) (k : flat d = true) : R C w.F d v := by
  cases d <;> first | (simp only [Pl.flat, Bool.false_eq_true, reduceCtorEq] at k; done) | exact h
theorem Rs.flats {F : Hp} : ∀ {xs : List D} {vs : List V}, Rs C F xs vs → xs.all flat = true → vs.all flatV = true
  | [], _, h, _ => by simp only [Rs] at h; subst h; rfl
  | x :: xs, _, h, k => by
    simp only [Rs] at h
    obtain ⟨v, r, rfl, h2, h3⟩ := h
    simp only [List.all_cons, Bool.and_eq_true] at k ⊢
    exact ⟨R.flat h2 k.1, Rs.flats h3 k.2⟩
theorem eqF_is {F : Hp} {d e : D} {v u : V} (h : R C F d v) (k : R C F e u) (fd : flat d = true) (fe : flat e = true) : eqV v u = eqF d e := by
  cases d <;> simp only [Pl.flat, Bool.false_eq_true, reduceCtorEq] at fd <;> cases e <;> simp only [Pl.flat, Bool.false_eq_true, reduceCtorEq] at fe <;> simp only [R] at h k <;> subst h <;> subst k <;> rfl
theorem inF_is {F : Hp} {d : D} {v : V} (h : R C F d v) (fd : flat d = true) : ∀ {xs : List D} {vs : List V}, Rs C F xs vs → xs.all flat = true → inV v vs = inF d xs
  | [], _, k, _ => by simp only [Rs] at k; subst k; rfl
  | x :: xs, _, k, f => by
    simp only [Rs] at k
    obtain ⟨u, r, rfl, h2, h3⟩ := k
    simp only [List.all_cons, Bool.and_eq_true] at f
    unfold inV inF
    rw [List.any_cons, List.any_cons, eqF_is h2 h f.1 fd]
    have := inF_is h fd h3 f.2
    unfold inV inF at this
    rw [this]
theorem opr_in (hK : X.K = C.K) (hu : X.A.units + 65 < cLine) : OpR X (compareOp .In) (rCmp C A W .isin) := by
  intro pins s σ H x y v u Q I rx ry h
  obtain ⟨w, dx, dy, hw, r, px, py, h⟩ := h
  subst hw
  obtain ⟨b, e, h⟩ := cmp_some h
  cases dy <;> simp only [cmpD, reduceCtorEq] at e
  · obtain ⟨a, vs, rfl, sa, ra, ta⟩ := r_tup r py
    split at e
    · rename_i f
      simp only [Bool.and_eq_true] at f
      cases e
      have fx := PR.flatR px f.1
      refine op_in_seq pins s σ w.H _ _ v u Q I rx ry ⟨a, vs, rfl, .inr (by rw [hK]; exact sa), R.flat fx f.1, Rs.flats ra f.2, ?_⟩
      rw [if_neg (by decide), inF_is fx f.1 ra f.2]
      exact bool_res r h
    · cases e
  · obtain ⟨a, vs, rfl, sa, ra⟩ := r_lst py
    split at e
    · rename_i f
      simp only [Bool.and_eq_true] at f
      cases e
      have fx := PR.flatR px f.1
      refine op_in_seq pins s σ w.H _ _ v u Q I rx ry ⟨a, vs, rfl, .inl (SqL.of sa), R.flat fx f.1, Rs.flats ra f.2, ?_⟩
      rw [if_neg (by decide), inF_is fx f.1 ra f.2]
      exact bool_res r h
    · split at e
      · rename_i f
        simp only [Bool.and_eq_true] at f
        cases e
        exact op_inD hu pins s σ w.H _ _ v u Q I rx ry ⟨dx.py, _, by rw [hK]; exact PR.dp r px (plain_and f.1).1, by rw [hK]; exact PR.dp r py (plain_and f.2).1, (plain_and f.1).2, (plain_and f.2).2, bool_res r h⟩
      · cases e
theorem opr_notin (hK : X.K = C.K) (hu : X.A.units + 65 < cLine) : OpR X (compareOp .NotIn) (rCmp C A W .notin) := by
  intro pins s σ H x y v u Q I rx ry h
  obtain ⟨w, dx, dy, hw, r, px, py, h⟩ := h
  subst hw
  obtain ⟨b, e, h⟩ := cmp_some h
  cases dy <;> simp only [cmpD, reduceCtorEq] at e
  · obtain ⟨a, vs, rfl, sa, ra, ta⟩ := r_tup r py
    split at e
    · rename_i f
      simp only [Bool.and_eq_true] at f
      cases e
      have fx := PR.flatR px f.1
      refine op_notIn_seq pins s σ w.H _ _ v u Q I rx ry ⟨a, vs, rfl, .inr (by rw [hK]; exact sa), R.flat fx f.1, Rs.flats ra f.2, ?_⟩
      rw [if_pos rfl, inF_is fx f.1 ra f.2]
      exact bool_res r h
    · cases e
  · obtain ⟨a, vs, rfl, sa, ra⟩ := r_lst py
    split at e
    · rename_i f
      simp only [Bool.and_eq_true] at f
      cases e
      have fx := PR.flatR px f.1
      refine op_notIn_seq pins s σ w.H _ _ v u Q I rx ry ⟨a, vs, rfl, .inl (SqL.of sa), R.flat fx f.1, Rs.flats ra f.2, ?_⟩
      rw [if_pos rfl, inF_is fx f.1 ra f.2]
      exact bool_res r h
    · split at e
      · rename_i f
        simp only [Bool.and_eq_true] at f
        cases e
        exact op_notInD hu pins s σ w.H _ _ v u Q I rx ry ⟨dx.py, _, by rw [hK]; exact PR.dp r px (plain_and f.1).1, by rw [hK]; exact PR.dp r py (plain_and f.2).1, (plain_and f.1).2, (plain_and f.2).2, bool_res r h⟩
      · cases e
theorem R.isnon {F : Hp} {d : D} {v : V} (h : R C F d v) : decide (v = .non) = (match d with | .non => true | _ => false) := by
  cases d <;> simp only [R] at h <;> first | (subst h; rfl) | skip
  all_goals
    obtain ⟨a, h⟩ := h
    first | (obtain ⟨rfl, _⟩ := h; rfl) | (obtain ⟨_, rfl, _⟩ := h; rfl) | (obtain ⟨_, _, rfl, _⟩ := h; rfl)
theorem PR.isnon {d : D} {v : V} (h : PR C w d v) : decide (v = .non) = (match d with | .non => true | _ => false) := by
  cases d with
  | lst xs => obtain ⟨a, vs, rfl, _⟩ := h; rfl
  | non => exact R.isnon h
  | bl _ => exact R.isnon h
  | int _ => exact R.isnon h
  | str _ => exact R.isnon h
  | tup _ => exact R.isnon h
  | obj _ _ _ => exact R.isnon h
  | fn _ => exact R.isnon h
  | dct => exact R.isnon h
  | scr _ => exact R.isnon h
theorem opr_is : OpR X (compareOp .Is) (rCmp C A W .is) := by
  intro pins s σ H x y v u Q I rx ry h
  obtain ⟨w, dx, dy, hw, r, px, py, h⟩ := h
  subst hw
  cases dy
  case non =>
    cases r_non py
    have z := px.isnon
    refine op_isN pins s σ w.H _ _ v u Q I rx ry ⟨rfl, ?_⟩
    rw [z]
    cases dx <;> first | exact (show False from h).elim | exact bool_res r h
  case bl b =>
    cases dx <;> first | exact (show False from h).elim | skip
    cases r_bl px; cases r_bl py
    exact op_isBl pins s σ w.H _ _ v u Q I rx ry ⟨_, _, rfl, rfl, bool_res r h⟩
  all_goals cases dx <;> exact (show False from h).elim
theorem opr_isnot : OpR X (compareOp .IsNot) (rCmp C A W .isnot) := by
  intro pins s σ H x y v u Q I rx ry h
  obtain ⟨w, dx, dy, hw, r, px, py, h⟩ := h
  subst hw
  cases dy
  case non =>
    cases r_non py
    have z := px.isnon
    refine op_notN pins s σ w.H _ _ v u Q I rx ry ⟨rfl, ?_⟩
    rw [z]
    cases dx <;> first | exact (show False from h).elim | exact bool_res r h
  case bl b =>
    cases dx <;> first | exact (show False from h).elim | skip
    cases r_bl px; cases r_bl py
    exact op_notBl pins s σ w.H _ _ v u Q I rx ry ⟨_, _, rfl, rfl, bool_res r h⟩
  all_goals cases dx <;> exact (show False from h).elim
def copOf : CmpOp → Cop
  | .Eq => .eq
  | .NotEq => .ne
  | .Lt => .lt
  | .LtE => .le
  | .Gt => .gt
  | .GtE => .ge
  | .In => .isin
  | .NotIn => .notin
  | .Is => .is
  | .IsNot => .isnot
theorem opr_cmp (hK : X.K = C.K) (hu : X.A.units + 65 < cLine) (op : CmpOp) : OpR X (compareOp op) (rCmp C A W (copOf op)) := by
  cases op
  · exact opr_eq hK (by omega)
  · exact opr_ne hK (by omega)
  · exact opr_lt
  · exact opr_le
  · exact opr_gt
  · exact opr_ge
  · exact opr_is
  · exact opr_isnot
  · exact opr_in hK hu
  · exact opr_notin hK hu
end
end Pl
set_option Elab.async false
set_option linter.all false
set_option maxRecDepth 100000
/-! Pl: subscripts, slices, truth, built-in functions. -/
namespace Pl
open PySem L2
section
variable {C : Cxt} {A : Addr} {W : WX'} {w : Wd} {X : Cx} {Q : VK}
theorem ix_get {F : Hp} {xs : List D} {vs : List V} {i : Int} {d : D} (r : Rs C F xs vs) (h : atD xs i = some d) : ∃ v, L2.atI vs i = some v ∧ R C F d v := by
  unfold atD ixD at h
  unfold L2.atI
  rw [← r.length]
  cases e : L2.ixN xs.length i with
  | none => rw [e] at h; cases h
  | some j => rw [e] at h; exact r.get h
/-- a[i] -/
def rItem (C : Cxt) (A : Addr) (W : WX') : R2 := fun x y H Q => ∃ w dx dy, w.H = H ∧ Rel C A w ∧ PR C w dx x ∧ R C w.F dy y ∧ gAt C A W (ρV C) (M.opt (itemD dx dy)) w Q
theorem atI_map {α β : Type} (f : α → β) (xs : List α) (i : Int) : L2.atI (xs.map f) i = (L2.atI xs i).map f := by
  unfold L2.atI
  rw [List.length_map]
  cases L2.ixN xs.length i with
  | none => rfl
  | some j => simp
theorem ixr_item (hK : X.K = C.K) : IxR X (rItem C A W) := by
  intro value slice pins s σ H x y v u Q I rx ry h hs
  refine ix_seq value slice pins s σ H x y v u Q I rx ry ?_ hs
  obtain ⟨w, dx, dy, hw, r, px, py, h⟩ := h
  subst hw
  cases dy <;> cases dx <;> first | exact (show False from h).elim | skip
  · simp only [R] at py; subst py
    cases r_str px
    rename_i i z
    simp only [itemD] at h
    split at h
    · rename_i hl
      cases e : L2.atI z.cps.toList i with
      | none => rw [e] at h; exact (show False from h).elim
      | some c =>
        rw [e] at h
        exact .inr (.inr ⟨z, i, c, rfl, rfl, lim_le hl, e, res_val (d := .str _) r h (by simp only [R])⟩)
    · exact (show False from h).elim
  · simp only [R] at py; subst py
    obtain ⟨a, vs, rfl, sa, ra, ta⟩ := r_tup r px
    rename_i i xs
    simp only [itemD] at h
    cases e : atD xs i with
    | none => rw [e] at h; exact (show False from h).elim
    | some d =>
      rw [e] at h
      obtain ⟨v', e1, e2⟩ := ix_get ra e
      exact .inr (.inl ⟨a, vs, i, v', rfl, rfl, by rw [hK]; exact sa, e1, res_val r h e2⟩)
  · simp only [R] at py; subst py
    obtain ⟨a, vs, rfl, sa, ra⟩ := r_lst px
    rename_i i xs
    simp only [itemD] at h
    cases e : atD xs i with
    | none => rw [e] at h; exact (show False from h).elim
    | some d =>
      rw [e] at h
      obtain ⟨v', e1, e2⟩ := ix_get ra e
      exact .inl ⟨a, vs, i, v', rfl, rfl, SqL.of sa, e1, res_val r h e2⟩
  · simp only [R] at py; subst py
    obtain ⟨a, rfl, sa⟩ := r_scr r px
    rename_i i ns
    simp only [itemD] at h
    cases e : L2.atI ns i with
    | none => rw [e] at h; exact (show False from h).elim
    | some d =>
      rw [e] at h
      exact .inl ⟨a, _, i, .int d, rfl, rfl, by rw [hK]; exact sa, by rw [atI_map, e]; rfl, res_val (d := .int d) r h (by simp only [R])⟩
/-- a[lo:hi] -/
def rCut (C : Cxt) (A : Addr) (W : WX') : V → Option Int → Option Int → Hp → VK → Prop := fun x lo hi H Q => ∃ w dx, w.H = H ∧ Rel C A w ∧ PR C w dx x ∧ gAt C A W (ρV C) (M.opt (sliceD dx lo hi)) w Q
theorem Rs.cut {F : Hp} {xs : List D} {vs : List V} (r : Rs C F xs vs) (lo hi : Option Int) : Rs C F (cutD xs lo hi) (L2.cutV vs lo hi) := by
  unfold cutD L2.cutV
  rw [← r.length]
  exact (r.drop _).take _
theorem slr_cut (hK : X.K = C.K) : SlR X (rCut C A W) := by
  intro pins s σ H x v vl vu lo hi sl Q I rx hs pl pu h
  refine SlR.or sl_list sl_tupA pins s σ H x v vl vu lo hi sl Q I rx hs pl pu ?_
  obtain ⟨w, dx, hw, r, px, h⟩ := h
  subst hw
  cases dx <;> first | exact (show False from h).elim | skip
  · obtain ⟨a, vs, rfl, sa, ra, ta⟩ := r_tup r px
    rename_i xs
    refine .inr ⟨a, vs, rfl, by rw [hK]; exact sa, fun hw => ?_, fun _ p hp => res_tup r h hp (ra.cut lo hi)⟩
    have e : cutD xs lo hi = xs := by
      unfold cutD
      rw [ra.length, hw.1, hw.2, List.drop_zero, Nat.sub_zero, ← ra.length, List.take_length]
    have h : gAt C A W (ρV C) (M.pure (.val (.tup (cutD xs lo hi)))) w Q := h
    rw [e] at h
    exact res_val r h ta
  · obtain ⟨a, vs, rfl, sa, ra⟩ := r_lst px
    exact .inl ⟨a, vs, rfl, SqL.of sa, fun p hp => res_fr r h hp (ra.cut lo hi)⟩
  · obtain ⟨a, rfl, sa⟩ := r_scr r px
    rename_i ns
    refine .inl ⟨a, _, rfl, by rw [hK]; exact sa, fun p hp => ?_⟩
    have e : L2.cutV (ns.map V.int) lo hi = (cutD ns lo hi).map V.int := by
      unfold L2.cutV cutD
      rw [List.length_map, List.map_take, List.map_drop]
    rw [e]
    exact res_fr r h hp (Rs.ints_map _)
theorem isEmpty_len {α β : Type} {xs : List α} {ys : List β} (h : xs.length = ys.length) : xs.isEmpty = ys.isEmpty := by
  cases xs <;> cases ys <;> simp_all
/-- truth -/
theorem tru_of (hK : X.K = C.K) {d : D} {v : V} {k : Bool} (r : Rel C A w) (h : PR C w d v) (e : truth d = some k) : TruV X.K v w.H k := by
  cases d <;> simp only [truth, Option.some.injEq, reduceCtorEq] at e
  · cases r_non h; subst e; rfl
  · cases r_bl h; subst e; rfl
  · cases r_int h; subst e; rfl
  · cases r_str h
    split at e
    · rename_i hl
      simp only [Option.some.injEq] at e
      subst e
      refine ⟨lim_le hl, ?_⟩
      rename_i z
      rw [bne, bne]
      congr 1
      rw [Bool.eq_iff_iff]
      simp
    · cases e
  · obtain ⟨a, vs, rfl, sa, ra, _⟩ := r_tup r h
    subst e
    exact .inr (.inl ⟨vs, by rw [hK]; exact sa, by rw [isEmpty_len ra.length]⟩)
  · obtain ⟨a, vs, rfl, sa, ra⟩ := r_lst h
    subst e
    exact .inl ⟨vs, SqL.of sa, by rw [isEmpty_len ra.length]⟩
  · obtain ⟨a, rfl, sa⟩ := r_scr r h
    subst e
    exact .inl ⟨_, by rw [hK]; exact sa, by rw [isEmpty_len (List.length_map _)]⟩
/-! ### built-in functions -/
def rBlt (C : Cxt) (A : Addr) (W : WX') (b : Blt) : List V → Hp → VK → Prop := fun xs H Q => ∃ w ds, w.H = H ∧ Rel C A w ∧ Paired (PR C w) ds xs ∧ gAt C A W (ρV C) (M.opt (bltD b ds)) w Q
theorem one_of {ds : List D} {xs : List V} {d : D} (h : Paired (PR C w) ds xs) (e : ds = [d]) : ∃ v, xs = [v] ∧ PR C w d v := by
  subst e
  cases h with
  | cons x t => cases t; exact ⟨_, rfl, x⟩
theorem two_of {ds : List D} {xs : List V} {d e : D} (h : Paired (PR C w) ds xs) (q : ds = [d, e]) : ∃ v u, xs = [v, u] ∧ PR C w d v ∧ PR C w e u := by
  subst q
  cases h with
  | cons x t => cases t with
    | cons y t => cases t; exact ⟨_, _, rfl, x, y⟩
theorem seq_len (hK : X.K = C.K) {d : D} {v : V} {n : Int} (r : Rel C A w) (h : PR C w d v) (e : bltD .len [d] = vi n) : ∃ m : Nat, (m : Int) = n ∧ LenV X.K v w.H m := by
  cases d <;> simp only [bltD, vi, Option.some.injEq, RV.val.injEq, D.int.injEq, reduceCtorEq] at e
  · cases r_str h
    split at e
    · rename_i hl
      simp only [Option.some.injEq, RV.val.injEq, D.int.injEq] at e
      exact ⟨_, e, lim_le hl, rfl⟩
    · cases e
  · obtain ⟨a, vs, rfl, sa, ra, _⟩ := r_tup r h
    exact ⟨_, e, .inr ⟨vs, by rw [hK]; exact sa, ra.length⟩⟩
  · obtain ⟨a, vs, rfl, sa, ra⟩ := r_lst h
    exact ⟨_, e, .inl ⟨vs, SqL.of sa, ra.length⟩⟩
  · obtain ⟨a, rfl, sa⟩ := r_scr r h
    exact ⟨_, e, .inl ⟨_, by rw [hK]; exact sa, by simp⟩⟩
theorem blt_len_one {ds : List D} {rv : RV} (e : bltD .len ds = some rv) : ∃ d n, ds = [d] ∧ bltD .len [d] = vi n ∧ rv = .val (.int n) := by
  match ds, e with
  | [d], e =>
    cases d <;> simp only [bltD, reduceCtorEq] at e
    · split at e
      · rename_i hl
        refine ⟨_, _, rfl, ?_, (Option.some.inj e).symm⟩
        simp only [bltD]; rw [if_pos hl]
      · cases e
    all_goals exact ⟨_, _, rfl, by simp only [bltD], (Option.some.inj e).symm⟩
  | [], e => simp [bltD] at e
  | _ :: _ :: _, e => simp [bltD] at e
theorem opt_some {o : Option RV} (h : gAt C A W (ρV C) (M.opt o) w Q) : ∃ r, o = some r ∧ gAt C A W (ρV C) (M.opt (some r)) w Q := by
  cases o with
  | none => exact (show False from h).elim
  | some b => exact ⟨b, rfl, h⟩
theorem cb_len (hK : X.K = C.K) : CallR X (.builtin "len") (rBlt C A W .len) := by
  intro pins s σ H xs us Q I rx h
  obtain ⟨w, ds, hw, r, px, h⟩ := h
  subst hw
  obtain ⟨rv, e, h⟩ := opt_some h
  obtain ⟨d, n, rfl, e2, rfl⟩ := blt_len_one e
  obtain ⟨v, rfl, pv⟩ := one_of px rfl
  obtain ⟨m, rfl, hm⟩ := seq_len hK r pv e2
  exact call_len pins s σ w.H _ us Q I rx ⟨v, m, rfl, hm, res_val (d := .int _) r h (by simp only [R])⟩
theorem cb_abs : CallR X (.builtin "abs") (rBlt C A W .abs) := by
  intro pins s σ H xs us Q I rx h
  obtain ⟨w, ds, hw, r, px, h⟩ := h
  subst hw
  obtain ⟨rv, e, h⟩ := opt_some h
  match ds, e with
  | [.int i], e =>
    obtain ⟨v, rfl, pv⟩ := one_of px rfl
    cases r_int pv
    cases e
    exact call_abs pins s σ w.H _ us Q I rx ⟨i, rfl, vi_res r h⟩
theorem cb_max2 (hc : X.calm = true) : CallR X (.builtin "max") (rBlt C A W .max2) := by
  intro pins s σ H xs us Q I rx h
  obtain ⟨w, ds, hw, r, px, h⟩ := h
  subst hw
  obtain ⟨rv, e, h⟩ := opt_some h
  match ds, e with
  | [.int i, .int j], e =>
    obtain ⟨v, u, rfl, pv, pu⟩ := two_of px rfl
    cases r_int pv; cases r_int pu
    cases e
    exact call_max2 hc pins s σ w.H _ us Q I rx ⟨i, j, rfl, vi_res r h⟩
theorem cb_min2 (hc : X.calm = true) : CallR X (.builtin "min") (rBlt C A W .min2) := by
  intro pins s σ H xs us Q I rx h
  obtain ⟨w, ds, hw, r, px, h⟩ := h
  subst hw
  obtain ⟨rv, e, h⟩ := opt_some h
  match ds, e with
  | [.int i, .int j], e =>
    obtain ⟨v, u, rfl, pv, pu⟩ := two_of px rfl
    cases r_int pv; cases r_int pu
    cases e
    exact call_min2 hc pins s σ w.H _ us Q I rx ⟨i, j, rfl, vi_res r h⟩
theorem ct_int : CallR X (.type "int") (rBlt C A W .int) := by
  intro pins s σ H xs us Q I rx h
  obtain ⟨w, ds, hw, r, px, h⟩ := h
  subst hw
  obtain ⟨rv, e, h⟩ := opt_some h
  match ds, e with
  | [.int i], e =>
    obtain ⟨v, rfl, pv⟩ := one_of px rfl
    cases r_int pv
    cases e
    exact call_int1 pins s σ w.H _ us Q I rx (.inl ⟨i, rfl, vi_res r h⟩)
  | [.bl b], e =>
    obtain ⟨v, rfl, pv⟩ := one_of px rfl
    cases r_bl pv
    cases e
    exact call_int1 pins s σ w.H _ us Q I rx (.inr ⟨b, rfl, vi_res r h⟩)
theorem ints_lst {xs : List D} {v : V} {ns : List Int} (h : PR C w (.lst xs) v) (e : intsD xs = some ns) : ∃ a, v = .ref a ∧ w.H a = some (.lst (ns.map V.int)) := by
  obtain ⟨a, vs, rfl, sa, ra⟩ := r_lst h
  rw [ra.of_ints e] at sa
  exact ⟨a, rfl, sa⟩
theorem cb_sum (hc : X.calm = true) (hK : X.K = C.K) : CallR X (.builtin "sum") (rBlt C A W .sum) := by
  intro pins s σ H xs us Q I rx h
  obtain ⟨w, ds, hw, r, px, h⟩ := h
  subst hw
  obtain ⟨rv, e, h⟩ := opt_some h
  match ds, e with
  | [.lst ys], e =>
    obtain ⟨v, rfl, pv⟩ := one_of px rfl
    simp only [bltD] at e
    cases e2 : intsD ys with
    | none => rw [e2] at e; cases e
    | some ns =>
      rw [e2] at e
      cases e
      obtain ⟨a, rfl, ha⟩ := ints_lst pv e2
      exact cr_sum hc pins s σ w.H _ us Q I rx ⟨a, ns, rfl, SqL.of ha, vi_res r h⟩
theorem cb_all (hc : X.calm = true) : CallR X (.builtin "all") (rBlt C A W .all) := by
  intro pins s σ H xs us Q I rx h
  obtain ⟨w, ds, hw, r, px, h⟩ := h
  subst hw
  obtain ⟨rv, e, h⟩ := opt_some h
  match ds, e with
  | [.lst ys], e =>
    obtain ⟨v, rfl, pv⟩ := one_of px rfl
    obtain ⟨a, vs, rfl, sa, ra⟩ := r_lst pv
    simp only [bltD] at e
    cases e2 : boolsD ys with
    | none => rw [e2] at e; cases e
    | some ns =>
      rw [e2] at e
      cases e
      rw [ra.of_bools e2] at sa
      exact cr_all hc pins s σ w.H _ us Q I rx ⟨a, ns, rfl, SqL.of sa, vb_res r h⟩
theorem cb_any (hc : X.calm = true) : CallR X (.builtin "any") (rBlt C A W .any) := by
  intro pins s σ H xs us Q I rx h
  obtain ⟨w, ds, hw, r, px, h⟩ := h
  subst hw
  obtain ⟨rv, e, h⟩ := opt_some h
  match ds, e with
  | [.lst ys], e =>
    obtain ⟨v, rfl, pv⟩ := one_of px rfl
    obtain ⟨a, vs, rfl, sa, ra⟩ := r_lst pv
    simp only [bltD] at e
    cases e2 : boolsD ys with
    | none => rw [e2] at e; cases e
    | some ns =>
      rw [e2] at e
      cases e
      rw [ra.of_bools e2] at sa
      exact cr_any hc pins s σ w.H _ us Q I rx ⟨a, ns, rfl, SqL.of sa, vb_res r h⟩
theorem ct_tuple (hK : X.K = C.K) : CallR X (.type "tuple") (rBlt C A W .tuple) := by
  intro pins s σ H xs us Q I rx h
  obtain ⟨w, ds, hw, r, px, h⟩ := h
  subst hw
  obtain ⟨rv, e, h⟩ := opt_some h
  match ds, e with
  | [.lst ys], e =>
    obtain ⟨v, rfl, pv⟩ := one_of px rfl
    obtain ⟨a, vs, rfl, sa, ra⟩ := r_lst pv
    cases e
    exact call_tuple_of pins s σ w.H _ us Q I rx ⟨a, vs, rfl, .inl ⟨SqL.of sa, fun p hp => res_tup r h hp ra⟩⟩
  | [.tup ys], e =>
    obtain ⟨v, rfl, pv⟩ := one_of px rfl
    obtain ⟨a, vs, rfl, sa, ra, ta⟩ := r_tup r pv
    cases e
    exact call_tuple_of pins s σ w.H _ us Q I rx ⟨a, vs, rfl, .inr ⟨by rw [hK]; exact sa, res_val r h ta⟩⟩
theorem ct_list (hK : X.K = C.K) : CallR X (.type "list") (rBlt C A W .list) := by
  intro pins s σ H xs us Q I rx h
  obtain ⟨w, ds, hw, r, px, h⟩ := h
  subst hw
  obtain ⟨rv, e, h⟩ := opt_some h
  match ds, e with
  | [.lst ys], e =>
    obtain ⟨v, rfl, pv⟩ := one_of px rfl
    obtain ⟨a, vs, rfl, sa, ra⟩ := r_lst pv
    cases e
    exact call_list_of pins s σ w.H _ us Q I rx ⟨a, vs, rfl, .inl (SqL.of sa), fun p hp => res_fr r h hp ra⟩
  | [.tup ys], e =>
    obtain ⟨v, rfl, pv⟩ := one_of px rfl
    obtain ⟨a, vs, rfl, sa, ra, ta⟩ := r_tup r pv
    cases e
    exact call_list_of pins s σ w.H _ us Q I rx ⟨a, vs, rfl, .inr (by rw [hK]; exact sa), fun p hp => res_fr r h hp ra⟩
theorem maxI_ge (r : List Int) : ∀ a : Int, ∀ y, (y = a ∨ y ∈ r) → y ≤ r.foldl (fun m x => if m < x then x else m) a := by
  induction r with
  | nil => intro a y h; rcases h with h | h; · subst h; exact Int.le_refl _
           · cases h
  | cons b r ih =>
    intro a y h
    rw [List.foldl_cons]
    by_cases hab : a < b
    · rw [if_pos hab]
      rcases h with h | h
      · subst h; exact Int.le_trans (Int.le_of_lt hab) (ih b b (.inl rfl))
      · rcases List.mem_cons.mp h with h | h
        · exact ih b y (.inl h)
        · exact ih b y (.inr h)
    · rw [if_neg hab]
      rcases h with h | h
      · exact ih a y (.inl h)
      · rcases List.mem_cons.mp h with h | h
        · subst h; exact Int.le_trans (by omega) (ih a a (.inl rfl))
        · exact ih a y (.inr h)
theorem maxI_mem (r : List Int) : ∀ a : Int, r.foldl (fun m x => if m < x then x else m) a = a ∨ r.foldl (fun m x => if m < x then x else m) a ∈ r := by
  induction r with
  | nil => intro a; exact .inl rfl
  | cons b r ih =>
    intro a
    rw [List.foldl_cons]
    by_cases hab : a < b
    · rw [if_pos hab]
      rcases ih b with h | h
      · rw [h]; exact .inr List.mem_cons_self
      · exact .inr (List.mem_cons_of_mem _ h)
    · rw [if_neg hab]
      rcases ih a with h | h
      · exact .inl h
      · exact .inr (List.mem_cons_of_mem _ h)
theorem minI_le (r : List Int) : ∀ a : Int, ∀ y, (y = a ∨ y ∈ r) → r.foldl (fun m x => if x < m then x else m) a ≤ y := by
  induction r with
  | nil => intro a y h; rcases h with h | h; · subst h; exact Int.le_refl _
           · cases h
  | cons b r ih =>
    intro a y h
    rw [List.foldl_cons]
    by_cases hab : b < a
    · rw [if_pos hab]
      rcases h with h | h
      · subst h; exact Int.le_trans (ih b b (.inl rfl)) (Int.le_of_lt hab)
      · rcases List.mem_cons.mp h with h | h
        · exact ih b y (.inl h)
        · exact ih b y (.inr h)
    · rw [if_neg hab]
      rcases h with h | h
      · exact ih a y (.inl h)
      · rcases List.mem_cons.mp h with h | h
        · subst h; exact Int.le_trans (ih a a (.inl rfl)) (by omega)
        · exact ih a y (.inr h)
theorem minI_mem (r : List Int) : ∀ a : Int, r.foldl (fun m x => if x < m then x else m) a = a ∨ r.foldl (fun m x => if x < m then x else m) a ∈ r := by
  induction r with
  | nil => intro a; exact .inl rfl
  | cons b r ih =>
    intro a
    rw [List.foldl_cons]
    by_cases hab : b < a
    · rw [if_pos hab]
      rcases ih b with h | h
      · rw [h]; exact .inr List.mem_cons_self
      · exact .inr (List.mem_cons_of_mem _ h)
    · rw [if_neg hab]
      rcases ih a with h | h
      · exact .inl h
      · exact .inr (List.mem_cons_of_mem _ h)
theorem maxI_is {ns : List Int} {k m : Int} (e : maxI ns = some k) (hm : m ∈ ns) (ha : ∀ y, y ∈ ns → y ≤ m) : m = k := by
  cases ns with
  | nil => cases e
  | cons a r =>
    simp only [maxI, Option.some.injEq] at e
    have h1 := maxI_ge r a m (by rcases List.mem_cons.mp hm with h | h; exact .inl h; exact .inr h)
    have h2 : k ∈ a :: r := by rw [← e]; rcases maxI_mem r a with h | h; rw [h]; exact List.mem_cons_self; exact List.mem_cons_of_mem _ h
    have h3 := ha k h2
    rw [e] at h1
    omega
theorem minI_is {ns : List Int} {k m : Int} (e : minI ns = some k) (hm : m ∈ ns) (ha : ∀ y, y ∈ ns → m ≤ y) : m = k := by
  cases ns with
  | nil => cases e
  | cons a r =>
    simp only [minI, Option.some.injEq] at e
    have h1 := minI_le r a m (by rcases List.mem_cons.mp hm with h | h; exact .inl h; exact .inr h)
    have h2 : k ∈ a :: r := by rw [← e]; rcases minI_mem r a with h | h; rw [h]; exact List.mem_cons_self; exact List.mem_cons_of_mem _ h
    have h3 := ha k h2
    rw [e] at h1
    omega
theorem cb_maxl (hc : X.calm = true) : CallR X (.builtin "max") (rBlt C A W .maxl) := by
  intro pins s σ H xs us Q I rx h
  obtain ⟨w, ds, hw, r, px, h⟩ := h
  subst hw
  obtain ⟨rv, e, h⟩ := opt_some h
  match ds, e with
  | [.lst ys], e =>
    obtain ⟨v, rfl, pv⟩ := one_of px rfl
    simp only [bltD] at e
    cases e2 : intsD ys with
    | none => rw [e2] at e; cases e
    | some ns =>
      rw [e2] at e
      simp only [Option.bind_some] at e
      cases e3 : maxI ns with
      | none => rw [e3] at e; cases e
      | some k =>
        rw [e3] at e
        cases e
        obtain ⟨a, rfl, ha⟩ := ints_lst pv e2
        refine cr_max hc pins s σ w.H _ us Q I rx ⟨a, ns, rfl, SqL.of ha, ?_, fun m hm hle => ?_⟩
        · cases ns with
          | nil => cases e3
          | cons _ _ => simp
        · rw [maxI_is e3 hm hle]; exact vi_res r h
theorem cb_minl (hc : X.calm = true) : CallR X (.builtin "min") (rBlt C A W .minl) := by
  intro pins s σ H xs us Q I rx h
  obtain ⟨w, ds, hw, r, px, h⟩ := h
  subst hw
  obtain ⟨rv, e, h⟩ := opt_some h
  match ds, e with
  | [.lst ys], e =>
    obtain ⟨v, rfl, pv⟩ := one_of px rfl
    simp only [bltD] at e
    cases e2 : intsD ys with
    | none => rw [e2] at e; cases e
    | some ns =>
      rw [e2] at e
      simp only [Option.bind_some] at e
      cases e3 : minI ns with
      | none => rw [e3] at e; cases e
      | some k =>
        rw [e3] at e
        cases e
        obtain ⟨a, rfl, ha⟩ := ints_lst pv e2
        refine cr_min hc pins s σ w.H _ us Q I rx ⟨a, ns, rfl, SqL.of ha, ?_, fun m hm hle => ?_⟩
        · cases ns with
          | nil => cases e3
          | cons _ _ => simp
        · rw [minI_is e3 hm hle]; exact vi_res r h

theorem sorted_unique : ∀ {xs ys : List Int}, xs.Perm ys → xs.Pairwise (· ≤ ·) → ys.Pairwise (· ≤ ·) → xs = ys := fun {xs ys} p a b =>
  p.eq_of_pairwise (fun x y _ _ h1 h2 => Int.le_antisymm h1 h2) a b
theorem insI_perm (x : Int) : ∀ r : List Int, (insI x r).Perm (x :: r)
  | [] => List.Perm.refl _
  | y :: r => by
    unfold insI
    split
    · exact List.Perm.refl _
    · exact ((insI_perm x r).cons y).trans (List.Perm.swap x y r)
theorem insI_sorted (x : Int) : ∀ r : List Int, r.Pairwise (· ≤ ·) → (insI x r).Pairwise (· ≤ ·)
  | [], _ => List.pairwise_singleton _ _
  | y :: r, h => by
    unfold insI
    rw [List.pairwise_cons] at h
    split
    · rename_i hxy
      rw [List.pairwise_cons]
      refine ⟨fun z hz => ?_, List.pairwise_cons.mpr h⟩
      rcases List.mem_cons.mp hz with rfl | hz
      · omega
      · exact Int.le_trans (by omega) (h.1 z hz)
    · rename_i hxy
      rw [List.pairwise_cons]
      refine ⟨fun z hz => ?_, insI_sorted x r h.2⟩
      rcases List.mem_cons.mp ((insI_perm x r).mem_iff.mp hz) with rfl | hz
      · omega
      · exact h.1 z hz
theorem sortI_fold : ∀ (xs r : List Int), r.Pairwise (· ≤ ·) → (xs.foldl (fun r x => insI x r) r).Perm (xs ++ r) ∧ (xs.foldl (fun r x => insI x r) r).Pairwise (· ≤ ·)
  | [], r, h => ⟨List.Perm.refl _, h⟩
  | x :: xs, r, h => by
    rw [List.foldl_cons]
    obtain ⟨h1, h2⟩ := sortI_fold xs (insI x r) (insI_sorted x r h)
    refine ⟨h1.trans ?_, h2⟩
    exact ((insI_perm x r).append_left xs).trans List.perm_middle
theorem sortI_perm (xs : List Int) : (sortI xs).Perm xs := by
  have h := (sortI_fold xs [] List.Pairwise.nil).1
  rw [List.append_nil] at h
  exact h
theorem sortI_sorted (xs : List Int) : (sortI xs).Pairwise (· ≤ ·) := (sortI_fold xs [] List.Pairwise.nil).2
theorem cb_sorted (hK : X.K = C.K) : CallR X (.builtin "sorted") (rBlt C A W .sorted) := by
  intro pins s σ H xs us Q I rx h
  obtain ⟨w, ds, hw, r, px, h⟩ := h
  subst hw
  obtain ⟨rv, e, h⟩ := opt_some h
  match ds, e with
  | [.lst ys], e =>
    obtain ⟨v, rfl, pv⟩ := one_of px rfl
    simp only [bltD] at e
    cases e2 : intsD ys with
    | none => rw [e2] at e; cases e
    | some ns =>
      rw [e2] at e
      cases e
      obtain ⟨a, rfl, ha⟩ := ints_lst pv e2
      refine cr_sortedI pins s σ w.H _ us Q I rx ⟨a, ns, rfl, SqL.of ha, fun ns' p hp hs hn => ?_⟩
      rw [sorted_unique (hp.trans (sortI_perm ns).symm) hs (sortI_sorted ns)]
      exact res_fr r h hn (Rs.ints_map _)
/-- methods that read a list -/
def rMt (C : Cxt) (A : Addr) (W : WX') (b : Blt) : V → List V → Hp → VK → Prop := fun x xs H Q => ∃ w ds, w.H = H ∧ Rel C A w ∧ Paired (PR C w) ds (x :: xs) ∧ gAt C A W (ρV C) (M.opt (bltD b ds)) w Q
theorem findIdx_get {xs : List D} {vs : List V} {F : Hp} {y : D} {v : V} (hy : R C F y v) (fy : flat y = true) : ∀ {xs : List D} {vs : List V} {j : Nat}, Rs C F xs vs → xs.all flat = true → xs.findIdx? (fun x => eqF x y) = some j →
    ∃ z, vs[j]? = some z ∧ eqV z v = true ∧ ∀ (m : Nat) (z' : V), m < j → vs[m]? = some z' → eqV z' v = false
  | [], _, _, _, _, e => by simp at e
  | x :: xs, _, j, k, f, e => by
    simp only [Rs] at k
    obtain ⟨u, r, rfl, h2, h3⟩ := k
    simp only [List.all_cons, Bool.and_eq_true] at f
    rw [List.findIdx?_cons] at e
    have eu := eqF_is h2 hy f.1 fy
    split at e
    · rename_i c
      cases e
      exact ⟨u, rfl, by rw [eu]; exact c, fun m z' hm _ => absurd hm (Nat.not_lt_zero _)⟩
    · rename_i c
      cases e2 : xs.findIdx? (fun x => eqF x y) with
      | none => rw [e2] at e; cases e
      | some i =>
        rw [e2] at e
        simp only [Option.map_some, Option.some.injEq] at e
        subst e
        obtain ⟨z, q1, q2, q3⟩ := findIdx_get (xs := xs) (vs := r) hy fy h3 f.2 e2
        refine ⟨z, by simpa using q1, q2, fun m z' hm hz => ?_⟩
        cases m with
        | zero =>
          simp only [List.getElem?_cons_zero, Option.some.injEq] at hz
          subst hz
          rw [eu]
          simpa using c
        | succ m => exact q3 m z' (by omega) (by simpa using hz)
theorem mt_idx (hK : X.K = C.K) : MtR X "list.index" (rMt C A W .index) := by
  intro pins s σ H x xs v us Q I rx rxs h
  obtain ⟨w, ds, hw, r, px, h⟩ := h
  subst hw
  obtain ⟨rv, e, h⟩ := opt_some h
  match ds, e, px with
  | [.lst ys, y], e, .cons p1 (.cons p2 .nil) =>
    rename_i u
    obtain ⟨a, vs, rfl, sa, ra⟩ := r_lst p1
    simp only [bltD] at e
    split at e
    · rename_i f
      simp only [Bool.and_eq_true] at f
      cases e2 : ys.findIdx? (fun x => eqF x y) with
      | none => rw [e2] at e; cases e
      | some j =>
        rw [e2] at e
        cases e
        have hy := PR.flatR p2 f.1
        obtain ⟨z, q1, q2, q3⟩ := findIdx_get (xs := ys) (vs := vs) hy f.1 ra f.2 e2
        exact L2.mt_index pins s σ w.H _ _ v us Q I rx rxs ⟨a, vs, u, j, z, rfl, rfl, SqL.of sa, R.flat hy f.1, Rs.flats ra f.2, q1, q2, q3, vi_res r h⟩
    · cases e
  | [.non, y], e, _ => cases e
  | [.bl _, y], e, _ => cases e
  | [.int _, y], e, _ => cases e
  | [.str _, y], e, _ => cases e
  | [.tup _, y], e, _ => cases e
  | [.obj _ _ _, y], e, _ => cases e
  | [.fn _, y], e, _ => cases e
  | [.dct, y], e, _ => cases e
  | [.scr _, y], e, _ => cases e
  | [], e, _ => cases e
  | [a], e, _ => cases a <;> cases e
  | a :: b :: c :: d, e, _ => cases a <;> cases e
theorem cnt_args {ds : List D} {rv : RV} (e : bltD .count ds = some rv) : ∃ ys k, ds = [.lst ys, .int k] := by
  match ds, e with
  | [], e => cases e
  | [a], e => cases a <;> cases e
  | [a, b], e => cases a <;> cases b <;> first | (cases e; done) | exact ⟨_, _, rfl⟩
  | a :: b :: c :: d, e => cases a <;> cases b <;> cases e
theorem mt_cnt (hK : X.K = C.K) : MtR X "list.count" (rMt C A W .count) := by
  intro pins s σ H x xs v us Q I rx rxs h
  obtain ⟨w, ds, hw, r, px, h⟩ := h
  subst hw
  obtain ⟨rv, e, h⟩ := opt_some h
  obtain ⟨ys, k, rfl⟩ := cnt_args e
  cases px with
  | cons p1 t =>
    cases t with
    | cons p2 t =>
      cases t
      simp only [bltD] at e
      cases r_int p2
      cases e2 : intsD ys with
      | none => rw [e2] at e; cases e
      | some ns =>
        rw [e2] at e
        cases e
        obtain ⟨a, rfl, ha⟩ := ints_lst p1 e2
        exact L2.mt_lcount pins s σ w.H _ _ v us Q I rx rxs ⟨a, ns, k, rfl, rfl, SqL.of ha, vi_res r h⟩
/-! ### isinstance -/
def tgV (C : Cxt) : Tg → V
  | .int => .ty "int"
  | .bool => .ty "bool"
  | .str => .ty "str"
  | .tuple => .ty "tuple"
  | .list => .ty "list"
  | .dict => .ty "dict"
  | .cls c => .ref (C.cls c)
def tgU (C : Cxt) : Tg → Value
  | .int => .type "int"
  | .bool => .type "bool"
  | .str => .type "str"
  | .tuple => .type "tuple"
  | .list => .type "list"
  | .dict => .type "dict"
  | .cls c => .ref (C.cls c)
def Tg.ok (C : Cxt) : Tg → Prop
  | .cls c => C.okc c
  | _ => True
/-- what is known of the classes whose instances are made -/
structure CF (C : Cxt) : Prop where
  cl : ∀ c, C.okc c → Cls C.K (C.cls c)
  ha : ∀ c, C.okc c → PySem.W.findIn C.K (.ref (C.cls c)) "__class__" = some (some (.builtin "object.__class__"))
  hn : ∀ c, C.okc c → PySem.W.specialIn C.K (.builtin "object.__class__") "__get__" = some (some (.builtin "getset_descriptor.__get__"))
  htk : ∀ c, C.okc c → PySem.W.takesIn C.K (.builtin "object.__class__") = some true
  hm : ∀ c, C.okc c → PySem.W.mroIn C.K (C.cls c) (.type "object") = some true
  k1 : ∀ c T, C.okc c → T ∈ ["NoneType", "bool", "int", "str", "list", "tuple", "dict"] → PySem.W.kitOne C.K (.type T) (.ref (C.cls c)) = some false
  k2 : ∀ c T, C.okc c → T ∈ ["bool", "int", "str", "list", "tuple", "dict"] → PySem.W.kitOne C.K (.ref (C.cls c)) (.type T) = some false
  k3 : ∀ c c', C.okc c → C.okc c' → PySem.W.kitOne C.K (.ref (C.cls c)) (.ref (C.cls c')) = some (decide (c' = c))
/-- the type of data, as it is told -/
def tyD : D → String
  | .non => "NoneType"
  | .bl _ => "bool"
  | .int _ => "int"
  | .str _ => "str"
  | .lst _ => "list"
  | .tup _ => "tuple"
  | .dct => "dict"
  | _ => ""
theorem ty_of (hK : X.K = C.K) (f : CF C) {d : D} {v : V} (r : Rel C A w) (h : PR C w d v) {t : Tg} {b : Bool} (e : isTg t d = some b) (ht : t.ok C) : ∃ T, TyX X.K w.H v T ∧ PySem.W.kitOne X.K T (tgU C t) = some b := by
  have base : ∀ (T : String), TyX X.K w.H v (.type T) → T ∈ ["NoneType", "bool", "int", "str", "list", "tuple", "dict"] → (match t with | .cls _ => b = false | .int => kitB T "int" = some b | .bool => kitB T "bool" = some b | .str => kitB T "str" = some b | .tuple => kitB T "tuple" = some b | .list => kitB T "list" = some b | .dict => kitB T "dict" = some b) →
      ∃ T, TyX X.K w.H v T ∧ PySem.W.kitOne X.K T (tgU C t) = some b := fun T hT hm hk => by
    refine ⟨_, hT, ?_⟩
    cases t with
    | cls c => rw [hK]; have hk : b = false := hk; subst hk; exact f.k1 c T ht hm
    | int => exact kit_ty hk
    | bool => exact kit_ty hk
    | str => exact kit_ty hk
    | tuple => exact kit_ty hk
    | list => exact kit_ty hk
    | dict => exact kit_ty hk
  cases d with
  | non =>
    cases r_non h
    refine base "NoneType" (.base .non) (by decide) ?_
    cases t <;> simp only [isTg, Option.some.injEq] at e <;> subst e <;> first | rfl | decide +kernel
  | bl x =>
    cases r_bl h
    refine base "bool" (.base (.bl _)) (by decide) ?_
    cases t <;> simp only [isTg, Option.some.injEq] at e <;> subst e <;> first | rfl | decide +kernel
  | int x =>
    cases r_int h
    refine base "int" (.base (.int _)) (by decide) ?_
    cases t <;> simp only [isTg, Option.some.injEq] at e <;> subst e <;> first | rfl | decide +kernel
  | str x =>
    cases r_str h
    refine base "str" (.base (.str _)) (by decide) ?_
    cases t <;> simp only [isTg, Option.some.injEq] at e <;> subst e <;> first | rfl | decide +kernel
  | lst xs =>
    obtain ⟨a, vs, rfl, sa, ra⟩ := r_lst h
    refine base "list" (.base (.lst sa)) (by decide) ?_
    cases t <;> simp only [isTg, Option.some.injEq] at e <;> subst e <;> first | rfl | decide +kernel
  | tup xs =>
    obtain ⟨a, vs, rfl, sa, ra, _⟩ := r_tup r h
    have ty : TyX X.K w.H (.ref a) (.type "tuple") := by
      rcases sa with (sa | ⟨o, sa⟩) | ⟨o, its, n, k1, k2, k3, k4, k5⟩
      · exact .base (.tup sa)
      · exact .fTuple sa
      · exact .kTuple (o := o) (by rw [hK]; exact k1) k2
    refine base "tuple" ty (by decide) ?_
    cases t <;> simp only [isTg, Option.some.injEq] at e <;> subst e <;> first | rfl | decide +kernel
  | dct =>
    have h2 : R C w.F .dct v := h
    simp only [R] at h2
    obtain ⟨a, rfl, h3⟩ := h2
    refine base "dict" (.base (.dK (r.sub a _ h3))) (by decide) ?_
    cases t <;> simp only [isTg, Option.some.injEq] at e <;> subst e <;> first | rfl | decide +kernel
  | fn g => cases t <;> simp [isTg] at e
  | scr g => cases t <;> simp [isTg] at e
  | obj c ks xs =>
    have h2 : R C w.F (.obj c ks xs) v := h
    simp only [R] at h2
    obtain ⟨a, dx, vs, rfl, h1, _, _, hc⟩ := h2
    refine ⟨.ref (C.cls c), .base (.ins (r.sub a _ h1) (by rw [hK]; exact f.cl c hc) (by rw [hK]; exact f.ha c hc) (by rw [hK]; exact f.hn c hc) (by rw [hK]; exact f.htk c hc) (by rw [hK]; exact f.hm c hc)), ?_⟩
    rw [hK]
    cases t with
    | cls k =>
      simp only [isTg, Option.some.injEq] at e
      subst e
      exact f.k3 c k hc ht
    | int => simp only [isTg, Option.some.injEq] at e; subst e; exact f.k2 c _ hc (by decide)
    | bool => simp only [isTg, Option.some.injEq] at e; subst e; exact f.k2 c _ hc (by decide)
    | str => simp only [isTg, Option.some.injEq] at e; subst e; exact f.k2 c _ hc (by decide)
    | tuple => simp only [isTg, Option.some.injEq] at e; subst e; exact f.k2 c _ hc (by decide)
    | list => simp only [isTg, Option.some.injEq] at e; subst e; exact f.k2 c _ hc (by decide)
    | dict => simp only [isTg, Option.some.injEq] at e; subst e; exact f.k2 c _ hc (by decide)
def rIs1 (C : Cxt) (A : Addr) (W : WX') : List V → Hp → VK → Prop := fun xs H Q => ∃ w d v t, w.H = H ∧ xs = [v, tgV C t] ∧ t.ok C ∧ Rel C A w ∧ PR C w d v ∧ gAt C A W (ρV C) (boolM (M.opt (isTg t d))) w Q
theorem tg_cls (C : Cxt) (t : Tg) : ClsV (tgV C t) (tgU C t) := by
  cases t <;> first | exact .ty _ | exact .own _
theorem cb_isi (hK : X.K = C.K) (f : CF C) : CallR X (.builtin "isinstance") (rIs1 C A W) := by
  intro pins s σ H xs us Q I rx h
  obtain ⟨w, d, v, t, hw, rfl, ht, r, px, h⟩ := h
  subst hw
  obtain ⟨b, e, h⟩ := cmp_some h
  obtain ⟨T, h1, h2⟩ := ty_of hK f r px e ht
  exact call_isi pins s σ w.H _ us Q I rx ⟨v, tgV C t, T, tgU C t, b, rfl, tg_cls C t, h1, h2, bool_res r h⟩
end
end Pl
set_option Elab.async false
set_option linter.all false
set_option maxRecDepth 100000
/-! Pl: what a def promises, and what a call of it leaves. -/
namespace Pl
open PySem L2

structure FIn (C : Cxt) (F H : Hp) (iop : Option Nat) (A : Addr) (ds : List D) (io : Option (List D)) (vs : List V) : Prop where
  sub : Sub F H
  len : ds.length = vs.length
  arg : ∀ i d, ds[i]? = some d → iop ≠ some i → ∃ v, vs[i]? = some v ∧ R C F d v
  io : match iop, io with
    | none, none => True
    | some i, some xs => vs[i]? = some (.ref A) ∧ F A = none ∧ ∃ ws, H A = some (.lst ws) ∧ Rs C F xs ws
    | _, _ => False
/-- what a run leaves of the heap; own: what it may have changed -/
structure FHp (C : Cxt) (F H : Hp) (own : Addr → Prop) (F' H' : Hp) : Prop where
  ex : Sub F F'
  sub : Sub F' H'
  keep : ∀ a o, H a = some o → ¬ own a → H' a = some o
  frz : ∀ a, H a ≠ none → F a = none → F' a = none
  dom : ∀ a, H a ≠ none → H' a ≠ none
def FRes (C : Cxt) (H F' H' : Hp) : RV → V → Prop
  | .val d, v => R C F' d v
  | .fr xs, v => ∃ p ws, v = .ref p ∧ F' p = none ∧ H' p = some (.lst ws) ∧ Rs C F' xs ws ∧ H p = none
def FOutL (C : Cxt) (iop : Option Nat) (A : Addr) (out : Option (List D)) (F' H' : Hp) : Prop := match iop, out with
  | none, none => True
  | some _, some ys => ∃ ws, H' A = some (.lst ws) ∧ Rs C F' ys ws
  | _, _ => False
def FXR (C : Cxt) (H F' H' : Hp) (c : Nat) (d : Option D) (cls : Value) (dx : Option Addr) : Prop :=
  cls = .ref (C.cls c) ∧ match d with
    | none => dx = none
    | some d => ∃ a v f, dx = some a ∧ H' a = some (.xd [(f, v)]) ∧ R C F' d v ∧ H a = none
/-- the promise: what ans tells -/
def spF (C : Cxt) (ans : List D → Option (List D) → CRes) (iop : Option Nat) (np : Nat) : Sp := fun vs H Q E =>
  vs.length = np ∧ ∃ F A ds io, FIn C F H iop A ds io vs ∧ match ans ds io with
    | .ok r out => ∀ v F' H', FHp C F H (fun a => iop.isSome = true ∧ a = A) F' H' → FRes C H F' H' r v → FOutL C iop A out F' H' → Q v H'
    | .ex c d => ∀ cls dx F' H', FHp C F H (fun _ => False) F' H' → FXR C H F' H' c d cls dx → E cls dx H'
    | .bad => False
/-- .. of an __init__ -/
def spI (C : Cxt) (c : Nat) (ans : List D → CRes) (np : Nat) : Sp := fun vs H Q E =>
  vs.length = np + 1 ∧ ∃ F x dx ds us, vs = .ref x :: us ∧ FIn C F H none x ds none us ∧ F x = none ∧ F dx = none ∧ H x = some (.ins (C.cls c) dx []) ∧ C.okc c ∧ match ans ds with
    | .ok (.val (.obj k ks xs)) none => k = c ∧ ∀ F' H' ws dx', FHp C F H (fun a => a = x) F' H' → H' x = some (.ins (C.cls c) dx' ((ks.map C.nm).zip ws)) → Rs C F' xs ws → ks.length = xs.length → Q .non H'
    | .ex k d => ∀ cls dx' F' H', FHp C F H (fun a => a = x) F' H' → FXR C H F' H' k d cls dx' → E cls dx' H'
    | _ => False
section
variable {C : Cxt} {A0 : Addr} {w : Wd}
theorem own_A {C : Cxt} {A : Addr} {w : Wd} (r : Rel C A w) {j : Nat} (h : isOwn (getS w.S j) = true) : ∃ a, w.σ[j]? = some (some (.ref a)) ∧ w.Own a := by
  cases e : getS w.S j with
  | un => rw [e] at h; cases h
  | val d => rw [e] at h; cases h
  | own xs =>
    obtain ⟨b, vs, q1, _⟩ := r.own j xs e
    exact ⟨b, q1, j, by rw [e]; rfl, q1⟩
  | io xs =>
    obtain ⟨vs, q1, _⟩ := r.io j xs e
    exact ⟨A, q1, j, by rw [e]; rfl, q1⟩
  | slf c ks xs =>
    obtain ⟨dx, vs, q1, _⟩ := r.slf j c ks xs e
    exact ⟨A, q1, j, by rw [e]; rfl, q1⟩
/-- behind a call that changes no list of ours -/
theorem call_world {F' H' : Hp} (r : Rel C A0 w) (f : FHp C w.F w.H (fun _ => False) F' H') : Rel C A0 ⟨w.σ, F', H', w.S⟩ ∧ Step w ⟨w.σ, F', H', w.S⟩ := by
  have k : ∀ a o, w.H a = some o → H' a = some o := fun a o h => f.keep a o h (fun z => z)
  have z : ∀ a o, w.F a = none → w.H a = some o → F' a = none := fun a o h1 h2 => f.frz a (by rw [h2]; exact fun q => nomatch q) h1
  refine ⟨⟨r.len, f.sub, fun i d e => ?_, fun i xs e => ?_, fun i xs e => ?_, fun i c ks xs e => ?_, r.inj⟩, ⟨f.ex, fun a o h _ => k a o h, fun a h1 h2 _ => f.frz a h1 h2, f.dom, fun a h => .inl h⟩⟩
  · obtain ⟨v, q1, q2⟩ := r.val i d e
    exact ⟨v, q1, R.mono f.ex d q2⟩
  · obtain ⟨a, vs, q1, q2, q3, q4⟩ := r.own i xs e
    exact ⟨a, vs, q1, z a _ q2 q3, k a _ q3, Rs.mono f.ex xs q4⟩
  · obtain ⟨vs, q1, q2, q3, q4⟩ := r.io i xs e
    exact ⟨vs, q1, z A0 _ q2 q3, k A0 _ q3, Rs.mono f.ex xs q4⟩
  · obtain ⟨dx, vs, q1, q2, q3, q4, q5⟩ := r.slf i c ks xs e
    exact ⟨dx, vs, q1, z A0 _ q2 q3, k A0 _ q3, Rs.mono f.ex xs q4, q5⟩
theorem getS_set {S : Sl} {i j : Nat} {x : Slot} : getS (S.set i x) j = if i = j then (if i < S.length then x else .un) else getS S j := by
  unfold getS
  rw [List.getD_eq_getElem?_getD, List.getD_eq_getElem?_getD, List.getElem?_set]
  split
  · split <;> rfl
  · rfl
theorem getS_lt {S : Sl} {i : Nat} {x : Slot} (h : getS S i = x) (hx : x ≠ .un) : i < S.length := by
  unfold getS at h
  rw [List.getD_eq_getElem?_getD] at h
  by_cases q : i < S.length
  · exact q
  · rw [List.getElem?_eq_none (by omega)] at h
    exact absurd h.symm hx
/-- a list of our own has changed (its content, and the rest of the heap as f says) -/
theorem put_world {F' H' : Hp} {i : Nat} {A : Addr} {xs ys : List D} {ws : List V} (r : Rel C A0 w) (hi : getS w.S i = .own xs ∨ getS w.S i = .io xs) (hA : w.σ[i]? = some (some (.ref A)))
    (f : FHp C w.F w.H (fun a => a = A) F' H') (hw : H' A = some (.lst ws)) (hy : Rs C F' ys ws) :
    ∃ S', putS i ys w.S = .ok () S' ∧ Rel C A0 ⟨w.σ, F', H', S'⟩ ∧ Step w ⟨w.σ, F', H', S'⟩ ∧ ∀ a, (⟨w.σ, F', H', S'⟩ : Wd).Own a → w.Own a := by
  have io : isOwn (getS w.S i) = true := by rcases hi with e | e <;> rw [e] <;> rfl
  have hl : i < w.S.length := by rcases hi with e | e <;> exact getS_lt e (fun z => nomatch z)
  obtain ⟨x, hx, hxo⟩ : ∃ x, putS i ys w.S = .ok () (w.S.set i x) ∧ (x = .own ys ∧ getS w.S i = .own xs ∨ x = .io ys ∧ getS w.S i = .io xs) := by
    rcases hi with e | e
    · exact ⟨.own ys, by unfold putS; rw [e], .inl ⟨rfl, e⟩⟩
    · exact ⟨.io ys, by unfold putS; rw [e], .inr ⟨rfl, e⟩⟩
  refine ⟨_, hx, ?_⟩
  have k : ∀ a o, w.H a = some o → a ≠ A → H' a = some o := fun a o h n => f.keep a o h n
  have z : ∀ a o, w.F a = none → w.H a = some o → F' a = none := fun a o h1 h2 => f.frz a (by rw [h2]; exact fun q => nomatch q) h1
  have oi : isOwn x = true := by rcases hxo with ⟨e, _⟩ | ⟨e, _⟩ <;> rw [e] <;> rfl
  have so : ∀ j, isOwn (getS (w.S.set i x) j) = isOwn (getS w.S j) := fun j => by
    by_cases q : i = j
    · subst q; rw [getS_set, if_pos rfl, if_pos hl, oi, io]
    · rw [getS_set, if_neg q]
  have other : ∀ j, i ≠ j → getS (w.S.set i x) j = getS w.S j := fun j h => by rw [getS_set, if_neg h]
  have same : getS (w.S.set i x) i = x := by rw [getS_set, if_pos rfl, if_pos hl]
  have FA : w.F A = none := (r.own_none ⟨i, io, hA⟩).1
  have FA' : F' A = none := f.frz A (r.own_none ⟨i, io, hA⟩).2 FA
  have neA : ∀ j a, i ≠ j → isOwn (getS w.S j) = true → w.σ[j]? = some (some (.ref a)) → a ≠ A := fun j a n h1 h2 e => n (r.inj i j A io h1 hA (by rw [h2, e]))
  refine ⟨⟨by simpa using r.len, f.sub, fun j d e => ?_, fun j xs' e => ?_, fun j xs' e => ?_, fun j c ks xs' e => ?_, fun j1 j2 a h1 h2 => ?_⟩, ⟨f.ex, fun a o h n => ?_, fun a h1 h2 _ => f.frz a h1 h2, f.dom, fun a h => ?_⟩, fun a h => ?_⟩
  · by_cases q : i = j
    · subst q
      have e : getS (w.S.set i x) i = .val d := e
      rw [same] at e
      rcases hxo with ⟨z1, _⟩ | ⟨z1, _⟩ <;> rw [z1] at e <;> cases e
    · have e : getS (w.S.set i x) j = .val d := e
      rw [other j q] at e
      obtain ⟨v, q1, q2⟩ := r.val j d e
      exact ⟨v, q1, R.mono f.ex d q2⟩
  · have e : getS (w.S.set i x) j = .own xs' := e
    by_cases q : i = j
    · subst q
      rw [same] at e
      rcases hxo with ⟨z1, _⟩ | ⟨z1, _⟩
      · rw [z1] at e; cases e
        exact ⟨A, ws, hA, FA', hw, hy⟩
      · rw [z1] at e; cases e
    · rw [other j q] at e
      obtain ⟨a, vs, q1, q2, q3, q4⟩ := r.own j xs' e
      exact ⟨a, vs, q1, z a _ q2 q3, k a _ q3 (neA j a q (by rw [e]; rfl) q1), Rs.mono f.ex xs' q4⟩
  · have e : getS (w.S.set i x) j = .io xs' := e
    by_cases q : i = j
    · subst q
      rw [same] at e
      rcases hxo with ⟨z1, _⟩ | ⟨z1, z2⟩
      · rw [z1] at e; cases e
      · rw [z1] at e; cases e
        obtain ⟨vs, q1, _⟩ := r.io i xs z2
        have q2 := q1
        rw [hA] at q2; cases q2
        exact ⟨ws, q1, FA', hw, hy⟩
    · rw [other j q] at e
      obtain ⟨vs, q1, q2, q3, q4⟩ := r.io j xs' e
      exact ⟨vs, q1, z A0 _ q2 q3, k A0 _ q3 (neA j A0 q (by rw [e]; rfl) q1), Rs.mono f.ex xs' q4⟩
  · have e : getS (w.S.set i x) j = .slf c ks xs' := e
    by_cases q : i = j
    · subst q
      rw [same] at e
      rcases hxo with ⟨z1, _⟩ | ⟨z1, _⟩ <;> rw [z1] at e <;> cases e
    · rw [other j q] at e
      obtain ⟨dx, vs, q1, q2, q3, q4, q5⟩ := r.slf j c ks xs' e
      exact ⟨dx, vs, q1, z A0 _ q2 q3, k A0 _ q3 (neA j A0 q (by rw [e]; rfl) q1), Rs.mono f.ex xs' q4, q5⟩
  · have h1 : isOwn (getS (w.S.set i x) j1) = true := h1
    have h2 : isOwn (getS (w.S.set i x) j2) = true := h2
    rw [so] at h1 h2
    exact r.inj j1 j2 a h1 h2
  · refine f.keep a o h fun e => n ?_
    subst e
    exact ⟨i, io, hA⟩
  · obtain ⟨j, h1, h2⟩ := h
    have h1 : isOwn (getS (w.S.set i x) j) = true := h1
    rw [so] at h1
    exact .inl ⟨j, h1, h2⟩
  · obtain ⟨j, h1, h2⟩ := h
    have h1 : isOwn (getS (w.S.set i x) j) = true := h1
    rw [so] at h1
    exact ⟨j, h1, h2⟩
theorem FRes.rvr {F' H' : Hp} {S' : Sl} {rv : RV} {v : V} (r : Rel C A0 w) (no : ∀ a, (⟨w.σ, F', H', S'⟩ : Wd).Own a → w.Own a) (h : FRes C w.H F' H' rv v) : RVR C w ⟨w.σ, F', H', S'⟩ rv v := by
  cases rv with
  | val d => exact h
  | fr xs =>
    obtain ⟨p, ws, h1, h2, h3, h4, h5⟩ := h
    exact ⟨p, ws, h1, h2, h3, h4, fun o => (r.own_none (no p o)).2 h5, .inl h5⟩
end
/-! ### how arguments are bound -/
def dfV : D → Option V
  | .non => some .non
  | .bl b => some (.bl b)
  | .int i => some (.int i)
  | .str s => some (.str s)
  | _ => none
def pmV (vs : List V) : List Pm → Option (List V)
  | [] => some []
  | .at i :: r => match vs[i]?, pmV vs r with
    | some d, some ds => some (d :: ds)
    | _, _ => none
  | .df d :: r => match dfV d, pmV vs r with
    | some v, some ds => some (v :: ds)
    | _, _ => none
theorem dfV_R {C : Cxt} {F : Hp} {d : D} {v : V} (h : dfV d = some v) : R C F d v := by
  cases d <;> simp only [dfV, Option.some.injEq, reduceCtorEq] at h <;> subst h <;> simp only [R]
/-- f(..) with n positional arguments and the keywords ks binds the parameters ps as pm tells -/
def BF (K : PySem.W.Frag) (fd : FuncData) (ps : List Str) (n : Nat) (ks : List Str) (pm : List Pm) : Prop :=
  ∀ (s : Shared) (us ws : List Value) (vs vs' : List V), K.In s.heap → us.length = n → ws.length = ks.length → Vals vs (us ++ ws) → pmV vs pm = some vs' →
    ∃ us', BindsTo s fd ⟨us, ks.zip ws⟩ (ps.zip us') ∧ Vals vs' us'
/-- .. of an __init__, behind self -/
def BI (K : PySem.W.Frag) (fd : FuncData) (ps : List Str) (n : Nat) (ks : List Str) (pm : List Pm) : Prop :=
  ∀ (s : Shared) (x : Value) (us ws : List Value) (vs vs' : List V), K.In s.heap → us.length = n → ws.length = ks.length → Vals vs (us ++ ws) → pmV vs pm = some vs' →
    ∃ us', BindsTo s fd ⟨x :: us, ks.zip ws⟩ (ps.zip (x :: us')) ∧ Vals vs' us'
end Pl
set_option Elab.async false
set_option linter.all false
set_option maxRecDepth 100000
/-! Pl: what a slot holds changes. -/
namespace Pl
open PySem L2
section
variable {C : Cxt} {A : Addr} {w w0 : Wd}
theorem getσ {σ : St} {i j : Nat} {x : Option V} : (σ.set i x)[j]? = if i = j then (if i < σ.length then some x else none) else σ[j]? := by
  rw [List.getElem?_set]
/-- a slot forgotten -/
theorem slot_un {i : Nat} (r : Rel C A w) : Rel C A ⟨w.σ, w.F, w.H, w.S.set i .un⟩ ∧ Step w ⟨w.σ, w.F, w.H, w.S.set i .un⟩ := by
  have g : ∀ j, getS (w.S.set i .un) j = if i = j then .un else getS w.S j := fun j => by
    rw [getS_set]
    by_cases q : i = j
    · rw [if_pos q, if_pos q]; split <;> rfl
    · rw [if_neg q, if_neg q]
  have u : ∀ j x, getS (w.S.set i .un) j = x → x ≠ .un → i ≠ j ∧ getS w.S j = x := fun j x e n => by
    rw [g] at e
    by_cases q : i = j
    · rw [if_pos q] at e; exact absurd e.symm n
    · rw [if_neg q] at e; exact ⟨q, e⟩
  have o : ∀ j, isOwn (getS (w.S.set i .un) j) = true → isOwn (getS w.S j) = true := fun j h => by
    rw [g] at h
    by_cases q : i = j
    · rw [if_pos q] at h; cases h
    · rw [if_neg q] at h; exact h
  refine ⟨⟨by simpa using r.len, r.sub, fun j d e => r.val j d (u j _ e (fun z => nomatch z)).2, fun j xs e => r.own j xs (u j _ e (fun z => nomatch z)).2, fun j xs e => r.io j xs (u j _ e (fun z => nomatch z)).2,
    fun j c ks xs e => r.slf j c ks xs (u j _ e (fun z => nomatch z)).2, fun j1 j2 a h1 h2 => r.inj j1 j2 a (o j1 h1) (o j2 h2)⟩, ⟨Sub.refl _, fun a o h _ => h, fun a _ h _ => h, fun a h => h, fun a h => ?_⟩⟩
  obtain ⟨j, h1, h2⟩ := h
  exact .inl ⟨j, o j h1, h2⟩
/-- a name gets data -/
theorem slot_val {i : Nat} {d : D} {v : V} (r : Rel C A w) (hi : i < w.S.length) (x : R C w.F d v) :
    Rel C A ⟨w.σ.set i (some v), w.F, w.H, w.S.set i (.val d)⟩ ∧ Step w ⟨w.σ.set i (some v), w.F, w.H, w.S.set i (.val d)⟩ := by
  have hσ : i < w.σ.length := by rw [← r.len]; exact hi
  have g : ∀ j, getS (w.S.set i (.val d)) j = if i = j then .val d else getS w.S j := fun j => by
    rw [getS_set]
    by_cases q : i = j
    · rw [if_pos q, if_pos q, if_pos hi]
    · rw [if_neg q, if_neg q]
  have u : ∀ j y, getS (w.S.set i (.val d)) j = y → isOwn y = true → i ≠ j ∧ getS w.S j = y ∧ (w.σ.set i (some v))[j]? = w.σ[j]? := fun j y e n => by
    rw [g] at e
    by_cases q : i = j
    · rw [if_pos q] at e; rw [← e] at n; cases n
    · rw [if_neg q] at e; exact ⟨q, e, by rw [getσ, if_neg q]⟩
  refine ⟨⟨by simpa using r.len, r.sub, fun j d' e => ?_, fun j xs e => ?_, fun j xs e => ?_, fun j c ks xs e => ?_, fun j1 j2 a h1 h2 k1 k2 => ?_⟩, ⟨Sub.refl _, fun a o h _ => h, fun a _ h _ => h, fun a h => h, fun a h => ?_⟩⟩
  · have e : getS (w.S.set i (.val d)) j = .val d' := e
    show ∃ v', (w.σ.set i (some v))[j]? = some (some v') ∧ _
    rw [g] at e
    by_cases q : i = j
    · rw [if_pos q] at e; cases e
      exact ⟨v, by rw [getσ, if_pos q, if_pos hσ], x⟩
    · rw [if_neg q] at e
      obtain ⟨v', q1, q2⟩ := r.val j d' e
      exact ⟨v', by rw [getσ, if_neg q]; exact q1, q2⟩
  · obtain ⟨_, e2, e3⟩ := u j _ e rfl
    show ∃ a vs, (w.σ.set i (some v))[j]? = _ ∧ _
    rw [e3]; exact r.own j xs e2
  · obtain ⟨_, e2, e3⟩ := u j _ e rfl
    show ∃ vs, (w.σ.set i (some v))[j]? = _ ∧ _
    rw [e3]; exact r.io j xs e2
  · obtain ⟨_, e2, e3⟩ := u j _ e rfl
    show ∃ dx vs, (w.σ.set i (some v))[j]? = _ ∧ _
    rw [e3]; exact r.slf j c ks xs e2
  · obtain ⟨_, e2, e3⟩ := u j1 _ rfl h1
    obtain ⟨_, f2, f3⟩ := u j2 _ rfl h2
    have k1 : (w.σ.set i (some v))[j1]? = _ := k1
    have k2 : (w.σ.set i (some v))[j2]? = _ := k2
    rw [e3] at k1
    rw [f3] at k2
    exact r.inj j1 j2 a (by rw [e2]; exact h1) (by rw [f2]; exact h2) k1 k2
  · obtain ⟨j, h1, h2⟩ := h
    obtain ⟨_, e2, e3⟩ := u j _ rfl h1
    have h2 : (w.σ.set i (some v))[j]? = _ := h2
    rw [e3] at h2
    exact .inl ⟨j, by rw [e2]; exact h1, h2⟩
/-- a name gets a new list -/
theorem slot_own {i : Nat} {xs : List D} {vs : List V} {p : Addr} (r : Rel C A w) (s : Step w0 w) (hi : i < w.S.length) (h1 : w.F p = none) (h2 : w.H p = some (.lst vs)) (h3 : Rs C w.F xs vs) (h4 : ¬ w.Own p) (h5 : w0.H p = none ∨ w0.Own p) :
    Rel C A ⟨w.σ.set i (some (.ref p)), w.F, w.H, w.S.set i (.own xs)⟩ ∧ Step w0 ⟨w.σ.set i (some (.ref p)), w.F, w.H, w.S.set i (.own xs)⟩ := by
  have hσ : i < w.σ.length := by rw [← r.len]; exact hi
  have g : ∀ j, getS (w.S.set i (.own xs)) j = if i = j then .own xs else getS w.S j := fun j => by
    rw [getS_set]
    by_cases q : i = j
    · rw [if_pos q, if_pos q, if_pos hi]
    · rw [if_neg q, if_neg q]
  have ne : ∀ j, i ≠ j → getS (w.S.set i (.own xs)) j = getS w.S j ∧ (w.σ.set i (some (.ref p)))[j]? = w.σ[j]? := fun j q => ⟨by rw [g, if_neg q], by rw [getσ, if_neg q]⟩
  have at_ : (w.σ.set i (some (.ref p)))[i]? = some (some (.ref p)) := by rw [getσ, if_pos rfl, if_pos hσ]
  have si : getS (w.S.set i (.own xs)) i = .own xs := by rw [g, if_pos rfl]
  refine ⟨⟨by simpa using r.len, r.sub, fun j d' e => ?_, fun j ys e => ?_, fun j ys e => ?_, fun j c ks ys e => ?_, fun j1 j2 a k1 k2 m1 m2 => ?_⟩, ⟨s.ex, s.keep, s.frz, s.dom, fun a h => ?_⟩⟩
  · have e : getS (w.S.set i (.own xs)) j = .val d' := e
    show ∃ v', (w.σ.set i (some (.ref p)))[j]? = some (some v') ∧ _
    by_cases q : i = j
    · subst q; rw [si] at e; cases e
    · rw [(ne j q).2]; rw [(ne j q).1] at e; exact r.val j d' e
  · have e : getS (w.S.set i (.own xs)) j = .own ys := e
    show ∃ a vs', (w.σ.set i (some (.ref p)))[j]? = _ ∧ _
    by_cases q : i = j
    · subst q; rw [si] at e; cases e; exact ⟨p, vs, at_, h1, h2, h3⟩
    · rw [(ne j q).2]; rw [(ne j q).1] at e; exact r.own j ys e
  · have e : getS (w.S.set i (.own xs)) j = .io ys := e
    show ∃ vs', (w.σ.set i (some (.ref p)))[j]? = _ ∧ _
    by_cases q : i = j
    · subst q; rw [si] at e; cases e
    · rw [(ne j q).2]; rw [(ne j q).1] at e; exact r.io j ys e
  · have e : getS (w.S.set i (.own xs)) j = .slf c ks ys := e
    show ∃ dx vs', (w.σ.set i (some (.ref p)))[j]? = _ ∧ _
    by_cases q : i = j
    · subst q; rw [si] at e; cases e
    · rw [(ne j q).2]; rw [(ne j q).1] at e; exact r.slf j c ks ys e
  · have k1 : isOwn (getS (w.S.set i (.own xs)) j1) = true := k1
    have k2 : isOwn (getS (w.S.set i (.own xs)) j2) = true := k2
    have m1 : (w.σ.set i (some (.ref p)))[j1]? = _ := m1
    have m2 : (w.σ.set i (some (.ref p)))[j2]? = _ := m2
    by_cases q1 : i = j1
    · by_cases q2 : i = j2
      · rw [← q1, ← q2]
      · subst q1
        rw [at_] at m1; cases m1
        rw [(ne j2 q2).1] at k2
        rw [(ne j2 q2).2] at m2
        exact absurd ⟨j2, k2, m2⟩ h4
    · by_cases q2 : i = j2
      · subst q2
        rw [at_] at m2; cases m2
        rw [(ne j1 q1).1] at k1
        rw [(ne j1 q1).2] at m1
        exact absurd ⟨j1, k1, m1⟩ h4
      · rw [(ne j1 q1).1] at k1
        rw [(ne j1 q1).2] at m1
        rw [(ne j2 q2).1] at k2
        rw [(ne j2 q2).2] at m2
        exact r.inj j1 j2 a k1 k2 m1 m2
  · obtain ⟨j, k1, k2⟩ := h
    have k1 : isOwn (getS (w.S.set i (.own xs)) j) = true := k1
    have k2 : (w.σ.set i (some (.ref p)))[j]? = _ := k2
    by_cases q : i = j
    · subst q
      rw [at_] at k2; cases k2
      exact h5.symm
    · rw [(ne j q).1] at k1
      rw [(ne j q).2] at k2
      exact s.own a ⟨j, k1, k2⟩
theorem set_same {σ : St} {i : Nat} {x : Option V} (h : σ[i]? = some x) : σ.set i x = σ := by
  apply List.ext_getElem?
  intro j
  rw [List.getElem?_set]
  split
  · rename_i e
    subst e
    rw [h]
    have : i < σ.length := by
      rcases Nat.lt_or_ge i σ.length with q | q
      · exact q
      · rw [List.getElem?_eq_none q] at h; cases h
    rw [if_pos this]
  · rfl
/-- a list of our own given away -/
theorem slot_mv {i : Nat} {xs : List D} (r : Rel C A w) (e : getS w.S i = .own xs) : ∃ p vs, w.σ[i]? = some (some (.ref p)) ∧ w.F p = none ∧ w.H p = some (.lst vs) ∧ Rs C w.F xs vs ∧ w.Own p ∧
    ¬ (⟨w.σ, w.F, w.H, w.S.set i .un⟩ : Wd).Own p := by
  obtain ⟨p, vs, q1, q2, q3, q4⟩ := r.own i xs e
  refine ⟨p, vs, q1, q2, q3, q4, ⟨i, by rw [e]; rfl, q1⟩, fun ⟨j, k1, k2⟩ => ?_⟩
  have k1 : isOwn (getS (w.S.set i .un) j) = true := k1
  rw [getS_set] at k1
  by_cases q : i = j
  · rw [if_pos q] at k1
    split at k1 <;> cases k1
  · rw [if_neg q] at k1
    exact q (r.inj i j p (by rw [e]; rfl) k1 q1 k2)
/-- .. becomes data -/
theorem slot_frz {i : Nat} {xs : List D} (r : Rel C A w) (e : getS w.S i = .own xs) : ∃ p vs, w.σ[i]? = some (some (.ref p)) ∧ Rel C A ⟨w.σ, upd w.F p (.lst vs), w.H, w.S.set i (.val (.lst xs))⟩ ∧
    Step w ⟨w.σ, upd w.F p (.lst vs), w.H, w.S.set i (.val (.lst xs))⟩ ∧ R C (upd w.F p (.lst vs)) (.lst xs) (.ref p) := by
  obtain ⟨p, vs, q1, q2, q3, q4, q5, q6⟩ := slot_mv r e
  obtain ⟨r1, s1⟩ := slot_un (i := i) r
  have r2 := Rel.frz r1 q2 q3 q6
  have s2 := Step.data (o := .lst vs) s1 q2 (.inr q5)
  have x : R C (upd w.F p (.lst vs)) (.lst xs) (.ref p) := by
    simp only [R]
    exact ⟨p, vs, rfl, upd_same, Rs.mono (Sub.new q2) xs q4⟩
  have hi : i < w.S.length := getS_lt e (fun z => nomatch z)
  obtain ⟨r3, s3⟩ := slot_val (i := i) (v := .ref p) (d := .lst xs) r2 (by simpa using hi) x
  refine ⟨p, vs, q1, ?_, ?_, x⟩
  · simpa [set_same q1] using r3
  · have := s2.trans s3
    simpa [set_same q1] using this
end
end Pl
set_option Elab.async false
set_option linter.all false
set_option maxRecDepth 100000
/-! Pl: expressions. -/
namespace Pl
open PySem L2
theorem M.bind_assoc {α β γ : Type} (m : M α) (f : α → M β) (g : β → M γ) : (m.bind f).bind g = m.bind fun a => (f a).bind g := by
  funext S
  unfold M.bind
  cases m S <;> rfl
theorem M.pure_bind {α β : Type} (a : α) (f : α → M β) : (M.pure a).bind f = f a := rfl
section
variable {C : Cxt} {A : Addr} {W : WX'} {X : Cx} {e a b c : PySem.Expr} {pos : Pos}
theorem PE.imp {t t' : TE} (h : PE X e t) (k : ∀ σ H Q, t' σ H Q → t σ H Q) : PE X e t' := ⟨fun pins s σ H Q I q => h.run pins s σ H Q I (k _ _ _ q)⟩
theorem PT.imp {t t' : TT} (h : PT X e t) (k : ∀ σ H Q, t' σ H Q → t σ H Q) : PT X e t' := ⟨fun pins s σ H Q I q => h.run pins s σ H Q I (k _ _ _ q)⟩
theorem PW.imp {t t' : TT} (h : PW X e t) (k : ∀ σ H Q, t' σ H Q → t σ H Q) : PW X e t' := ⟨fun wh pins s σ H Q I q => h.run wh pins s σ H Q I (k _ _ _ q)⟩
theorem PA.imp {es : List PySem.Expr} {t t' : TA} (h : PA X es t) (k : ∀ σ H Q, t' σ H Q → t σ H Q) : PA X es t' := ⟨fun p pins s σ H Q I q => h.run p pins s σ H Q I (k _ _ _ q)⟩
theorem PS.imp {st : Stmt} {t t' : TS} (h : PS X st t) (k : ∀ D σ H, t' D σ H → t D σ H) : PS X st t' := ⟨fun pins s σ H D I q => h.run pins s σ H D I (k _ _ _ q)⟩
theorem PSs.imp {st : List Stmt} {t t' : TS} (h : PSs X st t) (k : ∀ D σ H, t' D σ H → t D σ H) : PSs X st t' := ⟨fun pins s σ H D I q => h.run pins s σ H D I (k _ _ _ q)⟩
/-- the same world, further on -/
theorem gAt.step {α β : Type} {ρ : Wd → Wd → α → β → Prop} (hl : Lifts ρ) {m : M α} {w : Wd} {F' H' : Hp} {Q : β → Hp → Prop} (s : Step w ⟨w.σ, F', H', w.S⟩) (h : gAt C A W ρ m w Q) : gAt C A W ρ m ⟨w.σ, F', H', w.S⟩ Q := by
  unfold gAt at h ⊢
  show match m w.S with | .ok r S' => _ | .ex c d S' => _ | .bad => _
  cases q : m w.S with
  | bad => rw [q] at h; exact h
  | ok r S' =>
    rw [q] at h
    intro b F1 H1 r1 s1 x1
    exact h b F1 H1 r1 (s.trans s1) (hl _ _ _ _ _ s x1)
  | ex c d S' =>
    rw [q] at h
    intro F1 H1 cls dx r1 s1 x1
    exact h F1 H1 cls dx r1 (s.trans s1) (x1.lift s)
theorem se_rd {i : Nat} (h : PE X e (tVar i)) : PE X e (gM C A W (ρV C) (rdS i)) := PE.imp h fun σ H Q ⟨F, S, r, h⟩ => by
  unfold gAt rdS at h
  simp only at h
  cases q : getS S i with
  | un => rw [q] at h; exact h.elim
  | io xs => rw [q] at h; exact h.elim
  | slf c ks xs => rw [q] at h; exact h.elim
  | val d =>
    rw [q] at h
    obtain ⟨v, e1, e2⟩ := r.val i d q
    exact ⟨v, e1, h v F H r (Step.refl _) e2⟩
  | own xs =>
    rw [q] at h
    obtain ⟨p, vs, e1, r1, s1, x1⟩ := slot_frz r q
    exact ⟨.ref p, e1, h (.ref p) _ _ r1 s1 x1⟩
theorem se_mv {i : Nat} (h : PE X e (tVar i)) : PE X e (gM C A W (ρV C) (mvS i)) := PE.imp h fun σ H Q ⟨F, S, r, h⟩ => by
  unfold gAt mvS at h
  simp only at h
  cases q : getS S i with
  | un => rw [q] at h; exact h.elim
  | io xs => rw [q] at h; exact h.elim
  | slf c ks xs => rw [q] at h; exact h.elim
  | val d =>
    rw [q] at h
    obtain ⟨v, e1, e2⟩ := r.val i d q
    exact ⟨v, e1, h v F H r (Step.refl _) e2⟩
  | own xs =>
    rw [q] at h
    obtain ⟨p, vs, e1, e2, e3, e4, e5, e6⟩ := slot_mv r q
    obtain ⟨r1, s1⟩ := slot_un (i := i) r
    exact ⟨.ref p, e1, h (.ref p) _ _ r1 s1 ⟨p, vs, rfl, e2, e3, e4, e6, .inr e5⟩⟩
theorem so_op {i : Nat} (h : PE X e (tVar i)) : PE X e (gM C A W (ρO C) (opS i)) := PE.imp h fun σ H Q ⟨F, S, r, h⟩ => by
  unfold gAt opS at h
  simp only at h
  cases q : getS S i with
  | un => rw [q] at h; exact h.elim
  | slf c ks xs => rw [q] at h; exact h.elim
  | val d =>
    rw [q] at h
    obtain ⟨v, e1, e2⟩ := r.val i d q
    exact ⟨v, e1, h v F H r (Step.refl _) e2⟩
  | own xs =>
    rw [q] at h
    obtain ⟨p, vs, e1, _⟩ := r.own i xs q
    exact ⟨.ref p, e1, h (.ref p) F H r (Step.refl _) e1⟩
  | io xs =>
    rw [q] at h
    obtain ⟨vs, e1, _⟩ := r.io i xs q
    exact ⟨.ref A, e1, h (.ref A) F H r (Step.refl _) e1⟩
/-- an expression's value as data -/
theorem sd_of {m : M RV} (h : PE X e (gM C A W (ρV C) m)) : PE X e (gM C A W (ρD C) m.toD) := PE.imp h fun σ H Q ⟨F, S, r, h⟩ => ⟨F, S, r, gAt.toD h⟩
theorem so_of {m : M RV} (h : PE X e (gM C A W (ρV C) m)) : PE X e (gM C A W (ρO C) (m.toD.bind fun d => M.pure (.dat d))) := PE.imp (sd_of h) fun σ H Q ⟨F, S, r, h⟩ =>
  ⟨F, S, r, (gAt.bind (ρ1 := ρD C) (lifts_O C) h).imp fun x H1 ⟨F1, S1, d, r1, s1, x1, h1⟩ => gAt.pure h1 r1 x1⟩
theorem so_opOf {E : Pl.Ex} {m : M RV} (h : PE X e (gM C A W (ρV C) m)) (hv : ∀ i, E = .v i → PE X e (tVar i)) : PE X e (gM C A W (ρO C) (opOf E m)) := by
  cases E with
  | v i => exact so_op (hv i rfl)
  | _ => exact so_of h
theorem se_c {d : D} {v : V} (h : PE X e (tC v)) (x : ∀ F, R C F d v) : PE X e (gM C A W (ρV C) (M.pure (.val d))) := PE.imp h fun σ H Q ⟨F, S, r, h⟩ => res_val (w := ⟨σ, F, H, S⟩) r h (x F)
theorem se_bin {op : Operator} {o : Bop} (hK : X.K = C.K) (q : bopOf op = some o) {ma mb : M Op} (ha : PE X a (gM C A W (ρO C) ma)) (hb : PE X b (gM C A W (ρO C) mb)) :
    PE X (.BinOp a op b pos) (gM C A W (ρV C) (ma.bind fun p => mb.bind fun q => p.get.bind fun x => q.get.bind fun y => M.opt (binD o x y))) :=
  PE.imp (pe_op (opr_bin (C := C) (A := A) (W := W) hK q) ha hb) fun σ H Q ⟨F, S, r, h⟩ => ⟨F, S, r, (gAt.bind (ρ1 := ρO C) (lifts_V C) h).imp fun x H1 ⟨F1, S1, p, r1, s1, x1, h1⟩ =>
    ⟨F1, S1, r1, (gAt.bind (ρ1 := ρO C) (lifts_V C) h1).imp fun y H2 ⟨F2, S2, q', r2, s2, x2, h2⟩ => by
      obtain ⟨dx, k1, h3⟩ := get_bind r2 (OpR'.mono s2 x1) h2
      obtain ⟨dy, k2, h4⟩ := get_bind r2 x2 h3
      exact ⟨_, dx, dy, rfl, r2, k1, k2, h4⟩⟩⟩
theorem se_un {op : UnaryOp} {o : Uop} (hr : UnR X (unaryOp op) (rUn C A W o)) {ma : M Op} (ha : PE X a (gM C A W (ρO C) ma)) :
    PE X (.UnaryOp op a pos) (gM C A W (ρV C) (ma.bind fun p => p.get.bind fun x => M.opt (unD o x))) :=
  PE.imp (pe_un hr ha) fun σ H Q ⟨F, S, r, h⟩ => ⟨F, S, r, (gAt.bind (ρ1 := ρO C) (lifts_V C) h).imp fun x H1 ⟨F1, S1, p, r1, s1, x1, h1⟩ => by
    obtain ⟨dx, k1, h3⟩ := get_bind r1 x1 h1
    exact ⟨_, dx, rfl, r1, k1, h3⟩⟩
def cmpM (o : Cop) (ma mb : M Op) : M Bool := ma.bind fun p => mb.bind fun q => p.get.bind fun x => q.get.bind fun y => M.opt (cmpD o x y)
theorem cmp_in {o : Cop} {ma mb : M Op} {σ : St} {H : Hp} {Q : VK} (h : gM C A W (ρV C) (boolM (cmpM o ma mb)) σ H Q) : tOp (rCmp C A W o) (gM C A W (ρO C) ma) (gM C A W (ρO C) mb) σ H Q := by
  obtain ⟨F, S, r, h⟩ := h
  unfold cmpM boolM at h
  rw [M.bind_assoc] at h
  refine ⟨F, S, r, (gAt.bind (ρ1 := ρO C) (lifts_V C) h).imp fun x H1 ⟨F1, S1, p, r1, s1, x1, h1⟩ => ?_⟩
  rw [M.bind_assoc] at h1
  refine ⟨F1, S1, r1, (gAt.bind (ρ1 := ρO C) (lifts_V C) h1).imp fun y H2 ⟨F2, S2, q', r2, s2, x2, h2⟩ => ?_⟩
  rw [M.bind_assoc] at h2
  obtain ⟨dx, k1, h3⟩ := get_bind r2 (OpR'.mono s2 x1) h2
  rw [M.bind_assoc] at h3
  obtain ⟨dy, k2, h4⟩ := get_bind r2 x2 h3
  exact ⟨_, dx, dy, rfl, r2, k1, k2, h4⟩
theorem se_cmp {op : CmpOp} (hK : X.K = C.K) (hu : X.A.units + 65 < cLine) {ma mb : M Op} (ha : PE X a (gM C A W (ρO C) ma)) (hb : PE X b (gM C A W (ρO C) mb)) (hm : behindInMarks op b = false) :
    PE X (.Compare a [op] [b] pos) (gM C A W (ρV C) (boolM (cmpM (copOf op) ma mb))) :=
  PE.imp (pe_cmpR (opr_cmp (C := C) (A := A) (W := W) hK hu op) ha hb hm) fun σ H Q h => cmp_in h
/-- a bool's test -/
theorem truth_bl (m : M Bool) : truM (boolM m) = m := by
  funext S
  unfold truM boolM M.toD M.bind
  cases m S <;> rfl
theorem bool_val {m : M Bool} {σ : St} {H : Hp} {Q : Bool → Hp → Prop} (h : gM C A W (ρE (α := Bool)) m σ H Q) : gM C A W (ρV C) (boolM m) σ H (fun x H' => ∃ k, x = .bl k ∧ Q k H') := by
  obtain ⟨F, S, r, h⟩ := h
  refine ⟨F, S, r, ?_⟩
  unfold gAt at h ⊢
  unfold boolM M.bind
  cases q : m S with
  | bad => rw [q] at h; exact h
  | ex c d S' => rw [q] at h; exact h
  | ok k S' =>
    rw [q] at h
    intro v F' H' r' s' x'
    have x' : R C F' (.bl k) v := x'
    simp only [R] at x'
    exact ⟨k, x', h k F' H' r' s' rfl⟩
theorem st_bool {t : TE} {m : M Bool} (h : PT X e (tTest t)) (k : ∀ σ H Q, gM C A W (ρV C) (boolM m) σ H Q → t σ H Q) : PT X e (gM C A W (ρE (α := Bool)) m) :=
  PT.imp h fun σ H Q q => k _ _ _ (bool_val q)
theorem st_cmp {op : CmpOp} (hK : X.K = C.K) (hu : X.A.units + 65 < cLine) {ma mb : M Op} (ha : PE X a (gM C A W (ρO C) ma)) (hb : PE X b (gM C A W (ρO C) mb)) (hm : behindInMarks op b = false) :
    PT X (.Compare a [op] [b] pos) (gM C A W (ρE (α := Bool)) (cmpM (copOf op) ma mb)) :=
  st_bool (pt_cmpR (opr_cmp (C := C) (A := A) (W := W) hK hu op) ha hb hm) fun σ H Q h => cmp_in h
/-- any value's truth -/
theorem st_truth {m : M RV} (hK : X.K = C.K) (h : PE X e (gM C A W (ρV C) m)) (he : ∀ whole, isTrue e X.env whole = (do let v ← whole; standAt e.pos; holding [v] (truthy v))) : PT X e (gM C A W (ρE (α := Bool)) (truM m)) :=
  PT.imp (pt_truth (sd_of h) he) fun σ H Q ⟨F, S, r, h⟩ => ⟨F, S, r, (gAt.bind (ρ1 := ρD C) lifts_E h).imp fun x H1 ⟨F1, S1, d, r1, s1, x1, h1⟩ => by
    obtain ⟨k, e1, h2⟩ := gAt.opt h1
    exact ⟨k, tru_of hK r1 (PR.of r1 x1) e1, gAt.pure h2 r1 rfl⟩⟩
theorem st_not {m : M Bool} (h : PT X a (gM C A W (ρE (α := Bool)) m)) : PT X (.UnaryOp .Not a pos) (gM C A W (ρE (α := Bool)) (m.bind fun k => M.pure (!k))) :=
  PT.imp (pt_not h) fun σ H Q ⟨F, S, r, h⟩ => ⟨F, S, r, (gAt.bind (ρ1 := ρE (α := Bool)) lifts_E h).imp fun x H1 ⟨F1, S1, d, r1, s1, x1, h1⟩ => by
    cases x1
    exact gAt.pure h1 r1 rfl⟩
def andM (ma mb : M Bool) : M Bool := ma.bind fun k => if k then mb else M.pure false
def orM (ma mb : M Bool) : M Bool := ma.bind fun k => if k then M.pure true else mb
theorem sw_and {ma mb : M Bool} {rest : List PySem.Expr} (ha : PT X a (gM C A W (ρE (α := Bool)) ma)) (hb : PW X (.BoolOp .And (b :: rest) pos) (gM C A W (ρE (α := Bool)) mb)) :
    PW X (.BoolOp .And (a :: b :: rest) pos) (gM C A W (ρE (α := Bool)) (andM ma mb)) :=
  PW.imp (pw_and ha hb) fun σ H Q ⟨F, S, r, h⟩ => ⟨F, S, r, (gAt.bind (ρ1 := ρE (α := Bool)) lifts_E h).imp fun x H1 ⟨F1, S1, d, r1, s1, x1, h1⟩ => by
    cases x1
    cases x with
    | true => exact ⟨F1, S1, r1, h1⟩
    | false => exact gAt.pure (w := ⟨σ, F1, H1, S1⟩) (ρ1 := ρE (α := Bool)) h1 r1 rfl⟩
theorem sw_or {ma mb : M Bool} {rest : List PySem.Expr} (ha : PT X a (gM C A W (ρE (α := Bool)) ma)) (hb : PW X (.BoolOp .Or (b :: rest) pos) (gM C A W (ρE (α := Bool)) mb)) :
    PW X (.BoolOp .Or (a :: b :: rest) pos) (gM C A W (ρE (α := Bool)) (orM ma mb)) :=
  PW.imp (pw_or ha hb) fun σ H Q ⟨F, S, r, h⟩ => ⟨F, S, r, (gAt.bind (ρ1 := ρE (α := Bool)) lifts_E h).imp fun x H1 ⟨F1, S1, d, r1, s1, x1, h1⟩ => by
    cases x1
    cases x with
    | false => exact ⟨F1, S1, r1, h1⟩
    | true => exact gAt.pure (w := ⟨σ, F1, H1, S1⟩) (ρ1 := ρE (α := Bool)) h1 r1 rfl⟩
def iteM {α : Type} (t : M Bool) (a b : M α) : M α := t.bind fun k => if k then a else b
theorem se_ite {mt : M Bool} {ma mb : M RV} (ht : PT X c (gM C A W (ρE (α := Bool)) mt)) (ha : PE X a (gM C A W (ρV C) ma)) (hb : PE X b (gM C A W (ρV C) mb)) : PE X (.IfExp c a b pos) (gM C A W (ρV C) (iteM mt ma mb)) :=
  PE.imp (pe_ifExp ht ha hb) fun σ H Q ⟨F, S, r, h⟩ => ⟨F, S, r, (gAt.bind (ρ1 := ρE (α := Bool)) (lifts_V C) h).imp fun x H1 ⟨F1, S1, d, r1, s1, x1, h1⟩ => by
    cases x1
    cases x with
    | true => exact ⟨F1, S1, r1, h1⟩
    | false => exact ⟨F1, S1, r1, h1⟩⟩
theorem boolM_not (m : M Bool) : boolM (m.bind fun k => M.pure (!k)) = m.bind fun k => M.pure (.val (.bl (!k))) := by unfold boolM; rw [M.bind_assoc]; rfl
theorem se_not {m : M RV} (hK : X.K = C.K) (h : PE X a (gM C A W (ρV C) m)) : PE X (.UnaryOp .Not a pos) (gM C A W (ρV C) (boolM ((truM m).bind fun k => M.pure (!k)))) :=
  PE.imp (pe_notT (sd_of h)) fun σ H Q ⟨F, S, r, h⟩ => by
    rw [boolM_not] at h
    unfold truM at h
    rw [M.bind_assoc] at h
    refine ⟨F, S, r, (gAt.bind (ρ1 := ρD C) (lifts_V C) h).imp fun x H1 ⟨F1, S1, d, r1, s1, x1, h1⟩ => ?_⟩
    obtain ⟨k, e1, h2⟩ := gAt.bind_opt h1
    exact ⟨k, by have := tru_of hK r1 (PR.of r1 x1) e1; exact this, res_val (w := ⟨σ, F1, H1, S1⟩) (d := .bl (!k)) r1 h2 (by simp only [R])⟩
def andV (ma mb : M RV) : M RV := ma.toD.bind fun x => (M.opt (truth x)).bind fun k => if k then mb else M.pure (.val x)
def orV (ma mb : M RV) : M RV := ma.toD.bind fun x => (M.opt (truth x)).bind fun k => if k then M.pure (.val x) else mb
theorem se_and {ma mb : M RV} {rest : List PySem.Expr} (hK : X.K = C.K) (ha : PE X a (gM C A W (ρV C) ma)) (hb : PE X (.BoolOp .And (b :: rest) pos) (gM C A W (ρV C) mb)) :
    PE X (.BoolOp .And (a :: b :: rest) pos) (gM C A W (ρV C) (andV ma mb)) :=
  PE.imp (pe_andT (sd_of ha) hb) fun σ H Q ⟨F, S, r, h⟩ => ⟨F, S, r, (gAt.bind (ρ1 := ρD C) (lifts_V C) h).imp fun x H1 ⟨F1, S1, d, r1, s1, x1, h1⟩ => by
    obtain ⟨k, e1, h2⟩ := gAt.bind_opt h1
    refine ⟨k, by have := tru_of hK r1 (PR.of r1 x1) e1; exact this, ?_⟩
    cases k with
    | true => exact ⟨F1, S1, r1, h2⟩
    | false => exact res_val (w := ⟨σ, F1, H1, S1⟩) r1 h2 x1⟩
theorem se_or {ma mb : M RV} {rest : List PySem.Expr} (hK : X.K = C.K) (ha : PE X a (gM C A W (ρV C) ma)) (hb : PE X (.BoolOp .Or (b :: rest) pos) (gM C A W (ρV C) mb)) :
    PE X (.BoolOp .Or (a :: b :: rest) pos) (gM C A W (ρV C) (orV ma mb)) :=
  PE.imp (pe_orT (sd_of ha) hb) fun σ H Q ⟨F, S, r, h⟩ => ⟨F, S, r, (gAt.bind (ρ1 := ρD C) (lifts_V C) h).imp fun x H1 ⟨F1, S1, d, r1, s1, x1, h1⟩ => by
    obtain ⟨k, e1, h2⟩ := gAt.bind_opt h1
    refine ⟨k, by have := tru_of hK r1 (PR.of r1 x1) e1; exact this, ?_⟩
    cases k with
    | false => exact ⟨F1, S1, r1, h2⟩
    | true => exact res_val (w := ⟨σ, F1, H1, S1⟩) r1 h2 x1⟩
theorem tru_and (ma mb : M RV) : truM (andV ma mb) = andM (truM ma) (truM mb) := by
  funext S
  unfold truM andV andM M.toD M.bind
  cases ma S with
  | bad => rfl
  | ex c d S' => rfl
  | ok r S' =>
    simp only [M.pure, M.opt]
    cases e : truth r.d with
    | none => rfl
    | some k =>
      cases k with
      | true => rfl
      | false =>
        have e' : truth (RV.val r.d).d = some false := e
        simp only [M.pure, if_neg (show ¬ (false = true) by decide), e']
        rfl
theorem tru_or (ma mb : M RV) : truM (orV ma mb) = orM (truM ma) (truM mb) := by
  funext S
  unfold truM orV orM M.toD M.bind
  cases ma S with
  | bad => rfl
  | ex c d S' => rfl
  | ok r S' =>
    simp only [M.pure, M.opt]
    cases e : truth r.d with
    | none => rfl
    | some k =>
      cases k with
      | false => rfl
      | true =>
        have e' : truth (RV.val r.d).d = some true := e
        simp only [M.pure, if_pos, e']
        rfl
end
end Pl
set_option Elab.async false
set_option linter.all false
set_option maxRecDepth 100000
/-! Pl: lists of expressions, displays, subscripts, fields, built-in calls, changes of lists. -/
namespace Pl
open PySem L2
section
variable {C : Cxt} {A : Addr} {W : WX'} {X : Cx} {e a b c : PySem.Expr} {es : List PySem.Expr} {pos : Pos}
/-- items, a star among them perhaps -/
theorem sa_nil : PA X [] (gM C A W (ρDs C) (M.pure [])) := PA.imp pa_nil fun σ H Q ⟨F, S, r, h⟩ => gAt.pure (w := ⟨σ, F, H, S⟩) (ρ1 := ρDs C) h r Rs.nil
theorem sa_cons {m : M RV} {ms : M (List D)} (he : PE X e (gM C A W (ρV C) m)) (hs : PA X es (gM C A W (ρDs C) ms)) (ht : starEach (e :: es) X.env = (false, eval e X.env) :: starEach es X.env) :
    PA X (e :: es) (gM C A W (ρDs C) (m.toD.bind fun d => ms.bind fun ds => M.pure (d :: ds))) :=
  PA.imp (pa_cons (sd_of he) hs ht) fun σ H Q ⟨F, S, r, h⟩ => ⟨F, S, r, (gAt.bind (ρ1 := ρD C) (lifts_Ds C) h).imp fun x H1 ⟨F1, S1, d, r1, s1, x1, h1⟩ =>
    ⟨F1, S1, r1, (gAt.bind (ρ1 := ρDs C) (lifts_Ds C) h1).imp fun xs H2 ⟨F2, S2, ds, r2, s2, x2, h2⟩ => gAt.pure (ρ1 := ρDs C) h2 r2 (Rs.cons (R.mono s2.ex d x1) x2)⟩⟩
theorem starD_R {d : D} {v : V} {xs : List D} {w : Wd} (r : Rel C A w) (x : R C w.F d v) (h : starD d = some xs) : ∃ p vs, v = .ref p ∧ (SqT C.K w.H p vs ∨ SqL C.K w.H p vs) ∧ Rs C w.F xs vs := by
  cases d <;> simp only [starD, Option.some.injEq, reduceCtorEq] at h <;> subst h
  · obtain ⟨p, vs, rfl, h1, h2, _⟩ := r_tup r (PR.of r x)
    exact ⟨p, vs, rfl, .inl h1, h2⟩
  · obtain ⟨p, vs, rfl, h1, h2⟩ := r_lst (PR.of r x)
    exact ⟨p, vs, rfl, .inr (SqL.of h1), h2⟩
theorem sa_star {m : M RV} {ms : M (List D)} (hK : X.K = C.K) (he : PE X e (gM C A W (ρV C) m)) (hs : PA X es (gM C A W (ρDs C) ms)) :
    PA X (.Starred e pos :: es) (gM C A W (ρDs C) (m.toD.bind fun d => (M.opt (starD d)).bind fun xs => ms.bind fun ds => M.pure (xs ++ ds))) :=
  PA.imp (StX.pa_star (sd_of he) hs) fun σ H Q ⟨F, S, r, h⟩ => ⟨F, S, r, (gAt.bind (ρ1 := ρD C) (lifts_Ds C) h).imp fun x H1 ⟨F1, S1, d, r1, s1, x1, h1⟩ => by
    obtain ⟨xs, q, h1⟩ := gAt.bind_opt h1
    obtain ⟨p, vs, e1, e2, e3⟩ := starD_R r1 x1 q
    refine ⟨p, vs, e1, by rw [hK]; exact e2, F1, S1, r1, (gAt.bind (ρ1 := ρDs C) (lifts_Ds C) h1).imp fun ys H2 ⟨F2, S2, ds, r2, s2, x2, h2⟩ => ?_⟩
    exact gAt.pure (ρ1 := ρDs C) h2 r2 ((Rs.mono s2.ex xs e3).append x2)⟩
theorem newT_res {xs : List D} {vs : List V} {w : Wd} {Q : VK} (r : Rel C A w) (x : Rs C w.F xs vs) (h : gAt C A W (ρV C) (M.opt (newT xs)) w Q) : vs.length ≤ sizeLine ∧ ∀ p, w.H p = none → Q (.ref p) (upd w.H p (.tup vs)) := by
  unfold newT at h
  split at h
  · rename_i hl
    exact ⟨by rw [← x.length]; exact lim_le hl, fun p hp => res_tup r h hp x⟩
  · exact h.elim
theorem newL_res {xs : List D} {vs : List V} {w : Wd} {Q : VK} (r : Rel C A w) (x : Rs C w.F xs vs) (h : gAt C A W (ρV C) (M.opt (newL xs)) w Q) : vs.length ≤ sizeLine ∧ ∀ p, w.H p = none → Q (.ref p) (upd w.H p (.lst vs)) := by
  unfold newL at h
  split at h
  · rename_i hl
    exact ⟨by rw [← x.length]; exact lim_le hl, fun p hp => res_fr r h hp x⟩
  · exact h.elim
theorem se_tup {x1} {ms : M (List D)} (hs : PA X es (gM C A W (ρDs C) ms)) : PE X (.Tuple es x1 pos) (gM C A W (ρV C) (ms.bind fun xs => M.opt (newT xs))) :=
  PE.imp (pe_tup hs) fun σ H Q ⟨F, S, r, h⟩ => ⟨F, S, r, (gAt.bind (ρ1 := ρDs C) (lifts_V C) h).imp fun vs H1 ⟨F1, S1, xs, r1, s1, x1, h1⟩ => newT_res r1 x1 h1⟩
theorem se_lst {ms : M (List D)} (hs : PA X es (gM C A W (ρDs C) ms)) : PE X (.List es pos) (gM C A W (ρV C) (ms.bind fun xs => M.opt (newL xs))) :=
  PE.imp (pe_lst hs) fun σ H Q ⟨F, S, r, h⟩ => ⟨F, S, r, (gAt.bind (ρ1 := ρDs C) (lifts_V C) h).imp fun vs H1 ⟨F1, S1, xs, r1, s1, x1, h1⟩ => newL_res r1 x1 h1⟩
theorem se_ix {ma : M Op} {mb : M RV} (hK : X.K = C.K) (ha : PE X a (gM C A W (ρO C) ma)) (hb : PE X b (gM C A W (ρV C) mb)) (hs : PlainIxT b) :
    PE X (.Subscript a b pos) (gM C A W (ρV C) (ma.bind fun p => mb.toD.bind fun y => p.get.bind fun x => M.opt (itemD x y))) :=
  PE.imp (pe_ix (ixr_item (C := C) (A := A) (W := W) hK) ha (sd_of hb) hs) fun σ H Q ⟨F, S, r, h⟩ => ⟨F, S, r, (gAt.bind (ρ1 := ρO C) (lifts_V C) h).imp fun x H1 ⟨F1, S1, p, r1, s1, x1, h1⟩ =>
    ⟨F1, S1, r1, (gAt.bind (ρ1 := ρD C) (lifts_V C) h1).imp fun y H2 ⟨F2, S2, d, r2, s2, x2, h2⟩ => by
      obtain ⟨dx, k1, h3⟩ := get_bind r2 (OpR'.mono s2 x1) h2
      exact ⟨_, dx, d, rfl, r2, k1, x2, h3⟩⟩⟩
def partM (m : M RV) : M (Option Int) := m.toD.bind fun d => (M.opt (partD d)).bind fun i => M.pure (some i)
theorem sp_some {m : M RV} (h : PE X e (gM C A W (ρV C) m)) : PO X (some e) (gM C A W (ρE (α := Option Int)) (partM m)) := by
  have k := po_some (sd_of h)
  refine ⟨fun pins s σ H Q I q => k.run pins s σ H Q I ?_⟩
  obtain ⟨F, S, r, q⟩ := q
  refine ⟨F, S, r, (gAt.bind (ρ1 := ρD C) lifts_E q).imp fun x H1 ⟨F1, S1, d, r1, s1, x1, h1⟩ => ?_⟩
  obtain ⟨i, e1, h2⟩ := gAt.bind_opt h1
  cases d <;> simp only [partD, Option.some.injEq, reduceCtorEq] at e1
  subst e1
  have x1 : R C F1 (.int _) x := x1
  simp only [R] at x1
  exact ⟨_, x1, gAt.pure h2 r1 rfl⟩
theorem sp_none : PO X none (gM C A W (ρE (α := Option Int)) (M.pure none)) := by
  have k : PO X none tNoPart := po_none
  refine ⟨fun pins s σ H Q I q => k.run pins s σ H Q I ?_⟩
  obtain ⟨F, S, r, q⟩ := q
  exact gAt.pure (w := ⟨σ, F, H, S⟩) (ρ1 := ρE (α := Option Int)) q r rfl
theorem se_sl {lo hi : Option PySem.Expr} {p2} {ma : M Op} {ml mh : M (Option Int)} (hK : X.K = C.K) (ha : PE X a (gM C A W (ρO C) ma)) (hl : PO X lo (gM C A W (ρE (α := Option Int)) ml)) (hh : PO X hi (gM C A W (ρE (α := Option Int)) mh)) :
    PE X (.Subscript a (.Slice lo hi none p2) pos) (gM C A W (ρV C) (ma.bind fun p => ml.bind fun l => mh.bind fun h => p.get.bind fun x => M.opt (sliceD x l h))) :=
  PE.imp (pe_slice (slr_cut (C := C) (A := A) (W := W) hK) ha hl hh) fun σ H Q ⟨F, S, r, h⟩ => ⟨F, S, r, (gAt.bind (ρ1 := ρO C) (lifts_V C) h).imp fun x H1 ⟨F1, S1, p, r1, s1, x1, h1⟩ =>
    ⟨F1, S1, r1, (gAt.bind (ρ1 := ρE (α := Option Int)) (lifts_V C) h1).imp fun y H2 ⟨F2, S2, d, r2, s2, x2, h2⟩ => by
      cases x2
      exact ⟨F2, S2, r2, (gAt.bind (ρ1 := ρE (α := Option Int)) (lifts_V C) h2).imp fun z H3 ⟨F3, S3, d3, r3, s3, x3, h3⟩ => by
        cases x3
        obtain ⟨dx, k1, h4⟩ := get_bind r3 (OpR'.mono (w := ⟨σ, F1, H1, S1⟩) (s2.trans s3) x1) h3
        exact ⟨_, dx, rfl, r3, k1, h4⟩⟩⟩⟩
theorem lookup_zip {C : Cxt} {F : Hp} {f : Nat} (inj : ∀ i j, C.nm i = C.nm j → i = j) : ∀ {ks : List Nat} {xs : List D} {vs : List V} {d : D}, ks.length = xs.length → Rs C F xs vs → (ks.zip xs).lookup f = some d → ∃ v, ((ks.map C.nm).zip vs).lookup (C.nm f) = some v ∧ R C F d v
  | [], [], _, _, _, _, e => by simp at e
  | k :: ks, x :: xs, _, d, hl, h, e => by
    simp only [Rs] at h
    obtain ⟨v, r, rfl, h2, h3⟩ := h
    simp only [List.zip_cons_cons, List.lookup_cons, List.map_cons] at e ⊢
    by_cases q : f = k
    · subst q
      simp only [beq_self_eq_true] at e ⊢
      cases e
      exact ⟨v, rfl, h2⟩
    · have q1 : (f == k) = false := by simpa using q
      have q2 : (C.nm f == C.nm k) = false := by
        simp only [beq_eq_false_iff_ne, ne_eq]
        exact fun z => q (inj _ _ z)
      rw [q1] at e
      rw [q2]
      exact lookup_zip inj (by simpa using hl) h3 e
theorem se_fld {f : Nat} {m : M RV} (hK : X.K = C.K) (cf : CF C) (inj : ∀ i j, C.nm i = C.nm j → i = j) (hna : ∀ c, C.okc c → NoAttr C.K (C.cls c) (C.nm f)) (he : PE X e (gM C A W (ρV C) m)) (hb : attributeBase e (C.nm f) X.env (eval e X.env) = eval e X.env) :
    PE X (.Attribute e (C.nm f) pos) (gM C A W (ρV C) (m.toD.bind fun x => M.opt (fldD f x))) :=
  PE.imp (pe_fld (sd_of he) hb) fun σ H Q ⟨F, S, r, h⟩ => ⟨F, S, r, (gAt.bind (ρ1 := ρD C) (lifts_V C) h).imp fun x H1 ⟨F1, S1, d, r1, s1, x1, h1⟩ => by
    obtain ⟨rv, e1, h2⟩ := gAt.opt h1
    cases d <;> simp only [fldD, reduceCtorEq] at e1
    rename_i c ks xs
    have x1 : R C F1 (.obj c ks xs) x := x1
    simp only [R] at x1
    obtain ⟨p, dx, vs, rfl, k1, k2, k3, k4⟩ := x1
    cases q : (ks.zip xs).lookup f with
    | none => rw [q] at e1; cases e1
    | some d =>
      rw [q] at e1
      cases e1
      obtain ⟨v, q1, q2⟩ := lookup_zip inj k3 k2 q
      exact ⟨p, C.cls c, dx, _, v, rfl, r1.sub _ _ k1, by rw [hK]; exact cf.cl c k4, by rw [hK]; exact hna c k4, q1, res_val (w := ⟨σ, F1, H1, S1⟩) r1 h2 q2⟩⟩
/-- self.f within __init__ -/
def sfldM (f : Nat) : M RV := fun S => match getS S 0 with
  | .slf c ks xs => (M.opt (fldD f (.obj c ks xs))) S
  | _ => .bad
theorem se_sfld {f : Nat} (hK : X.K = C.K) (cf : CF C) (inj : ∀ i j, C.nm i = C.nm j → i = j) (hna : ∀ c, C.okc c → NoAttr C.K (C.cls c) (C.nm f)) 
    (he : PE X e (tVar 0)) (hb : attributeBase e (C.nm f) X.env (eval e X.env) = eval e X.env) : PE X (.Attribute e (C.nm f) pos) (gM C A W (ρV C) (sfldM f)) :=
  PE.imp (pe_fld he hb) fun σ H Q ⟨F, S, r, h⟩ => by
    unfold gAt sfldM at h
    simp only at h
    cases q : getS S 0 with
    | un => rw [q] at h; exact h.elim
    | val d => rw [q] at h; exact h.elim
    | own xs => rw [q] at h; exact h.elim
    | io xs => rw [q] at h; exact h.elim
    | slf c ks xs =>
      rw [q] at h
      simp only [fldD] at h
      obtain ⟨dx, vs, q1, q2, q3, q4, q5⟩ := r.slf 0 c ks xs q
      cases q6 : (ks.zip xs).lookup f with
      | none => rw [q6] at h; exact h.elim
      | some d =>
        rw [q6] at h
        obtain ⟨v, k1, k2⟩ := lookup_zip inj q5.1 q4 q6
        have ok := q5.2
        exact ⟨.ref A, q1, A, C.cls c, dx, _, v, rfl, q3, by rw [hK]; exact cf.cl c ok, by rw [hK]; exact hna c ok, k1, h v F H r (Step.refl _) k2⟩
/-- operands in a row -/
theorem sq_nil : PA X [] (gM C A W (ρOs C) (M.pure [])) := PA.imp pa_nil fun σ H Q ⟨F, S, r, h⟩ => gAt.pure (w := ⟨σ, F, H, S⟩) (ρ1 := ρOs C) h r .nil
theorem sq_cons {m : M Op} {ms : M (List Op)} (he : PE X e (gM C A W (ρO C) m)) (hs : PA X es (gM C A W (ρOs C) ms)) (ht : starEach (e :: es) X.env = (false, eval e X.env) :: starEach es X.env) :
    PA X (e :: es) (gM C A W (ρOs C) (m.bind fun p => ms.bind fun ps => M.pure (p :: ps))) :=
  PA.imp (pa_cons he hs ht) fun σ H Q ⟨F, S, r, h⟩ => ⟨F, S, r, (gAt.bind (ρ1 := ρO C) (lifts_Os C) h).imp fun x H1 ⟨F1, S1, d, r1, s1, x1, h1⟩ =>
    ⟨F1, S1, r1, (gAt.bind (ρ1 := ρOs C) (lifts_Os C) h1).imp fun xs H2 ⟨F2, S2, ds, r2, s2, x2, h2⟩ => gAt.pure (ρ1 := ρOs C) h2 r2 (.cons (OpR'.mono s2 x1) x2)⟩⟩
theorem blt_in {b : Blt} {ms : M (List Op)} {σ : St} {H : Hp} {Q : VK} (h : gM C A W (ρV C) (ms.bind fun ps => (gets ps).bind fun xs => M.opt (bltD b xs)) σ H Q) : tCB (rBlt C A W b) (gM C A W (ρOs C) ms) σ H Q := by
  obtain ⟨F, S, r, h⟩ := h
  refine ⟨F, S, r, (gAt.bind (ρ1 := ρOs C) (lifts_V C) h).imp fun vs H1 ⟨F1, S1, ps, r1, s1, x1, h1⟩ => ?_⟩
  obtain ⟨ds, k1, h2⟩ := gets_bind r1 x1 h1
  exact ⟨_, ds, rfl, r1, k1, h2⟩
theorem se_callB {b : Blt} {id : String} {x : Str} {p : Pos} {ms : M (List Op)} (hc : CallR X (.builtin id) (rBlt C A W b)) (hg : Gl X x) (hm : X.mg x = none) (hv : bootBuiltins x = some (.builtin id)) (hs : PA X (e :: es) (gM C A W (ρOs C) ms))
    (hn : x ≠ "__name__") (hdb : (x == ("__debug__" : Str)) = false) (he : starEach (e :: es) X.env = (false, eval e X.env) :: starEach es X.env) (hpl : (backTo pos (starEach es X.env)).any (·.1) = false) :
    PE X (.Call (.Name x p) (e :: es) [] pos) (gM C A W (ρV C) (ms.bind fun ps => (gets ps).bind fun xs => M.opt (bltD b xs))) :=
  PE.imp (pe_callB hc hg hm hv hs hn hdb he hpl) fun σ H Q h => blt_in h
theorem se_callT {b : Blt} {id : String} {x : Str} {p : Pos} {ms : M (List Op)} (hc : CallR X (.type id) (rBlt C A W b)) (hg : Gl X x) (hm : X.mg x = none) (hv : bootBuiltins x = some (.type id)) (hs : PA X (e :: es) (gM C A W (ρOs C) ms))
    (hn : x ≠ "__name__") (hdb : (x == ("__debug__" : Str)) = false) (he : starEach (e :: es) X.env = (false, eval e X.env) :: starEach es X.env) (hpl : (backTo pos (starEach es X.env)).any (·.1) = false) :
    PE X (.Call (.Name x p) (e :: es) [] pos) (gM C A W (ρV C) (ms.bind fun ps => (gets ps).bind fun xs => M.opt (bltD b xs))) :=
  PE.imp (pe_callTy hc hg hm hv hs hn hdb he hpl) fun σ H Q h => blt_in h
end
end Pl
set_option Elab.async false
set_option linter.all false
set_option maxRecDepth 100000
/-! Pl: lists that change, calls. -/
namespace Pl
open PySem L2
def plainE : PySem.Expr → Bool
  | .Starred _ _ => false
  | _ => true
theorem starEach_cons {env : Env} {e : PySem.Expr} {es : List PySem.Expr} (h : plainE e = true) : starEach (e :: es) env = (false, eval e env) :: starEach es env := by
  cases e <;> first | rfl | cases h
theorem star_any {env : Env} {pos : Pos} : ∀ {es : List PySem.Expr}, es.all plainE = true → (backTo pos (starEach es env)).any (·.1) = false
  | [], _ => rfl
  | e :: es, h => by
    simp only [List.all_cons, Bool.and_eq_true] at h
    rw [starEach_cons h.1]
    show (false || (backTo pos (starEach es env)).any (·.1)) = false
    rw [star_any h.2]; rfl
theorem star_all {env : Env} {pos : Pos} : ∀ {es : List PySem.Expr}, es.all plainE = true → (backTo pos (starEach es env)).all (fun x => !x.1) = true
  | [], _ => rfl
  | e :: es, h => by
    simp only [List.all_cons, Bool.and_eq_true] at h
    rw [starEach_cons h.1]
    show (true && (backTo pos (starEach es env)).all (fun x => !x.1)) = true
    rw [star_all h.2]; rfl
def kwNames (kws : List Keyword) : List Str := kws.filterMap (·.arg)
theorem kw_all {env : Env} {pos : Pos} : ∀ {kws : List Keyword}, kws.all (·.arg.isSome) = true → (backToKw pos (keywordEach kws env)).all (·.1.isSome) = true
  | [], _ => rfl
  | ⟨n, v, p⟩ :: kws, h => by
    simp only [List.all_cons, Bool.and_eq_true] at h
    show (n.isSome && (backToKw pos (keywordEach kws env)).all (·.1.isSome)) = true
    rw [kw_all h.2, h.1]; rfl
theorem kw_any {env : Env} {pos : Pos} : ∀ {kws : List Keyword}, kws.all (·.arg.isSome) = true → (backToKw pos (keywordEach kws env)).any (·.1.isNone) = false
  | [], _ => rfl
  | ⟨n, v, p⟩ :: kws, h => by
    simp only [List.all_cons, Bool.and_eq_true] at h
    show (n.isNone || (backToKw pos (keywordEach kws env)).any (·.1.isNone)) = false
    rw [kw_any h.2]
    cases n with
    | none => exact absurd h.1 (by decide)
    | some _ => rfl
theorem kw_names {env : Env} {pos : Pos} : ∀ {kws : List Keyword}, (backToKw pos (keywordEach kws env)).filterMap (·.1) = kwNames kws
  | [] => rfl
  | ⟨n, v, p⟩ :: kws => by
    have ih := kw_names (env := env) (pos := pos) (kws := kws)
    unfold kwNames at ih ⊢
    show List.filterMap (·.1) ((n, _) :: backToKw pos (keywordEach kws env)) = List.filterMap (·.arg) (⟨n, v, p⟩ :: kws)
    simp only [List.filterMap_cons, ih]
section
variable {C : Cxt} {A : Addr} {W : WX'} {X : Cx} {e a b c : PySem.Expr} {es : List PySem.Expr} {pos : Pos}
/-! ### a list of our own changes -/
theorem fhp_upd {w : Wd} (r : Rel C A w) {p : Addr} {o : HO} (h1 : w.F p = none) (h2 : w.H p ≠ none) : FHp C w.F w.H (fun a => a = p) w.F (upd w.H p o) := by
  refine ⟨Sub.refl _, fun a u e => ?_, fun a u e n => ?_, fun a _ h => h, fun a h => ?_⟩
  · rw [upd_ne (fun z => by rw [z, h1] at e; cases e)]; exact r.sub a u e
  · rw [upd_ne n]; exact e
  · by_cases q : a = p
    · subst q; rw [upd_same]; exact fun z => nomatch z
    · rw [upd_ne q]; exact h
theorem own_bind {α β γ δ : Type} {ρ : Wd → Wd → γ → δ → Prop} {w : Wd} {i : Nat} {f : List D → M γ} {Q : δ → Hp → Prop} (r : Rel C A w) (h : gAt C A W ρ ((ownS i).bind f) w Q) :
    ∃ p xs vs, (getS w.S i = .own xs ∨ getS w.S i = .io xs) ∧ w.σ[i]? = some (some (.ref p)) ∧ w.F p = none ∧ w.H p = some (.lst vs) ∧ Rs C w.F xs vs ∧ gAt C A W ρ (f xs) w Q := by
  unfold gAt M.bind ownS at h
  cases e : getS w.S i with
  | un => rw [e] at h; exact h.elim
  | val d => rw [e] at h; exact h.elim
  | slf c ks xs => rw [e] at h; exact h.elim
  | own xs =>
    rw [e] at h
    obtain ⟨p, vs, q1, q2, q3, q4⟩ := r.own i xs e
    exact ⟨p, xs, vs, .inl rfl, q1, q2, q3, q4, h⟩
  | io xs =>
    rw [e] at h
    obtain ⟨vs, q1, q2, q3, q4⟩ := r.io i xs e
    exact ⟨A, xs, vs, .inr rfl, q1, q2, q3, q4, h⟩
theorem own_bind' {γ δ : Type} {ρ : Wd → Wd → γ → δ → Prop} {w : Wd} {i : Nat} {f : List D → M γ} {Q : δ → Hp → Prop} (r : Rel C A w) (h : gAt C A W ρ ((ownS i).bind f) w Q) :
    ∃ p xs vs, (getS w.S i = .own xs ∨ getS w.S i = .io xs) ∧ w.σ[i]? = some (some (.ref p)) ∧ w.F p = none ∧ w.H p = some (.lst vs) ∧ Rs C w.F xs vs ∧ gAt C A W ρ (f xs) w Q := own_bind (α := Unit) (β := Unit) r h
/-- behind a change -/
theorem put_res {w : Wd} {i : Nat} {p : Addr} {xs ys : List D} {vs ws : List V} {d : D} {v : V} {Q : VK} (r : Rel C A w) (hi : getS w.S i = .own xs ∨ getS w.S i = .io xs) (hp : w.σ[i]? = some (some (.ref p))) (h1 : w.F p = none) (h2 : w.H p = some (.lst vs))
    (hy : Rs C w.F ys ws) (x : R C w.F d v) (h : gAt C A W (ρV C) ((putS i ys).bind fun _ => M.pure (.val d)) w Q) : Q v (upd w.H p (.lst ws)) := by
  obtain ⟨S', e1, r1, s1, _⟩ := put_world (F' := w.F) (H' := upd w.H p (.lst ws)) r hi hp (fhp_upd r h1 (by rw [h2]; exact fun z => nomatch z)) upd_same hy
  unfold gAt M.bind at h
  rw [e1] at h
  exact h v w.F _ r1 s1 x
def mutM (i : Nat) (m : Mut) (ws : List D) : M RV := (ownS i).bind fun xs => (M.opt (mutD m xs ws)).bind fun p => (putS i p.2).bind fun _ => M.pure (.val p.1)
def rMut (C : Cxt) (A : Addr) (W : WX') (i : Nat) (m : Mut) : V → List V → Hp → VK → Prop := fun x xs H Q => ∃ w ws, w.H = H ∧ Rel C A w ∧ w.σ[i]? = some (some x) ∧ Rs C w.F ws xs ∧ gAt C A W (ρV C) (mutM i m ws) w Q
theorem mutr {m : Mut} {i : Nat} {x : V} {xs : List V} {H : Hp} {Q : VK} (h : rMut C A W i m x xs H Q) : ∃ w ys ws vs p d zs, w.H = H ∧ Rel C A w ∧ x = .ref p ∧ (getS w.S i = .own ys ∨ getS w.S i = .io ys) ∧ w.σ[i]? = some (some (.ref p)) ∧ w.F p = none ∧ w.H p = some (.lst vs) ∧ Rs C w.F ys vs ∧ Rs C w.F ws xs ∧ mutD m ys ws = some (d, zs) ∧
    gAt C A W (ρV C) ((putS i zs).bind fun _ => M.pure (.val d)) w Q := by
  obtain ⟨w, ws, hw, r, e1, e2, h⟩ := h
  obtain ⟨p, ys, vs, k1, k2, k3, k4, k5, k6⟩ := own_bind' r h
  rw [e1] at k2; cases k2
  obtain ⟨⟨d, zs⟩, q1, q2⟩ := gAt.bind_opt k6
  exact ⟨w, ys, ws, vs, p, d, zs, hw, r, rfl, k1, e1, k3, k4, k5, e2, q1, q2⟩
theorem mt_app {i : Nat} : MtM X "list.append" (rMut C A W i .app) := by
  intro pins s σ H x xs v us Q I rx rxs h
  obtain ⟨w, ys, ws, vs, p, d, zs, hw, r, rfl, k1, k2, k3, k4, k5, k6, k7, k8⟩ := mutr h
  subst hw
  match ws, k6, k7 with
  | [y], k6, k7 =>
    simp only [Rs] at k6
    obtain ⟨u, r', rfl, hu, rfl⟩ := k6
    simp only [mutD] at k7
    split at k7
    · rename_i hl
      cases k7
      refine mt_append pins s σ w.H _ _ v us Q I rx rxs ⟨p, vs, u, rfl, rfl, k4, by rw [← k5.length]; exact Nat.lt_of_lt_of_le hl (lim_le (Nat.le_refl lim)), ?_⟩
      exact put_res r k1 k2 k3 k4 (k5.append (Rs.cons hu Rs.nil)) (by simp only [R]) k8
    · cases k7
  | [], _, k7 => cases k7
  | _ :: _ :: _, _, k7 => cases k7
theorem ext_args {ys ws : List D} {q : D × List D} (e : mutD .ext ys ws = some q) : ∃ zs, ws = [.lst zs] := by
  match ws, e with
  | [], e => cases e
  | [a], e => cases a <;> first | (cases e; done) | exact ⟨_, rfl⟩
  | a :: b :: c, e => cases a <;> cases e
theorem popat_args {ys ws : List D} {q : D × List D} (e : mutD .popat ys ws = some q) : ∃ j, ws = [.int j] := by
  match ws, e with
  | [], e => cases e
  | [a], e => cases a <;> first | (cases e; done) | exact ⟨_, rfl⟩
  | a :: b :: c, e => cases a <;> cases e
theorem mt_ext {i : Nat} : MtM X "list.extend" (rMut C A W i .ext) := by
  intro pins s σ H x xs v us Q I rx rxs h
  obtain ⟨w, ys, ws, vs, p, d, zs, hw, r, rfl, k1, k2, k3, k4, k5, k6, k7, k8⟩ := mutr h
  subst hw
  obtain ⟨y, rfl⟩ := ext_args k7
  simp only [Rs] at k6
  obtain ⟨u, r', rfl, hu, rfl⟩ := k6
  simp only [R] at hu
  obtain ⟨a, vs2, rfl, ha, hr⟩ := hu
  simp only [mutD] at k7
  split at k7
  · rename_i hl
    cases k7
    refine mt_extend pins s σ w.H _ _ v us Q I rx rxs ⟨p, a, vs, vs2, rfl, rfl, k4, r.sub _ _ ha, by rw [← k5.length, ← hr.length]; exact lim_le hl, ?_⟩
    exact put_res r k1 k2 k3 k4 (k5.append hr) (by simp only [R]) k8
  · cases k7
theorem mt_pop0 {i : Nat} : MtM X "list.pop" (rMut C A W i .pop) := by
  intro pins s σ H x xs v us Q I rx rxs h
  obtain ⟨w, ys, ws, vs, p, d, zs, hw, r, rfl, k1, k2, k3, k4, k5, k6, k7, k8⟩ := mutr h
  subst hw
  match ws, k6, k7 with
  | [], k6, k7 =>
    simp only [Rs] at k6
    subst k6
    simp only [mutD] at k7
    cases e : ys[ys.length - 1]? with
    | none => rw [e] at k7; cases k7
    | some y =>
      rw [e] at k7
      cases k7
      obtain ⟨u, h1, h2⟩ := k5.get e
      refine mt_pop pins s σ w.H _ _ v us Q I rx rxs ⟨p, vs, u, rfl, rfl, k4, by rw [← k5.length]; exact h1, ?_⟩
      exact put_res r k1 k2 k3 k4 k5.dropLast h2 k8
  | _ :: _, _, k7 => cases k7
theorem mt_pop1 {i : Nat} : MtM X "list.pop" (rMut C A W i .popat) := by
  intro pins s σ H x xs v us Q I rx rxs h
  obtain ⟨w, ys, ws, vs, p, d, zs, hw, r, rfl, k1, k2, k3, k4, k5, k6, k7, k8⟩ := mutr h
  subst hw
  have hz : vs.length ≤ sizeLine := (I.list (SqL.of k4)).elim fun _ z => z.2.2
  have hl : (sizeLine : Int) < 2 ^ 63 := by exact_mod_cast line63
  obtain ⟨j, rfl⟩ := popat_args k7
  simp only [Rs] at k6
  obtain ⟨u, r', rfl, hu, rfl⟩ := k6
  simp only [R] at hu
  subst hu
  simp only [mutD] at k7
  cases e : ixD ys.length j with
  | none => rw [e] at k7; cases k7
  | some n =>
    rw [e] at k7
    simp only [Option.bind_some] at k7
    cases e2 : ys[n]? with
    | none => rw [e2] at k7; cases k7
    | some y =>
      rw [e2] at k7
      cases k7
      obtain ⟨u, h1, h2⟩ := k5.get e2
      unfold ixD at e
      rw [k5.length] at e
      obtain ⟨q1, q2, q3, q4⟩ := ixN_seq e
      refine mt_popAt pins s σ w.H _ _ v us Q I rx rxs ⟨p, vs, j, n, u, rfl, rfl, k4, by omega, by omega, q1, h1, ?_⟩
      exact put_res r k1 k2 k3 k4 (k5.eraseIdx n) h2 k8
theorem mt_rev {i : Nat} : MtM X "list.reverse" (rMut C A W i .rev) := by
  intro pins s σ H x xs v us Q I rx rxs h
  obtain ⟨w, ys, ws, vs, p, d, zs, hw, r, rfl, k1, k2, k3, k4, k5, k6, k7, k8⟩ := mutr h
  subst hw
  match ws, k6, k7 with
  | [], k6, k7 =>
    simp only [Rs] at k6
    subst k6
    cases k7
    refine mt_reverse pins s σ w.H _ _ v us Q I rx rxs ⟨p, vs, rfl, rfl, k4, ?_⟩
    exact put_res r k1 k2 k3 k4 k5.reverse (by simp only [R]) k8
  | _ :: _, _, k7 => cases k7
theorem mt_clr {i : Nat} : MtM X "list.clear" (rMut C A W i .clear) := by
  intro pins s σ H x xs v us Q I rx rxs h
  obtain ⟨w, ys, ws, vs, p, d, zs, hw, r, rfl, k1, k2, k3, k4, k5, k6, k7, k8⟩ := mutr h
  subst hw
  match ws, k6, k7 with
  | [], k6, k7 =>
    simp only [Rs] at k6
    subst k6
    cases k7
    refine mt_clear pins s σ w.H _ _ v us Q I rx rxs ⟨p, vs, rfl, rfl, k4, ?_⟩
    exact put_res r k1 k2 k3 k4 Rs.nil (by simp only [R]) k8
  | _ :: _, _, k7 => cases k7
/-- o.m(..) -/
theorem mut_in {i : Nat} {m : Mut} {ms : M (List D)} {σ : St} {H : Hp} {Q : VK} (h : gM C A W (ρV C) ((ownS i).bind fun _ => ms.bind fun ws => mutM i m ws) σ H Q) :
    ∃ p, σ[i]? = some (some (.ref p)) ∧ tyV X.K "list" (.ref p) H ∧ gM C A W (ρDs C) ms σ H (fun xs H2 => rMut C A W i m (.ref p) xs H2 Q) := by
  obtain ⟨F, S, r, h⟩ := h
  obtain ⟨p, ys, vs, k1, k2, k3, k4, k5, k6⟩ := own_bind' (w := ⟨σ, F, H, S⟩) r h
  refine ⟨p, k2, .inl ⟨rfl, vs, SqL.of k4⟩, F, S, r, (gAt.bind (ρ1 := ρDs C) (lifts_V C) k6).imp fun xs H1 ⟨F1, S1, ds, r1, s1, x1, h1⟩ => ?_⟩
  exact ⟨_, ds, rfl, r1, k2, x1, h1⟩
theorem se_mut0 {i : Nat} {m : Mut} {o : PySem.Expr} {id : String} {name : Str} {apos cpos : Pos} (slot : PySem.Slot "list" name id) (hty : typeOf (.builtin id) = pure (.type "method_descriptor")) (hm : MtR X id (rMut C A W i m)) (ho : PE X o (tVar i))
    (hbase : attributeBase o name X.env (eval o X.env) = eval o X.env) (hline : (apos.endLine == cpos.line) = true) :
    PE X (.Call (.Attribute o name apos) [] [] cpos) (gM C A W (ρV C) ((ownS i).bind fun _ => (M.pure []).bind fun ws => mutM i m ws)) :=
  PE.imp (pe_bm0 PySem.F.plainAttrs_list slot hty hm ho hbase hline) fun σ H Q h => by
    obtain ⟨p, h1, h2, F, S, r, h3⟩ := mut_in (X := X) h
    exact ⟨.ref p, h1, h2, gAt.pure (w := ⟨σ, F, H, S⟩) (ρ1 := ρDs C) h3 r Rs.nil⟩
theorem se_mut {i : Nat} {m : Mut} {o : PySem.Expr} {id : String} {name : Str} {apos cpos : Pos} {ms : M (List D)} (slot : PySem.Slot "list" name id) (hty : typeOf (.builtin id) = pure (.type "method_descriptor")) (hm : MtR X id (rMut C A W i m)) (ho : PE X o (tVar i)) (ha : PA X (e :: es) (gM C A W (ρDs C) ms))
    (hbase : attributeBase o name X.env (eval o X.env) = eval o X.env) (hp : (e :: es).all plainE = true) (hl : (e :: es).length < 30) (hline : (apos.endLine == cpos.line) = true) :
    PE X (.Call (.Attribute o name apos) (e :: es) [] cpos) (gM C A W (ρV C) ((ownS i).bind fun _ => ms.bind fun ws => mutM i m ws)) := by
  have hp' := hp
  simp only [List.all_cons, Bool.and_eq_true] at hp
  refine PE.imp (pe_bm PySem.F.plainAttrs_list slot hty hm ho ha hbase ?_ hline (starEach_cons hp.1) (star_any hp.2)) fun σ H Q h => ?_
  · rw [star_all hp']
    have : decide ((e :: es).length + ([] : List Keyword).length + (if ([] : List Keyword).isEmpty then 0 else 1) < 30) = true := by
      simp only [decide_eq_true_eq]
      simpa using hl
    rw [this]; rfl
  · obtain ⟨p, h1, h2, F, S, r, h3⟩ := mut_in (X := X) h
    exact ⟨.ref p, h1, h2, F, S, r, h3⟩
end
end Pl
set_option Elab.async false
set_option linter.all false
set_option maxRecDepth 100000
/-! Pl: calls of defs, of methods, new instances. -/
namespace Pl
open PySem L2
/-! ### arguments -/
def ArgsR (C : Cxt) (w : Wd) : List Ex → List D → List V → Prop
  | [], [], [] => True
  | e :: es, d :: ds, v :: vs => (match e with
    | .io i => d = .non ∧ w.σ[i]? = some (some v)
    | _ => R C w.F d v) ∧ ArgsR C w es ds vs
  | _, _, _ => False
def ρA (C : Cxt) (es : List Ex) : Wd → Wd → List D → List V → Prop := fun _ w' ds vs => ArgsR C w' es ds vs
theorem lifts_A (C : Cxt) (es : List Ex) : Lifts (ρA C es) := fun _ _ _ _ _ _ h => h
theorem ArgsR.mono {C : Cxt} {w : Wd} {F' H' : Hp} {S' : Sl} (s : Step w ⟨w.σ, F', H', S'⟩) : ∀ {es : List Ex} {ds : List D} {vs : List V}, ArgsR C w es ds vs → ArgsR C ⟨w.σ, F', H', S'⟩ es ds vs
  | [], [], [], _ => trivial
  | e :: es, d :: ds, v :: vs, h => by
    refine ⟨?_, ArgsR.mono s h.2⟩
    have h1 := h.1
    cases e <;> first | exact h1 | exact R.mono s.ex d h1
  | [], _ :: _, _, h => h.elim
  | [], [], _ :: _, h => h.elim
  | _ :: _, [], _, h => h.elim
  | _ :: _, _ :: _, [], h => h.elim
theorem ArgsR.append {C : Cxt} {w : Wd} : ∀ {es es' : List Ex} {ds ds' : List D} {vs vs' : List V}, ArgsR C w es ds vs → ArgsR C w es' ds' vs' → ArgsR C w (es ++ es') (ds ++ ds') (vs ++ vs')
  | [], _, [], _, [], _, _, k => k
  | e :: es, _, d :: ds, _, v :: vs, _, h, k => ⟨h.1, ArgsR.append h.2 k⟩
  | [], _, _ :: _, _, _, _, h, _ => h.elim
  | [], _, [], _, _ :: _, _, h, _ => h.elim
  | _ :: _, _, [], _, _, _, h, _ => h.elim
  | _ :: _, _, _ :: _, _, [], _, h, _ => h.elim
theorem ArgsR.lens {C : Cxt} {w : Wd} : ∀ {es : List Ex} {ds : List D} {vs : List V}, ArgsR C w es ds vs → ds.length = es.length ∧ vs.length = es.length
  | [], [], [], _ => ⟨rfl, rfl⟩
  | e :: es, d :: ds, v :: vs, h => by
    obtain ⟨h1, h2⟩ := ArgsR.lens h.2
    exact ⟨by simp [h1], by simp [h2]⟩
  | [], _ :: _, _, h => h.elim
  | [], [], _ :: _, h => h.elim
  | _ :: _, [], _, h => h.elim
  | _ :: _, _ :: _, [], h => h.elim
theorem ArgsR.get {C : Cxt} {w : Wd} : ∀ {es : List Ex} {ds : List D} {vs : List V} {j : Nat} {d : D} {v : V}, ArgsR C w es ds vs → ds[j]? = some d → vs[j]? = some v → (∃ i, es[j]? = some (.io i) ∧ w.σ[i]? = some (some v)) ∨ ((∀ i, es[j]? ≠ some (.io i)) ∧ R C w.F d v)
  | [], [], [], _, _, _, _, h, _ => by simp at h
  | e :: es, d :: ds, v :: vs, 0, _, _, h, h1, h2 => by
    simp at h1 h2
    subst h1; subst h2
    have h := h.1
    cases e <;> first | exact .inl ⟨_, rfl, h.2⟩ | exact .inr ⟨fun _ z => (by simp at z), h⟩
  | e :: es, d :: ds, v :: vs, j + 1, _, _, h, h1, h2 => by
    simp at h1 h2
    have := ArgsR.get h.2 h1 h2
    simpa using this
  | [], _ :: _, _, _, _, _, h, _, _ => h.elim
  | [], [], _ :: _, _, _, _, h, _, _ => h.elim
  | _ :: _, [], _, _, _, _, h, _, _ => h.elim
  | _ :: _, _ :: _, [], _, _, _, h, _, _ => h.elim
section
variable {C : Cxt} {A : Addr} {W : WX'} {X : Cx} {e a b c : PySem.Expr} {es : List PySem.Expr} {pos : Pos}
theorem sx_nil : PA X [] (gM C A W (ρA C []) (M.pure [])) := PA.imp pa_nil fun σ H Q ⟨F, S, r, h⟩ => gAt.pure (w := ⟨σ, F, H, S⟩) (ρ1 := ρA C []) h r trivial
theorem sx_cons {E : Ex} {Es : List Ex} {m : M RV} {ms : M (List D)} (hE : ∀ i, E ≠ .io i) (he : PE X e (gM C A W (ρV C) m)) (hs : PA X es (gM C A W (ρA C Es) ms)) (ht : plainE e = true) :
    PA X (e :: es) (gM C A W (ρA C (E :: Es)) (m.toD.bind fun d => ms.bind fun ds => M.pure (d :: ds))) :=
  PA.imp (pa_cons (sd_of he) hs (starEach_cons ht)) fun σ H Q ⟨F, S, r, h⟩ => ⟨F, S, r, (gAt.bind (ρ1 := ρD C) (lifts_A C _) h).imp fun x H1 ⟨F1, S1, d, r1, s1, x1, h1⟩ =>
    ⟨F1, S1, r1, (gAt.bind (ρ1 := ρA C Es) (lifts_A C _) h1).imp fun xs H2 ⟨F2, S2, ds, r2, s2, x2, h2⟩ => gAt.pure (ρ1 := ρA C (E :: Es)) h2 r2 ⟨by
      have y : R C F2 d x := R.mono s2.ex d x1
      cases E <;> first | exact y | exact absurd rfl (hE _), x2⟩⟩⟩
def ioM (i : Nat) : M RV := (ownS i).bind fun _ => M.pure (.val .non)
theorem sx_io {i : Nat} {Es : List Ex} {ms : M (List D)} (he : PE X e (tVar i)) (hs : PA X es (gM C A W (ρA C Es) ms)) (ht : plainE e = true) :
    PA X (e :: es) (gM C A W (ρA C (.io i :: Es)) ((ioM i).toD.bind fun d => ms.bind fun ds => M.pure (d :: ds))) :=
  PA.imp (pa_cons he hs (starEach_cons ht)) fun σ H Q ⟨F, S, r, h⟩ => by
    unfold ioM M.toD at h
    rw [M.bind_assoc, M.bind_assoc] at h
    obtain ⟨p, xs, vs, k1, k2, k3, k4, k5, h⟩ := own_bind' (w := ⟨σ, F, H, S⟩) r h
    refine ⟨.ref p, k2, F, S, r, (gAt.bind (ρ1 := ρA C Es) (lifts_A C _) h).imp fun xs H2 ⟨F2, S2, ds, r2, s2, x2, h2⟩ => ?_⟩
    exact gAt.pure (ρ1 := ρA C (.io i :: Es)) h2 r2 ⟨⟨rfl, k2⟩, x2⟩
/-- the keywords' values -/
theorem sk_nil : PK X [] (gM C A W (ρA C []) (M.pure [])) := ⟨fun p pins s σ H Q I ⟨F, S, r, h⟩ => pk_nil.run p pins s σ H Q I (gAt.pure (w := ⟨σ, F, H, S⟩) (ρ1 := ρA C []) h r trivial)⟩
theorem sk_cons {nm kp} {kws : List Keyword} {E : Ex} {Es : List Ex} {m : M RV} {ms : M (List D)} (hE : ∀ i, E ≠ .io i) (he : PE X e (gM C A W (ρV C) m)) (hs : PK X kws (gM C A W (ρA C Es) ms)) :
    PK X (⟨nm, e, kp⟩ :: kws) (gM C A W (ρA C (E :: Es)) (m.toD.bind fun d => ms.bind fun ds => M.pure (d :: ds))) := by
  refine ⟨fun p pins s σ H Q I ⟨F, S, r, h⟩ => (pk_cons (sd_of he) hs).run p pins s σ H Q I ⟨F, S, r, (gAt.bind (ρ1 := ρD C) (lifts_A C _) h).imp fun x H1 ⟨F1, S1, d, r1, s1, x1, h1⟩ =>
    ⟨F1, S1, r1, (gAt.bind (ρ1 := ρA C Es) (lifts_A C _) h1).imp fun xs H2 ⟨F2, S2, ds, r2, s2, x2, h2⟩ => gAt.pure (ρ1 := ρA C (E :: Es)) h2 r2 ⟨?_, x2⟩⟩⟩⟩
  have y : R C F2 d x := R.mono s2.ex d x1
  cases E <;> first | exact y | exact absurd rfl (hE _)
/-! ### how the parameters are filled -/
def isIoE : Ex → Bool
  | .io _ => true
  | _ => false
def dfOk : Pm → Bool
  | .df d => (dfV d).isSome
  | _ => true
/-- iop: the callee's parameter that is a list that it changes -/
def okPm (iop : Option Nat) (es : List Ex) (pm : List Pm) : Bool := pm.all dfOk && match iop with
  | none => (ioOf es).isNone && es.all (fun e => !isIoE e)
  | some p => match pm[p]? with
    | some (.at j) => match es[j]? with
      | some (.io i) => (ioOf es == some i) && (List.range pm.length).all (fun p' => p' == p || match pm[p']? with | some (.at j') => (match es[j']? with | some e => !isIoE e | none => true) | _ => true)
      | _ => false
    | _ => false
theorem pm_V : ∀ {pm : List Pm} {ds xs : List D} {vs : List V}, ds.length = vs.length → pmD ds pm = some xs → pm.all dfOk = true → ∃ ys, pmV vs pm = some ys ∧ xs.length = pm.length ∧ ys.length = pm.length ∧ ∀ (p : Nat) (d : D) (v : V), xs[p]? = some d → ys[p]? = some v →
    (∃ j, pm[p]? = some (Pm.at j) ∧ ds[j]? = some d ∧ vs[j]? = some v) ∨ dfV d = some v
  | [], ds, xs, vs, hl, h, _ => by
    simp only [pmD, Option.some.injEq] at h
    subst h
    exact ⟨[], rfl, rfl, rfl, fun p d v e _ => by simp at e⟩
  | .at i :: pm, ds, xs, vs, hl, h, k => by
    simp only [pmD] at h
    simp only [List.all_cons, Bool.and_eq_true] at k
    cases e : ds[i]? with
    | none => rw [e] at h; cases h
    | some d =>
      cases e2 : pmD ds pm with
      | none => rw [e, e2] at h; cases h
      | some xs' =>
        rw [e, e2] at h
        cases h
        obtain ⟨ys, q1, q2, q3, q4⟩ := pm_V hl e2 k.2
        have hi : i < vs.length := by rw [← hl]; exact (List.getElem?_eq_some_iff.mp e).1
        refine ⟨vs[i] :: ys, ?_, by simp [q2], by simp [q3], fun p d' v' h1 h2 => ?_⟩
        · simp only [pmV, List.getElem?_eq_getElem hi, q1]
        · cases p with
          | zero =>
            simp at h1 h2
            subst h1; subst h2
            exact .inl ⟨i, rfl, e, List.getElem?_eq_getElem hi⟩
          | succ p => simpa using q4 p d' v' (by simpa using h1) (by simpa using h2)
  | .df d :: pm, ds, xs, vs, hl, h, k => by
    simp only [pmD] at h
    simp only [List.all_cons, Bool.and_eq_true] at k
    cases e2 : pmD ds pm with
    | none => rw [e2] at h; cases h
    | some xs' =>
      rw [e2] at h
      cases h
      obtain ⟨ys, q1, q2, q3, q4⟩ := pm_V hl e2 k.2
      cases e : dfV d with
      | none => have := k.1; simp only [dfOk, e] at this; cases this
      | some v =>
        refine ⟨v :: ys, by simp only [pmV, e, q1], by simp [q2], by simp [q3], fun p d' v' h1 h2 => ?_⟩
        cases p with
        | zero =>
          simp at h1 h2
          subst h1; subst h2
          exact .inr e
        | succ p => simpa using q4 p d' v' (by simpa using h1) (by simpa using h2)
/-- what the callee finds -/
theorem fin_of {iop : Option Nat} {w : Wd} {Es : List Ex} {pm : List Pm} {ds xs : List D} {vs : List V} {γ δ : Type} {ρ : Wd → Wd → γ → δ → Prop} {f : Option (List D) → M γ} {Q : δ → Hp → Prop} (r : Rel C A w) (ok : okPm iop Es pm = true) (ha : ArgsR C w Es ds vs) (hp : pmD ds pm = some xs)
    (h : gAt C A W ρ ((ioS (ioOf Es)).bind f) w Q) : ∃ ys A' io, pmV vs pm = some ys ∧ ys.length = pm.length ∧ FIn C w.F w.H iop A' xs io ys ∧ gAt C A W ρ (f io) w Q ∧
      ((iop = none ∧ io = none ∧ ioOf Es = none) ∨ ∃ p i us, iop = some p ∧ ioOf Es = some i ∧ io = some us ∧ (getS w.S i = .own us ∨ getS w.S i = .io us) ∧ w.σ[i]? = some (some (.ref A'))) := by
  unfold okPm at ok
  simp only [Bool.and_eq_true] at ok
  obtain ⟨hl1, hl2⟩ := ha.lens
  obtain ⟨ys, q1, q2, q3, q4⟩ := pm_V (hl1.trans hl2.symm) hp ok.1
  cases iop with
  | none =>
    have ok2 := ok.2
    simp only [Bool.and_eq_true, Option.isNone_iff_eq_none] at ok2
    rw [ok2.1] at h
    refine ⟨ys, 0, none, q1, q3, ⟨r.sub, q2.trans q3.symm, fun i d h1 _ => ?_, trivial⟩, h, .inl ⟨rfl, rfl, ok2.1⟩⟩
    have hi : i < ys.length := by rw [q3, ← q2]; exact (List.getElem?_eq_some_iff.mp h1).1
    refine ⟨ys[i], List.getElem?_eq_getElem hi, ?_⟩
    rcases q4 i d _ h1 (List.getElem?_eq_getElem hi) with ⟨j, _, j2, j3⟩ | j
    · rcases ha.get j2 j3 with ⟨k, k1, _⟩ | ⟨_, k⟩
      · have := List.all_eq_true.mp ok2.2 _ (List.mem_of_getElem? k1)
        simp [isIoE] at this
      · exact k
    · exact dfV_R j
  | some p =>
    have ok2 := ok.2
    simp only at ok2
    cases e1 : pm[p]? with
    | none => rw [e1] at ok2; cases ok2
    | some q =>
      cases q with
      | df d => rw [e1] at ok2; cases ok2
      | «at» j =>
        rw [e1] at ok2
        simp only at ok2
        cases e2 : Es[j]? with
        | none => rw [e2] at ok2; cases ok2
        | some E =>
          rw [e2] at ok2
          obtain ⟨i, rfl⟩ : ∃ i, E = .io i := by
            cases E <;> first | exact ⟨_, rfl⟩ | exact absurd ok2 Bool.false_ne_true
          simp only [Bool.and_eq_true, beq_iff_eq, List.all_eq_true, List.mem_range, Bool.or_eq_true] at ok2
          rw [ok2.1] at h
          have h : gAt C A W ρ (((ownS i).bind fun xs => M.pure (some xs)).bind f) w Q := h
          rw [M.bind_assoc] at h
          obtain ⟨A', us, ws, k1, k2, k3, k4, k5, k6⟩ := own_bind' r h
          have hpl : p < pm.length := (List.getElem?_eq_some_iff.mp e1).1
          have at_p : ys[p]? = some (.ref A') := by
            have hx : p < xs.length := by omega
            have hy : p < ys.length := by omega
            rcases q4 p _ _ (List.getElem?_eq_getElem hx) (List.getElem?_eq_getElem hy) with ⟨j', j1, j2, j3⟩ | j'
            · rw [e1] at j1; cases j1
              rcases ha.get j2 j3 with ⟨i', m1, m2⟩ | ⟨m, _⟩
              · rw [e2] at m1; cases m1
                rw [k2] at m2
                rw [List.getElem?_eq_getElem hy]
                exact congrArg some (Option.some.inj (Option.some.inj m2)).symm
              · exact absurd e2 (m i)
            · -- a default at the place of the list
              exfalso
              have : ∀ {pm : List Pm} {ds xs : List D} {p j : Nat}, pmD ds pm = some xs → pm[p]? = some (.at j) → xs[p]? = ds[j]? := by
                intro pm
                induction pm with
                | nil => intro ds xs p j _ h; simp at h
                | cons a pm ih =>
                  intro ds xs p j h1 h2
                  cases a with
                  | «at» i0 =>
                    simp only [pmD] at h1
                    cases z1 : ds[i0]? with
                    | none => rw [z1] at h1; cases h1
                    | some d0 =>
                      cases z2 : pmD ds pm with
                      | none => rw [z1, z2] at h1; cases h1
                      | some xs0 =>
                        rw [z1, z2] at h1; cases h1
                        cases p with
                        | zero => simp at h2; subst h2; simp [z1]
                        | succ p => simpa using ih z2 (by simpa using h2)
                  | df d0 =>
                    simp only [pmD] at h1
                    cases z2 : pmD ds pm with
                    | none => rw [z2] at h1; cases h1
                    | some xs0 =>
                      rw [z2] at h1; cases h1
                      cases p with
                      | zero => simp at h2
                      | succ p => simpa using ih z2 (by simpa using h2)
              have e5 := this hp e1
              rw [List.getElem?_eq_getElem hx] at e5
              have hj : j < vs.length := by
                have := (List.getElem?_eq_some_iff.mp e5.symm).1
                omega
              rcases ha.get e5.symm (List.getElem?_eq_getElem hj) with ⟨i', m1, m2⟩ | ⟨m, _⟩
              · have : xs[p] = .non := by
                  have g : ∀ {es : List Ex} {ds : List D} {vs : List V} {j i : Nat} {d : D}, ArgsR C w es ds vs → es[j]? = some (.io i) → ds[j]? = some d → d = .non := by
                    intro es
                    induction es with
                    | nil => intro ds vs j i d _ h; simp at h
                    | cons e0 es ih =>
                      intro ds vs j i d h1 h2 h3
                      cases ds with
                      | nil => simp at h3
                      | cons d0 ds =>
                        cases vs with
                        | nil => exact h1.elim
                        | cons v0 vs =>
                          cases j with
                          | zero =>
                            simp at h2 h3
                            subst h2; subst h3
                            exact h1.1.1
                          | succ j => exact ih h1.2 (by simpa using h2) (by simpa using h3)
                  exact g ha e2 e5.symm
                rw [this] at j'
                simp only [dfV, Option.some.injEq] at j'
                -- then the value is None, which is the list: it cannot be; but nothing forces it: use the pm itself
                have z : ∀ {pm : List Pm} {vs ys : List V} {p j : Nat}, pmV vs pm = some ys → pm[p]? = some (.at j) → ys[p]? = vs[j]? := by
                  intro pm
                  induction pm with
                  | nil => intro vs ys p j _ h; simp at h
                  | cons a pm ih =>
                    intro vs ys p j h1 h2
                    cases a with
                    | «at» i0 =>
                      simp only [pmV] at h1
                      cases z1 : vs[i0]? with
                      | none => rw [z1] at h1; cases h1
                      | some d0 =>
                        cases z2 : pmV vs pm with
                        | none => rw [z1, z2] at h1; cases h1
                        | some xs0 =>
                          rw [z1, z2] at h1; cases h1
                          cases p with
                          | zero => simp at h2; subst h2; simp [z1]
                          | succ p => simpa using ih z2 (by simpa using h2)
                    | df d0 =>
                      simp only [pmV] at h1
                      cases z1 : dfV d0 with
                      | none => rw [z1] at h1; cases h1
                      | some v0 =>
                        cases z2 : pmV vs pm with
                        | none => rw [z1, z2] at h1; cases h1
                        | some xs0 =>
                          rw [z1, z2] at h1; cases h1
                          cases p with
                          | zero => simp at h2
                          | succ p => simpa using ih z2 (by simpa using h2)
                have e6 := z q1 e1
                rw [List.getElem?_eq_getElem hy, List.getElem?_eq_getElem hj] at e6
                have m1' := m1
                rw [e2] at m1'; cases m1'
                rw [k2] at m2
                have e7 : (V.ref A') = vs[j] := Option.some.inj (Option.some.inj m2)
                have e8 : ys[p] = vs[j] := Option.some.inj e6
                rw [e8, ← e7] at j'
                cases j'
              · exact m i e2
          refine ⟨ys, A', some us, q1, q3, ⟨r.sub, q2.trans q3.symm, fun i' d h1 hne => ?_, at_p, k3, ws, k4, k5⟩, k6, .inr ⟨p, i, us, rfl, ok2.1, rfl, k1, k2⟩⟩
          have hi : i' < ys.length := by rw [q3, ← q2]; exact (List.getElem?_eq_some_iff.mp h1).1
          refine ⟨ys[i'], List.getElem?_eq_getElem hi, ?_⟩
          rcases q4 i' d _ h1 (List.getElem?_eq_getElem hi) with ⟨j', j1, j2, j3⟩ | j'
          · rcases ha.get j2 j3 with ⟨i2, m1, _⟩ | ⟨_, m⟩
            · have z := ok2.2 i' (by omega)
              rcases z with z | z
              · exact absurd (congrArg some z.symm) hne
              · rw [j1] at z
                simp only [m1, isIoE] at z
                cases z
            · exact m
          · exact dfV_R j'
end
end Pl
set_option Elab.async false
set_option linter.all false
set_option maxRecDepth 100000
/-! Pl: calls. -/
namespace Pl
open PySem L2
section
variable {C : Cxt} {A : Addr} {W : WX'} {X : Cx} {e a b c : PySem.Expr} {es : List PySem.Expr} {pos : Pos}
theorem call_core {ans : Nat → List D → Option (List D) → CRes} {f : Nat} {iop : Option Nat} {np : Nat} {w : Wd} {Es : List Ex} {pm : List Pm} {ds : List D} {vs : List V} {Q : VK} (r : Rel C A w) (ok : okPm iop Es pm = true) (hl : pm.length = np) (ha : ArgsR C w Es ds vs)
    (h : gAt C A W (ρV C) ((M.opt (pmD ds pm)).bind fun xs => callM ans f (ioOf Es) xs) w Q) :
    ∃ ys, pmV vs pm = some ys ∧ spF C (ans f) iop np ys w.H Q (fun cls d H => W cls d w.σ H) := by
  obtain ⟨xs, hp, h⟩ := gAt.bind_opt h
  obtain ⟨ys, A', io, q1, q2, q3, h, q4⟩ := fin_of r ok ha hp h
  refine ⟨ys, q1, q2.trans hl, w.F, A', xs, io, q3, ?_⟩
  cases e : ans f xs io with
  | bad => rw [e] at h; exact h
  | ex c d =>
    rw [e] at h
    rcases q4 with ⟨rfl, rfl, e2⟩ | ⟨p, i, us, rfl, e2, rfl, _⟩
    · rw [e2] at h
      intro cls dx F' H' hf hx
      obtain ⟨r1, s1⟩ := call_world r hf
      exact h F' H' cls dx r1 s1 ⟨hx.1, hx.2⟩
    · rw [e2] at h
      exact h.elim
  | ok rv out =>
    rw [e] at h
    rcases q4 with ⟨rfl, rfl, e2⟩ | ⟨p, i, us, rfl, e2, rfl, k1, k2⟩
    · rw [e2] at h
      cases out with
      | some o => exact h.elim
      | none =>
        intro v F' H' hf hr _
        have hf' : FHp C w.F w.H (fun _ => False) F' H' := ⟨hf.ex, hf.sub, fun a o h n => hf.keep a o h (fun z => by cases z.1), hf.frz, hf.dom⟩
        obtain ⟨r1, s1⟩ := call_world r hf'
        exact h v F' H' r1 s1 (FRes.rvr r (fun a o => o) hr)
    · rw [e2] at h
      cases out with
      | none => exact h.elim
      | some o =>
        intro v F' H' hf hr ho
        have hf' : FHp C w.F w.H (fun a => a = A') F' H' := ⟨hf.ex, hf.sub, fun a o h n => hf.keep a o h (fun z => n z.2), hf.frz, hf.dom⟩
        obtain ⟨ws, o1, o2⟩ := ho
        obtain ⟨S', p1, r1, s1, o3⟩ := put_world r k1 k2 hf' o1 o2
        have h : gAt C A W (ρV C) ((backS (some i) (some o)).bind fun _ => M.pure rv) w Q := h
        unfold gAt M.bind at h
        have p1' : backS (some i) (some o) w.S = .ok () S' := p1
        rw [p1'] at h
        exact h v F' H' r1 s1 (FRes.rvr r o3 hr)
/-- the callee runs -/
theorem run_G {k : Nat} {f : Addr} {fd : FuncData} {ps ks : List Str} {sp : Sp} {n : Nat} {pm : List Pm} {pins : List (Addr × Obj)} {σ : St} {H : Hp} {s : Shared} {Q : VK} {us ws : List Value} {vs zs ys : List V}
    (F : FnOk X.prog X.w X.K X.mg X.base (L2.CX X.prog X.w) k f fd ps sp) (hr : Room k X.A) (bf : BF X.K fd ps n ks pm) (tk : Takes X W) (I : Inv X pins σ H s) (r : Vals vs us) (rz : Vals zs ws) (hn : vs.length = n) (hk : zs.length = ks.length)
    (hp : pmV (vs ++ zs) pm = some ys) (h : sp ys H Q (fun cls d H => W cls d σ H)) : wpAny (model X.prog X.w) X.A (call (.ref f) us (ks.zip ws)) (EP X pins σ Q) X.xe s := by
  obtain ⟨us', b, r2⟩ := bf s us ws (vs ++ zs) ys I.kIn (by rw [← r.length]; exact hn) (by rw [← rz.length]; exact hk) (r.append rz) hp
  refine wpAny_call (codeAny_mono (F.run X.A X.stack s H ⟨us, ks.zip ws⟩ us' ys Q _ hr I.env0 b r2 h) fun r s' hq => ?_)
  cases r with
  | error e => exact passAt tk σ pins H s e s' I hq
  | ok fl =>
    cases fl with
    | ret u => exact I.after hq
    | next => exact False.elim hq
    | brk => exact False.elim hq
    | cont => exact False.elim hq

def callR (C : Cxt) (A : Addr) (W : WX') (ans : Nat → List D → Option (List D) → CRes) (f : Nat) (Es Ks : List Ex) (pm : List Pm) (ms mk : M (List D)) : M RV :=
  ms.bind fun ws => mk.bind fun zs => (M.opt (pmD (ws ++ zs) pm)).bind fun xs => callM ans f (ioOf (Es ++ Ks)) xs
section
variable {ans : Nat → List D → Option (List D) → CRes} {f : Nat} {iop : Option Nat} {np k n : Nat} {fa Ca : Addr} {fd : FuncData} {ps : List Str} {x : Str} {p : Pos} {kws : List Keyword} {Es Ks : List Ex} {pm : List Pm} {ms mk : M (List D)}
theorem call_rd {σ : St} {H : Hp} {Q : VK} (ok : okPm iop (Es ++ Ks) pm = true) (hl : pm.length = np) (hkl : Ks.length = (kwNames kws).length)
    (h : gM C A W (ρV C) (ms.bind fun ws => mk.bind fun zs => (M.opt (pmD (ws ++ zs) pm)).bind fun xs => callM ans f (ioOf (Es ++ Ks)) xs) σ H Q) :
    gM C A W (ρA C Es) ms σ H (fun vs H1 => gM C A W (ρA C Ks) mk σ H1 (fun zs H2 => vs.length = Es.length ∧ zs.length = (kwNames kws).length ∧ ∃ ys, pmV (vs ++ zs) pm = some ys ∧ spF C (ans f) iop np ys H2 Q (fun cls d H => W cls d σ H))) := by
  obtain ⟨F0, S0, r0, h0⟩ := h
  exact ⟨F0, S0, r0, (gAt.bind (ρ1 := ρA C Es) (lifts_V C) h0).imp fun vs H1 ⟨F1, S1, ds, r1, s1, x1, h1⟩ => ⟨F1, S1, r1, (gAt.bind (ρ1 := ρA C Ks) (lifts_V C) h1).imp fun zs H2 ⟨F2, S2, ds2, r2, s2, x2, h2⟩ =>
      ⟨x1.lens.2, x2.lens.2.trans hkl, call_core r2 ok hl ((ArgsR.mono (w := ⟨σ, F1, H1, S1⟩) s2 x1).append x2) h2⟩⟩⟩
theorem se_call (F : FnOk X.prog X.w X.K X.mg X.base (L2.CX X.prog X.w) k fa fd ps (spF C (ans f) iop np)) (hr : Room k X.A) (hg : Gl X x) (hm : X.mg x = some (.ref fa)) (hk : PySem.W.keepIn X.K (.ref fa) = true) (bf : BF X.K fd ps Es.length (kwNames kws) pm) (tk : Takes X W)
    (ok : okPm iop (Es ++ Ks) pm = true) (hl : pm.length = np) (hdb : (x == ("__debug__" : Str)) = false) (hpl : (e :: es).all plainE = true) (hkw : kws.all (·.arg.isSome) = true) (hkl : Ks.length = (kwNames kws).length)
    (ha : PA X (e :: es) (gM C A W (ρA C Es) ms)) (hz : PK X kws (gM C A W (ρA C Ks) mk)) :
    PE X (.Call (.Name x p) (e :: es) kws pos) (gM C A W (ρV C) (ms.bind fun ws => mk.bind fun zs => (M.opt (pmD (ws ++ zs) pm)).bind fun xs => callM ans f (ioOf (Es ++ Ks)) xs)) := by
  refine ⟨fun pins s σ H Q I h => ?_⟩
  refine wpAny_Call_Name_kw (ld_glob I hg hm ?_ hdb)
  have hpl' := hpl
  simp only [List.all_cons, Bool.and_eq_true] at hpl
  refine PySem.W.callWith_KW (h₀ := X.base) I.ok.mod.kin hk (kw_all hkw) (thn (ha.run pos pins s σ H _ I (call_rd ok hl hkl h)) fun us s1 ⟨vs, H1, I1, r, q⟩ => ?_) (by rw [star_any hpl', kw_any hkw]; rfl) (starEach_cons hpl.1)
  refine thn (hz.run pos pins s1 σ H1 _ I1 q) fun ws s2 ⟨zs, H2, I2, rz, l1, l2, ys, p1, q2⟩ => ⟨I2.kIn, ?_⟩
  rw [kw_names]
  exact run_G F hr bf tk I2 r rz l1 l2 p1 q2
theorem se_call0 (F : FnOk X.prog X.w X.K X.mg X.base (L2.CX X.prog X.w) k fa fd ps (spF C (ans f) iop np)) (hr : Room k X.A) (hg : Gl X x) (hm : X.mg x = some (.ref fa)) (hk : PySem.W.keepIn X.K (.ref fa) = true) (bf : BF X.K fd ps 0 (kwNames kws) pm) (tk : Takes X W)
    (ok : okPm iop Ks pm = true) (hl : pm.length = np) (hdb : (x == ("__debug__" : Str)) = false) (hkw : kws.all (·.arg.isSome) = true) (hkl : Ks.length = (kwNames kws).length) (hz : PK X kws (gM C A W (ρA C Ks) mk)) :
    PE X (.Call (.Name x p) [] kws pos) (gM C A W (ρV C) ((M.pure []).bind fun ws => mk.bind fun zs => (M.opt (pmD (ws ++ zs) pm)).bind fun xs => callM ans f (ioOf ([] ++ Ks)) xs)) := by
  refine ⟨fun pins s σ H Q I h => ?_⟩
  refine wpAny_Call_Name_kw (ld_glob I hg hm ?_ hdb)
  have h := call_rd (Es := []) (kws := kws) ok hl hkl h
  obtain ⟨F0, S0, r0, h0⟩ := h
  have q := gAt.pure (w := ⟨σ, F0, H, S0⟩) (ρ1 := ρA C []) (b := []) h0 r0 trivial
  refine PySem.W.callWith_KW0 (h₀ := X.base) I.ok.mod.kin hk (kw_all hkw) ?_ (by rw [kw_any hkw]; rfl)
  refine thn (hz.run pos pins s σ H _ I q) fun ws s2 ⟨zs, H2, I2, rz, l1, l2, ys, p1, q2⟩ => ⟨I2.kIn, ?_⟩
  rw [kw_names]
  exact run_G (us := []) (vs := []) F hr bf tk I2 .nil rz l1 l2 p1 q2
end
end
/-! ### methods -/
theorem meth_eval {o : PySem.Expr} {name : Str} {apos pos : Pos} {env : Env} {args : List PySem.Expr} {kws : List Keyword} (h1 : methodCallForm (args.length + kws.length) (backTo pos (starEach args env)) (backToKw pos (keywordEach kws env)) = true) (h2 : (apos.endLine == pos.line) = true)
    (hb : attributeBase o name env (eval o env) = eval o env) : eval (.Call (.Attribute o name apos) args kws pos) env = (do
      let ov ← eval o env
      standAt apos.atName
      let (f, first) ← holding [ov] (getMethod ov name (do return (← importBound o env).getD true))
      callWith pos f first (backTo pos (starEach args env)) (backToKw pos (keywordEach kws env))) := by
  show (do
    let ov ← attributeBase o name env (eval o env)
    standAt apos.atName
    methodCall o name apos pos env ov (args.length + kws.length) (backTo pos (starEach args env)) (backToKw pos (keywordEach kws env))) = _
  rw [hb]
  unfold methodCall calleeOf methodCallPos
  rw [h1, h2]
  rfl
theorem form_of {args : List PySem.Expr} {kws : List Keyword} {pos : Pos} {env : Env} (h1 : args.all plainE = true) (h2 : kws.all (·.arg.isSome) = true) (h3 : args.length + kws.length < 29) :
    methodCallForm (args.length + kws.length) (backTo pos (starEach args env)) (backToKw pos (keywordEach kws env)) = true := by
  unfold methodCallForm
  rw [star_all h1, kw_all h2]
  simp only [Bool.true_and, decide_eq_true_eq]
  split <;> omega

section
variable {C : Cxt} {A : Addr} {W : WX'} {X : Cx} {e o : PySem.Expr} {es : List PySem.Expr} {pos apos : Pos} {G : Gam} {m k : Nat} {kws : List Keyword} {Es Ks : List Ex} {pm : List Pm} {mo : M RV} {ms mk : M (List D)}
theorem zip_none {C : Cxt} (inj : ∀ i j, C.nm i = C.nm j → i = j) {m : Nat} : ∀ {ks : List Nat} {vs : List V}, ks.contains m = false → ((ks.map C.nm).zip vs).lookup (C.nm m) = none
  | [], _, _ => rfl
  | k :: ks, [], _ => rfl
  | k :: ks, v :: vs, h => by
    simp only [List.contains_cons, Bool.or_eq_false_iff, beq_eq_false_iff_ne, ne_eq] at h
    simp only [List.map_cons, List.zip_cons_cons, List.lookup_cons]
    have : (C.nm m == C.nm k) = false := by
      simp only [beq_eq_false_iff_ne, ne_eq]
      exact fun z => h.1 (inj _ _ z)
    rw [this]
    exact zip_none inj h.2
theorem methD_some {G : Gam} {m f : Nat} {d : D} (q : methD G m d = some f) : ∃ c ks xs, d = .obj c ks xs ∧ ks.contains m = false ∧ G.meth c m = some f := by
  cases d with
  | obj c ks xs =>
    simp only [methD] at q
    split at q
    · cases q
    · rename_i h
      exact ⟨c, ks, xs, rfl, by simpa using h, q⟩
  | _ => cases q
/-- what is known of a method -/
def MFact (X : Cx) (C : Cxt) (G : Gam) (m k : Nat) (Es Ks : List Ex) (kws : List Keyword) (pm : List Pm) : Prop := ∀ c f, C.okc c → G.meth c m = some f →
  ∃ fa fd ps iop np, FnOk X.prog X.w X.K X.mg X.base (L2.CX X.prog X.w) k fa fd ps (spF C (G.call f) iop np) ∧ Meth X.K (C.cls c) (C.nm m) fa ∧ BF X.K fd ps (Es.length + 1) (kwNames kws) pm ∧ okPm iop (.nil :: (Es ++ Ks)) pm = true ∧ pm.length = np
def methR (G : Gam) (m : Nat) (Es Ks : List Ex) (pm : List Pm) (mo : M RV) (ms mk : M (List D)) : M RV :=
  mo.toD.bind fun x => (M.opt (methD G m x)).bind fun f => ms.bind fun ws => mk.bind fun zs => (M.opt (pmD (x :: (ws ++ zs)) pm)).bind fun xs => callM G.call f (ioOf (.nil :: (Es ++ Ks))) xs
theorem meth_rd {σ : St} {H : Hp} {Q : VK} (hK : X.K = C.K) (cf : CF C) (inj : ∀ i j, C.nm i = C.nm j → i = j) (hM : MFact X C G m k Es Ks kws pm) (hkl : Ks.length = (kwNames kws).length) (h : gM C A W (ρV C) (methR G m Es Ks pm mo ms mk) σ H Q) :
    gM C A W (ρD C) mo.toD σ H (fun x H0 => ∃ a c dx fs fa fd ps sp, x = .ref a ∧ H0 a = some (.ins (C.cls c) dx fs) ∧ fs.lookup (C.nm m) = none ∧ Cls X.K (C.cls c) ∧ Meth X.K (C.cls c) (C.nm m) fa ∧ FnOk X.prog X.w X.K X.mg X.base (L2.CX X.prog X.w) k fa fd ps sp ∧
      BF X.K fd ps (Es.length + 1) (kwNames kws) pm ∧ gM C A W (ρA C Es) ms σ H0 (fun vs H1 => gM C A W (ρA C Ks) mk σ H1 (fun zs H2 => vs.length = Es.length ∧ zs.length = (kwNames kws).length ∧ ∃ ys, pmV (x :: (vs ++ zs)) pm = some ys ∧ sp ys H2 Q (fun cls d H => W cls d σ H)))) := by
  obtain ⟨F0, S0, r0, h0⟩ := h
  refine ⟨F0, S0, r0, (gAt.bind (ρ1 := ρD C) (lifts_V C) h0).imp fun x H1 ⟨F1, S1, d, r1, s1, x1, h1⟩ => ?_⟩
  obtain ⟨f, q, h1⟩ := gAt.bind_opt h1
  obtain ⟨c, ks, xs, rfl, hc, q⟩ := methD_some q
  have x1' : R C F1 (.obj c ks xs) x := x1
  simp only [R] at x1'
  obtain ⟨a, dx, vs0, rfl, k1, k2, k3, k4⟩ := x1'
  obtain ⟨fa, fd, ps, iop, np, f1, f2, f3, f4, f5⟩ := hM c f k4 q
  refine ⟨a, c, dx, _, fa, fd, ps, _, rfl, r1.sub _ _ k1, zip_none inj hc, by rw [hK]; exact cf.cl c k4, f2, f1, f3, F1, S1, r1, (gAt.bind (ρ1 := ρA C Es) (lifts_V C) h1).imp fun vs H2 ⟨F2, S2, ds, r2, s2, x2, h2⟩ => ?_⟩
  refine ⟨F2, S2, r2, (gAt.bind (ρ1 := ρA C Ks) (lifts_V C) h2).imp fun zs H3 ⟨F3, S3, ds2, r3, s3, x3, h3⟩ => ?_⟩
  have y : ArgsR C ⟨σ, F3, H3, S3⟩ (.nil :: (Es ++ Ks)) (.obj c ks xs :: (ds ++ ds2)) (.ref a :: (vs ++ zs)) := ⟨R.mono (s2.ex.trans s3.ex) _ x1, (ArgsR.mono (w := ⟨σ, F2, H2, S2⟩) s3 x2).append x3⟩
  exact ⟨x2.lens.2, x3.lens.2.trans hkl, call_core (Es := .nil :: (Es ++ Ks)) r3 f4 f5 y h3⟩
theorem se_meth (hK : X.K = C.K) (cf : CF C) (inj : ∀ i j, C.nm i = C.nm j → i = j) (hM : MFact X C G m k Es Ks kws pm) (hr : Room k X.A) (tk : Takes X W) (hkl : Ks.length = (kwNames kws).length) (hpl : (e :: es).all plainE = true) (hkw : kws.all (·.arg.isSome) = true) (hlen : (e :: es).length + kws.length < 29)
    (hline : (apos.endLine == pos.line) = true) (hb : attributeBase o (C.nm m) X.env (eval o X.env) = eval o X.env) (he : PE X o (gM C A W (ρV C) mo)) (ha : PA X (e :: es) (gM C A W (ρA C Es) ms)) (hz : PK X kws (gM C A W (ρA C Ks) mk)) :
    PE X (.Call (.Attribute o (C.nm m) apos) (e :: es) kws pos) (gM C A W (ρV C) (methR G m Es Ks pm mo ms mk)) := by
  refine ⟨fun pins s σ H Q I h => ?_⟩
  have hpl' := hpl
  simp only [List.all_cons, Bool.and_eq_true] at hpl
  refine PySem.W.methodCall_KW (thn ((sd_of he).run pins s σ H _ I (meth_rd hK cf inj hM hkl h)) fun u s1 ⟨x, H0, I0, rx, a, c, dx, fs, fa, fd, ps, sp, ex, ea, l, hc, hm, F, bf, q⟩ => ?_) (meth_eval (form_of hpl' hkw hlen) hline hb)
  subst ex
  obtain rfl : u = Value.ref a := rx
  refine getmeth_ok I0 ea hc hm l ?_
  refine PySem.W.callWith_KW (first := [.ref a]) (h₀ := X.base) I.ok.mod.kin hm.kp (kw_all hkw) (thn (ha.run pos pins s1 σ H0 _ I0 q) fun us s2 ⟨vs, H1, I1, r, q1⟩ => ?_) (by rw [star_any hpl', kw_any hkw]; rfl) (starEach_cons hpl.1)
  refine thn (hz.run pos pins s2 σ H1 _ I1 q1) fun ws s3 ⟨zs, H2, I2, rz, l1, l2, ys, p1, q2⟩ => ⟨I2.kIn, ?_⟩
  rw [kw_names]
  exact run_G (us := .ref a :: us) (vs := .ref a :: vs) F hr bf tk I2 (.cons rfl r) rz (by simp [l1]) l2 p1 q2
theorem se_meth0 (hK : X.K = C.K) (cf : CF C) (inj : ∀ i j, C.nm i = C.nm j → i = j) (hM : MFact X C G m k [] Ks kws pm) (hr : Room k X.A) (tk : Takes X W) (hkl : Ks.length = (kwNames kws).length) (hkw : kws.all (·.arg.isSome) = true) (hlen : kws.length < 29)
    (hline : (apos.endLine == pos.line) = true) (hb : attributeBase o (C.nm m) X.env (eval o X.env) = eval o X.env) (he : PE X o (gM C A W (ρV C) mo)) (hz : PK X kws (gM C A W (ρA C Ks) mk)) :
    PE X (.Call (.Attribute o (C.nm m) apos) [] kws pos) (gM C A W (ρV C) (methR G m [] Ks pm mo (M.pure []) mk)) := by
  refine ⟨fun pins s σ H Q I h => ?_⟩
  refine PySem.W.methodCall_KW (thn ((sd_of he).run pins s σ H _ I (meth_rd hK cf inj hM hkl h)) fun u s1 ⟨x, H0, I0, rx, a, c, dx, fs, fa, fd, ps, sp, ex, ea, l, hc, hm, F, bf, q⟩ => ?_) (meth_eval (form_of rfl hkw (by simpa using hlen)) hline hb)
  subst ex
  obtain rfl : u = Value.ref a := rx
  refine getmeth_ok I0 ea hc hm l ?_
  obtain ⟨F1, S1, r1, q1⟩ := q
  have q2 := gAt.pure (w := ⟨σ, F1, H0, S1⟩) (ρ1 := ρA C []) (b := []) q1 r1 trivial
  refine PySem.W.callWith_KW0 (first := [.ref a]) (h₀ := X.base) I.ok.mod.kin hm.kp (kw_all hkw) ?_ (by rw [kw_any hkw]; rfl)
  refine thn (hz.run pos pins s1 σ H0 _ I0 q2) fun ws s3 ⟨zs, H2, I2, rz, l1, l2, ys, p1, q3⟩ => ⟨I2.kIn, ?_⟩
  rw [kw_names]
  exact run_G (us := [.ref a]) (vs := [.ref a]) F hr bf tk I2 (.cons rfl .nil) rz (by simp) l2 p1 q3
end
end Pl
set_option Elab.async false
set_option linter.all false
set_option maxRecDepth 100000
/-! Pl: new instances. -/
namespace Pl
open PySem L2
section
variable {C : Cxt} {A : Addr} {W : WX'} {X : Cx} {e o : PySem.Expr} {es : List PySem.Expr} {pos apos : Pos} {G : Gam} {m k n : Nat} {kws : List Keyword} {Es Ks : List Ex} {pm : List Pm} {mo : M RV} {ms mk : M (List D)}
theorem make_core {ans : Nat → List D → CRes} {c np : Nat} {w : Wd} {ds : List D} {vs : List V} {Q : VK} (r : Rel C A w) (okc : C.okc c) (ok : okPm none Es pm = true) (hl : pm.length = np) (ha : ArgsR C w Es ds vs) (hans : ∀ xs rv out, ans c xs = .ok rv out → out = none ∧ ∃ ks ys, rv = .val (.obj c ks ys))
    (h : gAt C A W (ρV C) ((M.opt (pmD ds pm)).bind fun xs => makeM ans c xs) w Q) :
    ∃ ys, pmV vs pm = some ys ∧ ∀ x dx, w.H x = none → w.H dx = none → dx ≠ x → spI C c (ans c) np (.ref x :: ys) (upd (upd w.H dx (.own x)) x (.ins (C.cls c) dx [])) (fun v H2 => v = .non ∧ Q (.ref x) H2) (fun cls d H => W cls d w.σ H) := by
  obtain ⟨xs, hp, h⟩ := gAt.bind_opt h
  have ok' := ok
  unfold okPm at ok'
  simp only [Bool.and_eq_true, Option.isNone_iff_eq_none] at ok'
  have h' : gAt C A W (ρV C) ((ioS (ioOf Es)).bind fun _ => makeM ans c xs) w Q := by rw [ok'.2.1]; exact h
  obtain ⟨ys, A', io, q1, q2, q3, _, q4⟩ := fin_of r ok ha hp h'
  refine ⟨ys, q1, fun x dx hx hdx ne => ?_⟩
  rcases q4 with ⟨_, rfl, _⟩ | ⟨p, i, us, e, _⟩
  · have up : ∀ a u, w.H a = some u → upd (upd w.H dx (.own x)) x (.ins (C.cls c) dx []) a = some u := fun a u e => by
      rw [upd_ne (ne_of_none e hx), upd_ne (ne_of_none e hdx)]; exact e
    have dn : ∀ a, upd (upd w.H dx (.own x)) x (.ins (C.cls c) dx []) a = none → w.H a = none := fun a e => by
      cases q : w.H a with
      | none => rfl
      | some u => rw [up a u q] at e; cases e
    have back : ∀ {F' H' : Hp}, FHp C w.F (upd (upd w.H dx (.own x)) x (.ins (C.cls c) dx [])) (fun a => a = x) F' H' → FHp C w.F w.H (fun _ => False) F' H' := fun {F' H'} hf =>
      ⟨hf.ex, hf.sub, fun a u e _ => hf.keep a u (up a u e) (ne_of_none e hx), fun a h1 h2 => hf.frz a (fun z => h1 (dn a z)) h2, fun a h1 => hf.dom a (fun z => h1 (dn a z))⟩
    refine ⟨by simp [q2, hl], w.F, x, dx, xs, ys, rfl, ⟨fun a u e => up a u (r.sub a u e), q3.len, q3.arg, trivial⟩, r.sub.none hx, r.sub.none hdx, upd_same, okc, ?_⟩
    cases e : ans c xs with
    | bad => unfold makeM at h; rw [e] at h; exact h.elim
    | ex k d =>
      unfold makeM at h
      rw [e] at h
      intro cls dx' F' H' hf hx'
      obtain ⟨r1, s1⟩ := call_world r (back hf)
      refine h F' H' cls dx' r1 s1 ⟨hx'.1, ?_⟩
      have z := hx'.2
      cases d with
      | none => exact z
      | some d =>
        obtain ⟨a, v, f, z1, z2, z3, z4⟩ := z
        exact ⟨a, v, f, z1, z2, z3, dn a z4⟩
    | ok rv out =>
      obtain ⟨rfl, ks, zs, rfl⟩ := hans xs rv out e
      unfold makeM at h
      rw [e] at h
      refine ⟨rfl, fun F' H' ws dx' hf hx' hr hk => ⟨rfl, ?_⟩⟩
      have hb := back hf
      have Fx : F' x = none := hf.frz x (by rw [upd_same]; exact fun z => nomatch z) (r.sub.none hx)
      have hf2 : FHp C w.F w.H (fun _ => False) (upd F' x (.ins (C.cls c) dx' ((ks.map C.nm).zip ws))) H' := by
        refine ⟨hb.ex.trans (Sub.new Fx), fun a u e => ?_, hb.keep, fun a h1 h2 => ?_, hb.dom⟩
        · by_cases q : a = x
          · subst q; rw [upd_same] at e; cases e; exact hx'
          · rw [upd_ne q] at e; exact hf.sub a u e
        · rw [upd_ne (fun z => h1 (by rw [z]; exact hx))]
          exact hb.frz a h1 h2
      obtain ⟨r1, s1⟩ := call_world r hf2
      refine h (.ref x) _ H' r1 s1 ?_
      show R C _ (.obj c ks zs) (.ref x)
      simp only [R]
      exact ⟨x, dx', ws, rfl, upd_same, Rs.mono (Sub.new Fx) zs hr, hk, okc⟩
  · cases e
theorem run_makeG {fa Ca : Addr} {fd : FuncData} {ps ks : List Str} {sp : Sp} {pins : List (Addr × Obj)} {σ : St} {H : Hp} {s : Shared} {Q : VK} {us ws : List Value} {vs zs ys : List V} (M : Mk X.K Ca fa) (F : FnOk X.prog X.w X.K X.mg X.base (L2.CX X.prog X.w) k fa fd ps sp)
    (hr : Room (k + 1) X.A) (bi : BI X.K fd ps n ks pm) (tk : Takes X W) (I : Inv X pins σ H s) (r : Vals vs us) (rz : Vals zs ws) (hn : vs.length = n) (hk : zs.length = ks.length) (hp : pmV (vs ++ zs) pm = some ys)
    (h : ∀ x dx, H x = none → H dx = none → dx ≠ x → sp (.ref x :: ys) (upd (upd H dx (.own x)) x (.ins Ca dx [])) (fun v H2 => v = .non ∧ Q (.ref x) H2) (fun cls d H => W cls d σ H)) :
    wpAny (model X.prog X.w) X.A (call (.ref Ca) us (ks.zip ws)) (EP X pins σ Q) X.xe s := by
  have hq := h (s.heap.objs.size + 1) s.heap.objs.size (I.hok.fresh (Nat.le_succ _)) (I.hok.fresh (Nat.le_refl _)) (Nat.ne_of_lt (Nat.lt_succ_self _))
  have I2 := Inv.made (C := Ca) I
  obtain ⟨us', b, r2⟩ := bi _ (Value.ref (s.heap.objs.size + 1)) us ws (vs ++ zs) ys I2.kIn (by rw [← r.length]; exact hn) (by rw [← rz.length]; exact hk) (r.append rz) hp
  have r3 : Vals (V.ref (s.heap.objs.size + 1) :: ys) (Value.ref (s.heap.objs.size + 1) :: us') := .cons rfl r2
  refine wpAny_call (make_map (f := fa) I.kIn M.makes M.init (beq_iff_eq.mp M.fn) (codeAny_mono (F.run _ X.stack _ _ ⟨Value.ref (s.heap.objs.size + 1) :: us, ks.zip ws⟩ (Value.ref (s.heap.objs.size + 1) :: us') _ _ _ (hr.make Ca us (ks.zip ws))
    (I2.env0.make Ca us (ks.zip ws)) b r3 hq) fun r s' hq' => ?_))
  cases r with
  | error e => exact passAt tk σ pins _ _ e s' I2 hq'
  | ok fl =>
    cases fl with
    | ret u =>
      obtain ⟨v, H', I3, rv, ev, q3⟩ := I2.after hq'
      subst ev
      exact ⟨rv, ⟨V.ref (s.heap.objs.size + 1), H', I3, rfl, q3⟩⟩
    | next => exact False.elim hq'
    | brk => exact False.elim hq'
    | cont => exact False.elim hq'
section
variable {ans : Nat → List D → CRes} {c np : Nat} {fa : Addr} {fd : FuncData} {ps : List Str} {x : Str} {p : Pos}
theorem make_rd {σ : St} {H : Hp} {Q : VK} (okc : C.okc c) (ok : okPm none (Es ++ Ks) pm = true) (hl : pm.length = np) (hkl : Ks.length = (kwNames kws).length) (hans : ∀ xs rv out, ans c xs = .ok rv out → out = none ∧ ∃ ks ys, rv = .val (.obj c ks ys))
    (h : gM C A W (ρV C) (ms.bind fun ws => mk.bind fun zs => (M.opt (pmD (ws ++ zs) pm)).bind fun xs => makeM ans c xs) σ H Q) :
    gM C A W (ρA C Es) ms σ H (fun vs H1 => gM C A W (ρA C Ks) mk σ H1 (fun zs H2 => vs.length = Es.length ∧ zs.length = (kwNames kws).length ∧ ∃ ys, pmV (vs ++ zs) pm = some ys ∧ ∀ x dx, H2 x = none → H2 dx = none → dx ≠ x →
      spI C c (ans c) np (.ref x :: ys) (upd (upd H2 dx (.own x)) x (.ins (C.cls c) dx [])) (fun v H3 => v = .non ∧ Q (.ref x) H3) (fun cls d H => W cls d σ H))) := by
  obtain ⟨F0, S0, r0, h0⟩ := h
  exact ⟨F0, S0, r0, (gAt.bind (ρ1 := ρA C Es) (lifts_V C) h0).imp fun vs H1 ⟨F1, S1, ds, r1, s1, x1, h1⟩ => ⟨F1, S1, r1, (gAt.bind (ρ1 := ρA C Ks) (lifts_V C) h1).imp fun zs H2 ⟨F2, S2, ds2, r2, s2, x2, h2⟩ =>
      ⟨x1.lens.2, x2.lens.2.trans hkl, make_core (Es := Es ++ Ks) r2 okc ok hl ((ArgsR.mono (w := ⟨σ, F1, H1, S1⟩) s2 x1).append x2) hans h2⟩⟩⟩
theorem se_make (Mf : Mk X.K (C.cls c) fa) (F : FnOk X.prog X.w X.K X.mg X.base (L2.CX X.prog X.w) k fa fd ps (spI C c (ans c) np)) (hr : Room (k + 1) X.A) (hg : Gl X x) (hm : X.mg x = some (.ref (C.cls c))) (bi : BI X.K fd ps Es.length (kwNames kws) pm) (tk : Takes X W)
    (okc : C.okc c) (ok : okPm none (Es ++ Ks) pm = true) (hl : pm.length = np) (hans : ∀ xs rv out, ans c xs = .ok rv out → out = none ∧ ∃ ks ys, rv = .val (.obj c ks ys)) (hdb : (x == ("__debug__" : Str)) = false) (hpl : (e :: es).all plainE = true) (hkw : kws.all (·.arg.isSome) = true) (hkl : Ks.length = (kwNames kws).length)
    (ha : PA X (e :: es) (gM C A W (ρA C Es) ms)) (hz : PK X kws (gM C A W (ρA C Ks) mk)) :
    PE X (.Call (.Name x p) (e :: es) kws pos) (gM C A W (ρV C) (ms.bind fun ws => mk.bind fun zs => (M.opt (pmD (ws ++ zs) pm)).bind fun xs => makeM ans c xs)) := by
  refine ⟨fun pins s σ H Q I h => ?_⟩
  refine wpAny_Call_Name_kw (ld_glob I hg hm ?_ hdb)
  have hpl' := hpl
  simp only [List.all_cons, Bool.and_eq_true] at hpl
  refine PySem.W.callWith_KW (h₀ := X.base) I.ok.mod.kin Mf.kp (kw_all hkw) (thn (ha.run pos pins s σ H _ I (make_rd okc ok hl hkl hans h)) fun us s1 ⟨vs, H1, I1, r, q⟩ => ?_) (by rw [star_any hpl', kw_any hkw]; rfl) (starEach_cons hpl.1)
  refine thn (hz.run pos pins s1 σ H1 _ I1 q) fun ws s2 ⟨zs, H2, I2, rz, l1, l2, ys, p1, q2⟩ => ⟨I2.kIn, ?_⟩
  rw [kw_names]
  exact run_makeG Mf F hr bi tk I2 r rz l1 l2 p1 q2
theorem se_make0 (Mf : Mk X.K (C.cls c) fa) (F : FnOk X.prog X.w X.K X.mg X.base (L2.CX X.prog X.w) k fa fd ps (spI C c (ans c) np)) (hr : Room (k + 1) X.A) (hg : Gl X x) (hm : X.mg x = some (.ref (C.cls c))) (bi : BI X.K fd ps 0 (kwNames kws) pm) (tk : Takes X W)
    (okc : C.okc c) (ok : okPm none Ks pm = true) (hl : pm.length = np) (hans : ∀ xs rv out, ans c xs = .ok rv out → out = none ∧ ∃ ks ys, rv = .val (.obj c ks ys)) (hdb : (x == ("__debug__" : Str)) = false) (hkw : kws.all (·.arg.isSome) = true) (hkl : Ks.length = (kwNames kws).length)
    (hz : PK X kws (gM C A W (ρA C Ks) mk)) :
    PE X (.Call (.Name x p) [] kws pos) (gM C A W (ρV C) ((M.pure []).bind fun ws => mk.bind fun zs => (M.opt (pmD (ws ++ zs) pm)).bind fun xs => makeM ans c xs)) := by
  refine ⟨fun pins s σ H Q I h => ?_⟩
  refine wpAny_Call_Name_kw (ld_glob I hg hm ?_ hdb)
  have h := make_rd (Es := []) (kws := kws) okc ok hl hkl hans h
  obtain ⟨F0, S0, r0, h0⟩ := h
  have q := gAt.pure (w := ⟨σ, F0, H, S0⟩) (ρ1 := ρA C []) (b := []) h0 r0 trivial
  refine PySem.W.callWith_KW0 (h₀ := X.base) I.ok.mod.kin Mf.kp (kw_all hkw) ?_ (by rw [kw_any hkw]; rfl)
  refine thn (hz.run pos pins s σ H _ I q) fun ws s2 ⟨zs, H2, I2, rz, l1, l2, ys, p1, q2⟩ => ⟨I2.kIn, ?_⟩
  rw [kw_names]
  exact run_makeG (us := []) (vs := []) Mf F hr bi tk I2 .nil rz l1 l2 p1 q2
end
end
end Pl
set_option Elab.async false
set_option linter.all false
set_option maxRecDepth 100000
/-! Pl: what loops walk. -/
namespace Pl
open PySem L2
/-- J walks the data xs, from w on -/
structure Walks (C : Cxt) (A : Addr) (w : Wd) (J : It) (xs : List D) : Prop where
  go : ∀ i w', Rel C A w' → Sub w.F w'.F → i < xs.length → J.go i w'.H
  stop : ∀ i w', Rel C A w' → Sub w.F w'.F → xs.length ≤ i → J.stop i w'.H
  yld : ∀ i w' x H' d, Rel C A w' → Sub w.F w'.F → xs[i]? = some d → J.yld i w'.H x H' → ∃ F', Rel C A ⟨w'.σ, F', H', w'.S⟩ ∧ Step w' ⟨w'.σ, F', H', w'.S⟩ ∧ R C F' d x
def ρW (C : Cxt) (A : Addr) : Wd → Wd → List D → It → Prop := fun _ w' xs J => Walks C A w' J xs
theorem lifts_W (C : Cxt) (A : Addr) : Lifts (ρW C A) := fun _ _ _ _ _ _ h => h
section
variable {C : Cxt} {A : Addr} {W : WX'} {X : Cx} {e a b c tg : PySem.Expr} {es : List PySem.Expr} {pos : Pos} {w : Wd}
theorem walk_t {K : PySem.W.Frag} {p : Addr} {xs : List D} {vs : List V} (h : ∀ w', Rel C A w' → Sub w.F w'.F → SqT K w'.H p vs) (hx : Rs C w.F xs vs) : Walks C A w (Itt K p) xs := by
  refine ⟨fun i w' r s hi => ?_, fun i w' r s hi => ?_, fun i w' x H' d r s e y => ?_⟩
  · have hl := hx.length
    exact ⟨vs, vs[i]'(by omega), h w' r s, List.getElem?_eq_getElem (by omega)⟩
  · exact ⟨vs, h w' r s, by rw [← hx.length]; exact hi⟩
  · obtain ⟨rfl, y⟩ := y
    have e2 := y vs (h w' r s)
    obtain ⟨v, q1, q2⟩ := (Rs.mono s xs hx).get e
    rw [e2] at q1
    cases q1
    exact ⟨w'.F, r, Step.refl _, q2⟩
theorem walk_s {K : PySem.W.Frag} {p : Addr} {xs : List D} {vs : List V} (h : ∀ w', Rel C A w' → Sub w.F w'.F → SqL K w'.H p vs) (hx : Rs C w.F xs vs) : Walks C A w (Itl K p) xs := by
  refine ⟨fun i w' r s hi => ?_, fun i w' r s hi => ?_, fun i w' x H' d r s e y => ?_⟩
  · have hl := hx.length
    exact ⟨vs, vs[i]'(by omega), h w' r s, List.getElem?_eq_getElem (by omega)⟩
  · exact ⟨vs, h w' r s, by rw [← hx.length]; exact hi⟩
  · obtain ⟨rfl, y⟩ := y
    have e2 := y vs (h w' r s)
    obtain ⟨v, q1, q2⟩ := (Rs.mono s xs hx).get e
    rw [e2] at q1
    cases q1
    exact ⟨w'.F, r, Step.refl _, q2⟩
theorem irng_get {lo : Int} {n i : Nat} {d : D} (h : (irng lo n)[i]? = some d) : i < n ∧ d = .int (lo + i) := by
  unfold irng at h
  rw [List.getElem?_map] at h
  by_cases q : i < n
  · rw [List.getElem?_range q] at h
    simp only [Option.map_some, Option.some.injEq] at h
    exact ⟨q, h.symm⟩
  · rw [List.getElem?_eq_none (by simp; omega)] at h
    cases h
theorem irng_len {lo : Int} {n : Nat} : (irng lo n).length = n := by unfold irng; simp
theorem walk_r {lo : Int} {n : Nat} : Walks C A w (Itr lo n) (irng lo n) := by
  refine ⟨fun i w' r s hi => ?_, fun i w' r s hi => ?_, fun i w' x H' d r s e y => ?_⟩
  · rw [irng_len] at hi; exact hi
  · rw [irng_len] at hi; exact hi
  · obtain ⟨rfl, rfl⟩ := y
    obtain ⟨_, rfl⟩ := irng_get e
    exact ⟨w'.F, r, Step.refl _, by simp only [R]⟩
theorem enum_get : ∀ {xs : List D} {n i : Nat} {d : D}, (enumD n xs)[i]? = some d → ∃ x, xs[i]? = some x ∧ d = .tup [.int ((n + i : Nat) : Int), x]
  | [], n, i, d, h => by simp [enumD] at h
  | x :: xs, n, 0, d, h => by
    simp only [enumD, List.getElem?_cons_zero, Option.some.injEq] at h
    exact ⟨x, rfl, h.symm⟩
  | x :: xs, n, i + 1, d, h => by
    simp only [enumD, List.getElem?_cons_succ] at h
    obtain ⟨y, h1, h2⟩ := enum_get h
    exact ⟨y, by simpa using h1, by rw [h2, show n + 1 + i = n + (i + 1) by omega]⟩
theorem enum_len : ∀ {xs : List D} {n : Nat}, (enumD n xs).length = xs.length
  | [], n => rfl
  | x :: xs, n => by simp [enumD, enum_len]
/-- a new tuple that is data -/
theorem tup_new {w' : Wd} {T : Addr} {vs : List V} {ds : List D} (r : Rel C A w') (hT : w'.H T = none) (hx : Rs C w'.F ds vs) : ∃ F', Rel C A ⟨w'.σ, F', upd w'.H T (.tup vs), w'.S⟩ ∧ Step w' ⟨w'.σ, F', upd w'.H T (.tup vs), w'.S⟩ ∧ R C F' (.tup ds) (.ref T) := by
  have hf := r.sub.none hT
  have no : ¬ w'.Own T := fun o => (r.own_none o).2 hT
  refine ⟨upd w'.F T (.tup vs), Rel.frz (w := ⟨w'.σ, w'.F, upd w'.H T (.tup vs), w'.S⟩) (r.lay hT) hf upd_same no, Step.data (w := ⟨w'.σ, w'.F, upd w'.H T (.tup vs), w'.S⟩) (o := .tup vs) (Step.lay hT) hf (.inl hT), ?_⟩
  simp only [R]
  exact ⟨T, vs, rfl, SqT.of upd_same, Rs.mono (Sub.new hf) ds hx⟩
theorem walk_e {K : PySem.W.Frag} {p : Addr} {xs : List D} {vs : List V} (h : ∀ w', Rel C A w' → Sub w.F w'.F → SqL K w'.H p vs) (hx : Rs C w.F xs vs) : Walks C A w (Ite K p) (enumD 0 xs) := by
  refine ⟨fun i w' r s hi => ?_, fun i w' r s hi => ?_, fun i w' x H' d r s e y => ?_⟩
  · rw [enum_len] at hi
    have hl := hx.length
    exact ⟨vs, vs[i]'(by omega), h w' r s, List.getElem?_eq_getElem (by omega)⟩
  · rw [enum_len] at hi
    exact ⟨vs, h w' r s, by rw [← hx.length]; exact hi⟩
  · obtain ⟨T, x0, rfl, hT, rfl, y⟩ := y
    obtain ⟨dx, e1, rfl⟩ := enum_get e
    have e2 := y vs (h w' r s)
    obtain ⟨v, q1, q2⟩ := (Rs.mono s xs hx).get e1
    rw [e2] at q1
    cases q1
    rw [Nat.zero_add]
    exact tup_new r hT (Rs.cons (by simp only [R]) (Rs.cons q2 Rs.nil))
theorem walk_z {K : PySem.W.Frag} {p q : Addr} {xs ys : List D} {vs us : List V} (h : ∀ w', Rel C A w' → Sub w.F w'.F → SqL K w'.H p vs ∧ SqL K w'.H q us) (hx : Rs C w.F xs vs) (hy : Rs C w.F ys us) : Walks C A w (Itz K p q) ((xs.zip ys).map fun p => .tup [p.1, p.2]) := by
  have l1 := hx.length
  have l2 := hy.length
  refine ⟨fun i w' r s hi => ?_, fun i w' r s hi => ?_, fun i w' x H' d r s e y => ?_⟩
  · simp only [List.length_map, List.length_zip] at hi
    exact ⟨vs, us, vs[i]'(by omega), us[i]'(by omega), (h w' r s).1, (h w' r s).2, List.getElem?_eq_getElem (by omega), List.getElem?_eq_getElem (by omega)⟩
  · simp only [List.length_map, List.length_zip] at hi
    exact ⟨vs, us, (h w' r s).1, (h w' r s).2, by omega⟩
  · obtain ⟨T, x0, y0, rfl, hT, rfl, y1, y2⟩ := y
    rw [List.getElem?_map] at e
    cases e0 : (xs.zip ys)[i]? with
    | none => rw [e0] at e; cases e
    | some pr =>
      rw [e0] at e
      simp only [Option.map_some, Option.some.injEq] at e
      subst e
      obtain ⟨e3, e4⟩ := List.getElem?_zip_eq_some.mp e0
      obtain ⟨v, q1, q2⟩ := (Rs.mono s xs hx).get e3
      obtain ⟨u, q3, q4⟩ := (Rs.mono s ys hy).get e4
      rw [y1 vs (h w' r s).1] at q1
      rw [y2 us (h w' r s).2] at q3
      cases q1
      cases q3
      exact tup_new r hT (Rs.cons q2 (Rs.cons q4 Rs.nil))
/-! ### iterables -/
theorem sw_seq {m : M RV} (hK : X.K = C.K) (he : PE X e (gM C A W (ρV C) m)) : PI X tg e (gM C A W (ρW C A) (m.toD.bind fun d => M.opt (items d))) := by
  refine ⟨fun pins s σ H Q I h => ?_⟩
  obtain ⟨F, S, r, h⟩ := h
  have h' := h
  unfold gAt M.toD M.bind at h'
  simp only at h'
  cases em : m S with
  | bad => rw [em] at h'; exact h'.elim
  | ex c d S1 =>
    rw [em] at h'
    refine (pi_list he).run pins s σ H Q I ⟨F, S, r, ?_⟩
    unfold gAt
    simp only [em]
    exact h'
  | ok rv S1 =>
    rw [em] at h'
    simp only [M.pure] at h'
    cases ed : rv.d with
    | tup xs =>
      refine (pi_tup he).run pins s σ H Q I ⟨F, S, r, ?_⟩
      unfold gAt
      simp only [em]
      intro v F1 H1 r1 s1 x1
      obtain ⟨F2, r2, s2, x2⟩ := RVR.data r1 s1 x1
      rw [ed] at x2 h'
      simp only [R] at x2
      obtain ⟨p, vs, rfl, k1, k2⟩ := x2
      refine ⟨p, rfl, ⟨vs, by rw [hK]; exact r2.sub.t k1⟩, ?_⟩
      exact h' (Itt X.K p) F2 H1 r2 s2 (walk_t (vs := vs) (fun w' r' s' => by rw [hK]; exact r'.sub.t (s'.t k1)) k2)
    | lst xs =>
      refine (pi_list he).run pins s σ H Q I ⟨F, S, r, ?_⟩
      unfold gAt
      simp only [em]
      intro v F1 H1 r1 s1 x1
      obtain ⟨F2, r2, s2, x2⟩ := RVR.data r1 s1 x1
      rw [ed] at x2 h'
      simp only [R] at x2
      obtain ⟨p, vs, rfl, k1, k2⟩ := x2
      refine ⟨p, rfl, ⟨vs, SqL.of (r2.sub _ _ k1)⟩, ?_⟩
      exact h' (Itl X.K p) F2 H1 r2 s2 (walk_s (vs := vs) (fun w' r' s' => SqL.of (r'.sub _ _ (s' _ _ k1))) k2)
    | scr ns =>
      refine (pi_list he).run pins s σ H Q I ⟨F, S, r, ?_⟩
      unfold gAt
      simp only [em]
      intro v F1 H1 r1 s1 x1
      obtain ⟨F2, r2, s2, x2⟩ := RVR.data r1 s1 x1
      rw [ed] at x2 h'
      simp only [R] at x2
      obtain ⟨p, rfl, k1⟩ := x2
      refine ⟨p, rfl, ⟨_, by rw [hK]; exact r2.sub.l k1⟩, ?_⟩
      exact h' (Itl X.K p) F2 H1 r2 s2 (walk_s (vs := ns.map V.int) (fun w' r' s' => by rw [hK]; exact r'.sub.l (s'.l k1)) (Rs.ints_map ns))
    | non => rw [ed] at h'; exact h'.elim
    | bl _ => rw [ed] at h'; exact h'.elim
    | int _ => rw [ed] at h'; exact h'.elim
    | str _ => rw [ed] at h'; exact h'.elim
    | obj _ _ _ => rw [ed] at h'; exact h'.elim
    | fn _ => rw [ed] at h'; exact h'.elim
    | dct => rw [ed] at h'; exact h'.elim
theorem rng_ok {a b : Int} {xs : List D} (h : rngD a b = some xs) : xs = irng a (b - a).toNat ∧ -(2 ^ 62) ≤ a ∧ a < 2 ^ 62 ∧ -(2 ^ 62) ≤ b ∧ b < 2 ^ 62 := by
  unfold rngD rngOk at h
  split at h
  · rename_i k
    simp only [decide_eq_true_eq] at k
    cases h
    exact ⟨rfl, by omega, by omega, by omega, by omega⟩
  · cases h
theorem sw_rng1 {p : Pos} {ms : M (List D)} (hg : Gl X "range") (hm : X.mg "range" = none) (ha : PA X [a] (gM C A W (ρDs C) ms)) (hp : plainE a = true) : PI X tg (.Call (.Name "range" p) [a] [] pos) (gM C A W (ρW C A) (ms.bind fun ds => M.opt (walkD .rng1 ds))) := by
  have k := pi_range1 (X := X) (tg := tg) (p := p) (pos := pos) hg hm ha (starEach_cons hp)
  refine ⟨fun pins s σ H Q I ⟨F, S, r, h⟩ => k.run pins s σ H Q I ⟨F, S, r, (gAt.bind (ρ1 := ρDs C) (lifts_W C A) h).imp fun vs H1 ⟨F1, S1, ds, r1, s1, x1, h1⟩ => ?_⟩⟩
  obtain ⟨xs, e1, h2⟩ := gAt.opt h1
  match ds, e1 with
  | [.int j], e1 =>
    have x1 : Rs C F1 [.int j] vs := x1
    simp only [Rs, R] at x1
    obtain ⟨v, r', rfl, rfl, rfl⟩ := x1
    obtain ⟨rfl, b1, b2, b3, b4⟩ := rng_ok e1
    refine ⟨j, rfl, b3, b4, ?_⟩
    rw [Int.sub_zero] at h2
    exact h2 _ F1 H1 r1 (Step.refl _) walk_r
theorem sw_rng2 {p : Pos} {ms : M (List D)} (hg : Gl X "range") (hm : X.mg "range" = none) (ha : PA X [a, b] (gM C A W (ρDs C) ms)) (hp : plainE a = true) (hq : plainE b = true) :
    PI X tg (.Call (.Name "range" p) [a, b] [] pos) (gM C A W (ρW C A) (ms.bind fun ds => M.opt (walkD .rng2 ds))) := by
  have k := pi_range2 (X := X) (tg := tg) (p := p) (pos := pos) hg hm ha (by rw [starEach_cons hp, starEach_cons hq]; rfl) (by rw [starEach_cons hq]; rfl)
  refine ⟨fun pins s σ H Q I ⟨F, S, r, h⟩ => k.run pins s σ H Q I ⟨F, S, r, (gAt.bind (ρ1 := ρDs C) (lifts_W C A) h).imp fun vs H1 ⟨F1, S1, ds, r1, s1, x1, h1⟩ => ?_⟩⟩
  obtain ⟨xs, e1, h2⟩ := gAt.opt h1
  match ds, e1 with
  | [.int i, .int j], e1 =>
    have x1 : Rs C F1 [.int i, .int j] vs := x1
    simp only [Rs, R] at x1
    obtain ⟨v, r', rfl, rfl, u, r'', rfl, rfl, rfl⟩ := x1
    obtain ⟨rfl, b1, b2, b3, b4⟩ := rng_ok e1
    exact ⟨i, j, rfl, ⟨b1, b2, b3, b4⟩, h2 _ F1 H1 r1 (Step.refl _) walk_r⟩
theorem sw_enum {p tpos : Pos} {elts : List PySem.Expr} {kk : Nat} {ms : M (List D)} (hK : X.K = C.K) (hg : Gl X "enumerate") (hm : X.mg "enumerate" = none) (ha : PA X [a] (gM C A W (ρDs C) ms)) (hp : plainE a = true) :
    PI X (.Tuple elts kk tpos) (.Call (.Name "enumerate" p) [a] [] pos) (gM C A W (ρW C A) (ms.bind fun ds => M.opt (walkD .enum ds))) := by
  have k := pi_enum (X := X) (elts := elts) (kk := kk) (tpos := tpos) (p := p) (pos := pos) hg hm ha (starEach_cons hp)
  refine ⟨fun pins s σ H Q I ⟨F, S, r, h⟩ => k.run pins s σ H Q I ⟨F, S, r, (gAt.bind (ρ1 := ρDs C) (lifts_W C A) h).imp fun vs H1 ⟨F1, S1, ds, r1, s1, x1, h1⟩ => ?_⟩⟩
  obtain ⟨xs, e1, h2⟩ := gAt.opt h1
  match ds, e1 with
  | [.lst ys], e1 =>
    cases e1
    have x1 : Rs C F1 [.lst ys] vs := x1
    simp only [Rs, R] at x1
    obtain ⟨v, r', rfl, ⟨q, us, rfl, k1, k2⟩, rfl⟩ := x1
    refine ⟨q, us, rfl, SqL.of (r1.sub _ _ k1), h2 _ F1 H1 r1 (Step.refl _) (walk_e (vs := us) (fun w' r' s' => SqL.of (r'.sub _ _ (s' _ _ k1))) k2)⟩
theorem zip_args {ds xs : List D} (e : walkD .zip ds = some xs) : ∃ ys zs, ds = [.lst ys, .lst zs] := by
  match ds, e with
  | [], e => cases e
  | [a], e => cases a <;> cases e
  | [a, b], e => cases a <;> cases b <;> first | (cases e; done) | exact ⟨_, _, rfl⟩
  | a :: b :: c :: d, e => cases a <;> cases b <;> cases e
theorem sw_zip {p tpos : Pos} {elts : List PySem.Expr} {kk : Nat} {ms : M (List D)} (hK : X.K = C.K) (hg : Gl X "zip") (hm : X.mg "zip" = none) (ha : PA X [a, b] (gM C A W (ρDs C) ms)) (hp : plainE a = true) (hq : plainE b = true) :
    PI X (.Tuple elts kk tpos) (.Call (.Name "zip" p) [a, b] [] pos) (gM C A W (ρW C A) (ms.bind fun ds => M.opt (walkD .zip ds))) := by
  have k := pi_zip (X := X) (elts := elts) (kk := kk) (tpos := tpos) (p := p) (pos := pos) hg hm ha (starEach_cons hp) (by rw [starEach_cons hq]; rfl)
  refine ⟨fun pins s σ H Q I ⟨F, S, r, h⟩ => k.run pins s σ H Q I ⟨F, S, r, (gAt.bind (ρ1 := ρDs C) (lifts_W C A) h).imp fun vs H1 ⟨F1, S1, ds, r1, s1, x1, h1⟩ => ?_⟩⟩
  obtain ⟨xs, e1, h2⟩ := gAt.opt h1
  obtain ⟨ys, zs, rfl⟩ := zip_args e1
  cases e1
  have x1 : Rs C F1 [.lst ys, .lst zs] vs := x1
  simp only [Rs, R] at x1
  obtain ⟨v, r', rfl, ⟨q, us, rfl, k1, k2⟩, u, r'', rfl, ⟨q2, us2, rfl, k3, k4⟩, rfl⟩ := x1
  refine ⟨q, q2, us, us2, rfl, SqL.of (r1.sub _ _ k1), SqL.of (r1.sub _ _ k3), h2 _ F1 H1 r1 (Step.refl _) (walk_z (vs := us) (us := us2) (fun w' r' s' => ⟨SqL.of (r'.sub _ _ (s' _ _ k1)), SqL.of (r'.sub _ _ (s' _ _ k3))⟩) k2 k4)⟩
end
end Pl
set_option Elab.async false
set_option linter.all false
set_option maxRecDepth 100000
/-! Pl: a list, unpacked by a target. -/
namespace Pl
open PySem L2 PyProof.Rows
section
variable {prog : Program} {w : World} {A : Around} {E : Value → Shared → Prop} {s : Shared}
theorem draw_list {it t : Addr} {items : Array Value} (hne : t ≠ it) : ∀ (n i : Nat) (s : Shared) (Q : List Value → Shared → Prop), s.heap.IsListIter it t i → s.heap.IsList t items → i + n ≤ items.size →
    (∀ h', h'.IsListIter it t (i + n) → Heap.SameBut it s.heap h' → Q ((items.toList.drop i).take n) { s with heap := h' }) → wpAny (model prog w) A (draw (.ref it) n) Q E s
  | 0, i, s, Q, hit, _, _, hQ => by
    show wpAny _ _ (pure []) Q E s
    exact wpAny_pure (by simpa using hQ s.heap hit (Heap.SameBut.refl ..))
  | n + 1, i, s, Q, hit, ht, hle, hQ => by
    have hlt : i < items.size := by omega
    show wpAny _ _ (pyNext (.ref it) >>= _) Q E s
    refine wpAny_bind (wpAny_pyNext_list_item hit ht (x := items[i]) (by simp [hlt]) fun h₁ hit₁ hs₁ => ?_)
    refine wpAny_bind (wpAny_holding (draw_list hne n (i + 1) _ _ hit₁ (ht.extBut hs₁.extBut hne) (by omega) fun h₂ hit₂ hs₂ => wpAny_pure ?_))
    have hd : items.toList.drop i = items[i] :: items.toList.drop (i + 1) := by simp [List.drop_eq_getElem_cons, hlt]
    have := hQ h₂ (by rw [show i + (n + 1) = i + 1 + n by omega]; exact hit₂) (hs₁.trans hs₂)
    rw [hd, List.take_succ_cons] at this
    exact this
theorem unpackItems_list {t : Addr} {items : Array Value} {Q : List Value → Shared → Prop} (hh : A.handled = none) (ht : s.heap.IsList t items)
    (hQ : ∀ h', Heap.ExtBut s.heap.objs.size s.heap h' → Q items.toList { s with heap := h' }) : wpAny (model prog w) A (unpackItems (.ref t) items.size none) Q E s := by
  have hlt : t ≠ s.heap.objs.size := by obtain ⟨o, ho, _⟩ := ht; exact Nat.ne_of_lt (Heap.lt_size ho)
  unfold unpackItems
  refine wpAny_bind ?_
  · unfold notIterableAtAll
    refine wpAny_bind (wpAny_specialOf ht.typeIs slot_list_iter.lookup ?_)
    refine wpAny_pure ?_
    simp only [Bool.false_eq_true, if_false]
    refine wpAny_bind (wpAny_holding (wpAny_pyIter_list ht ?_))
    refine wpAny_bind (wpAny_holding (draw_list hlt items.size 0 _ _ ⟨_, Heap.get?_push_size _ rfl, rfl, rfl⟩ (ht.push _) (by omega) fun h₁ hit₁ hs₁ => ?_))
    have hall : List.take items.size (List.drop 0 items.toList) = items.toList := by
      rw [List.drop_zero]; exact List.take_of_length_le (by simp)
    rw [hall]
    rw [if_neg (by simp)]
    have ht₁ : h₁.IsList t items := (ht.push _).extBut hs₁.extBut hlt
    refine wpAny_bind (wpAny_holding (wpAny_pyNext_list_end hh hit₁ ht₁ (by simp) fun h₂ he₂ => ?_))
    simp only [Option.isSome_none, Bool.false_eq_true, if_false]
    refine wpAny_pure (hQ h₂ fun b o hb e => he₂ b o hb (hs₁.extBut b o hb (Heap.get?_push_of_some _ e)))
theorem assign_Tuple_list {env : Env} {elts : List PySem.Expr} {x1} {pos : Pos} {t : Addr} {items : Array Value} {Q : Unit → Shared → Prop} (hh : A.handled = none) (ht : s.heap.IsList t items)
    (hn : (assignEach elts env).length = items.size) (hstar : (assignEach elts env).findIdx? (·.1) = none)
    (h : ∀ h', Heap.ExtBut s.heap.objs.size s.heap h' → wpAny (model prog w) A (assignInOrder ((assignEach elts env).map (·.2)) items.toList) Q E { s with heap := h' }) :
    wpAny (model prog w) A (assign (.Tuple elts x1 pos) env (.ref t)) Q E s := by
  rw [PySem.arm_assign_Tuple]
  refine wpAny_bind (wpAny_standAt ?_)
  unfold unpack
  rw [hn, hstar]
  exact wpAny_bind (wpAny_holding (unpackItems_list hh ht h))
end
/-- (a, b, ..) = a tuple or a list of that length -/
def gSq (K : PySem.W.Frag) (n : Nat) (t : TGs) : TG := fun v σ H Q => ∃ a xs, v = .ref a ∧ (SqT K H a xs ∨ SqL K H a xs) ∧ xs.length = n ∧ t xs σ H Q
theorem pg_sq {X : Cx} {es : List PySem.Expr} {k : Nat} {t : TGs} {n : Nat} {pos : Pos} (hc : X.calm = true) (h : PGs X es t)
    (hn : (assignEach es X.env).length = n := by rfl) (hst : (assignEach es X.env).findIdx? (·.1) = none := by rfl) : PG X (.Tuple es k pos) (gSq X.K n t) := by
  refine ⟨fun pins s σ H v u Q I r hw => ?_⟩
  obtain ⟨a, xs, e1, hq, hl, hw⟩ := hw
  rcases hq with hq | hq
  · exact (pg_tup hc h hn hst).run pins s σ H v u Q I r ⟨a, xs, e1, hq, hl, hw⟩
  · subst e1
    cases r
    obtain ⟨its, rv, ht, hz⟩ := I.list hq
    refine assign_Tuple_list (I.ok.hd hc) ht.isList (by simp [hn, ← hl, rv.length]) hst fun h' hx => ?_
    have I1 : Inv X pins σ H { s with heap := h' } := I.kept (t' := s.toks) fun b o e => hx b o (Nat.ne_of_lt (Heap.lt_size e)) e
    exact h.run pins _ σ H xs _ Q I1 (by simpa using rv) hw
end Pl
set_option Elab.async false
set_option linter.all false
set_option maxRecDepth 100000
/-! Pl: targets, comprehensions. -/
namespace Pl
open PySem L2
def gNs : List Nat → TGs
  | [] => gNil
  | i :: is => gCons (gName i) (gNs is)
def gT (K : PySem.W.Frag) : Tgt → TG
  | .nm i => gName i
  | .tp is => gSq K is.length (gNs is)
def ixT : Tgt → List Nat
  | .nm i => [i]
  | .tp is => is
section
variable {C : Cxt} {A : Addr} {W : WX'} {X : Cx} {w : Wd}
theorem tup_ok : ∀ {is : List Nat} {xs : List D} {S S1 : Sl} {vs : List V} {σ : St} {F H : Hp}, Rel C A ⟨σ, F, H, S⟩ → tupS is xs S = some S1 → Rs C F xs vs →
    ∃ σ2, (∀ Q : St → Hp → Prop, Q σ2 H → gNs is vs σ H Q) ∧ Rel C A ⟨σ2, F, H, S1⟩ ∧ Step ⟨σ, F, H, S⟩ ⟨σ2, F, H, S1⟩ ∧ σ2.length = σ.length ∧ ∀ j, j ∉ is → σ2[j]? = σ[j]?
  | [], [], S, S1, vs, σ, F, H, r, e, x => by
    cases e
    simp only [Rs] at x
    subst x
    exact ⟨σ, fun Q q => ⟨rfl, q⟩, r, Step.refl _, rfl, fun _ _ => rfl⟩
  | i :: is, d :: xs, S, S1, vs, σ, F, H, r, e, x => by
    simp only [tupS] at e
    split at e
    · rename_i hi
      simp only [Rs] at x
      obtain ⟨v, rest, rfl, x1, x2⟩ := x
      obtain ⟨r1, s1⟩ := slot_val (w := ⟨σ, F, H, S⟩) (i := i) r hi x1
      obtain ⟨σ2, k1, k2, k3, k4, k5⟩ := tup_ok r1 e x2
      refine ⟨σ2, fun Q q => ⟨v, rest, rfl, k1 Q q⟩, k2, s1.trans k3, by rw [k4]; simp, fun j hj => ?_⟩
      simp only [List.mem_cons, not_or] at hj
      rw [k5 j hj.2, List.getElem?_set_ne (fun z => hj.1 z.symm)]
    · cases e
  | [], _ :: _, _, _, _, _, _, _, _, e, _ => by cases e
  | _ :: _, [], _, _, _, _, _, _, _, e, _ => by cases e
theorem tupS_len : ∀ {is : List Nat} {xs : List D} {S S1 : Sl}, tupS is xs S = some S1 → is.length = xs.length
  | [], [], _, _, _ => rfl
  | i :: is, x :: xs, S, S1, e => by
    simp only [tupS] at e
    split at e
    · simp [tupS_len e]
    · cases e
  | [], _ :: _, _, _, e => by cases e
  | _ :: _, [], _, _, e => by cases e
theorem tgt_ok {g : Tgt} {d : D} {S S1 : Sl} {v : V} {σ : St} {F H : Hp} (r : Rel C A ⟨σ, F, H, S⟩) (e : tgtS g d S = some S1) (x : R C F d v) :
    ∃ σ2, (∀ Q : St → Hp → Prop, Q σ2 H → gT C.K g v σ H Q) ∧ Rel C A ⟨σ2, F, H, S1⟩ ∧ Step ⟨σ, F, H, S⟩ ⟨σ2, F, H, S1⟩ ∧ σ2.length = σ.length ∧ ∀ j, j ∉ ixT g → σ2[j]? = σ[j]? := by
  cases g with
  | nm i =>
    simp only [tgtS] at e
    split at e
    · rename_i hi
      cases e
      obtain ⟨r1, s1⟩ := slot_val (w := ⟨σ, F, H, S⟩) (i := i) r hi x
      refine ⟨σ.set i (some v), fun Q q => q, r1, s1, by simp, fun j hj => ?_⟩
      simp only [ixT, List.mem_singleton] at hj
      rw [List.getElem?_set_ne (fun z => hj z.symm)]
    · cases e
  | tp is =>
    cases d <;> simp only [tgtS, reduceCtorEq] at e
    · rename_i xs
      simp only [R] at x
      obtain ⟨a, vs, rfl, h1, h2⟩ := x
      obtain ⟨σ2, k1, k2, k3, k4, k5⟩ := tup_ok r e h2
      exact ⟨σ2, fun Q q => ⟨a, vs, rfl, .inl (r.sub.t h1), by rw [← h2.length, ← tupS_len e], k1 Q q⟩, k2, k3, k4, k5⟩
    · rename_i xs
      simp only [R] at x
      obtain ⟨a, vs, rfl, h1, h2⟩ := x
      obtain ⟨σ2, k1, k2, k3, k4, k5⟩ := tup_ok r e h2
      exact ⟨σ2, fun Q q => ⟨a, vs, rfl, .inr (SqL.of (r.sub a _ h1)), by rw [← h2.length, ← tupS_len e], k1 Q q⟩, k2, k3, k4, k5⟩
/-! ### a block's names -/
theorem wipe_not : ∀ {vs : List Nat} {σ : St} {j : Nat}, j ∉ vs → (wipe σ vs)[j]? = σ[j]?
  | [], _, _, _ => rfl
  | v :: vs, σ, j, h => by
    simp only [List.mem_cons, not_or] at h
    unfold wipe
    rw [List.getElem?_set_ne (fun z => h.1 z.symm), wipe_not h.2]
theorem wipe_in : ∀ {vs : List Nat} {σ : St} {j : Nat}, j ∈ vs → (wipe σ vs)[j]? = if j < σ.length then some none else none
  | v :: vs, σ, j, h => by
    unfold wipe
    rw [List.getElem?_set, wipe_length]
    by_cases q : v = j
    · subst q
      rw [if_pos rfl]
    · rw [if_neg q]
      exact wipe_in ((List.mem_cons.mp h).resolve_left fun z => q z.symm)
theorem wipe_eq {vs : List Nat} {σ τ : St} (hl : τ.length = σ.length) (h : ∀ j, j ∉ vs → τ[j]? = σ[j]?) : wipe τ vs = wipe σ vs := by
  apply List.ext_getElem?
  intro j
  by_cases q : j ∈ vs
  · rw [wipe_in q, wipe_in q, hl]
  · rw [wipe_not q, wipe_not q, h j q]
theorem wipe_wipe (vs : List Nat) (σ : St) : wipe (wipe σ vs) vs = wipe σ vs := wipe_eq (wipe_length σ vs) fun j h => wipe_not h
theorem wipeS_len : ∀ (S : Sl) (vs : List Nat), (wipeS S vs).length = S.length
  | S, [] => rfl
  | S, v :: vs => by unfold wipeS; rw [List.length_set, wipeS_len S vs]
theorem wipeS_not : ∀ {vs : List Nat} {S : Sl} {j : Nat}, j ∉ vs → getS (wipeS S vs) j = getS S j
  | [], _, _, _ => rfl
  | v :: vs, S, j, h => by
    simp only [List.mem_cons, not_or] at h
    unfold wipeS
    rw [getS_set, if_neg (fun z => h.1 z.symm), wipeS_not h.2]
theorem wipeS_in : ∀ {vs : List Nat} {S : Sl} {j : Nat}, j ∈ vs → getS (wipeS S vs) j = .un
  | v :: vs, S, j, h => by
    unfold wipeS
    rw [getS_set]
    by_cases q : v = j
    · rw [if_pos q]; split <;> rfl
    · rw [if_neg q]
      exact wipeS_in ((List.mem_cons.mp h).resolve_left fun z => q z.symm)
theorem wipeS_own {vs : List Nat} {S : Sl} {j : Nat} {x : Slot} (h : getS (wipeS S vs) j = x) (n : x ≠ .un) : j ∉ vs ∧ getS S j = x := by
  by_cases q : j ∈ vs
  · rw [wipeS_in q] at h; exact absurd h.symm n
  · rw [wipeS_not q] at h; exact ⟨q, h⟩
theorem wipe_world (vs : List Nat) {σ : St} {F H : Hp} {S : Sl} (r : Rel C A ⟨σ, F, H, S⟩) : Rel C A ⟨wipe σ vs, F, H, wipeS S vs⟩ ∧ Step ⟨σ, F, H, S⟩ ⟨wipe σ vs, F, H, wipeS S vs⟩ := by
  have own : ∀ j, isOwn (getS (wipeS S vs) j) = true → j ∉ vs ∧ isOwn (getS S j) = true ∧ (wipe σ vs)[j]? = σ[j]? := fun j h => by
    have := wipeS_own (vs := vs) (S := S) (j := j) rfl (fun z => by rw [z] at h; cases h)
    exact ⟨this.1, by rw [this.2]; exact h, wipe_not this.1⟩
  refine ⟨⟨by show (wipeS S vs).length = (wipe σ vs).length; rw [wipeS_len, wipe_length]; exact r.len, r.sub, fun j d e => ?_, fun j xs e => ?_, fun j xs e => ?_, fun j c ks xs e => ?_, fun j1 j2 a h1 h2 k1 k2 => ?_⟩, ⟨Sub.refl _, fun a o h _ => h, fun a _ h _ => h, fun a h => h, fun a h => ?_⟩⟩
  · obtain ⟨n, e⟩ := wipeS_own e (fun z => nomatch z)
    show ∃ v, (wipe σ vs)[j]? = _ ∧ _
    rw [wipe_not n]; exact r.val j d e
  · obtain ⟨n, e⟩ := wipeS_own e (fun z => nomatch z)
    show ∃ a ws, (wipe σ vs)[j]? = _ ∧ _
    rw [wipe_not n]; exact r.own j xs e
  · obtain ⟨n, e⟩ := wipeS_own e (fun z => nomatch z)
    show ∃ ws, (wipe σ vs)[j]? = _ ∧ _
    rw [wipe_not n]; exact r.io j xs e
  · obtain ⟨n, e⟩ := wipeS_own e (fun z => nomatch z)
    show ∃ dx ws, (wipe σ vs)[j]? = _ ∧ _
    rw [wipe_not n]; exact r.slf j c ks xs e
  · obtain ⟨_, q1, q2⟩ := own j1 h1
    obtain ⟨_, q3, q4⟩ := own j2 h2
    have k1 : (wipe σ vs)[j1]? = _ := k1
    have k2 : (wipe σ vs)[j2]? = _ := k2
    rw [q2] at k1
    rw [q4] at k2
    exact r.inj j1 j2 a q1 q3 k1 k2
  · obtain ⟨j, h1, h2⟩ := h
    obtain ⟨_, q1, q2⟩ := own j h1
    have h2 : (wipe σ vs)[j]? = _ := h2
    rw [q2] at h2
    exact .inl ⟨j, q1, h2⟩
theorem backAll_len (S : Sl) : ∀ (vs : List Nat) (S' : Sl), (backAll S vs S').length = S'.length
  | [], _ => rfl
  | v :: vs, S' => by unfold backAll; rw [List.length_set, backAll_len S vs S']
theorem backAll_not {S S' : Sl} : ∀ {vs : List Nat} {j : Nat}, j ∉ vs → getS (backAll S vs S') j = getS S' j
  | [], _, _ => rfl
  | v :: vs, j, h => by
    simp only [List.mem_cons, not_or] at h
    unfold backAll
    rw [getS_set, if_neg (fun z => h.1 z.symm), backAll_not h.2]
theorem backAll_in {S S' : Sl} : ∀ {vs : List Nat} {j : Nat}, j ∈ vs → getS (backAll S vs S') j = if j < S'.length then getS S j else .un
  | v :: vs, j, h => by
    unfold backAll
    rw [getS_set, backAll_len]
    by_cases q : v = j
    · subst q; rw [if_pos rfl]
    · rw [if_neg q]
      exact backAll_in ((List.mem_cons.mp h).resolve_left fun z => q z.symm)
/-- behind a block: its names as before -/
theorem back_world {vs : List Nat} {σ : St} {F1 H1 F' H' : Hp} {S1 S' : Sl} (r1 : Rel C A ⟨σ, F1, H1, S1⟩) (r : Rel C A ⟨wipe σ vs, F', H', wipeS S' vs⟩) (s : Step ⟨wipe σ vs, F1, H1, wipeS S1 vs⟩ ⟨wipe σ vs, F', H', wipeS S' vs⟩) :
    Rel C A ⟨σ, F', H', backAll S1 vs S'⟩ ∧ Step ⟨σ, F1, H1, S1⟩ ⟨σ, F', H', backAll S1 vs S'⟩ ∧ ∀ a, (⟨σ, F', H', backAll S1 vs S'⟩ : Wd).Own a → (⟨wipe σ vs, F', H', wipeS S' vs⟩ : Wd).Own a ∨ (⟨σ, F1, H1, S1⟩ : Wd).Own a := by
  have hl : S'.length = S1.length := by
    have a := r.len
    have b := r1.len
    simp only [wipeS_len, wipe_length] at a b
    omega
  -- a list of a block's own name's slot is not the block's
  have nown : ∀ j a, j ∈ vs → isOwn (getS S1 j) = true → σ[j]? = some (some (.ref a)) → ¬ (⟨wipe σ vs, F1, H1, wipeS S1 vs⟩ : Wd).Own a := fun j a hj h1 h2 ⟨i, k1, k2⟩ => by
    have := wipeS_own (vs := vs) (S := S1) (j := i) rfl (fun z => by
      have k1 : isOwn (getS (wipeS S1 vs) i) = true := k1
      rw [z] at k1; cases k1)
    have k1 : isOwn (getS (wipeS S1 vs) i) = true := k1
    rw [wipeS_not this.1] at k1
    have k2 : (wipe σ vs)[i]? = _ := k2
    rw [wipe_not this.1] at k2
    have e := r1.inj i j a k1 h1 k2 h2
    subst e
    exact this.1 hj
  have at_in : ∀ j x, j ∈ vs → getS (backAll S1 vs S') j = x → x ≠ .un → getS S1 j = x := fun j x hj e n => by
    rw [backAll_in hj] at e
    split at e
    · exact e
    · exact absurd e.symm n
  have at_out : ∀ j, j ∉ vs → getS (backAll S1 vs S') j = getS (wipeS S' vs) j ∧ (wipe σ vs)[j]? = σ[j]? := fun j hj => ⟨by rw [backAll_not hj, wipeS_not hj], wipe_not hj⟩
  have un' : ∀ (x : Slot), isOwn x = true → x ≠ .un := fun x h z => by rw [z] at h; cases h
  have ownc : ∀ a, (⟨σ, F', H', backAll S1 vs S'⟩ : Wd).Own a → (⟨wipe σ vs, F', H', wipeS S' vs⟩ : Wd).Own a ∨ (⟨σ, F1, H1, S1⟩ : Wd).Own a := fun a ⟨j, k1, k2⟩ => by
    have k1 : isOwn (getS (backAll S1 vs S') j) = true := k1
    have k2 : σ[j]? = _ := k2
    by_cases q : j ∈ vs
    · have e := at_in j _ q rfl (un' _ k1)
      exact .inr ⟨j, by rw [e]; exact k1, k2⟩
    · obtain ⟨e1, e2⟩ := at_out j q
      rw [e1] at k1
      exact .inl ⟨j, k1, by show (wipe σ vs)[j]? = _; rw [e2]; exact k2⟩
  refine ⟨⟨by show (backAll S1 vs S').length = σ.length; rw [backAll_len, hl]; exact r1.len, r.sub, fun j d e => ?_, fun j xs e => ?_, fun j xs e => ?_, fun j c ks xs e => ?_, fun j1 j2 a h1 h2 k1 k2 => ?_⟩, ⟨s.ex, fun a o h n => ?_, fun a h1 h2 n => ?_, s.dom, fun a h => ?_⟩, ownc⟩
  · by_cases q : j ∈ vs
    · obtain ⟨v, e1, e2⟩ := r1.val j d (at_in j _ q e (fun z => nomatch z))
      exact ⟨v, e1, R.mono s.ex d e2⟩
    · obtain ⟨e1, e2⟩ := at_out j q
      have e : getS (backAll S1 vs S') j = _ := e
      rw [e1] at e
      obtain ⟨v, e3, e4⟩ := r.val j d e
      exact ⟨v, by show σ[j]? = _; rw [← e2]; exact e3, e4⟩
  · by_cases q : j ∈ vs
    · have e0 := at_in j _ q e (fun z => nomatch z)
      obtain ⟨a, ws, e1, e2, e3, e4⟩ := r1.own j xs e0
      have no := nown j a q (by rw [e0]; rfl) e1
      exact ⟨a, ws, e1, s.frz a (by rw [e3]; exact fun z => nomatch z) e2 no, s.keep a _ e3 no, Rs.mono s.ex xs e4⟩
    · obtain ⟨e1, e2⟩ := at_out j q
      have e : getS (backAll S1 vs S') j = _ := e
      rw [e1] at e
      obtain ⟨a, ws, e3, e4⟩ := r.own j xs e
      exact ⟨a, ws, by show σ[j]? = _; rw [← e2]; exact e3, e4⟩
  · by_cases q : j ∈ vs
    · have e0 := at_in j _ q e (fun z => nomatch z)
      obtain ⟨ws, e1, e2, e3, e4⟩ := r1.io j xs e0
      have no := nown j A q (by rw [e0]; rfl) e1
      exact ⟨ws, e1, s.frz A (by rw [e3]; exact fun z => nomatch z) e2 no, s.keep A _ e3 no, Rs.mono s.ex xs e4⟩
    · obtain ⟨e1, e2⟩ := at_out j q
      have e : getS (backAll S1 vs S') j = _ := e
      rw [e1] at e
      obtain ⟨ws, e3, e4⟩ := r.io j xs e
      exact ⟨ws, by show σ[j]? = _; rw [← e2]; exact e3, e4⟩
  · by_cases q : j ∈ vs
    · have e0 := at_in j _ q e (fun z => nomatch z)
      obtain ⟨dx, ws, e1, e2, e3, e4, e5⟩ := r1.slf j c ks xs e0
      have no := nown j A q (by rw [e0]; rfl) e1
      exact ⟨dx, ws, e1, s.frz A (by rw [e3]; exact fun z => nomatch z) e2 no, s.keep A _ e3 no, Rs.mono s.ex xs e4, e5⟩
    · obtain ⟨e1, e2⟩ := at_out j q
      have e : getS (backAll S1 vs S') j = _ := e
      rw [e1] at e
      obtain ⟨dx, ws, e3, e4⟩ := r.slf j c ks xs e
      exact ⟨dx, ws, by show σ[j]? = _; rw [← e2]; exact e3, e4⟩
  · have h1 : isOwn (getS (backAll S1 vs S') j1) = true := h1
    have h2 : isOwn (getS (backAll S1 vs S') j2) = true := h2
    have k1 : σ[j1]? = _ := k1
    have k2 : σ[j2]? = _ := k2
    by_cases q1 : j1 ∈ vs
    · have e1 := at_in j1 _ q1 rfl (un' _ h1)
      have o1 : isOwn (getS S1 j1) = true := by rw [e1]; exact h1
      by_cases q2 : j2 ∈ vs
      · have e2 := at_in j2 _ q2 rfl (un' _ h2)
        exact r1.inj j1 j2 a o1 (by rw [e2]; exact h2) k1 k2
      · obtain ⟨e2, e3⟩ := at_out j2 q2
        rw [e2] at h2
        have ob : (⟨wipe σ vs, F', H', wipeS S' vs⟩ : Wd).Own a := ⟨j2, h2, by show (wipe σ vs)[j2]? = _; rw [e3]; exact k2⟩
        have on := (r1.own_none ⟨j1, o1, k1⟩).2
        rcases s.own a ob with z | z
        · exact absurd z (nown j1 a q1 o1 k1)
        · exact absurd z on
    · obtain ⟨e1, e3⟩ := at_out j1 q1
      rw [e1] at h1
      by_cases q2 : j2 ∈ vs
      · have e2 := at_in j2 _ q2 rfl (un' _ h2)
        have o2 : isOwn (getS S1 j2) = true := by rw [e2]; exact h2
        have ob : (⟨wipe σ vs, F', H', wipeS S' vs⟩ : Wd).Own a := ⟨j1, h1, by show (wipe σ vs)[j1]? = _; rw [e3]; exact k1⟩
        have on := (r1.own_none ⟨j2, o2, k2⟩).2
        rcases s.own a ob with z | z
        · exact absurd z (nown j2 a q2 o2 k2)
        · exact absurd z on
      · obtain ⟨e2, e4⟩ := at_out j2 q2
        rw [e2] at h2
        exact r.inj j1 j2 a h1 h2 (by show (wipe σ vs)[j1]? = _; rw [e3]; exact k1) (by show (wipe σ vs)[j2]? = _; rw [e4]; exact k2)
  · refine s.keep a o h fun z => n ?_
    obtain ⟨j, k1, k2⟩ := z
    have e := wipeS_own (vs := vs) (S := S1) (j := j) rfl (un' _ k1)
    exact ⟨j, by rw [e.2]; exact k1, by show σ[j]? = _; rw [← wipe_not e.1]; exact k2⟩
  · refine s.frz a h1 h2 fun z => n ?_
    obtain ⟨j, k1, k2⟩ := z
    have e := wipeS_own (vs := vs) (S := S1) (j := j) rfl (un' _ k1)
    exact ⟨j, by rw [e.2]; exact k1, by show σ[j]? = _; rw [← wipe_not e.1]; exact k2⟩
  · rcases ownc a h with z | z
    · rcases s.own a z with z | z
      · left
        obtain ⟨j, k1, k2⟩ := z
        have e := wipeS_own (vs := vs) (S := S1) (j := j) rfl (un' _ k1)
        exact ⟨j, by rw [e.2]; exact k1, by show σ[j]? = _; rw [← wipe_not e.1]; exact k2⟩
      · exact .inr z
    · exact .inl z
end
end Pl
set_option Elab.async false
set_option linter.all false
set_option maxRecDepth 100000
/-! Pl: comprehensions. -/
namespace Pl
open PySem L2
def AccAt (C : Cxt) (D : Addr) (acc : List Pl.D) (F H : Hp) : Prop := ∃ ws, F D = none ∧ H D = some (.lst ws) ∧ Rs C F acc ws
section
variable {C : Cxt} {A : Addr} {W : WX'} {X : Cx}
/-- the new list grows: nobody else's matter -/
theorem acc_world {wb w : Wd} {D : Addr} {o : HO} (r : Rel C A w) (s : Step wb w) (hb : wb.H D = none) (hF : w.F D = none) (hH : w.H D ≠ none) (no : ¬ w.Own D) :
    Rel C A ⟨w.σ, w.F, upd w.H D o, w.S⟩ ∧ Step wb ⟨w.σ, w.F, upd w.H D o, w.S⟩ := by
  have ne : ∀ a, w.Own a → a ≠ D := fun a h z => no (by rw [← z]; exact h)
  refine ⟨⟨r.len, fun a u e => ?_, r.val, fun i xs e => ?_, fun i xs e => ?_, fun i c ks xs e => ?_, r.inj⟩, ⟨s.ex, fun a u e n => ?_, s.frz, fun a h => ?_, s.own⟩⟩
  · show upd w.H D o a = some u
    rw [upd_ne (fun z => by rw [z] at e; rw [hF] at e; cases e)]; exact r.sub a u e
  · obtain ⟨a, vs, q1, q2, q3, q4⟩ := r.own i xs e
    exact ⟨a, vs, q1, q2, by show upd w.H D o a = _; rw [upd_ne (ne a ⟨i, by rw [e]; rfl, q1⟩)]; exact q3, q4⟩
  · obtain ⟨vs, q1, q2, q3, q4⟩ := r.io i xs e
    exact ⟨vs, q1, q2, by show upd w.H D o A = _; rw [upd_ne (ne A ⟨i, by rw [e]; rfl, q1⟩)]; exact q3, q4⟩
  · obtain ⟨dx, vs, q1, q2, q3, q4⟩ := r.slf i c ks xs e
    exact ⟨dx, vs, q1, q2, by show upd w.H D o A = _; rw [upd_ne (ne A ⟨i, by rw [e]; rfl, q1⟩)]; exact q3, q4⟩
  · show upd w.H D o a = some u
    rw [upd_ne (ne_of_none e hb)]; exact s.keep a u e n
  · show upd w.H D o a ≠ none
    by_cases q : a = D
    · rw [q, upd_same]; exact fun z => nomatch z
    · rw [upd_ne q]; exact s.dom a h
/-- what nobody owned at the start, and was not there, nobody owns -/
theorem acc_no {wb w : Wd} {D : Addr} (s : Step wb w) (r : Rel C A w) {acc : List Pl.D} {ws : List V} (hF : w.F D = none) (no : ¬ wb.Own D) (h : w.Own D → False) : ¬ w.Own D := h
/-- the turns of a block's loop, one after another -/
theorem loop_rd {vs : List Nat} {g : Tgt} {f : List D → M (List D)} {σ : St} {wb w1 : Wd} {J : It} {xs : List D} {accN : List D} {SN : Sl} {Dl : Addr} {Fin : Hp → Prop} {TR : St → Hp → (Hp → Prop) → Prop} (hg : ∀ i ∈ ixT g, i ∈ vs) (hwk : Walks C A w1 J xs)
    (hb1 : ∀ w, Step wb w → Sub w1.F w.F) (hbD : wb.H Dl = none)
    (hfin : ∀ F' H', Rel C A ⟨wipe σ vs, F', H', wipeS SN vs⟩ → Step wb ⟨wipe σ vs, F', H', wipeS SN vs⟩ → AccAt C Dl accN F' H' → ¬ (⟨wipe σ vs, F', H', wipeS SN vs⟩ : Wd).Own Dl → Fin H')
    (hT : ∀ acc Sa acc' Sb σ2 Fa Ha (Nx : Hp → Prop), f acc Sa = .ok acc' Sb → Rel C A ⟨σ2, Fa, Ha, Sa⟩ → Step wb ⟨σ2, Fa, Ha, Sa⟩ → AccAt C Dl acc Fa Ha → ¬ (⟨σ2, Fa, Ha, Sa⟩ : Wd).Own Dl → wipe σ2 vs = wipe σ vs →
      (∀ F' H', Rel C A ⟨σ2, F', H', Sb⟩ → Step wb ⟨σ2, F', H', Sb⟩ → AccAt C Dl acc' F' H' → ¬ (⟨σ2, F', H', Sb⟩ : Wd).Own Dl → Nx H') → TR σ2 Ha Nx) :
    ∀ {acc : List D} {S : Sl} {F H : Hp}, compM vs g f xs acc S = .ok accN SN → Rel C A ⟨wipe σ vs, F, H, wipeS S vs⟩ → Step wb ⟨wipe σ vs, F, H, wipeS S vs⟩ → AccAt C Dl acc F H → ¬ (⟨wipe σ vs, F, H, wipeS S vs⟩ : Wd).Own Dl →
    ∃ Wv : Nat → Nat → Hp → Prop, (∃ m, Wv 0 m H) ∧ ∀ i m H, Wv i m H → (J.stop i H ∧ Fin H) ∨ (J.go i H ∧ ∃ Nx : Hp → Prop, (∀ H', Nx H' → ∃ m', m' < m ∧ Wv (i + 1) m' H') ∧ ∀ x H', J.yld i H x H' → gT C.K g x (wipe σ vs) H' fun σ2 H2 => wipe σ2 vs = wipe σ vs ∧ TR σ2 H2 Nx) := by
  intro acc S F H e r s a no
  refine ⟨fun i m H => m = xs.length - i ∧ i ≤ xs.length ∧ ∃ F S acc, compM vs g f (xs.drop i) acc S = .ok accN SN ∧ Rel C A ⟨wipe σ vs, F, H, wipeS S vs⟩ ∧ Step wb ⟨wipe σ vs, F, H, wipeS S vs⟩ ∧ AccAt C Dl acc F H ∧ ¬ (⟨wipe σ vs, F, H, wipeS S vs⟩ : Wd).Own Dl,
    ⟨_, rfl, Nat.zero_le _, F, S, acc, by simpa using e, r, s, a, no⟩, fun i m H hw => ?_⟩
  obtain ⟨rfl, hi, F, S, acc, e, r, s, a, no⟩ := hw
  by_cases q : i < xs.length
  · right
    refine ⟨hwk.go i _ r (hb1 _ s) q, ?_⟩
    have ed : xs.drop i = xs[i] :: xs.drop (i + 1) := List.drop_eq_getElem_cons q
    rw [ed] at e
    simp only [compM] at e
    cases et : tgtS g xs[i] (wipeS S vs) with
    | none => rw [et] at e; cases e
    | some Sa =>
      rw [et] at e
      simp only at e
      cases ef : f acc Sa with
      | bad => rw [ef] at e; cases e
      | ex c d S' => rw [ef] at e; cases e
      | ok acc' Sb =>
        rw [ef] at e
        simp only at e
        refine ⟨fun H' => ∃ F', Rel C A ⟨wipe σ vs, F', H', wipeS Sb vs⟩ ∧ Step wb ⟨wipe σ vs, F', H', wipeS Sb vs⟩ ∧ AccAt C Dl acc' F' H' ∧ ¬ (⟨wipe σ vs, F', H', wipeS Sb vs⟩ : Wd).Own Dl, fun H' ⟨F', k1, k2, k3, k4⟩ => ⟨xs.length - (i + 1), by omega, rfl, q, F', Sb, acc', e, k1, k2, k3, k4⟩, fun x H' hy => ?_⟩
        obtain ⟨F2, r2, s2, x2⟩ := hwk.yld i _ x H' xs[i] r (hb1 _ s) (List.getElem?_eq_getElem q) hy
        have s2' := s.trans s2
        obtain ⟨σ2, k1, k2, k3, k4, k5⟩ := tgt_ok r2 et x2
        refine k1 _ ?_
        have ew : wipe σ2 vs = wipe σ vs := by
          rw [← wipe_wipe vs σ]
          exact wipe_eq k4 fun j hj => k5 j fun z => hj (hg j z)
        have hD : H Dl ≠ none := by obtain ⟨ws, _, z, _⟩ := a; rw [z]; exact fun z => nomatch z
        have own2 : ∀ {w'' : Wd}, Step ⟨wipe σ vs, F, H, wipeS S vs⟩ w'' → ¬ w''.Own Dl := fun {w''} st z => by
          rcases st.own Dl z with z | z
          · exact no z
          · exact hD z
        have acc2 : AccAt C Dl acc F2 H' := by
          obtain ⟨ws, z1, z2, z3⟩ := a
          exact ⟨ws, s2.frz Dl hD z1 no, s2.keep Dl _ z2 no, Rs.mono s2.ex acc z3⟩
        refine ⟨ew, hT acc Sa acc' Sb σ2 F2 H' _ ef k2 (s2'.trans k3) acc2 (own2 (s2.trans k3)) ew fun F' H'' q1 q2 q3 q4 => ?_⟩
        obtain ⟨v1, v2⟩ := wipe_world vs q1
        rw [ew] at v1 v2
        refine ⟨F', v1, q2.trans v2, q3, fun z => ?_⟩
        rcases v2.own Dl z with z | z
        · exact q4 z
        · obtain ⟨ws, _, z2, _⟩ := q3
          have z : H'' Dl = none := z
          rw [z2] at z; cases z
  · left
    have q : i = xs.length := by omega
    subst q
    rw [List.drop_length] at e
    simp only [compM, M.pure, Res.ok.injEq] at e
    obtain ⟨rfl, rfl⟩ := e
    exact ⟨hwk.stop _ _ r (hb1 _ s) (Nat.le_refl _), hfin F H r s a no⟩
theorem bind_ok {α β : Type} {m : M α} {f : α → M β} {S S' : Sl} {x : α} (h : m S = .ok x S') : (m.bind f) S = f x S' := by
  unfold M.bind; rw [h]
theorem bind_bad {α β : Type} {m : M α} {f : α → M β} {S : Sl} (h : m S = .bad) : (m.bind f) S = .bad := by
  unfold M.bind; rw [h]
theorem bind_ex {α β : Type} {m : M α} {f : α → M β} {S S' : Sl} {c d} (h : m S = .ex c d S') : (m.bind f) S = .ex c d S' := by
  unfold M.bind; rw [h]
def elemM (fs : M Bool) (me : M RV) (acc : List D) : M (List D) := fs.bind fun b => if b then me.toD.bind fun y => keepM acc y else M.pure acc
/-- one turn: the tests, the element -/
theorem elem_rd {mt : M Bool} {me : M RV} {wb : Wd} {Dl : Addr} {acc acc' : List D} {Sa Sb : Sl} {σ2 : St} {Fa Ha : Hp} {Nx : Hp → Prop} {W0 : WX'} (hbD : wb.H Dl = none) (ef : elemM mt me acc Sa = .ok acc' Sb) (r : Rel C A ⟨σ2, Fa, Ha, Sa⟩) (s : Step wb ⟨σ2, Fa, Ha, Sa⟩)
    (a : AccAt C Dl acc Fa Ha) (no : ¬ (⟨σ2, Fa, Ha, Sa⟩ : Wd).Own Dl) (hN : ∀ F' H', Rel C A ⟨σ2, F', H', Sb⟩ → Step wb ⟨σ2, F', H', Sb⟩ → AccAt C Dl acc' F' H' → ¬ (⟨σ2, F', H', Sb⟩ : Wd).Own Dl → Nx H') :
    gM C A W0 (ρE (α := Bool)) mt σ2 Ha fun b H3 => if b = true then gM C A W0 (ρD C) me.toD σ2 H3 fun y H4 => ∃ acc0, H4 Dl = some (.lst acc0) ∧ acc0.length < sizeLine ∧ Nx (upd H4 Dl (.lst (acc0 ++ [y]))) else Nx H3 := by
  have hD : ∀ {F H : Hp}, AccAt C Dl acc F H → H Dl ≠ none := fun {F H} ⟨ws, _, z, _⟩ => by rw [z]; exact fun z => nomatch z
  have carry : ∀ {F H F' H' : Hp} {S S' : Sl}, Step ⟨σ2, F, H, S⟩ ⟨σ2, F', H', S'⟩ → AccAt C Dl acc F H → ¬ (⟨σ2, F, H, S⟩ : Wd).Own Dl → AccAt C Dl acc F' H' ∧ ¬ (⟨σ2, F', H', S'⟩ : Wd).Own Dl := fun {F H F' H' S S'} st a n => by
    have h0 := hD a
    obtain ⟨ws, z1, z2, z3⟩ := a
    refine ⟨⟨ws, st.frz Dl h0 z1 n, st.keep Dl _ z2 n, Rs.mono st.ex acc z3⟩, fun z => ?_⟩
    rcases st.own Dl z with z | z
    · exact n z
    · exact h0 z
  unfold elemM at ef
  refine ⟨Fa, Sa, r, ?_⟩
  unfold gAt
  cases em : mt Sa with
  | bad => rw [bind_bad em] at ef; cases ef
  | ex c d S' => rw [bind_ex em] at ef; cases ef
  | ok b Sm =>
    rw [bind_ok em] at ef
    simp only [em]
    intro b' F3 H3 r3 s3 x3
    cases x3
    obtain ⟨a3, no3⟩ := carry s3 a no
    cases b with
    | false =>
      have ef : (Res.ok acc Sm : Res (List Pl.D)) = Res.ok acc' Sb := ef
      simp only [Res.ok.injEq] at ef
      obtain ⟨rfl, rfl⟩ := ef
      rw [if_neg Bool.false_ne_true]
      exact hN F3 H3 r3 (s.trans s3) a3 no3
    | true =>
      have ef : (me.toD.bind fun y => keepM acc y) Sm = Res.ok acc' Sb := ef
      rw [if_pos rfl]
      refine ⟨F3, Sm, r3, ?_⟩
      unfold gAt
      cases ee : me.toD Sm with
      | bad => rw [bind_bad ee] at ef; cases ef
      | ex c d S' => rw [bind_ex ee] at ef; cases ef
      | ok y Se =>
        rw [bind_ok ee] at ef
        simp only [ee]
        simp only [keepM] at ef
        intro v F4 H4 r4 s4 x4
        obtain ⟨a4, no4⟩ := carry s4 a3 no3
        split at ef
        · rename_i hl
          simp only [M.pure, Res.ok.injEq] at ef
          obtain ⟨rfl, rfl⟩ := ef
          have h4 := hD a4
          obtain ⟨ws, z1, z2, z3⟩ := a4
          obtain ⟨r5, s5⟩ := acc_world (o := .lst (ws ++ [v])) r4 ((s.trans s3).trans s4) hbD z1 h4 no4
          refine ⟨ws, z2, by rw [← z3.length]; exact Nat.lt_of_lt_of_le hl (lim_le (Nat.le_refl lim)), hN F4 _ r5 s5 ⟨ws ++ [v], z1, upd_same, z3.append (Rs.cons x4 Rs.nil)⟩ no4⟩
        · cases ef
/-! ### the two forms -/
theorem lc1_rd {vs : List Nat} {g : Tgt} {f : List D → M (List D)} {mi : M (List D)} {σ : St} {H : Hp} {Q : VK} {TR : St → Hp → Addr → (Hp → Prop) → Prop} (hg : ∀ i ∈ ixT g, i ∈ vs)
    (hT : ∀ (wb : Wd) Dl acc Sa acc' Sb σ2 Fa Ha (Nx : Hp → Prop), wb.H Dl = none → f acc Sa = .ok acc' Sb → Rel C A ⟨σ2, Fa, Ha, Sa⟩ → Step wb ⟨σ2, Fa, Ha, Sa⟩ → AccAt C Dl acc Fa Ha → ¬ (⟨σ2, Fa, Ha, Sa⟩ : Wd).Own Dl →
      (∀ F' H', Rel C A ⟨σ2, F', H', Sb⟩ → Step wb ⟨σ2, F', H', Sb⟩ → AccAt C Dl acc' F' H' → ¬ (⟨σ2, F', H', Sb⟩ : Wd).Own Dl → Nx H') → TR σ2 Ha Dl Nx)
    (h : gM C A W (ρV C) (mi.bind fun xs => blockM vs (compM vs g f xs [])) σ H Q) :
    gM C A W (ρW C A) mi σ H fun J H1 => ∀ D, H1 D = none → ∃ Wv : Nat → Nat → Hp → Prop, (∃ m, Wv 0 m (upd H1 D (.lst []))) ∧ ∀ i m H, Wv i m H →
      (J.stop i H ∧ Q (.ref D) H) ∨ (J.go i H ∧ ∃ Nx : Hp → Prop, (∀ H', Nx H' → ∃ m', m' < m ∧ Wv (i + 1) m' H') ∧ ∀ x H', J.yld i H x H' → gT C.K g x (wipe σ vs) H' fun σ2 H2 => wipe σ2 vs = wipe σ vs ∧ TR σ2 H2 D Nx) := by
  obtain ⟨F0, S0, r0, h0⟩ := h
  refine ⟨F0, S0, r0, (gAt.bind (ρ1 := ρW C A) (lifts_V C) h0).imp fun J H1 ⟨F1, S1, xs, r1, s1, x1, h1⟩ Dl hD => ?_⟩
  have x1 : Walks C A ⟨σ, F1, H1, S1⟩ J xs := x1
  have h1' := h1
  unfold gAt blockM at h1'
  simp only at h1'
  cases ec : compM vs g f xs [] S1 with
  | bad => rw [ec] at h1'; exact h1'.elim
  | ex c d S' => rw [ec] at h1'; exact h1'.elim
  | ok accN SN =>
    rw [ec] at h1'
    simp only at h1'
    have rD : Rel C A ⟨σ, F1, upd H1 Dl (.lst []), S1⟩ := r1.lay hD
    have sD : Step ⟨σ, F1, H1, S1⟩ ⟨σ, F1, upd H1 Dl (.lst []), S1⟩ := Step.lay hD
    have FD : F1 Dl = none := r1.sub.none hD
    obtain ⟨rb, sb⟩ := wipe_world vs r1
    obtain ⟨rt, st⟩ := wipe_world vs rD
    have nob : ¬ (⟨wipe σ vs, F1, upd H1 Dl (.lst []), wipeS S1 vs⟩ : Wd).Own Dl := fun z => by
      rcases st.own Dl z with z | z
      · exact (r1.own_none z).2 hD
      · have z : upd H1 Dl (.lst []) Dl = none := z
        rw [upd_same] at z; cases z
    have step_b : Step ⟨wipe σ vs, F1, H1, wipeS S1 vs⟩ ⟨wipe σ vs, F1, upd H1 Dl (.lst []), wipeS S1 vs⟩ := Step.lay (w := ⟨wipe σ vs, F1, H1, wipeS S1 vs⟩) hD
    refine loop_rd (wb := ⟨wipe σ vs, F1, H1, wipeS S1 vs⟩) (w1 := ⟨σ, F1, H1, S1⟩) (Dl := Dl) (Fin := fun H => Q (.ref Dl) H) (TR := fun σ2 H2 Nx => TR σ2 H2 Dl Nx) hg x1 (fun w s => s.ex) hD (fun F' H' q1 q2 q3 q4 => ?_) (fun acc Sa acc' Sb σ2 Fa Ha Nx e1 e2 e3 e4 e5 _ e6 => hT _ Dl acc Sa acc' Sb σ2 Fa Ha Nx hD e1 e2 e3 e4 e5 e6) ec rt step_b ⟨[], FD, upd_same, Rs.nil⟩ nob
    obtain ⟨b1, b2, b3⟩ := back_world r1 q1 q2
    obtain ⟨ws, z1, z2, z3⟩ := q3
    refine h1' (.ref Dl) F' H' b1 b2 ⟨Dl, ws, rfl, z1, z2, z3, fun z => ?_, .inl hD⟩
    rcases b3 Dl z with z | z
    · exact q4 z
    · exact (r1.own_none z).2 hD

def hide (H : Hp) (D : Addr) : Hp := fun a => if a = D then none else H a
theorem hide_ne {H : Hp} {D a : Addr} (h : a ≠ D) : hide H D a = H a := if_neg h
theorem hide_at {H : Hp} {D : Addr} : hide H D D = none := if_pos rfl
theorem hide_sub {H : Hp} {D a : Addr} {o : HO} (h : hide H D a = some o) : H a = some o ∧ a ≠ D := by
  by_cases q : a = D
  · subst q; rw [hide_at] at h; cases h
  · rw [hide_ne q] at h; exact ⟨h, q⟩
theorem hide_rel {w : Wd} {D : Addr} (r : Rel C A w) (hF : w.F D = none) (no : ¬ w.Own D) : Rel C A ⟨w.σ, w.F, hide w.H D, w.S⟩ := by
  have ne : ∀ a, w.Own a → a ≠ D := fun a h z => no (by rw [← z]; exact h)
  refine ⟨r.len, fun a u e => ?_, r.val, fun i xs e => ?_, fun i xs e => ?_, fun i c ks xs e => ?_, r.inj⟩
  · show hide w.H D a = some u
    rw [hide_ne (fun z => by rw [z] at e; rw [hF] at e; cases e)]; exact r.sub a u e
  · obtain ⟨a, vs, q1, q2, q3, q4⟩ := r.own i xs e
    exact ⟨a, vs, q1, q2, by show hide w.H D a = _; rw [hide_ne (ne a ⟨i, by rw [e]; rfl, q1⟩)]; exact q3, q4⟩
  · obtain ⟨vs, q1, q2, q3, q4⟩ := r.io i xs e
    exact ⟨vs, q1, q2, by show hide w.H D A = _; rw [hide_ne (ne A ⟨i, by rw [e]; rfl, q1⟩)]; exact q3, q4⟩
  · obtain ⟨dx, vs, q1, q2, q3, q4⟩ := r.slf i c ks xs e
    exact ⟨dx, vs, q1, q2, by show hide w.H D A = _; rw [hide_ne (ne A ⟨i, by rw [e]; rfl, q1⟩)]; exact q3, q4⟩
theorem unhide {w : Wd} {D : Addr} : Step ⟨w.σ, w.F, hide w.H D, w.S⟩ w :=
  ⟨Sub.refl _, fun a o h _ => (hide_sub h).1, fun a _ h _ => h, fun a h => by
    cases e : hide w.H D a with
    | none => exact absurd e h
    | some o => rw [(hide_sub e).1]; exact (fun z => nomatch z), fun a h => .inl h⟩
theorem hide_step {wb w w' : Wd} {D : Addr} (s : Step wb w) (hb : wb.H D = none) (t : Step ⟨w.σ, w.F, hide w.H D, w.S⟩ w') : Step wb w' := by
  have no : ∀ p, wb.H p ≠ none → ¬ wb.Own p → ¬ w.Own p := fun p h n k => by
    rcases s.own p k with q | q
    · exact n q
    · exact h q
  have nd : ∀ a, wb.H a ≠ none → a ≠ D := fun a h z => h (by rw [z]; exact hb)
  refine ⟨s.ex.trans t.ex, fun a o h n => ?_, fun a h f n => ?_, fun a h => ?_, fun a h => ?_⟩
  · have h1 : wb.H a ≠ none := by rw [h]; exact fun z => nomatch z
    exact t.keep a o (by show hide w.H D a = _; rw [hide_ne (nd a h1)]; exact s.keep a o h n) (no a h1 n)
  · exact t.frz a (by show hide w.H D a ≠ none; rw [hide_ne (nd a h)]; exact s.dom a h) (s.frz a h f n) (no a h n)
  · exact t.dom a (by show hide w.H D a ≠ none; rw [hide_ne (nd a h)]; exact s.dom a h)
  · rcases t.own a h with q | q
    · exact s.own a q
    · right
      cases e : wb.H a with
      | none => rfl
      | some o =>
        have h1 : wb.H a ≠ none := by rw [e]; exact fun z => nomatch z
        have q : hide w.H D a = none := q
        rw [hide_ne (nd a h1)] at q
        exact absurd q (s.dom a h1)
/-- a turn of the outer loop: the tests, the inner loop -/
theorem inner_rd {vs vs1 : List Nat} {g1 : Tgt} {f1 : List D → M (List D)} {mt : M Bool} {mi1 : M (List D)} {wb : Wd} {Dl : Addr} {acc acc' : List D} {Sa Sb : Sl} {σ2 : St} {Fa Ha : Hp} {Nx : Hp → Prop} {W0 : WX'} {TR : St → Hp → Addr → (Hp → Prop) → Prop} (hg : ∀ i ∈ ixT g1, i ∈ vs1) (hbD : wb.H Dl = none)
    (hT : ∀ (wb : Wd) Dl acc Sa acc' Sb σ2 Fa Ha (Nx : Hp → Prop), wb.H Dl = none → f1 acc Sa = .ok acc' Sb → Rel C A ⟨σ2, Fa, Ha, Sa⟩ → Step wb ⟨σ2, Fa, Ha, Sa⟩ → AccAt C Dl acc Fa Ha → ¬ (⟨σ2, Fa, Ha, Sa⟩ : Wd).Own Dl →
      (∀ F' H', Rel C A ⟨σ2, F', H', Sb⟩ → Step wb ⟨σ2, F', H', Sb⟩ → AccAt C Dl acc' F' H' → ¬ (⟨σ2, F', H', Sb⟩ : Wd).Own Dl → Nx H') → TR σ2 Ha Dl Nx)
    (ef : (mt.bind fun b => if b then mi1.bind fun ys => innerM vs1 (compM vs1 g1 f1 ys acc) else M.pure acc) Sa = .ok acc' Sb) (r : Rel C A ⟨σ2, Fa, Ha, Sa⟩) (s : Step wb ⟨σ2, Fa, Ha, Sa⟩)
    (a : AccAt C Dl acc Fa Ha) (no : ¬ (⟨σ2, Fa, Ha, Sa⟩ : Wd).Own Dl) (hN : ∀ F' H', Rel C A ⟨σ2, F', H', Sb⟩ → Step wb ⟨σ2, F', H', Sb⟩ → AccAt C Dl acc' F' H' → ¬ (⟨σ2, F', H', Sb⟩ : Wd).Own Dl → Nx H') :
    gM C A W0 (ρE (α := Bool)) mt σ2 Ha fun b H3 => if b = true then gM C A W0 (ρW C A) mi1 σ2 H3 fun J1 H4 => ∃ W1 : Nat → Nat → Hp → Prop, (∃ m, W1 0 m H4) ∧ ∀ j k H, W1 j k H →
      (J1.stop j H ∧ Nx H) ∨ (J1.go j H ∧ ∃ Nx1 : Hp → Prop, (∀ H', Nx1 H' → ∃ k', k' < k ∧ W1 (j + 1) k' H') ∧ ∀ x H', J1.yld j H x H' → gT C.K g1 x (wipe σ2 vs1) H' fun σ3 H5 => wipe σ3 vs1 = wipe σ2 vs1 ∧ TR σ3 H5 Dl Nx1) else Nx H3 := by
  have hD : ∀ {F H : Hp}, AccAt C Dl acc F H → H Dl ≠ none := fun {F H} ⟨ws, _, z, _⟩ => by rw [z]; exact fun z => nomatch z
  have carry : ∀ {F H F' H' : Hp} {S S' : Sl}, Step ⟨σ2, F, H, S⟩ ⟨σ2, F', H', S'⟩ → AccAt C Dl acc F H → ¬ (⟨σ2, F, H, S⟩ : Wd).Own Dl → AccAt C Dl acc F' H' ∧ ¬ (⟨σ2, F', H', S'⟩ : Wd).Own Dl := fun {F H F' H' S S'} st a n => by
    have h0 := hD a
    obtain ⟨ws, z1, z2, z3⟩ := a
    refine ⟨⟨ws, st.frz Dl h0 z1 n, st.keep Dl _ z2 n, Rs.mono st.ex acc z3⟩, fun z => ?_⟩
    rcases st.own Dl z with z | z
    · exact n z
    · exact h0 z
  refine ⟨Fa, Sa, r, ?_⟩
  unfold gAt
  cases em : mt Sa with
  | bad => rw [bind_bad em] at ef; cases ef
  | ex c d S' => rw [bind_ex em] at ef; cases ef
  | ok b Sm =>
    rw [bind_ok em] at ef
    simp only [em]
    intro b' F3 H3 r3 s3 x3
    cases x3
    obtain ⟨a3, no3⟩ := carry s3 a no
    cases b with
    | false =>
      have ef : (Res.ok acc Sm : Res (List Pl.D)) = Res.ok acc' Sb := ef
      simp only [Res.ok.injEq] at ef
      obtain ⟨rfl, rfl⟩ := ef
      rw [if_neg Bool.false_ne_true]
      exact hN F3 H3 r3 (s.trans s3) a3 no3
    | true =>
      have ef : (mi1.bind fun ys => innerM vs1 (compM vs1 g1 f1 ys acc)) Sm = Res.ok acc' Sb := ef
      rw [if_pos rfl]
      refine ⟨F3, Sm, r3, ?_⟩
      unfold gAt
      cases ee : mi1 Sm with
      | bad => rw [bind_bad ee] at ef; cases ef
      | ex c d S' => rw [bind_ex ee] at ef; cases ef
      | ok ys Se =>
        rw [bind_ok ee] at ef
        simp only [ee]
        intro J1 F4 H4 r4 s4 x4
        have x4 : Walks C A ⟨σ2, F4, H4, Se⟩ J1 ys := x4
        obtain ⟨a4, no4⟩ := carry s4 a3 no3
        unfold innerM at ef
        cases ec : compM vs1 g1 f1 ys acc Se with
        | bad => rw [ec] at ef; cases ef
        | ex c d S' => rw [ec] at ef; cases ef
        | ok accN SN =>
          rw [ec] at ef
          simp only [Res.ok.injEq] at ef
          obtain ⟨rfl, rfl⟩ := ef
          have sw : Step wb ⟨σ2, F4, H4, Se⟩ := (s.trans s3).trans s4
          have hF4 : F4 Dl = none := by obtain ⟨ws, z, _, _⟩ := a4; exact z
          have h4 := hD a4
          have rh : Rel C A ⟨σ2, F4, hide H4 Dl, Se⟩ := hide_rel (w := ⟨σ2, F4, H4, Se⟩) r4 hF4 no4
          obtain ⟨rw1, sw1⟩ := wipe_world vs1 r4
          have now : ¬ (⟨wipe σ2 vs1, F4, H4, wipeS Se vs1⟩ : Wd).Own Dl := fun z => by
            rcases sw1.own Dl z with z | z
            · exact no4 z
            · exact h4 z
          refine loop_rd (wb := ⟨wipe σ2 vs1, F4, hide H4 Dl, wipeS Se vs1⟩) (w1 := ⟨σ2, F4, H4, Se⟩) (Dl := Dl) (Fin := Nx) (TR := fun σ2 H2 Nx => TR σ2 H2 Dl Nx) hg x4 (fun w s => s.ex) hide_at (fun F' H' q1 q2 q3 q4 => ?_) (fun acc Sa acc' Sb σ2 Fa Ha Nx e1 e2 e3 e4 e5 _ e6 => hT _ Dl acc Sa acc' Sb σ2 Fa Ha Nx hide_at e1 e2 e3 e4 e5 e6) ec rw1 (unhide (w := ⟨wipe σ2 vs1, F4, H4, wipeS Se vs1⟩)) a4 now
          obtain ⟨b1, b2, b3⟩ := back_world rh q1 q2
          refine hN F' H' b1 (hide_step (w := ⟨σ2, F4, H4, Se⟩) sw hbD b2) q3 fun z => ?_
          rcases b3 Dl z with z | z
          · exact q4 z
          · exact no4 z
end
end Pl
set_option Elab.async false
set_option linter.all false
set_option maxRecDepth 100000
/-! Pl: comprehensions, the rules. -/
namespace Pl
open PySem L2
section
variable {C : Cxt} {A : Addr} {W : WX'} {X : Cx}
def W0 : WX' := fun _ _ _ _ => False
def lc1M (vs : List Nat) (mi : M (List D)) (g : Tgt) (mt : M Bool) (me : M RV) : M RV := mi.bind fun xs => blockM vs (compM vs g (elemM mt me) xs [])
def lc2M (vs vs1 : List Nat) (mi : M (List D)) (g : Tgt) (mt : M Bool) (mi1 : M (List D)) (g1 : Tgt) (mt1 : M Bool) (me : M RV) : M RV := mi.bind fun xs => blockM vs (compM vs g (fun acc => mt.bind fun b => if b then mi1.bind fun ys => innerM vs1 (compM vs1 g1 (elemM mt1 me) ys acc) else M.pure acc) xs [])
abbrev tt' (C : Cxt) (A : Addr) (m : M Bool) : TT := gM C A W0 (ρE (α := Bool)) m
abbrev td' (C : Cxt) (A : Addr) (m : M RV) : TE := gM C A W0 (ρD C) m.toD
abbrev ti' (C : Cxt) (A : Addr) (W : WX') (m : M (List D)) : TI := gM C A W (ρW C A) m
theorem lc_in {vs : List Nat} {mi : M (List D)} {g : Tgt} {mt : M Bool} {me : M RV} (hg : ∀ i ∈ ixT g, i ∈ vs) {σ : St} {H : Hp} {Q : VK} (h : gM C A W (ρV C) (lc1M vs mi g mt me) σ H Q) :
    tLc (ti' C A W mi) (gT C.K g) (tt' C A mt) (td' C A me) vs σ H Q :=
  lc1_rd (TR := fun σ2 H2 D Nx => gM C A W0 (ρE (α := Bool)) mt σ2 H2 fun b H3 => if b = true then gM C A W0 (ρD C) me.toD σ2 H3 fun y H4 => ∃ acc0, H4 D = some (.lst acc0) ∧ acc0.length < sizeLine ∧ Nx (upd H4 D (.lst (acc0 ++ [y]))) else Nx H3) hg
    (fun wb Dl acc Sa acc' Sb σ2 Fa Ha Nx e1 e2 e3 e4 e5 e6 e7 => elem_rd e1 e2 e3 e4 e5 e6 e7) h
theorem lc2_in {vs vs1 : List Nat} {mi mi1 : M (List D)} {g g1 : Tgt} {mt mt1 : M Bool} {me : M RV} (hg : ∀ i ∈ ixT g, i ∈ vs) (hg1 : ∀ i ∈ ixT g1, i ∈ vs1) {σ : St} {H : Hp} {Q : VK} (h : gM C A W (ρV C) (lc2M vs vs1 mi g mt mi1 g1 mt1 me) σ H Q) :
    tLc2 (ti' C A W mi) (gT C.K g) (tt' C A mt) (ti' C A W0 mi1) (gT C.K g1) (tt' C A mt1) (td' C A me) vs vs1 σ H Q := by
  refine lc1_rd (TR := fun σ2 H2 D Nx => gM C A W0 (ρE (α := Bool)) mt σ2 H2 fun b H3 => if b = true then gM C A W0 (ρW C A) mi1 σ2 H3 fun J1 H4 => ∃ W1 : Nat → Nat → Hp → Prop, (∃ m, W1 0 m H4) ∧ ∀ j k H, W1 j k H →
      (J1.stop j H ∧ Nx H) ∨ (J1.go j H ∧ ∃ Nx1 : Hp → Prop, (∀ H', Nx1 H' → ∃ k', k' < k ∧ W1 (j + 1) k' H') ∧ ∀ x H', J1.yld j H x H' → gT C.K g1 x (wipe σ2 vs1) H' fun σ3 H5 => wipe σ3 vs1 = wipe σ2 vs1 ∧ gM C A W0 (ρE (α := Bool)) mt1 σ3 H5 fun b H6 =>
        if b = true then gM C A W0 (ρD C) me.toD σ3 H6 fun y H7 => ∃ acc0, H7 D = some (.lst acc0) ∧ acc0.length < sizeLine ∧ Nx1 (upd H7 D (.lst (acc0 ++ [y]))) else Nx1 H6) else Nx H3) hg
    (fun wb Dl acc Sa acc' Sb σ2 Fa Ha Nx e1 e2 e3 e4 e5 e6 e7 => ?_) h
  exact inner_rd (vs := vs) (TR := fun σ2 H2 D Nx => gM C A W0 (ρE (α := Bool)) mt1 σ2 H2 fun b H3 => if b = true then gM C A W0 (ρD C) me.toD σ2 H3 fun y H4 => ∃ acc0, H4 D = some (.lst acc0) ∧ acc0.length < sizeLine ∧ Nx (upd H4 D (.lst (acc0 ++ [y]))) else Nx H3) hg1 e1
    (fun wb Dl acc Sa acc' Sb σ2 Fa Ha Nx e1 e2 e3 e4 e5 e6 e7 => elem_rd e1 e2 e3 e4 e5 e6 e7) e2 e3 e4 e5 e6 e7
section
variable {elt tg iter tg1 iter1 : PySem.Expr} {ifs ifs1 : List PySem.Expr} {scope : Scope} {own : List (Str × Nat)} {pos py spos : Pos} {mi mi1 : M (List D)} {g g1 : Tgt} {mt mt1 : M Bool} {me : M RV} {vs vs1 : List Nat} {i : Nat} {y : Str}
abbrev BX (X : Cx) (scope : Scope) (s : Shared) (H : Hp) (C : Addr) (cl : List (Str × Addr)) (fp : List Addr) : Cx := X.blk s H scope (compEnvC scope cl C X.env) fp
theorem se_lc1 (hc : X.calm = true) (hN : X.N.Nodup) (hi : PI X tg iter (ti' C A W mi)) (ok : BlkOk X.N X.env.scope scope own) (hv : vs = own.map (·.2)) (hgv : ∀ i ∈ ixT g, i ∈ vs)
    (hg : ∀ s H Cc cl fp, PG (BX X scope s H Cc cl fp) tg (gT C.K g)) (ht : ∀ s H Cc cl fp, PTs (BX X scope s H Cc cl fp) ifs (tt' C A mt)) (he : ∀ s H Cc cl fp, PE (BX X scope s H Cc cl fp) elt (gM C A W0 (ρV C) me)) (hs : ∀ x, foldedSetIterable iter X.env x = pure x) :
    PE X (.ListComp elt [⟨tg, iter, ifs, 0⟩] scope pos) (gM C A W (ρV C) (lc1M vs mi g mt me)) := by
  subst hv
  exact PE.imp (pe_lc (X := X) (pos := pos) hc hN hi ok hg ht (fun s H Cc cl fp => sd_of (he s H Cc cl fp)) hs) fun σ H Q h => lc_in hgv h
theorem se_lc2 (hc : X.calm = true) (hN : X.N.Nodup) (hi : PI X tg iter (ti' C A W mi)) (ok : BlkOk X.N X.env.scope scope own) (hv : vs = own.map (·.2)) (hgv : ∀ i ∈ ixT g, i ∈ vs) (hv1 : ∀ i ∈ vs1, i ∈ vs) (hgv1 : ∀ i ∈ ixT g1, i ∈ vs1)
    (hg : ∀ s H Cc cl fp, PG (BX X scope s H Cc cl fp) tg (gT C.K g)) (ht : ∀ s H Cc cl fp, PTs (BX X scope s H Cc cl fp) ifs (tt' C A mt)) (hi1 : ∀ s H Cc cl fp, PI (BX X scope s H Cc cl fp) tg1 iter1 (ti' C A W0 mi1))
    (hg1 : ∀ s H Cc cl fp, PG (BX X scope s H Cc cl fp) tg1 (gT C.K g1)) (ht1 : ∀ s H Cc cl fp, PTs (BX X scope s H Cc cl fp) ifs1 (tt' C A mt1)) (he : ∀ s H Cc cl fp, PE (BX X scope s H Cc cl fp) elt (gM C A W0 (ρV C) me)) (hs : ∀ x, foldedSetIterable iter X.env x = pure x) (hs1 : ∀ env x, foldedSetIterable iter1 env x = pure x) :
    PE X (.ListComp elt [⟨tg, iter, ifs, 0⟩, ⟨tg1, iter1, ifs1, 0⟩] scope pos) (gM C A W (ρV C) (lc2M vs vs1 mi g mt mi1 g1 mt1 me)) := by
  subst hv
  exact PE.imp (pe_lc2 (X := X) (pos := pos) hc hN hi ok hv1 hg ht hi1 hg1 ht1 (fun s H Cc cl fp => sd_of (he s H Cc cl fp)) hs hs1) fun σ H Q h => lc2_in hgv hgv1 h
/-- name = [..]: what it takes -/
def tSet (C : Cxt) (A : Addr) (W : WX') (m : M RV) (i : Nat) : TS := tAsg (gM C A W (ρV C) m) (gName i)
theorem ss_lc1 (hc : X.calm = true) (hN : X.N.Nodup) (hy : X.N[i]? = some y) (hyl : X.env.scope.names.lookup y = some .local) (hsw : swapsWith (.ListComp elt [⟨tg, iter, ifs, 0⟩] scope pos) (some (.Name y py)) spos.line X.env = pure true) (hi : PI X tg iter (ti' C A W mi)) (ok : BlkOk X.N X.env.scope scope own) (hv : vs = own.map (·.2)) (hgv : ∀ i ∈ ixT g, i ∈ vs)
    (hg : ∀ s H Cc cl fp, PG (BX X scope s H Cc cl fp) tg (gT C.K g)) (ht : ∀ s H Cc cl fp, PTs (BX X scope s H Cc cl fp) ifs (tt' C A mt)) (he : ∀ s H Cc cl fp, PE (BX X scope s H Cc cl fp) elt (gM C A W0 (ρV C) me)) (hs : ∀ x, foldedSetIterable iter X.env x = pure x) :
    PS X (.Assign [.Name y py] (.ListComp elt [⟨tg, iter, ifs, 0⟩] scope pos) spos) (tSet C A W (lc1M vs mi g mt me) i) := by
  subst hv
  exact PS.imp (ps_setLc (X := X) hc hN hy hyl hsw hi ok hg ht (fun s H Cc cl fp => sd_of (he s H Cc cl fp)) hs) fun D σ H h => lc_in hgv h
theorem ss_lc2 (hc : X.calm = true) (hN : X.N.Nodup) (hy : X.N[i]? = some y) (hyl : X.env.scope.names.lookup y = some .local) (hsw : swapsWith (.ListComp elt [⟨tg, iter, ifs, 0⟩, ⟨tg1, iter1, ifs1, 0⟩] scope pos) (some (.Name y py)) spos.line X.env = pure true) (hi : PI X tg iter (ti' C A W mi)) (ok : BlkOk X.N X.env.scope scope own) (hv : vs = own.map (·.2)) (hgv : ∀ i ∈ ixT g, i ∈ vs) (hv1 : ∀ i ∈ vs1, i ∈ vs) (hgv1 : ∀ i ∈ ixT g1, i ∈ vs1)
    (hg : ∀ s H Cc cl fp, PG (BX X scope s H Cc cl fp) tg (gT C.K g)) (ht : ∀ s H Cc cl fp, PTs (BX X scope s H Cc cl fp) ifs (tt' C A mt)) (hi1 : ∀ s H Cc cl fp, PI (BX X scope s H Cc cl fp) tg1 iter1 (ti' C A W0 mi1))
    (hg1 : ∀ s H Cc cl fp, PG (BX X scope s H Cc cl fp) tg1 (gT C.K g1)) (ht1 : ∀ s H Cc cl fp, PTs (BX X scope s H Cc cl fp) ifs1 (tt' C A mt1)) (he : ∀ s H Cc cl fp, PE (BX X scope s H Cc cl fp) elt (gM C A W0 (ρV C) me)) (hs : ∀ x, foldedSetIterable iter X.env x = pure x) (hs1 : ∀ env x, foldedSetIterable iter1 env x = pure x) :
    PS X (.Assign [.Name y py] (.ListComp elt [⟨tg, iter, ifs, 0⟩, ⟨tg1, iter1, ifs1, 0⟩] scope pos) spos) (tSet C A W (lc2M vs vs1 mi g mt mi1 g1 mt1 me) i) := by
  subst hv
  exact PS.imp (ps_setLc2 (X := X) hc hN hy hyl hsw hi ok hv1 hg ht hi1 hg1 ht1 (fun s H Cc cl fp => sd_of (he s H Cc cl fp)) hs hs1) fun D σ H h => lc2_in hgv hgv1 h
theorem ts_nil : PTs X [] (tt' C A (M.pure true)) := ⟨fun pins s σ H Q I h => pts_nil.run pins s σ H Q I (by
  obtain ⟨F, S, r, h⟩ := h
  exact h.pure (w := ⟨σ, F, H, S⟩) r rfl)⟩
theorem ts_one {c : PySem.Expr} {m : M Bool} (h : PT X c (tt' C A m)) : PTs X [c] (tt' C A m) := pts_one h
end
end
end Pl
set_option Elab.async false
set_option linter.all false
set_option maxRecDepth 100000
/-! Pl: statements. -/
namespace Pl
open PySem L2
section
variable {C : Cxt} {A : Addr} {W : WX'} {X : Cx}
/-- what is wanted behind a statement that left r, from the world w0 on -/
def gSb (C : Cxt) (A : Addr) (W : WX') (w0 : Wd) (r : Res Ctl) (D : Ends) : Prop := match r with
  | .ok .nx S' => ∀ σ' F' H', Rel C A ⟨σ', F', H', S'⟩ → Step w0 ⟨σ', F', H', S'⟩ → D.nx σ' H'
  | .ok .bk S' => ∀ σ' F' H', Rel C A ⟨σ', F', H', S'⟩ → Step w0 ⟨σ', F', H', S'⟩ → D.bk σ' H'
  | .ok .ct S' => ∀ σ' F' H', Rel C A ⟨σ', F', H', S'⟩ → Step w0 ⟨σ', F', H', S'⟩ → D.ct σ' H'
  | .ok (.rt v) S' => ∀ x σ' F' H', Rel C A ⟨σ', F', H', S'⟩ → Step w0 ⟨σ', F', H', S'⟩ → RVR C w0 ⟨σ', F', H', S'⟩ v x → D.rt x H'
  | .ex c d S' => ∀ σ' F' H' cls dx, Rel C A ⟨σ', F', H', S'⟩ → Step w0 ⟨σ', F', H', S'⟩ → XR C w0 ⟨σ', F', H', S'⟩ c d cls dx → W cls dx σ' H'
  | .bad => False
def gS (C : Cxt) (A : Addr) (W : WX') (m : M Ctl) : TS := fun D σ H => ∃ F S, Rel C A ⟨σ, F, H, S⟩ ∧ gSb C A W ⟨σ, F, H, S⟩ (m S) D
theorem gSb.step {w0 w1 : Wd} {r : Res Ctl} {D : Ends} (s : Step w0 w1) (h : gSb C A W w0 r D) : gSb C A W w1 r D := by
  cases r with
  | bad => exact h
  | ex c d S' => exact fun σ' F' H' cls dx r1 s1 x1 => h σ' F' H' cls dx r1 (s.trans s1) (x1.lift s)
  | ok k S' =>
    cases k with
    | nx => exact fun σ' F' H' r1 s1 => h σ' F' H' r1 (s.trans s1)
    | bk => exact fun σ' F' H' r1 s1 => h σ' F' H' r1 (s.trans s1)
    | ct => exact fun σ' F' H' r1 s1 => h σ' F' H' r1 (s.trans s1)
    | rt v => exact fun x σ' F' H' r1 s1 x1 => h x σ' F' H' r1 (s.trans s1) (x1.lift s)
/-- an expression ahead -/
theorem gS_bind {α β : Type} {ρ : Wd → Wd → α → β → Prop} {m : M α} {f : α → M Ctl} {D : Ends} {σ : St} {H : Hp} (h : gS C A W (m.bind f) D σ H) :
    gM C A W ρ m σ H fun b H1 => ∃ w0 F1 S1 a, Rel C A ⟨σ, F1, H1, S1⟩ ∧ Step w0 ⟨σ, F1, H1, S1⟩ ∧ ρ w0 ⟨σ, F1, H1, S1⟩ a b ∧ gSb C A W w0 (f a S1) D := by
  obtain ⟨F, S, r, h⟩ := h
  refine ⟨F, S, r, ?_⟩
  unfold gAt
  cases e : m S with
  | bad => rw [bind_bad e] at h; exact h
  | ex c d S' =>
    rw [bind_ex e] at h
    exact fun F' H' cls dx r1 s1 x1 => h σ F' H' cls dx r1 s1 x1
  | ok a S1 =>
    rw [bind_ok e] at h
    exact fun b F1 H1 r1 s1 x1 => ⟨_, F1, S1, a, r1, s1, x1, h⟩
/-- .. whose result needs no base -/
theorem gS_bind' {α β : Type} {ρ : Wd → Wd → α → β → Prop} {m : M α} {f : α → M Ctl} {D : Ends} {σ : St} {H : Hp} (h : gS C A W (m.bind f) D σ H) :
    gM C A W ρ m σ H fun b H1 => ∃ w0 F1 S1 a, Rel C A ⟨σ, F1, H1, S1⟩ ∧ ρ w0 ⟨σ, F1, H1, S1⟩ a b ∧ gSb C A W ⟨σ, F1, H1, S1⟩ (f a S1) D := by
  obtain ⟨F, S, r, h⟩ := gS_bind (ρ := ρ) h
  exact ⟨F, S, r, h.imp fun b H1 ⟨w0, F1, S1, a, r1, s1, x1, h1⟩ => ⟨w0, F1, S1, a, r1, x1, h1.step s1⟩⟩
/-! ### small ones -/
theorem st_never {st : Stmt} : PS X st (gS C A W M.bad) := PS.imp ps_never fun D σ H ⟨F, S, r, h⟩ => h
theorem st_pass {st : Stmt} (h : PS X st tNext) : PS X st (gS C A W (M.pure .nx)) := PS.imp h fun D σ H ⟨F, S, r, h⟩ => h σ F H r (Step.refl _)
theorem st_brk {pos : Pos} : PS X (.Break pos) (gS C A W (M.pure .bk)) := PS.imp ps_break fun D σ H ⟨F, S, r, h⟩ => h σ F H r (Step.refl _)
theorem st_cont {pos : Pos} : PS X (.Continue pos) (gS C A W (M.pure .ct)) := PS.imp ps_continue fun D σ H ⟨F, S, r, h⟩ => h σ F H r (Step.refl _)
def seqM (a b : M Ctl) : M Ctl := a.bind fun c => match c with
  | .nx => b
  | c => M.pure c
theorem sts_nil : PSs X [] (gS C A W (M.pure .nx)) := PSs.imp pss_nil fun D σ H ⟨F, S, r, h⟩ => h σ F H r (Step.refl _)
theorem sts_cons {st : Stmt} {rest : List Stmt} {a b : M Ctl} (h1 : PS X st (gS C A W a)) (h2 : PSs X rest (gS C A W b)) : PSs X (st :: rest) (gS C A W (seqM a b)) :=
  PSs.imp (pss_cons h1 h2) fun D σ H ⟨F, S, r, h⟩ => by
    refine ⟨F, S, r, ?_⟩
    unfold seqM at h
    cases e : a S with
    | bad => rw [bind_bad e] at h; exact h
    | ex c d S' => rw [bind_ex e] at h; exact h
    | ok k S1 =>
      rw [bind_ok e] at h
      cases k with
      | nx => exact fun σ' F' H' r1 s1 => ⟨F', S1, r1, gSb.step s1 h⟩
      | bk => exact h
      | ct => exact h
      | rt v => exact h
theorem st_if {c : PySem.Expr} {a b : List Stmt} {pos : Pos} {mt : M Bool} {ma mb : M Ctl} (hc : PT X c (gM C A W (ρE (α := Bool)) mt)) (ha : PSs X a (gS C A W ma)) (hb : PSs X b (gS C A W mb)) : PS X (.If c a b pos) (gS C A W (mt.bind fun k => if k then ma else mb)) :=
  PS.imp (ps_if hc ha hb) fun D σ H h => by
    obtain ⟨F, S, r, h⟩ := gS_bind' (ρ := ρE (α := Bool)) h
    refine ⟨F, S, r, h.imp fun k H1 ⟨w0, F1, S1, a, r1, x1, h1⟩ => ?_⟩
    cases x1
    cases k with
    | true => exact ⟨F1, S1, r1, h1⟩
    | false => exact ⟨F1, S1, r1, h1⟩
theorem st_expr {e : PySem.Expr} {pos : Pos} {m : M RV} (he : PE X e (gM C A W (ρV C) m)) (hs : swapsWith e none pos.line X.env = pure false) : PS X (.Expr e pos) (gS C A W (nxM (m.bind fun _ => M.pure ()))) :=
  PS.imp (ps_expr he hs) fun D σ H h => by
    unfold nxM at h
    rw [M.bind_assoc] at h
    obtain ⟨F, S, r, h⟩ := gS_bind' (ρ := ρV C) h
    exact ⟨F, S, r, h.imp fun k H1 ⟨w0, F1, S1, a, r1, x1, h1⟩ => h1 σ F1 H1 r1 (Step.refl _)⟩
theorem st_ret {e : PySem.Expr} {pos : Pos} {m : M RV} (he : PE X e (gM C A W (ρV C) m)) : PS X (.Return (some e) pos) (gS C A W (m.bind fun r => M.pure (.rt r))) :=
  PS.imp (ps_ret he) fun D σ H h => by
    obtain ⟨F, S, r, h⟩ := gS_bind (ρ := ρV C) h
    exact ⟨F, S, r, h.imp fun k H1 ⟨w0, F1, S1, a, r1, s1, x1, h1⟩ => h1 k σ F1 H1 r1 s1 x1⟩
theorem st_ret0 {pos : Pos} : PS X (.Return none pos) (gS C A W ((M.pure (.val .non)).bind fun r => M.pure (.rt r))) :=
  PS.imp ps_retN fun D σ H ⟨F, S, r, h⟩ => h .non σ F H r (Step.refl _) (by show R C F .non .non; simp only [R])
/-! ### stores -/
/-- what else nobody holds stays so -/
structure Keeps (w w' : Wd) (r : RV) (v : V) : Prop where
  s : Sub w.F w'.F
  f : ∀ a, w.F a = none → w.H a ≠ none → ¬ w.Own a → (∀ xs, r = .fr xs → v ≠ .ref a) → w'.F a = none
  h : ∀ a o, w.F a = none → w.H a = some o → ¬ w.Own a → (∀ xs, r = .fr xs → v ≠ .ref a) → w'.H a = some o
  o : ∀ a, w.F a = none → w.H a ≠ none → ¬ w.Own a → (∀ xs, r = .fr xs → v ≠ .ref a) → ¬ w'.Own a
theorem sto_nm {w0 w : Wd} {i : Nat} {own : Bool} {r : RV} {v : V} {S' : Sl} (hr : Rel C A w) (s : Step w0 w) (x : RVR C w0 w r v) (e : stoS i own r w.S = .ok () S') :
    ∃ F', Rel C A ⟨w.σ.set i (some v), F', w.H, S'⟩ ∧ Step w0 ⟨w.σ.set i (some v), F', w.H, S'⟩ ∧ Keeps w ⟨w.σ.set i (some v), F', w.H, S'⟩ r v := by
  unfold stoS at e
  split at e
  · rename_i hi
    have asval : (Res.ok () (w.S.set i (.val r.d)) : Res Unit) = .ok () S' → ∃ F', Rel C A ⟨w.σ.set i (some v), F', w.H, S'⟩ ∧ Step w0 ⟨w.σ.set i (some v), F', w.H, S'⟩ ∧ Keeps w ⟨w.σ.set i (some v), F', w.H, S'⟩ r v := fun e => by
      cases e
      have : ∃ F', Rel C A ⟨w.σ, F', w.H, w.S⟩ ∧ Step w0 ⟨w.σ, F', w.H, w.S⟩ ∧ R C F' r.d v ∧ Sub w.F F' ∧ ∀ a, w.F a = none → (∀ xs, r = .fr xs → v ≠ .ref a) → F' a = none := by
        cases r with
        | val d => exact ⟨w.F, hr, s, x, Sub.refl _, fun _ h _ => h⟩
        | fr xs =>
          obtain ⟨p, vs, rfl, h2, h3, h4, h5, h6⟩ := x
          refine ⟨upd w.F p (.lst vs), hr.frz h2 h3 h5, s.data h2 h6, ?_, Sub.new h2, fun a h n => ?_⟩
          · simp only [RV.d, R]
            exact ⟨p, vs, rfl, upd_same, Rs.mono (Sub.new h2) xs h4⟩
          · rw [upd_ne (fun z => n xs rfl (by rw [z]))]; exact h
      obtain ⟨F', r1, s1, x1, sb, n1⟩ := this
      obtain ⟨r2, s2⟩ := slot_val (w := ⟨w.σ, F', w.H, w.S⟩) (i := i) r1 hi x1
      refine ⟨F', r2, s1.trans s2, ⟨sb, fun a h1 _ _ n => n1 a h1 n, fun a o _ h _ _ => h, fun a h1 h2 h3 n z => ?_⟩⟩
      rcases s2.own a z with z | z
      · exact h3 z
      · exact h2 z
    split at e
    · rename_i r0 ow xs
      cases e
      obtain ⟨p, vs, rfl, h2, h3, h4, h5, h6⟩ := x
      obtain ⟨r2, s2⟩ := slot_own (i := i) hr s hi h2 h3 h4 h5 h6
      refine ⟨w.F, r2, s2, ⟨Sub.refl _, fun a h1 _ _ _ => h1, fun a o _ h _ _ => h, fun a h1 hh h3 n z => ?_⟩⟩
      obtain ⟨j, k1, k2⟩ := z
      have k1 : isOwn (getS (w.S.set i (.own xs)) j) = true := k1
      have k2 : (w.σ.set i (some (.ref p)))[j]? = _ := k2
      rw [getS_set] at k1
      rw [getσ] at k2
      by_cases q : i = j
      · rw [if_pos q] at k2
        split at k2
        · exact n xs rfl (by rw [Option.some.inj (Option.some.inj k2)])
        · cases k2
      · rw [if_neg q] at k1 k2
        exact h3 ⟨j, k1, k2⟩
    · exact asval e
  · cases e
/-- name = value -/
theorem set_in {m : M RV} {i : Nat} {own : Bool} {D : Ends} {σ : St} {H : Hp} (h : gS C A W (nxM (m.bind fun r => stoS i own r)) D σ H) : gM C A W (ρV C) m σ H fun v H1 => D.nx (σ.set i (some v)) H1 := by
  unfold nxM at h
  rw [M.bind_assoc] at h
  obtain ⟨F, S, r, h⟩ := gS_bind (ρ := ρV C) h
  refine ⟨F, S, r, h.imp fun v H1 ⟨w0, F1, S1, a, r1, s1, x1, h1⟩ => ?_⟩
  cases e : stoS i own a S1 with
  | bad => rw [bind_bad e] at h1; exact h1.elim
  | ex c d S' =>
    unfold stoS at e
    split at e
    · split at e <;> cases e
    · cases e
  | ok u S' =>
    cases u
    rw [bind_ok e] at h1
    obtain ⟨F2, r2, s2, _⟩ := sto_nm (w := ⟨σ, F1, H1, S1⟩) r1 s1 x1 e
    exact h1 _ F2 H1 r2 s2
theorem st_set {i : Nat} {x : Str} {e : PySem.Expr} {pos pos' : Pos} {m : M RV} {own : Bool} (hN : X.N.Nodup) (hi : X.N[i]? = some x) (hx : L2.Loc X.env.scope x) (hf : X.fn x = true ∨ X.env.scope.names.lookup x = some .local) (he : PE X e (gM C A W (ρV C) m)) (hs : swapsWith e (some (.Name x pos')) pos.line X.env = pure false) :
    PS X (.Assign [.Name x pos'] e pos) (gS C A W (nxM (m.bind fun r => stoS i own r))) :=
  PS.imp (ps_set hN hi hx he hs hf) fun D σ H h => set_in h
/-- name = [..] -/
theorem st_tset {st : Stmt} {m : M RV} {i : Nat} {own : Bool} (h : PS X st (tSet C A W m i)) : PS X st (gS C A W (nxM (m.bind fun r => stoS i own r))) := PS.imp h fun D σ H h => set_in h
/-- a, b = value -/
theorem st_unp {is : List Nat} {tg e : PySem.Expr} {pos : Pos} {m : M RV} (he : PE X e (gM C A W (ρV C) m)) (hg : PG X tg (gT C.K (.tp is))) (hs : swapsWithSole [tg] e pos.line X.env = pure false) (hw : swappedStores [tg] e X.env = pure none) (h1 : (assignEach [tg] X.env).map (·.2) = [assign tg X.env]) :
    PS X (.Assign [tg] e pos) (gS C A W (nxM (m.toD.bind fun d => unpM is d))) :=
  PS.imp (ps_asg (sd_of he) hg hs hw h1) fun D σ H h => by
    unfold nxM at h
    rw [M.bind_assoc] at h
    obtain ⟨F, S, r, h⟩ := gS_bind' (ρ := ρD C) h
    refine ⟨F, S, r, h.imp fun v H1 ⟨w0, F1, S1, d, r1, x1, h1⟩ => ?_⟩
    cases d with
    | tup xs =>
      unfold M.bind unpM at h1
      simp only at h1
      cases et : tupS is xs S1 with
      | none => rw [et] at h1; exact h1.elim
      | some S2 =>
        rw [et] at h1
        obtain ⟨σ2, k1, k2, k3, k4, k5⟩ := tgt_ok (g := .tp is) (d := .tup xs) r1 et x1
        exact k1 _ (h1 σ2 F1 H1 k2 k3)
    | _ => exact h1.elim
/-- name op= value -/
theorem st_aug {i : Nat} {x : Str} {e : PySem.Expr} {op : Operator} {o : Bop} {pos pos' : Pos} {m : M RV} (ho : (op = .Add ∧ o = .add) ∨ (op = .Sub ∧ o = .sub)) (hN : X.N.Nodup) (hi : X.N[i]? = some x) (hx : L2.Loc X.env.scope x) (hf : X.fn x = true ∨ X.env.scope.names.lookup x = some .local) (he : PE X e (gM C A W (ρV C) m)) :
    PS X (.AugAssign (.Name x pos') op e pos) (gS C A W (nxM ((valS i).bind fun x => m.toD.bind fun y => (M.opt (augD o x y)).bind fun d => stoS i false (.val d)))) := by
  have go : ∀ (f : Int → Int → Int), (∀ x y d, augD o x y = some d → ∃ i j, x = .int i ∧ y = .int j ∧ d = .int (f i j)) → ∀ D σ H, gS C A W (nxM ((valS i).bind fun x => m.toD.bind fun y => (M.opt (augD o x y)).bind fun d => stoS i false (.val d))) D σ H → tAug i (gM C A W (ρD C) m.toD) (ipI f) D σ H := by
    intro f hf D σ H h
    obtain ⟨F, S, r, h⟩ := h
    unfold nxM at h
    rw [M.bind_assoc] at h
    cases es : getS S i with
    | val d0 =>
      obtain ⟨v0, q1, q2⟩ := r.val i d0 es
      have e1 : valS i S = .ok d0 S := by unfold valS; rw [es]
      rw [bind_ok e1] at h
      refine ⟨v0, q1, ?_⟩
      have h' : gS C A W ((m.toD.bind fun y => (M.opt (augD o d0 y)).bind fun d => stoS i false (.val d)).bind fun _ => M.pure .nx) D σ H := ⟨F, S, r, h⟩
      rw [M.bind_assoc] at h'
      obtain ⟨F0, S0, r0, h'⟩ := gS_bind (ρ := ρD C) h'
      -- the slot at the start is what it was
      have h2 : gM C A W (ρD C) m.toD σ H fun b H1 => ∃ F1 S1 a, Rel C A ⟨σ, F1, H1, S1⟩ ∧ Step ⟨σ, F, H, S⟩ ⟨σ, F1, H1, S1⟩ ∧ R C F1 a b ∧ gSb C A W ⟨σ, F, H, S⟩ (((M.opt (augD o d0 a)).bind fun d => stoS i false (.val d)).bind (fun _ => M.pure .nx) S1) D := by
        refine ⟨F, S, r, ?_⟩
        rw [M.bind_assoc] at h
        unfold gAt
        cases e : m.toD S with
        | bad => rw [bind_bad e] at h; exact h
        | ex c d S' =>
          rw [bind_ex e] at h
          exact fun F' H' cls dx r1 s1 x1 => h σ F' H' cls dx r1 s1 x1
        | ok a S1 =>
          rw [bind_ok e] at h
          exact fun b F1 H1 r1 s1 x1 => ⟨F1, S1, a, r1, s1, x1, h⟩
      obtain ⟨F2, S2, r2, h2⟩ := h2
      refine ⟨F2, S2, r2, h2.imp fun y H1 ⟨F1, S1, a, r1, s1, x1, h1⟩ => ?_⟩
      cases ea : augD o d0 a with
      | none => rw [ea] at h1; exact h1.elim
      | some d =>
        rw [ea] at h1
        obtain ⟨j, k, rfl, rfl, rfl⟩ := hf _ _ _ ea
        simp only [R] at q2 x1
        subst q2; subst x1
        refine ⟨j, k, rfl, rfl, ?_⟩
        have h1 : gSb C A W ⟨σ, F, H, S⟩ ((stoS i false (.val (.int (f j k)))).bind (fun _ => M.pure .nx) S1) D := h1
        cases e2 : stoS i false (.val (.int (f j k))) S1 with
        | bad => rw [bind_bad e2] at h1; exact h1.elim
        | ex c d S' =>
          unfold stoS at e2
          split at e2
          · split at e2 <;> cases e2
          · cases e2
        | ok u S' =>
          cases u
          rw [bind_ok e2] at h1
          obtain ⟨F3, r3, s3, _⟩ := sto_nm (w0 := ⟨σ, F, H, S⟩) (w := ⟨σ, F1, H1, S1⟩) (v := V.int (f j k)) r1 s1 (by show R C F1 (.int (f j k)) _; simp only [R]) e2
          exact h1 _ F3 H1 r3 s3
    | own _ => exact (by rw [bind_bad (by unfold valS; rw [es])] at h; exact h.elim)
    | un => exact (by rw [bind_bad (by unfold valS; rw [es])] at h; exact h.elim)
    | io _ => exact (by rw [bind_bad (by unfold valS; rw [es])] at h; exact h.elim)
    | slf _ _ _ => exact (by rw [bind_bad (by unfold valS; rw [es])] at h; exact h.elim)
  rcases ho with ⟨rfl, rfl⟩ | ⟨rfl, rfl⟩
  · refine PS.imp (ps_aug hN hi hx (sd_of he) ip_add hf) (go _ fun x y d e => ?_)
    cases x <;> cases y <;> cases e
    exact ⟨_, _, rfl, rfl, rfl⟩
  · refine PS.imp (ps_aug hN hi hx (sd_of he) ip_sub hf) (go _ fun x y d e => ?_)
    cases x <;> cases y <;> cases e
    exact ⟨_, _, rfl, rfl, rfl⟩
end
end Pl
set_option Elab.async false
set_option linter.all false
set_option maxRecDepth 100000
/-! Pl: several values, several targets. -/
namespace Pl
open PySem L2
/-- values side by side: no new list twice -/
def RVs (C : Cxt) (w w' : Wd) : List RV → List V → Prop
  | [], [] => True
  | r :: rs, v :: vs => RVR C w w' r v ∧ RVs C w w' rs vs ∧ ∀ xs, r = .fr xs → ∀ (j : Nat) u ys, rs[j]? = some (.fr ys) → vs[j]? = some u → u ≠ v
  | _, _ => False
def ρRs (C : Cxt) : Wd → Wd → List RV → List V → Prop := RVs C
section
variable {C : Cxt} {A : Addr} {W : WX'} {X : Cx}
theorem RVs.lift {w w1 w2 : Wd} (s : Step w w1) : ∀ {rs : List RV} {vs : List V}, RVs C w1 w2 rs vs → RVs C w w2 rs vs
  | [], [], _ => trivial
  | r :: rs, v :: vs, h => ⟨h.1.lift s, RVs.lift s h.2.1, h.2.2⟩
  | [], _ :: _, h => h.elim
  | _ :: _, [], h => h.elim
theorem lifts_Rs : Lifts (ρRs C) := fun _ _ _ _ _ s h => RVs.lift s h
theorem RVR.keep {w w1 w2 : Wd} {r : RV} {v : V} (s : Step w1 w2) (h : RVR C w w1 r v) : RVR C w w2 r v := by
  cases r with
  | val d => exact R.mono s.ex d h
  | fr xs =>
    obtain ⟨p, vs, h1, h2, h3, h4, h5, h6⟩ := h
    have n : w1.H p ≠ none := by rw [h3]; exact fun z => nomatch z
    refine ⟨p, vs, h1, s.frz p n h2 h5, s.keep p _ h3 h5, Rs.mono s.ex xs h4, fun z => ?_, h6⟩
    rcases s.own p z with z | z
    · exact h5 z
    · exact n z
theorem RVs.len {w w' : Wd} : ∀ {rs : List RV} {vs : List V}, RVs C w w' rs vs → rs.length = vs.length
  | [], [], _ => rfl
  | r :: rs, v :: vs, h => by simp [RVs.len h.2.1]
  | [], _ :: _, h => h.elim
  | _ :: _, [], h => h.elim
theorem RVs.get {w w' : Wd} : ∀ {rs : List RV} {vs : List V} {j : Nat} {r : RV} {v : V}, RVs C w w' rs vs → rs[j]? = some r → vs[j]? = some v → RVR C w w' r v
  | r :: rs, v :: vs, 0, _, _, h, e1, e2 => by
    simp at e1 e2; subst e1; subst e2; exact h.1
  | r :: rs, v :: vs, j + 1, _, _, h, e1, e2 => RVs.get h.2.1 (by simpa using e1) (by simpa using e2)
  | [], _, _, _, _, _, e1, _ => by simp at e1
  | _ :: _, [], _, _, _, h, _, _ => h.elim
theorem sr_nil : PA X [] (gM C A W (ρRs C) (M.pure [])) := PA.imp pa_nil fun σ H Q ⟨F, S, r, h⟩ => gAt.pure (w := ⟨σ, F, H, S⟩) (ρ1 := ρRs C) h r trivial
theorem sr_cons {e : PySem.Expr} {es : List PySem.Expr} {m : M RV} {ms : M (List RV)} (he : PE X e (gM C A W (ρV C) m)) (hs : PA X es (gM C A W (ρRs C) ms)) (ht : plainE e = true) :
    PA X (e :: es) (gM C A W (ρRs C) (m.bind fun d => ms.bind fun ds => M.pure (d :: ds))) :=
  PA.imp (pa_cons he hs (starEach_cons ht)) fun σ H Q ⟨F, S, r, h⟩ => by
    refine ⟨F, S, r, ?_⟩
    unfold gAt at h ⊢
    simp only at h ⊢
    cases e1 : m S with
    | bad => rw [bind_bad e1] at h; exact h
    | ex c d S' => rw [bind_ex e1] at h; exact h
    | ok d S1 =>
      rw [bind_ok e1] at h
      intro v F1 H1 r1 s1 x1
      refine ⟨F1, S1, r1, ?_⟩
      unfold gAt
      simp only
      cases e2 : ms S1 with
      | bad => rw [bind_bad e2] at h; exact h
      | ex c d S' =>
        rw [bind_ex e2] at h
        exact fun F' H' cls dx r2 s2 x2 => h F' H' cls dx r2 (s1.trans s2) (x2.lift s1)
      | ok ds S2 =>
        rw [bind_ok e2] at h
        intro xs F2 H2 r2 s2 x2
        have x2 : RVs C ⟨σ, F1, H1, S1⟩ ⟨σ, F2, H2, S2⟩ ds xs := x2
        refine h (v :: xs) F2 H2 r2 (s1.trans s2) ⟨RVR.keep s2 x1, RVs.lift s1 x2, fun ys ed j u zs q1 q2 eq => ?_⟩
        subst ed
        obtain ⟨p, vs, k1, k2, k3, k4, k5, k6⟩ := x1
        obtain ⟨p', vs', m1, m2, m3, m4, m5, m6⟩ := RVs.get x2 q1 q2
        rw [eq, k1] at m1
        cases m1
        rcases m6 with z | z
        · have k3 : H1 p = some (.lst vs) := k3
          have z : H1 p = none := z
          rw [k3] at z; cases z
        · exact k5 z
/-! ### one target -/
/-- what is wanted behind a store -/
def gU (C : Cxt) (A : Addr) (W : WX') (w0 : Wd) (r : Res Unit) (Q : St → Hp → Hp → Sl → Prop) : Prop := match r with
  | .ok _ S' => ∀ σ' F' H', Rel C A ⟨σ', F', H', S'⟩ → Step w0 ⟨σ', F', H', S'⟩ → Q σ' F' H' S'
  | .ex c d S' => ∀ σ' F' H' cls dx, Rel C A ⟨σ', F', H', S'⟩ → Step w0 ⟨σ', F', H', S'⟩ → XR C w0 ⟨σ', F', H', S'⟩ c d cls dx → W cls dx σ' H'
  | .bad => False
theorem gU.imp {w0 : Wd} {r : Res Unit} {Q Q' : St → Hp → Hp → Sl → Prop} (h : gU C A W w0 r Q) (k : ∀ σ F H S, Q σ F H S → Q' σ F H S) : gU C A W w0 r Q' := by
  cases r with
  | bad => exact h
  | ex c d S' => exact h
  | ok u S' => exact fun σ' F' H' r1 s1 => k _ _ _ _ (h σ' F' H' r1 s1)
/-- a target, by what its store does -/
def gR (C : Cxt) (A : Addr) (W : WX') (f : RV → M Unit) : TG := fun v σ H Q => ∃ w0 F S r, Rel C A ⟨σ, F, H, S⟩ ∧ Step w0 ⟨σ, F, H, S⟩ ∧ RVR C w0 ⟨σ, F, H, S⟩ r v ∧ gU C A W w0 (f r S) fun σ' F' H' S' => Keeps ⟨σ, F, H, S⟩ ⟨σ', F', H', S'⟩ r v → Q σ' H'
theorem PG.imp {tg : PySem.Expr} {t t' : TG} (h : PG X tg t) (k : ∀ v σ H Q, t' v σ H Q → t v σ H Q) : PG X tg t' := ⟨fun pins s σ H v u Q I r q => h.run pins s σ H v u Q I r (k _ _ _ _ q)⟩
theorem PGs.imp {tg : List PySem.Expr} {t t' : TGs} (h : PGs X tg t) (k : ∀ v σ H Q, t' v σ H Q → t v σ H Q) : PGs X tg t' := ⟨fun pins s σ H v u Q I r q => h.run pins s σ H v u Q I r (k _ _ _ _ q)⟩
theorem stoS_no {i : Nat} {own : Bool} {r : RV} {S S' : Sl} {c d} (e : stoS i own r S = .ex c d S') : False := by
  unfold stoS at e
  split at e
  · split at e <;> cases e
  · cases e
theorem sg_nm {i : Nat} {x : Str} {pos : Pos} {own : Bool} (hN : X.N.Nodup) (hi : X.N[i]? = some x) (hx : L2.Loc X.env.scope x) (hf : X.fn x = true ∨ X.env.scope.names.lookup x = some .local) : PG X (.Name x pos) (gR C A W fun r => stoS i own r) :=
  PG.imp (pg_name hN hi hx hf) fun v σ H Q ⟨w0, F, S, r, r1, s1, x1, h⟩ => by
    have h : gU C A W w0 (stoS i own r S) _ := h
    cases e : stoS i own r S with
    | bad => rw [e] at h; exact h.elim
    | ex c d S' => exact (stoS_no e).elim
    | ok u S' =>
      cases u
      rw [e] at h
      obtain ⟨F', r2, s2, k⟩ := sto_nm (w := ⟨σ, F, H, S⟩) r1 s1 x1 e
      exact h _ F' H r2 s2 k
/-- o[e] = .., o a list of our own -/
def subM (i : Nat) (m : M D) (r : RV) : M Unit := (ownS i).bind fun _ => m.bind fun k => (ownS i).bind fun xs => match k with
  | .int j => (M.opt (ixD xs.length j)).bind fun n => putS i (xs.set n r.d)
  | _ => M.bad
theorem putS_no {i : Nat} {xs : List D} {S S' : Sl} {c d} (e : putS i xs S = .ex c d S') : False := by
  unfold putS at e
  split at e <;> cases e
theorem sg_sub {i : Nat} {o e : PySem.Expr} {pos : Pos} {m : M RV} (ho : PE X o (tVar i)) (he : PE X e (gM C A W (ρV C) m))
    (ha : ∀ v, assign (.Subscript o e pos) X.env v = (do
      let ov ← holding [v] (eval o X.env)
      let iv ← holding [v, ov] (eval e X.env)
      standAt pos
      holding [v, ov, iv] (setItem ov iv v)
      release [v, ov, iv] [])) : PG X (.Subscript o e pos) (gR C A W (subM i m.toD)) :=
  PG.imp (pg_sub ho (sd_of he) set_list ha) fun v σ H Q ⟨w0, F, S, r, r1, s1, x1, h⟩ => by
    unfold subM at h
    -- the list is there
    have hown : ∃ xs0, ownS i S = .ok xs0 S := by
      cases e : ownS i S with
      | bad => rw [bind_bad e] at h; exact h.elim
      | ex c d S' => unfold ownS at e; split at e <;> cases e
      | ok xs0 S' =>
        have : S' = S := by unfold ownS at e; split at e <;> cases e <;> rfl
        subst this
        exact ⟨xs0, rfl⟩
    obtain ⟨xs0, e0⟩ := hown
    rw [bind_ok e0] at h
    have hslot : ∃ a, σ[i]? = some (some (.ref a)) := by
      unfold ownS at e0
      split at e0
      · rename_i xs eq
        obtain ⟨a, _, q, _⟩ := r1.own i xs eq
        exact ⟨a, q⟩
      · rename_i xs eq
        obtain ⟨_, q, _⟩ := r1.io i xs eq
        exact ⟨A, q⟩
      · cases e0
    obtain ⟨p0, hp0⟩ := hslot
    refine ⟨.ref p0, hp0, F, S, r1, ?_⟩
    unfold gAt
    simp only
    cases em : m.toD S with
    | bad => rw [bind_bad em] at h; exact h
    | ex c d S' =>
      rw [bind_ex em] at h
      exact fun F' H' cls dx r2 s2 x2 => h σ F' H' cls dx r2 (s1.trans s2) (x2.lift s1)
    | ok k S1 =>
      rw [bind_ok em] at h
      intro iv F1 H1 r2 s2 x2
      have s12 := s1.trans s2
      have xk : RVR C w0 ⟨σ, F1, H1, S1⟩ r v := RVR.keep s2 x1
      cases eo : ownS i S1 with
      | bad => rw [bind_bad eo] at h; exact h.elim
      | ex c d S' => unfold ownS at eo; split at eo <;> cases eo
      | ok xs S2 =>
        have : S2 = S1 := by unfold ownS at eo; split at eo <;> cases eo <;> rfl
        subst this
        rw [bind_ok eo] at h
        cases k with
        | int j =>
          simp only at h
          cases ej : ixD xs.length j with
          | none => rw [ej] at h; exact h.elim
          | some n =>
            rw [ej] at h
            have h : gU C A W w0 (putS i (xs.set n r.d) S2) _ := h
            have x2 : R C F1 (.int j) iv := x2
            simp only [R] at x2
            subst x2
            -- the value becomes data
            have : ∃ F2, Rel C A ⟨σ, F2, H1, S2⟩ ∧ Step w0 ⟨σ, F2, H1, S2⟩ ∧ R C F2 r.d v ∧ Sub F1 F2 ∧ ∀ a, F1 a = none → (∀ xs, r = .fr xs → v ≠ .ref a) → F2 a = none := by
              cases r with
              | val d => exact ⟨F1, r2, s12, xk, Sub.refl _, fun _ h _ => h⟩
              | fr ys =>
                obtain ⟨p, vs, rfl, h2, h3, h4, h5, h6⟩ := xk
                have h2 : F1 p = none := h2
                have h3 : H1 p = some (.lst vs) := h3
                refine ⟨upd F1 p (.lst vs), r2.frz h2 h3 h5, s12.data h2 h6, ?_, Sub.new h2, fun a h n => ?_⟩
                · simp only [RV.d, R]
                  exact ⟨p, vs, rfl, upd_same, Rs.mono (Sub.new h2) ys h4⟩
                · rw [upd_ne (fun z => n ys rfl (by rw [z]))]; exact h
            obtain ⟨F2, r3, s3, x3, sb, n3⟩ := this
            have hi : getS S2 i = .own xs ∨ getS S2 i = .io xs := by
              unfold ownS at eo
              split at eo
              · rename_i q; cases eo; exact .inl q
              · rename_i q; cases eo; exact .inr q
              · cases eo
            have : ∃ vs, F2 p0 = none ∧ H1 p0 = some (.lst vs) ∧ Rs C F2 xs vs := by
              rcases hi with q | q
              · obtain ⟨a, vs, q1, q2, q3, q4⟩ := r3.own i xs q
                have q1 : σ[i]? = _ := q1
                rw [hp0] at q1
                cases q1
                exact ⟨vs, q2, q3, q4⟩
              · obtain ⟨vs, q1, q2, q3, q4⟩ := r3.io i xs q
                have q1 : σ[i]? = _ := q1
                rw [hp0] at q1
                cases q1
                exact ⟨vs, q2, q3, q4⟩
            obtain ⟨vs, f1, f2, f3⟩ := this
            obtain ⟨S', e1, r4, s4, o4⟩ := put_world (w := ⟨σ, F2, H1, S2⟩) (F' := F2) (H' := upd H1 p0 (.lst (vs.set n v))) r3 hi hp0 (fhp_upd r3 f1 (by show H1 p0 ≠ none; rw [f2]; exact fun z => nomatch z)) upd_same (Rs.set x3 n f3)
            refine ⟨p0, vs, j, n, rfl, rfl, f2, by rw [← f3.length]; exact ej, ?_⟩
            rw [e1] at h
            have hs2 : Step ⟨σ, F, H, S⟩ ⟨σ, F1, H1, S2⟩ := s2
            have ownp : (⟨σ, F2, H1, S2⟩ : Wd).Own p0 := ⟨i, by rcases hi with q | q <;> (show isOwn (getS S2 i) = true; rw [q]; rfl), hp0⟩
            refine h σ F2 _ r4 (s3.trans s4) ⟨hs2.ex.trans sb, fun a z1 z2 z3 z4 => n3 a (hs2.frz a z2 z1 z3) z4, fun a o z1 z2 z3 z4 => ?_, fun a z1 z2 z3 z4 z5 => ?_⟩
            · have hne : H a ≠ none := by
                have z2 : H a = some o := z2
                rw [z2]; exact fun z => nomatch z
              have hp : a ≠ p0 := fun z => z3 (by
                subst z
                rcases hs2.own a (by exact ownp) with q | q
                · exact q
                · exact absurd q hne)
              show upd H1 p0 _ a = some o
              rw [upd_ne hp]
              exact hs2.keep a o z2 z3
            · have q := o4 a z5
              rcases hs2.own a q with q | q
              · exact z3 q
              · exact z2 q
        | _ => exact h.elim
/-! ### several targets -/
def gRs (C : Cxt) (A : Addr) (W : WX') (f : List RV → M Unit) : TGs := fun vs σ H Q => ∃ w0 F S rs, Rel C A ⟨σ, F, H, S⟩ ∧ Step w0 ⟨σ, F, H, S⟩ ∧ RVs C w0 ⟨σ, F, H, S⟩ rs vs ∧ gU C A W w0 (f rs S) fun σ' F' H' S' => Q σ' H'
theorem RVs.keeps {w0 w w' : Wd} {r0 : RV} {v : V} (k : Keeps w w' r0 v) : ∀ {rs : List RV} {vs : List V}, (∀ zs, r0 = .fr zs → ∀ (j : Nat) u ys, rs[j]? = some (.fr ys) → vs[j]? = some u → u ≠ v) → RVs C w0 w rs vs → RVs C w0 w' rs vs
  | [], [], _, _ => trivial
  | r :: rs, x :: vs, n, h => by
    refine ⟨?_, RVs.keeps k (fun zs e0 j u ys e1 e2 => n zs e0 (j + 1) u ys (by simpa using e1) (by simpa using e2)) h.2.1, h.2.2⟩
    cases r with
    | val d => exact R.mono k.s d h.1
    | fr xs =>
      obtain ⟨p, ws, rfl, h2, h3, h4, h5, h6⟩ := h.1
      have nv : ∀ zs, r0 = .fr zs → v ≠ .ref p := fun zs e0 z => n zs e0 0 (.ref p) xs (by simp) (by simp) z.symm
      have h3n : w.H p ≠ none := by rw [h3]; exact fun z => nomatch z
      exact ⟨p, ws, rfl, k.f p h2 h3n h5 nv, k.h p _ h2 h3 h5 nv, Rs.mono k.s xs h4, k.o p h2 h3n h5 nv, h6⟩
  | [], _ :: _, _, h => h.elim
  | _ :: _, [], _, h => h.elim
theorem sgs_nil : PGs X [] (gRs C A W (stoLs [])) := PGs.imp pgs_nil fun vs σ H Q ⟨w0, F, S, rs, r1, s1, x1, h⟩ => by
  match rs, vs, x1 with
  | [], [], _ => exact ⟨rfl, h σ F H r1 s1⟩
  | _ :: _, _ :: _, _ => exact h.elim
theorem sgs_cons {t : PySem.Expr} {ts : List PySem.Expr} {f : RV → M Unit} {fs : List (RV → M Unit)} (h1 : PG X t (gR C A W f)) (h2 : PGs X ts (gRs C A W (stoLs fs))) (hs : ∀ env, (assignEach (t :: ts) env).map (·.2) = assign t env :: (assignEach ts env).map (·.2)) : PGs X (t :: ts) (gRs C A W (stoLs (f :: fs))) :=
  PGs.imp (pgs_cons h1 h2 (hs _)) fun vs σ H Q ⟨w0, F, S, rs, r1, s1, x1, h⟩ => by
    match rs, vs, x1, h with
    | [], [], _, h => exact h.elim
    | r :: rs, v :: vs, x1, h =>
      refine ⟨v, vs, rfl, w0, F, S, r, r1, s1, x1.1, ?_⟩
      have h' : gU C A W w0 (((f r).bind fun _ => stoLs fs rs) S) fun σ' F' H' S' => Q σ' H' := h
      cases e : f r S with
      | bad => rw [bind_bad e] at h'; exact h'
      | ex c d S' => rw [bind_ex e] at h'; exact h'
      | ok u S1 =>
        rw [bind_ok e] at h'
        exact fun σ' F' H' r2 s2 k => ⟨w0, F', S1, rs, r2, s2, RVs.keeps (w := ⟨σ, F, H, S⟩) k x1.2.2 x1.2.1, h'⟩
/-! ### both sides written -/
theorem par_in {ms : M (List RV)} {f : List RV → M Unit} {D : Ends} {σ : St} {H : Hp} (h : gS C A W (nxM (ms.bind f)) D σ H) :
    gM C A W (ρRs C) ms σ H fun vs H1 => ∃ w0 F1 S1 rs, Rel C A ⟨σ, F1, H1, S1⟩ ∧ Step w0 ⟨σ, F1, H1, S1⟩ ∧ RVs C w0 ⟨σ, F1, H1, S1⟩ rs vs ∧ gU C A W w0 (f rs S1) fun σ' F' H' S' => D.nx σ' H' := by
  unfold nxM at h
  rw [M.bind_assoc] at h
  obtain ⟨F, S, r, h⟩ := gS_bind (ρ := ρRs C) h
  refine ⟨F, S, r, h.imp fun vs H1 ⟨w0, F1, S1, rs, r1, s1, x1, h1⟩ => ⟨w0, F1, S1, rs, r1, s1, x1, ?_⟩⟩
  cases e : f rs S1 with
  | bad => rw [bind_bad e] at h1; exact h1
  | ex c d S' => rw [bind_ex e] at h1; exact h1
  | ok u S2 => rw [bind_ok e] at h1; exact fun σ' F' H' r2 s2 => h1 σ' F' H' r2 s2
theorem set2 {σ : St} {i j : Nat} {x y : Option V} (h : i ≠ j) : (σ.set i x).set j y = (σ.set j y).set i x := List.set_comm _ _ h
theorem parL_in {w0 : Wd} {fs : List (RV → M Unit)} {rs : List RV} {S : Sl} {Q : St → Hp → Hp → Sl → Prop} (h : gU C A W w0 (parL fs rs S) Q) : rs.length = fs.length ∧ gU C A W w0 (stoLs fs rs S) Q := by
  unfold parL at h
  by_cases q : rs.length = fs.length
  · rw [if_pos q] at h; exact ⟨q, h⟩
  · rw [if_neg q] at h; exact h.elim
/-- stores into two names -/
theorem sto2 {w0 : Wd} {σ : St} {F H : Hp} {S : Sl} {i j : Nat} {o1 o2 : Bool} {rs : List RV} {vs : List V} {Q : St → Hp → Prop} (r1 : Rel C A ⟨σ, F, H, S⟩) (s1 : Step w0 ⟨σ, F, H, S⟩) (x1 : RVs C w0 ⟨σ, F, H, S⟩ rs vs)
    (h : gU C A W w0 (stoLs [fun r => stoS i o1 r, fun r => stoS j o2 r] rs S) fun σ' F' H' S' => Q σ' H') : ∃ v w, vs = [v, w] ∧ Q ((σ.set i (some v)).set j (some w)) H := by
  match rs, vs, x1, h with
  | [], [], _, h => exact h.elim
  | [r], [v], _, h =>
    have h' : gU C A W w0 ((stoS i o1 r).bind (fun _ => M.bad) S) fun σ' F' H' S' => Q σ' H' := h
    cases e : stoS i o1 r S with
    | bad => rw [bind_bad e] at h'; exact h'.elim
    | ex c d S' => exact (stoS_no e).elim
    | ok u S1 => rw [bind_ok e] at h'; exact h'.elim
  | r :: r' :: r'' :: rs, v :: v' :: v'' :: vs, _, h =>
    have h' : gU C A W w0 ((stoS i o1 r).bind (fun _ => (stoS j o2 r').bind fun _ => M.bad) S) fun σ' F' H' S' => Q σ' H' := h
    cases e : stoS i o1 r S with
    | bad => rw [bind_bad e] at h'; exact h'.elim
    | ex c d S' => exact (stoS_no e).elim
    | ok u S1 =>
      rw [bind_ok e] at h'
      cases e2 : stoS j o2 r' S1 with
      | bad => rw [bind_bad e2] at h'; exact h'.elim
      | ex c d S' => exact (stoS_no e2).elim
      | ok u S1 => rw [bind_ok e2] at h'; exact h'.elim
  | [r, r'], [v, v'], x1, h =>
    have h' : gU C A W w0 ((stoS i o1 r).bind (fun _ => (stoS j o2 r').bind fun _ => M.pure ()) S) fun σ' F' H' S' => Q σ' H' := h
    cases e : stoS i o1 r S with
    | bad => rw [bind_bad e] at h'; exact h'.elim
    | ex c d S' => exact (stoS_no e).elim
    | ok u S1 =>
      cases u
      rw [bind_ok e] at h'
      obtain ⟨F2, r2, s2, k2⟩ := sto_nm (w := ⟨σ, F, H, S⟩) r1 s1 x1.1 e
      have x2 := RVs.keeps k2 x1.2.2 x1.2.1
      cases e2 : stoS j o2 r' S1 with
      | bad => rw [bind_bad e2] at h'; exact h'.elim
      | ex c d S' => exact (stoS_no e2).elim
      | ok u S2 =>
        cases u
        rw [bind_ok e2] at h'
        obtain ⟨F3, r3, s3, k3⟩ := sto_nm (w := ⟨σ.set i (some v), F2, H, S1⟩) r2 s2 x2.1 e2
        exact ⟨v, v', rfl, h' _ F3 H r3 s3⟩
theorem sto3 {w0 : Wd} {σ : St} {F H : Hp} {S : Sl} {i j l : Nat} {o1 o2 o3 : Bool} {rs : List RV} {vs : List V} {Q : St → Hp → Prop} (hl : rs.length = 3) (r1 : Rel C A ⟨σ, F, H, S⟩) (s1 : Step w0 ⟨σ, F, H, S⟩) (x1 : RVs C w0 ⟨σ, F, H, S⟩ rs vs)
    (h : gU C A W w0 (stoLs [fun r => stoS i o1 r, fun r => stoS j o2 r, fun r => stoS l o3 r] rs S) fun σ' F' H' S' => Q σ' H') : ∃ u v w, vs = [u, v, w] ∧ Q (((σ.set i (some u)).set j (some v)).set l (some w)) H := by
  match rs, vs, x1, h, hl with
  | [r, r', r''], [v, v', v''], x1, h, _ =>
    have h' : gU C A W w0 ((stoS i o1 r).bind (fun _ => stoLs [fun r => stoS j o2 r, fun r => stoS l o3 r] [r', r'']) S) fun σ' F' H' S' => Q σ' H' := h
    cases e : stoS i o1 r S with
    | bad => rw [bind_bad e] at h'; exact h'.elim
    | ex c d S' => exact (stoS_no e).elim
    | ok u S1 =>
      cases u
      rw [bind_ok e] at h'
      obtain ⟨F2, r2, s2, k2⟩ := sto_nm (w := ⟨σ, F, H, S⟩) r1 s1 x1.1 e
      have x2 := RVs.keeps k2 x1.2.2 x1.2.1
      obtain ⟨a, b, e2, q⟩ := sto2 r2 s2 x2 h'
      cases e2
      exact ⟨v, v', v'', rfl, q⟩
theorem st_par2 {i j : Nat} {x y : Str} {a b : PySem.Expr} {px py pt pos : Pos} {kt k2 pt2} {o1 o2 : Bool} {ms : M (List RV)} (hc : X.calm = true) (hN : X.N.Nodup) (hi : X.N[i]? = some x) (hj : X.N[j]? = some y) (hij : i ≠ j)
    (hx : X.env.scope.names.lookup x = some .local) (hy : X.env.scope.names.lookup y = some .local) (ha : PA X [a, b] (gM C A W (ρRs C) ms))
    (hw : swappedStores [.Tuple [.Name x px, .Name y py] kt pt] (.Tuple [a, b] k2 pt2) X.env = pure (some [x, y])) (hs : swapsWithSole [.Tuple [.Name x px, .Name y py] kt pt] (.Tuple [a, b] k2 pt2) pos.line X.env = pure false) :
    PS X (.Assign [.Tuple [.Name x px, .Name y py] kt pt] (.Tuple [a, b] k2 pt2) pos) (gS C A W (nxM (ms.bind fun rs => parL [fun r => stoS i o1 r, fun r => stoS j o2 r] rs))) :=
  PS.imp (ps_par hc hN hi hj hij hx hy ha hw hs) fun D σ H h => by
    obtain ⟨F, S, r, h⟩ := par_in h
    exact ⟨F, S, r, h.imp fun vs H1 ⟨w0, F1, S1, rs, r1, s1, x1, h1⟩ => sto2 r1 s1 x1 (parL_in h1).2⟩
end
end Pl
set_option Elab.async false
set_option linter.all false
set_option maxRecDepth 100000
/-! Pl: several values, several targets (2); attributes of self; loops. -/
namespace Pl
open PySem L2
section
variable {C : Cxt} {A : Addr} {W : WX'} {X : Cx}
theorem st_par3 {i j l : Nat} {x y z : Str} {a b c : PySem.Expr} {px py pz pt pos : Pos} {kt k2 pt2} {o1 o2 o3 : Bool} {ms : M (List RV)} (hc : X.calm = true) (hN : X.N.Nodup) (hi : X.N[i]? = some x) (hj : X.N[j]? = some y) (hl : X.N[l]? = some z) (hij : i ≠ j) (hil : i ≠ l) (hjl : j ≠ l)
    (hx : X.env.scope.names.lookup x = some .local) (hy : X.env.scope.names.lookup y = some .local) (hz : X.env.scope.names.lookup z = some .local) (ha : PA X [a, b, c] (gM C A W (ρRs C) ms))
    (hw : swappedStores [.Tuple [.Name x px, .Name y py, .Name z pz] kt pt] (.Tuple [a, b, c] k2 pt2) X.env = pure (some [x, y, z])) (hs : swapsWithSole [.Tuple [.Name x px, .Name y py, .Name z pz] kt pt] (.Tuple [a, b, c] k2 pt2) pos.line X.env = pure false) :
    PS X (.Assign [.Tuple [.Name x px, .Name y py, .Name z pz] kt pt] (.Tuple [a, b, c] k2 pt2) pos) (gS C A W (nxM (ms.bind fun rs => parL [fun r => stoS i o1 r, fun r => stoS j o2 r, fun r => stoS l o3 r] rs))) :=
  PS.imp (ps_par3 hc hN hi hj hl hij hil hjl hx hy hz ha hw hs) fun D σ H h => by
    obtain ⟨F, S, r, h⟩ := par_in h
    exact ⟨F, S, r, h.imp fun vs H1 ⟨w0, F1, S1, rs, r1, s1, x1, h1⟩ => sto3 (parL_in h1).1 r1 s1 x1 (parL_in h1).2⟩
theorem RVs.keep {w w1 w2 : Wd} (s : Step w1 w2) : ∀ {rs : List RV} {vs : List V}, RVs C w w1 rs vs → RVs C w w2 rs vs
  | [], [], _ => trivial
  | r :: rs, v :: vs, h => ⟨RVR.keep s h.1, RVs.keep s h.2.1, h.2.2⟩
  | [], _ :: _, h => h.elim
  | _ :: _, [], h => h.elim
/-- by way of a tuple -/
theorem st_parT {ts es : List PySem.Expr} {pt pt2 pos : Pos} {kt k2} {fs : List (RV → M Unit)} {ms : M (List RV)} (hK : X.K = C.K) (hc : X.calm = true) (ha : PA X es (gM C A W (ρRs C) ms)) (hg : PGs X ts (gRs C A W (stoLs fs))) (hfl : fs.length < 1000)
    (hn : (assignEach ts X.env).length = fs.length) (hst : (assignEach ts X.env).findIdx? (·.1) = none)
    (hw : swappedStores [.Tuple ts kt pt] (.Tuple es k2 pt2) X.env = pure none) (hs : swapsWithSole [.Tuple ts kt pt] (.Tuple es k2 pt2) pos.line X.env = pure false) (h1 : (assignEach [.Tuple ts kt pt] X.env).map (·.2) = [assign (.Tuple ts kt pt) X.env]) :
    PS X (.Assign [.Tuple ts kt pt] (.Tuple es k2 pt2) pos) (gS C A W (nxM (ms.bind fun rs => parL fs rs))) :=
  PS.imp (ps_asg (pe_tup ha) (pg_tup hc hg hn hst) hs hw h1) fun D σ H h => by
    obtain ⟨F, S, r, h⟩ := par_in h
    refine ⟨F, S, r, h.imp fun vs H1 ⟨w0, F1, S1, rs, r1, s1, x1, h1⟩ => ?_⟩
    obtain ⟨hl, h1⟩ := parL_in h1
    have hv := x1.len
    refine ⟨by
      have : vs.length < 1000 := by omega
      exact Nat.le_trans (Nat.le_of_lt this) (lim_le (by decide)), fun p hp => ?_⟩
    exact ⟨p, vs, rfl, SqT.of upd_same, by omega, w0, F1, S1, rs, r1.lay hp, s1.trans (Step.lay (w := ⟨σ, F1, H1, S1⟩) hp), RVs.keep (Step.lay (w := ⟨σ, F1, H1, S1⟩) hp) x1, h1⟩
/-- one target that is no name -/
theorem st_gR {tg e : PySem.Expr} {pos : Pos} {m : M RV} {f : RV → M Unit} (he : PE X e (gM C A W (ρV C) m)) (hg : PG X tg (gR C A W f)) (hs : swapsWithSole [tg] e pos.line X.env = pure false) (hw : swappedStores [tg] e X.env = pure none) (h1 : (assignEach [tg] X.env).map (·.2) = [assign tg X.env]) :
    PS X (.Assign [tg] e pos) (gS C A W (nxM (m.bind f))) :=
  PS.imp (ps_asg he hg hs hw h1) fun D σ H h => by
    unfold nxM at h
    rw [M.bind_assoc] at h
    obtain ⟨F, S, r, h⟩ := gS_bind (ρ := ρV C) h
    refine ⟨F, S, r, h.imp fun v H1 ⟨w0, F1, S1, rv, r1, s1, x1, h1⟩ => ⟨w0, F1, S1, rv, r1, s1, x1, ?_⟩⟩
    cases e : f rv S1 with
    | bad => rw [bind_bad e] at h1; exact h1
    | ex c d S' => rw [bind_ex e] at h1; exact h1
    | ok u S2 => rw [bind_ok e] at h1; exact fun σ' F' H' r2 s2 _ => h1 σ' F' H' r2 s2
/-! ### attributes of self -/
theorem putF_new {f : Str} {v : V} : ∀ {fs : List (Str × V)}, f ∉ fs.map (·.1) → putF f v fs = fs ++ [(f, v)]
  | [], _ => rfl
  | (g, x) :: r, h => by
    simp only [List.map_cons, List.mem_cons, not_or] at h
    unfold putF
    rw [if_neg (fun z => h.1 z.symm), putF_new h.2]
    rfl
theorem zip_map_fst {ks : List Str} {vs : List V} : ∀ k ∈ (ks.zip vs).map (·.1), k ∈ ks := by
  intro k hk
  obtain ⟨⟨a, b⟩, h1, h2⟩ := List.mem_map.mp hk
  have := List.of_mem_zip h1
  rw [← h2]; exact this.1
def fldM (f : Nat) (r : RV) : M Unit := fun S => match getS S 0 with
  | .slf c ks xs => if ks.contains f || decide (900 ≤ ks.length) then .bad else .ok () (S.set 0 (.slf c (ks ++ [f]) (xs ++ [r.d])))
  | _ => .bad
theorem slot_slf {w : Wd} {c f : Nat} {ks : List Nat} {xs : List D} {d : D} {v : V} {dx : Addr} {vs : List V} (r : Rel C A w) (e : getS w.S 0 = .slf c ks xs) (hA : w.σ[0]? = some (some (.ref A))) (hF : w.F A = none) (hv : Rs C w.F xs vs) (hl : ks.length = xs.length) (ok : C.okc c) (x : R C w.F d v) :
    Rel C A ⟨w.σ, w.F, upd w.H A (.ins (C.cls c) dx (((ks ++ [f]).map C.nm).zip (vs ++ [v]))), w.S.set 0 (.slf c (ks ++ [f]) (xs ++ [d]))⟩ ∧ Step w ⟨w.σ, w.F, upd w.H A (.ins (C.cls c) dx (((ks ++ [f]).map C.nm).zip (vs ++ [v]))), w.S.set 0 (.slf c (ks ++ [f]) (xs ++ [d]))⟩ := by
  have hl0 : 0 < w.S.length := getS_lt e (fun z => nomatch z)
  have io : isOwn (getS w.S 0) = true := by rw [e]; rfl
  have same : getS (w.S.set 0 (.slf c (ks ++ [f]) (xs ++ [d]))) 0 = .slf c (ks ++ [f]) (xs ++ [d]) := by rw [getS_set, if_pos rfl, if_pos hl0]
  have other : ∀ j, 0 ≠ j → getS (w.S.set 0 (.slf c (ks ++ [f]) (xs ++ [d]))) j = getS w.S j := fun j h => by rw [getS_set, if_neg h]
  have so : ∀ j, isOwn (getS (w.S.set 0 (.slf c (ks ++ [f]) (xs ++ [d]))) j) = isOwn (getS w.S j) := fun j => by
    by_cases q : 0 = j
    · subst q; rw [same, io]; rfl
    · rw [other j q]
  have neA : ∀ j a, 0 ≠ j → isOwn (getS w.S j) = true → w.σ[j]? = some (some (.ref a)) → a ≠ A := fun j a n h1 h2 e => n (r.inj 0 j A io h1 hA (by rw [h2, e]))
  refine ⟨⟨by simpa using r.len, fun a u e => ?_, fun j d' e => ?_, fun j xs' e => ?_, fun j xs' e => ?_, fun j c' ks' xs' e => ?_, fun j1 j2 a h1 h2 => ?_⟩, ⟨Sub.refl _, fun a o h n => ?_, fun a h1 h2 _ => h2, fun a h => ?_, fun a h => ?_⟩⟩
  · show upd w.H A _ a = some u
    rw [upd_ne (fun z => by rw [z] at e; rw [hF] at e; cases e)]; exact r.sub a u e
  · by_cases q : 0 = j
    · subst q
      have e : getS (w.S.set 0 _) 0 = _ := e
      rw [same] at e; cases e
    · have e : getS (w.S.set 0 _) j = .val d' := e
      rw [other j q] at e
      exact r.val j d' e
  · by_cases q : 0 = j
    · subst q
      have e : getS (w.S.set 0 _) 0 = _ := e
      rw [same] at e; cases e
    · have e : getS (w.S.set 0 _) j = .own xs' := e
      rw [other j q] at e
      obtain ⟨a, us, q1, q2, q3, q4⟩ := r.own j xs' e
      exact ⟨a, us, q1, q2, by show upd w.H A _ a = _; rw [upd_ne (neA j a q (by rw [e]; rfl) q1)]; exact q3, q4⟩
  · by_cases q : 0 = j
    · subst q
      have e : getS (w.S.set 0 _) 0 = _ := e
      rw [same] at e; cases e
    · have e : getS (w.S.set 0 _) j = .io xs' := e
      rw [other j q] at e
      obtain ⟨us, q1, q2, q3, q4⟩ := r.io j xs' e
      exact absurd rfl (neA j A q (by rw [e]; rfl) q1)
  · by_cases q : 0 = j
    · subst q
      have e : getS (w.S.set 0 _) 0 = _ := e
      rw [same] at e; cases e
      exact ⟨dx, vs ++ [v], hA, hF, upd_same, hv.append (Rs.cons x Rs.nil), by simp [hl], ok⟩
    · have e : getS (w.S.set 0 _) j = .slf c' ks' xs' := e
      rw [other j q] at e
      obtain ⟨dx', us, q1, q2, q3, q4⟩ := r.slf j c' ks' xs' e
      exact absurd rfl (neA j A q (by rw [e]; rfl) q1)
  · have h1 : isOwn (getS (w.S.set 0 _) j1) = true := h1
    have h2 : isOwn (getS (w.S.set 0 _) j2) = true := h2
    rw [so] at h1 h2
    exact r.inj j1 j2 a h1 h2
  · show upd w.H A _ a = some o
    rw [upd_ne (fun z => n ⟨0, io, by rw [z]; exact hA⟩)]; exact h
  · show upd w.H A _ a ≠ none
    by_cases q : a = A
    · subst q; rw [upd_same]; exact fun z => nomatch z
    · rw [upd_ne q]; exact h
  · obtain ⟨j, h1, h2⟩ := h
    have h1 : isOwn (getS (w.S.set 0 _) j) = true := h1
    rw [so] at h1
    exact .inl ⟨j, h1, h2⟩
theorem st_fld {o e : PySem.Expr} {f : Nat} {pos pos' : Pos} {m : M RV} (hK : X.K = C.K) (cf : CF C) (inj : ∀ i j, C.nm i = C.nm j → i = j) (na : ∀ c, C.okc c → NoAttr C.K (C.cls c) (C.nm f)) (ho : PE X o (tVar 0)) (he : PE X e (gM C A W (ρV C) m))
    (hs : swapsWith e (some (.Attribute o (C.nm f) pos')) pos.line X.env = pure false) : PS X (.Assign [.Attribute o (C.nm f) pos'] e pos) (gS C A W (nxM (m.bind fun r => fldM f r))) :=
  PS.imp (ps_fld ho he hs) fun D σ H h => by
    unfold nxM at h
    rw [M.bind_assoc] at h
    obtain ⟨F, S, r, h⟩ := gS_bind (ρ := ρV C) h
    refine ⟨F, S, r, h.imp fun v H1 ⟨w0, F1, S1, rv, r1, s1, x1, h1⟩ => ?_⟩
    obtain ⟨F2, r2, s2, x2⟩ := RVR.data r1 s1 x1
    cases es : getS S1 0 with
    | slf c ks xs =>
      obtain ⟨dx, vs, q1, q2, q3, q4, q5, q6⟩ := r2.slf 0 c ks xs es
      by_cases g : (ks.contains f || decide (900 ≤ ks.length)) = true
      · rw [bind_bad (by unfold fldM; rw [es]; exact if_pos g)] at h1; exact h1.elim
      · rw [bind_ok (by unfold fldM; rw [es]; exact if_neg g)] at h1
        simp only [Bool.or_eq_true, List.contains_iff_mem, decide_eq_true_eq, not_or] at g
        obtain ⟨r3, s3⟩ := slot_slf (f := f) (dx := dx) (w := ⟨σ, F2, H1, S1⟩) r2 es q1 q2 q4 q5 q6 x2
        have nf : C.nm f ∉ ((ks.map C.nm).zip vs).map (·.1) := fun z => by
          obtain ⟨k, k1, k2⟩ := List.mem_map.mp (zip_map_fst _ z)
          exact g.1 (by rw [← inj _ _ k2]; exact k1)
        have hlen : vs.length = ks.length := by rw [← q4.length, q5]
        refine ⟨.ref A, q1, A, C.cls c, dx, _, rfl, q3, by rw [hK]; exact cf.cl c q6, by rw [hK]; exact na c q6, by simp; omega, ?_⟩
        rw [putF_new nf]
        have : ((ks ++ [f]).map C.nm).zip (vs ++ [v]) = (ks.map C.nm).zip vs ++ [(C.nm f, v)] := by
          rw [List.map_append, List.zip_append (by simp [hlen])]; rfl
        rw [← this]
        exact h1 σ F2 _ r3 (s2.trans s3)
    | _ => rw [bind_bad (by unfold fldM; rw [es])] at h1; exact h1.elim
/-! ### loops -/
theorem st_for {tg iter : PySem.Expr} {body : List Stmt} {pos : Pos} {mi : M (List D)} {g : Tgt} {mb : M Ctl} (hp : PassesOwn (model X.prog X.w) X.A X.env X.xe) (hc : X.calm = true) (hi : PI X tg iter (ti' C A W mi)) (hg : PG X tg (gT C.K g)) (hb : PSs X body (gS C A W mb)) (hs : ∀ x, foldedSetIterable iter X.env x = pure x) :
    PS X (.For tg iter body [] pos) (gS C A W (mi.bind fun xs => forL g mb xs)) :=
  PS.imp (ps_for hp hc hi hg hb hs) fun D σ H h => by
    obtain ⟨F, S, r, h⟩ := gS_bind (ρ := ρW C A) h
    refine ⟨F, S, r, h.imp fun J H1 ⟨w0, F1, S1, xs, r1, s1, x1, h1⟩ => ?_⟩
    have x1 : Walks C A ⟨σ, F1, H1, S1⟩ J xs := x1
    refine ⟨fun i m σ' H' => m = xs.length - i ∧ i ≤ xs.length ∧ ∃ F S, Rel C A ⟨σ', F, H', S⟩ ∧ Sub F1 F ∧ Step w0 ⟨σ', F, H', S⟩ ∧ gSb C A W w0 (forL g mb (xs.drop i) S) D, ⟨_, rfl, Nat.zero_le _, F1, S1, r1, Sub.refl _, s1, by simpa using h1⟩, fun i m σ' H' hw => ?_⟩
    obtain ⟨rfl, hi, F2, S2, r2, f2, s2, h2⟩ := hw
    by_cases q : i < xs.length
    · right
      refine ⟨x1.go i ⟨σ', F2, H', S2⟩ r2 f2 q, fun σ' H' => ∃ F S, Rel C A ⟨σ', F, H', S⟩ ∧ Sub F1 F ∧ Step w0 ⟨σ', F, H', S⟩ ∧ gSb C A W w0 (forL g mb (xs.drop (i + 1)) S) D, fun σ3 H3 k => ⟨xs.length - (i + 1), by omega, rfl, q, k⟩, fun x H3 hy => ?_⟩
      obtain ⟨F3, r3, s3, x3⟩ := x1.yld i ⟨σ', F2, H', S2⟩ x H3 xs[i] r2 f2 (List.getElem?_eq_getElem q) hy
      have ed : xs.drop i = xs[i] :: xs.drop (i + 1) := List.drop_eq_getElem_cons q
      rw [ed] at h2
      simp only [forL] at h2
      cases et : tgtS g xs[i] S2 with
      | none => rw [et] at h2; exact h2.elim
      | some Sa =>
        rw [et] at h2
        simp only at h2
        obtain ⟨σ4, k1, k2, k3, _, _⟩ := tgt_ok r3 et x3
        refine k1 _ ⟨F3, Sa, k2, ?_⟩
        have s4 : Step w0 ⟨σ4, F3, H3, Sa⟩ := (s2.trans s3).trans k3
        have f4 : Sub F1 F3 := f2.trans s3.ex
        cases eb : mb Sa with
        | bad => rw [eb] at h2; exact h2
        | ex c d S' =>
          rw [eb] at h2
          exact gSb.step (D := D) (r := .ex c d S') s4 h2
        | ok k S' =>
          rw [eb] at h2
          cases k with
          | nx => exact fun σ5 F5 H5 r5 s5 => ⟨F5, S', r5, f4.trans s5.ex, s4.trans s5, h2⟩
          | ct => exact fun σ5 F5 H5 r5 s5 => ⟨F5, S', r5, f4.trans s5.ex, s4.trans s5, h2⟩
          | bk => exact fun σ5 F5 H5 r5 s5 => h2 σ5 F5 H5 r5 (s4.trans s5)
          | rt v => exact fun x σ5 F5 H5 r5 s5 x5 => h2 x σ5 F5 H5 r5 (s4.trans s5) (x5.lift s4)
    · left
      have q : i = xs.length := by omega
      subst q
      rw [List.drop_length] at h2
      exact ⟨x1.stop _ ⟨σ', F2, H', S2⟩ r2 f2 (Nat.le_refl _), h2 σ' F2 H' r2 s2⟩
theorem st_while {c : PySem.Expr} {body : List Stmt} {pos : Pos} {mt : M Bool} {mb : M Ctl} {n : Nat} (hp : PassesOwn (model X.prog X.w) X.A X.env X.xe) (hc : PT X c (gM C A W (ρE (α := Bool)) mt)) (hb : PSs X body (gS C A W mb)) : PS X (.While c body [] pos) (gS C A W (whL mt mb n)) :=
  PS.imp (ps_while hp hc hb) fun D σ H ⟨F, S, r, h⟩ => by
    refine ⟨fun m σ' H' => ∃ F' S', Rel C A ⟨σ', F', H', S'⟩ ∧ Step ⟨σ, F, H, S⟩ ⟨σ', F', H', S'⟩ ∧ gSb C A W ⟨σ, F, H, S⟩ (whL mt mb m S') D, ⟨n, F, S, r, Step.refl _, h⟩, fun m σ' H' ⟨F1, S1, r1, s1, h1⟩ => ?_⟩
    cases m with
    | zero => exact h1.elim
    | succ m =>
      have h2 : gS C A W (mt.bind fun b => if b then turnM mb (whL mt mb m) else M.pure .nx) D σ' H' := ⟨F1, S1, r1, h1.step s1⟩
      obtain ⟨F2, S2, r2, h2⟩ := gS_bind (ρ := ρE (α := Bool)) (D := D) h2
      have h3 : gM C A W (ρE (α := Bool)) mt σ' H' fun b H2 => ∃ F2 S2, Rel C A ⟨σ', F2, H2, S2⟩ ∧ Step ⟨σ, F, H, S⟩ ⟨σ', F2, H2, S2⟩ ∧ gSb C A W ⟨σ, F, H, S⟩ ((if b then turnM mb (whL mt mb m) else M.pure .nx) S2) D := by
        refine ⟨F1, S1, r1, ?_⟩
        have h1' : gSb C A W ⟨σ, F, H, S⟩ ((mt.bind fun b => if b then turnM mb (whL mt mb m) else M.pure .nx) S1) D := h1
        unfold gAt
        simp only
        cases e : mt S1 with
        | bad => rw [bind_bad e] at h1'; exact h1'
        | ex c d S' =>
          rw [bind_ex e] at h1'
          exact fun F' H' cls dx r3 s3 x3 => h1' σ' F' H' cls dx r3 (s1.trans s3) (x3.lift s1)
        | ok b S3 =>
          rw [bind_ok e] at h1'
          intro b' F3 H3 r3 s3 x3
          cases x3
          exact ⟨F3, S3, r3, s1.trans s3, h1'⟩
      obtain ⟨F4, S4, r4, h3⟩ := h3
      refine ⟨F4, S4, r4, h3.imp fun b H2 ⟨F5, S5, r5, s5, h5⟩ => ?_⟩
      cases b with
      | false => exact h5 σ' F5 H2 r5 s5
      | true =>
        rw [if_pos rfl]
        rw [if_pos rfl] at h5
        refine ⟨fun σ' H' => ∃ F' S', Rel C A ⟨σ', F', H', S'⟩ ∧ Step ⟨σ, F, H, S⟩ ⟨σ', F', H', S'⟩ ∧ gSb C A W ⟨σ, F, H, S⟩ (whL mt mb m S') D, fun σ6 H6 k => ⟨m, by omega, k⟩, F5, S5, r5, ?_⟩
        unfold turnM at h5
        cases eb : mb S5 with
        | bad => rw [eb] at h5; exact h5
        | ex c d S' =>
          rw [eb] at h5
          exact gSb.step (D := D) (r := .ex c d S') s5 h5
        | ok k S' =>
          rw [eb] at h5
          cases k with
          | nx => exact fun σ6 F6 H6 r6 s6 => ⟨F6, S', r6, s5.trans s6, h5⟩
          | ct => exact fun σ6 F6 H6 r6 s6 => ⟨F6, S', r6, s5.trans s6, h5⟩
          | bk => exact fun σ6 F6 H6 r6 s6 => h5 σ6 F6 H6 r6 (s5.trans s6)
          | rt v => exact fun x σ6 F6 H6 r6 s6 x6 => h5 x σ6 F6 H6 r6 (s5.trans s6) (x6.lift s5)
end
end Pl
set_option Elab.async false
set_option linter.all false
set_option maxRecDepth 100000
/-! Pl: more expressions. -/
namespace Pl
open PySem L2
section
variable {C : Cxt} {A : Addr} {W : WX'} {X : Cx} {e a b c : PySem.Expr} {es : List PySem.Expr} {pos : Pos}
theorem pe_nev : PE X e (gM C A W (ρV C) M.bad) := ⟨fun pins s σ H Q I ⟨F, S, r, h⟩ => h.elim⟩
theorem pt_nev : PT X e (gM C A W (ρE (α := Bool)) M.bad) := ⟨fun pins s σ H Q I ⟨F, S, r, h⟩ => h.elim⟩
/-! ### chains -/
def chainM (o o' : Cop) (ma mb mc : M RV) : M Bool := ma.toD.bind fun x => mb.toD.bind fun y => (M.opt (cmpD o x y)).bind fun k => if k then mc.toD.bind fun z => M.opt (cmpD o' y z) else M.pure false
theorem chain_in {o o' : Cop} {ma mb mc : M RV} {σ : St} {H : Hp} {Q : VK} (h : gM C A W (ρV C) (boolM (chainM o o' ma mb mc)) σ H Q) :
    tChain (rCmp C A W o) (rCmp C A W o') (gM C A W (ρD C) ma.toD) (gM C A W (ρD C) mb.toD) (gM C A W (ρD C) mc.toD) σ H Q := by
  obtain ⟨F, S, r, h⟩ := h
  unfold chainM boolM at h
  rw [M.bind_assoc] at h
  refine ⟨F, S, r, (gAt.bind (ρ1 := ρD C) (lifts_V C) h).imp fun x H1 ⟨F1, S1, d, r1, s1, x1, h1⟩ => ?_⟩
  rw [M.bind_assoc] at h1
  refine ⟨F1, S1, r1, (gAt.bind (ρ1 := ρD C) (lifts_V C) h1).imp fun y H2 ⟨F2, S2, d', r2, s2, x2, h2⟩ => ?_⟩
  have x1' : R C F2 d x := R.mono s2.ex d x1
  rw [M.bind_assoc] at h2
  obtain ⟨k, ek, h3⟩ := gAt.bind_opt h2
  refine ⟨_, d, d', rfl, r2, PR.of (w := ⟨σ, F2, H2, S2⟩) r2 x1', PR.of (w := ⟨σ, F2, H2, S2⟩) r2 x2, ?_⟩
  rw [ek]
  intro v F3 H3 r3 s3 x3
  have x3 : R C F3 (.bl k) v := x3
  simp only [R] at x3
  refine ⟨k, x3, ?_⟩
  have h4 := gAt.step (lifts_V C) (w := ⟨σ, F2, H2, S2⟩) s3 h3
  cases k with
  | false =>
    rw [if_neg Bool.false_ne_true]
    exact gAt.pure (w := ⟨σ, F3, H3, S2⟩) (ρ1 := ρV C) (b := V.bl false) h4 r3 (by show R C F3 (.bl false) _; simp only [R])
  | true =>
    rw [if_pos rfl]
    have h4 : gAt C A W (ρV C) ((mc.toD.bind fun z => M.opt (cmpD o' d' z)).bind fun b => M.pure (.val (.bl b))) ⟨σ, F3, H3, S2⟩ Q := h4
    rw [M.bind_assoc] at h4
    refine ⟨F3, S2, r3, (gAt.bind (ρ1 := ρD C) (lifts_V C) h4).imp fun z H4 ⟨F4, S4, d2, r4, s4, x4, h5⟩ => ?_⟩
    have x2' : R C F4 d' y := R.mono (s3.ex.trans s4.ex) d' x2
    exact ⟨_, d', d2, rfl, r4, PR.of (w := ⟨σ, F4, H4, S4⟩) r4 x2', PR.of (w := ⟨σ, F4, H4, S4⟩) r4 x4, h5⟩
theorem se_chain {op op' : CmpOp} (hK : X.K = C.K) (hu : X.A.units + 65 < cLine) {ma mb mc : M RV} (ha : PE X a (gM C A W (ρV C) ma)) (hb : PE X b (gM C A W (ρV C) mb)) (hc : PE X c (gM C A W (ρV C) mc)) (hm : lastMarks [op, op'] [b, c] = false) :
    PE X (.Compare a [op, op'] [b, c] pos) (gM C A W (ρV C) (boolM (chainM (copOf op) (copOf op') ma mb mc))) :=
  PE.imp (pe_chain (opr_cmp (C := C) (A := A) (W := W) hK hu op) (opr_cmp (C := C) (A := A) (W := W) hK hu op') (sd_of ha) (sd_of hb) (sd_of hc) hm) fun σ H Q h => chain_in h
theorem st_chain {op op' : CmpOp} (hK : X.K = C.K) (hu : X.A.units + 65 < cLine) {ma mb mc : M RV} (ha : PE X a (gM C A W (ρV C) ma)) (hb : PE X b (gM C A W (ρV C) mb)) (hc : PE X c (gM C A W (ρV C) mc)) (hm : lastMarks [op, op'] [b, c] = false) :
    PT X (.Compare a [op, op'] [b, c] pos) (gM C A W (ρE (α := Bool)) (chainM (copOf op) (copOf op') ma mb mc)) :=
  st_bool (pt_chain (opr_cmp (C := C) (A := A) (W := W) hK hu op) (opr_cmp (C := C) (A := A) (W := W) hK hu op') (sd_of ha) (sd_of hb) (sd_of hc) hm) fun σ H Q h => chain_in h
/-! ### .. if .. else .. as a test -/
theorem st_ite {mt ma mb : M Bool} (ht : PT X c (gM C A W (ρE (α := Bool)) mt)) (ha : PT X a (gM C A W (ρE (α := Bool)) ma)) (hb : PT X b (gM C A W (ρE (α := Bool)) mb)) : PT X (.IfExp c a b pos) (gM C A W (ρE (α := Bool)) (mt.bind fun k => if k then ma else mb)) := by
  refine ⟨fun pins s σ H Q I ⟨F, S, r, h⟩ => ?_⟩
  show wpAny _ _ (isTrue (.IfExp c a b pos) X.env (eval (.IfExp c a b pos) X.env)) _ _ _
  rw [arm_isTrue_IfExp]
  refine wpAny_bind (thn (ht.run pins s σ H _ I ⟨F, S, r, gAt.bind (ρ1 := ρE (α := Bool)) lifts_E h⟩) fun k s1 ⟨H1, I1, F1, S1, k', r1, s1', x1, h1⟩ => ?_)
  cases x1
  cases k with
  | true => exact ha.run pins s1 σ H1 Q I1 ⟨F1, S1, r1, h1⟩
  | false => exact hb.run pins s1 σ H1 Q I1 ⟨F1, S1, r1, h1⟩
/-! ### o.m(..), o a list -/
def bmtM (b : Blt) (mo : M Op) (ms : M (List Op)) : M RV := mo.bind fun p => (p.get.bind lstM).bind fun _ => ms.bind fun ps => (gets (p :: ps)).bind fun xs => M.opt (bltD b xs)
theorem se_bmt {bt : Blt} {o : PySem.Expr} {id : String} {name : Str} {apos cpos : Pos} {mo : M Op} {ms : M (List Op)} (slot : PySem.Slot "list" name id) (hty : typeOf (.builtin id) = pure (.type "method_descriptor")) (hm : MtR X id (rMt C A W bt)) (ho : PE X o (gM C A W (ρO C) mo)) (ha : PA X (e :: es) (gM C A W (ρOs C) ms))
    (hbase : attributeBase o name X.env (eval o X.env) = eval o X.env) (hp : (e :: es).all plainE = true) (hl : (e :: es).length < 30) (hline : (apos.endLine == cpos.line) = true) :
    PE X (.Call (.Attribute o name apos) (e :: es) [] cpos) (gM C A W (ρV C) (bmtM bt mo ms)) := by
  have hp' := hp
  simp only [List.all_cons, Bool.and_eq_true] at hp
  refine PE.imp (pe_bm PySem.F.plainAttrs_list slot hty hm ho ha hbase ?_ hline (starEach_cons hp.1) (star_any hp.2)) fun σ H Q ⟨F, S, r, h⟩ => ?_
  · rw [star_all hp']
    have : decide ((e :: es).length + ([] : List Keyword).length + (if ([] : List Keyword).isEmpty then 0 else 1) < 30) = true := by
      simp only [decide_eq_true_eq]
      simpa using hl
    rw [this]; rfl
  · refine ⟨F, S, r, (gAt.bind (ρ1 := ρO C) (lifts_V C) h).imp fun x H1 ⟨F1, S1, p, r1, s1, x1, h1⟩ => ?_⟩
    rw [M.bind_assoc] at h1
    obtain ⟨d, k1, h2⟩ := get_bind r1 x1 h1
    cases d with
    | lst ys =>
      obtain ⟨q, vs, rfl, k2, k3⟩ := k1
      refine ⟨.inl ⟨rfl, vs, SqL.of k2⟩, F1, S1, r1, (gAt.bind (ρ1 := ρOs C) (lifts_V C) (show gAt C A W (ρV C) (ms.bind fun ps => (gets (p :: ps)).bind fun xs => M.opt (bltD bt xs)) ⟨σ, F1, H1, S1⟩ Q from h2)).imp fun xs H2 ⟨F2, S2, ps, r2, s2, x2, h3⟩ => ?_⟩
      obtain ⟨ds, k4, h4⟩ := gets_bind r2 (.cons (OpR'.mono s2 x1) x2) h3
      exact ⟨_, ds, rfl, r2, k4, h4⟩
    | _ => exact h2.elim
/-! ### isinstance -/
theorem isTgs_one (d : D) (t : Tg) : isTgs d [t] = isTg t d := rfl
theorem se_isi {t : Tg} {p : Pos} {mo : M Op} (hK : X.K = C.K) (cf : CF C) (hg : Gl X "isinstance") (hm : X.mg "isinstance" = none) (hok : t.ok C) (ha : PE X a (gM C A W (ρO C) mo)) (hb : PE X b (tC (tgV C t))) (hpa : plainE a = true) (hpb : plainE b = true) :
    PE X (.Call (.Name "isinstance" p) [a, b] [] pos) (gM C A W (ρV C) (boolM (mo.bind fun p => p.get.bind fun x => M.opt (isTgs x [t])))) := by
  refine PE.imp (pe_callB (cb_isi (C := C) (A := A) (W := W) hK cf) hg hm rfl (pa_cons ha (pa_cons hb pa_nil (starEach_cons hpb)) (starEach_cons hpa)) (by decide) (by decide) (starEach_cons hpa) (star_any (by simp [hpb]))) fun σ H Q ⟨F, S, r, h⟩ => ?_
  unfold boolM at h
  rw [M.bind_assoc] at h
  refine ⟨F, S, r, (gAt.bind (ρ1 := ρO C) (lifts_V C) h).imp fun x H1 ⟨F1, S1, q, r1, s1, x1, h1⟩ => ?_⟩
  rw [M.bind_assoc] at h1
  obtain ⟨d, k1, h2⟩ := get_bind r1 x1 h1
  exact ⟨_, d, x, t, rfl, rfl, hok, r1, k1, h2⟩
/-! ### a list the other way round -/
theorem se_rev {k : Nat} {p1 p2 p3 : Pos} {mo : M Op} (hK : X.K = C.K) (ha : PE X a (gM C A W (ρO C) mo)) :
    PE X (.Subscript a (.Slice none none (some (.UnaryOp .USub (.Constant (.int 1) k p1) p2)) p3) pos) (gM C A W (ρV C) (mo.bind fun p => p.get.bind fun x => M.opt (revD x))) :=
  PE.imp (pe_revL ha) fun σ H Q ⟨F, S, r, h⟩ => ⟨F, S, r, (gAt.bind (ρ1 := ρO C) (lifts_V C) h).imp fun x H1 ⟨F1, S1, q, r1, s1, x1, h1⟩ => by
    obtain ⟨d, k1, h2⟩ := get_bind r1 x1 h1
    cases d with
    | lst ys =>
      obtain ⟨p, vs, rfl, k2, k3⟩ := k1
      exact ⟨p, vs, rfl, SqL.of k2, fun p' hp => res_fr r1 h2 hp k3.reverse⟩
    | _ => exact h2.elim⟩
end
end Pl
set_option Elab.async false
set_option linter.all false
set_option maxRecDepth 100000
/-! Pl: list(range(..)), tuple(range(..)). -/
namespace Pl
open PySem L2
section
variable {C : Cxt} {A : Addr} {W : WX'} {X : Cx} {e : PySem.Expr} {es : List PySem.Expr} {pos p p' pos' : Pos} {t : TA}
def tRgA (t : TA) : St → Hp → (Int → Int → Hp → Prop) → Prop := fun σ H Q => t σ H fun xs H1 => (∃ n, xs = [.int n] ∧ Q 0 n H1) ∨ (∃ i j, xs = [.int i, .int j] ∧ Q i j H1)
theorem prg_A (hg : Gl X "range") (hm : X.mg "range" = none) (ha : PA X (e :: es) t) (he : starEach (e :: es) X.env = (false, eval e X.env) :: starEach es X.env) (hpl : (backTo pos (starEach es X.env)).any (·.1) = false) : PRg X (.Call (.Name "range" p) (e :: es) [] pos) (tRgA t) := by
  intro pins s σ H Q I h
  refine wpAny_Call_Name_kw (ld_blt I hg hm (by rfl) (PyProof.Rows.callWith_type1 (thn (ha.run pos pins s σ H _ I h) fun us s1 ⟨vs, H1, I1, r1, q1⟩ => ?_) he hpl))
  rcases q1 with ⟨n, rfl, q⟩ | ⟨i, j, rfl, q⟩
  · cases r1 with
    | cons a b =>
      cases b
      obtain ⟨t, rfl⟩ := a
      exact call_range_1 ⟨_, 0, n, _, _, _, H1, rfl, IsRange.new _ _ _ _ _ _ _, I1.kept fun b u e => Heap.get?_push_of_some _ e, q⟩
  · cases r1 with
    | cons a b =>
      cases b with
      | cons c d =>
        cases d
        obtain ⟨t, rfl⟩ := a
        obtain ⟨t', rfl⟩ := c
        exact call_range_2 ⟨_, i, j, _, _, _, H1, rfl, IsRange.new _ _ _ _ _ _ _, I1.kept fun b u e => Heap.get?_push_of_some _ e, q⟩
def rgM (b : Blt) (ms : M (List Op)) : M RV := ms.bind fun ps => (gets ps).bind fun xs => M.opt (bltD b xs)
theorem irng_R2 (F : Hp) (lo : Int) (n : Nat) : Rs C F (irng lo n) ((List.range n).map fun i => V.int (lo + (i : Nat))) := by
  unfold irng
  have : ∀ l : List Nat, Rs C F (l.map fun (k : Nat) => D.int (lo + (k : Int))) (l.map fun i => V.int (lo + (i : Nat))) := fun l => by
    induction l with
    | nil => exact Rs.nil
    | cons a r ih => exact Rs.cons (by simp only [R]) ih
  exact this _
theorem irng_ln (lo : Int) (n : Nat) : (irng lo n).length = n := by unfold irng; rw [List.length_map, List.length_range]
theorem rng_ok2 {a b : Int} {xs : List D} (hl : b - a ≤ lim) (h : rngD a b = some xs) : RgOk a b ∧ xs = irng a (b - a).toNat ∧ xs.length ≤ lim := by
  unfold rngD at h
  split at h
  · rename_i q
    cases h
    unfold rngOk at q
    simp only [decide_eq_true_eq] at q
    have e : lim = 100000 := rfl
    refine ⟨⟨by omega, by omega, by omega, by omega, by omega⟩, rfl, ?_⟩
    rw [irng_ln]; omega
  · cases h
theorem rg_in {F : Hp} {S : Sl} {σ : St} {H : Hp} {Q : VK} {b : Blt} {ps : List Op} {vs : List V} (r : Rel C A ⟨σ, F, H, S⟩) (x : Paired (fun p v => OpR' C ⟨σ, F, H, S⟩ p v) ps vs) (h : gAt C A W (ρV C) ((gets ps).bind fun xs => M.opt (bltD b xs)) ⟨σ, F, H, S⟩ Q)
    (hb : b = .lrng1 ∨ b = .lrng2 ∨ b = .trng1 ∨ b = .trng2) : ∃ i j rv xs, (vs = [.int j] ∧ i = 0 ∨ vs = [.int i, .int j]) ∧ RgOk i j ∧ xs = irng i (j - i).toNat ∧ xs.length ≤ lim ∧ gAt C A W (ρV C) (M.opt (some rv)) ⟨σ, F, H, S⟩ Q ∧ rv = (if b = .lrng1 ∨ b = .lrng2 then .fr xs else .val (.tup xs)) := by
  obtain ⟨ds, k, h2⟩ := gets_bind r x h
  obtain ⟨rv, e, h3⟩ := opt_some h2
  rcases hb with rfl | rfl | rfl | rfl
  · match ds, e with
    | [.int n], e =>
      simp only [bltD] at e
      split at e
      · rename_i hl
        cases e2 : rngD 0 n with
        | none => rw [e2] at e; cases e
        | some xs =>
          rw [e2] at e; cases e
          obtain ⟨a1, a2, a3⟩ := rng_ok2 (by omega) e2
          cases k with
          | cons k1 k2 => cases k2; exact ⟨0, n, _, xs, .inl ⟨by rw [r_int k1], rfl⟩, a1, a2, a3, h3, by simp⟩
      · cases e
  · match ds, e with
    | [.int m, .int n], e =>
      simp only [bltD] at e
      split at e
      · rename_i hl
        cases e2 : rngD m n with
        | none => rw [e2] at e; cases e
        | some xs =>
          rw [e2] at e; cases e
          obtain ⟨a1, a2, a3⟩ := rng_ok2 hl e2
          cases k with
          | cons k1 k2 => cases k2 with
            | cons k3 k4 => cases k4; exact ⟨m, n, _, xs, .inr (by rw [r_int k1, r_int k3]), a1, a2, a3, h3, by simp⟩
      · cases e
  · match ds, e with
    | [.int n], e =>
      simp only [bltD] at e
      split at e
      · rename_i hl
        cases e2 : rngD 0 n with
        | none => rw [e2] at e; cases e
        | some xs =>
          rw [e2] at e; cases e
          obtain ⟨a1, a2, a3⟩ := rng_ok2 (by omega) e2
          cases k with
          | cons k1 k2 => cases k2; exact ⟨0, n, _, xs, .inl ⟨by rw [r_int k1], rfl⟩, a1, a2, a3, h3, by simp⟩
      · cases e
  · match ds, e with
    | [.int m, .int n], e =>
      simp only [bltD] at e
      split at e
      · rename_i hl
        cases e2 : rngD m n with
        | none => rw [e2] at e; cases e
        | some xs =>
          rw [e2] at e; cases e
          obtain ⟨a1, a2, a3⟩ := rng_ok2 hl e2
          cases k with
          | cons k1 k2 => cases k2 with
            | cons k3 k4 => cases k4; exact ⟨m, n, _, xs, .inr (by rw [r_int k1, r_int k3]), a1, a2, a3, h3, by simp⟩
      · cases e
variable {ms : M (List Op)}
theorem se_listRg {b : Blt} (hb : b = .lrng1 ∨ b = .lrng2) (hc : X.calm = true) (hl : Gl X "list") (hml : X.mg "list" = none) (hg : Gl X "range") (hm : X.mg "range" = none) (ha : PA X (e :: es) (gM C A W (ρOs C) ms))
    (he : starEach (e :: es) X.env = (false, eval e X.env) :: starEach es X.env) (hpl : (backTo pos' (starEach es X.env)).any (·.1) = false) : PE X (.Call (.Name "list" p) [.Call (.Name "range" p') (e :: es) [] pos'] [] pos) (gM C A W (ρV C) (rgM b ms)) := by
  refine PE.imp (pe_listRg hc hl hml (prg_A hg hm ha he hpl)) fun σ H Q ⟨F, S, r, h⟩ => ⟨F, S, r, (gAt.bind (ρ1 := ρOs C) (lifts_V C) h).imp fun vs H1 ⟨F1, S1, ps, r1, s1, x1, h1⟩ => ?_⟩
  obtain ⟨i, j, rv, xs, k1, k2, k3, k4, k5, k6⟩ := rg_in r1 x1 h1 (by rcases hb with h | h <;> simp [h])
  rw [if_pos hb] at k6
  subst k6
  have key : RgOk i j ∧ ∀ q, H1 q = none → Q (.ref q) (upd H1 q (.lst (rgV i j))) := ⟨k2, fun q hq => by
    subst k3
    exact res_fr (w := ⟨σ, F1, H1, S1⟩) r1 k5 hq (irng_R2 _ _ _)⟩
  rcases k1 with ⟨rfl, rfl⟩ | rfl
  · exact .inl ⟨_, rfl, key⟩
  · exact .inr ⟨_, _, rfl, key⟩
theorem se_tupRg {b : Blt} (hb : b = .trng1 ∨ b = .trng2) (hc : X.calm = true) (hl : Gl X "tuple") (hml : X.mg "tuple" = none) (hg : Gl X "range") (hm : X.mg "range" = none) (ha : PA X (e :: es) (gM C A W (ρOs C) ms))
    (he : starEach (e :: es) X.env = (false, eval e X.env) :: starEach es X.env) (hpl : (backTo pos' (starEach es X.env)).any (·.1) = false) : PE X (.Call (.Name "tuple" p) [.Call (.Name "range" p') (e :: es) [] pos'] [] pos) (gM C A W (ρV C) (rgM b ms)) := by
  refine PE.imp (pe_tupRg hc hl hml (prg_A hg hm ha he hpl)) fun σ H Q ⟨F, S, r, h⟩ => ⟨F, S, r, (gAt.bind (ρ1 := ρOs C) (lifts_V C) h).imp fun vs H1 ⟨F1, S1, ps, r1, s1, x1, h1⟩ => ?_⟩
  obtain ⟨i, j, rv, xs, k1, k2, k3, k4, k5, k6⟩ := rg_in r1 x1 h1 (by rcases hb with h | h <;> simp [h])
  rw [if_neg (by rcases hb with rfl | rfl <;> simp)] at k6
  subst k6
  have key : RgOk i j ∧ ∀ q, H1 q = none → Q (.ref q) (upd H1 q (.tup (rgV i j))) := ⟨k2, fun q hq => by
    have e : newT xs = some (.val (.tup xs)) := by unfold newT; rw [if_pos k4]
    rw [← e] at k5
    subst k3
    exact (newT_res (w := ⟨σ, F1, H1, S1⟩) r1 (irng_R2 _ _ _) k5).2 q hq⟩
  rcases k1 with ⟨rfl, rfl⟩ | rfl
  · exact .inl ⟨_, rfl, key⟩
  · exact .inr ⟨_, _, rfl, key⟩
end
end Pl
set_option Elab.async false
set_option linter.all false
set_option maxRecDepth 100000
/-! Pl: min(xs, key=len). -/
namespace Pl
open PySem L2 PyProof.Rows
section
variable {prog : Program} {w : World} {A : Around} {E : Value → Shared → Prop} {s : Shared}
theorem minlen_raw {l : Addr} {vs : Array Value} {kf : Nat → Nat} {Q : Value → Shared → Prop} (hh : A.handled = none) (hl : s.heap.IsList l vs) (hne : 0 < vs.size)
    (hk : ∀ i v, vs[i]? = some v → ∃ p, v = .ref p ∧ kf i < 2 ^ 63 ∧ ((∃ its : Array Value, s.heap.IsList p its ∧ its.size = kf i) ∨ (∃ its : Array Value, IsTup s.heap p its ∧ its.size = kf i)))
    (h : ∀ v h' tk, vs[argBest (fun i j => decide (kf i < kf j)) (vs.size - 1)]? = some v → (∀ b o, s.heap.get? b = some o → h'.get? b = some o) → Q v { s with heap := h', toks := tk }) :
    wpAny (model prog w) A (call (.builtin "min") [.ref l] [(Str.ofString "key", .builtin "len")]) Q E s := by
  refine PySem.call_min_walkKB (PySem.W.iter_listW (A := A.in1) hh hl fun s₂ e W st hfp hw hk2 => ?_)
  have hsz : s₂.heap.objs.size = s.heap.objs.size + 1 := by rw [e]; exact size_push' ..
  refine ⟨_, _, _, _, _, _, _, fun s' => ∃ h' tk, s' = { s with heap := h', toks := tk } ∧ ∀ b o, s.heap.get? b = some o → h'.get? b = some o, fun i k _ => ∃ t, k = .int (kf i : Nat) t, fun i j => decide (kf i < kf j), rfl, W, st, hfp, hne, ⟨?_, fun _ _ _ _ v _ => v, ?_, ?_⟩, ?_, fun v s' hP hJ => ?_⟩
  · rintro s1 s1' ⟨h1, t1, rfl, k1⟩ m
    refine ⟨s1'.heap, s1'.toks, ?_, fun b o eb => m.heap b o (fun hb => ?_) (k1 b o eb)⟩
    · obtain ⟨hp, g, d, tk, os⟩ := s1'
      have h1 : g = s.gens := m.gens
      have h2 : d = s.drawn := m.drawn
      have h3 : os = s.os := m.os
      subst h1 h2 h3
      rfl
    · have lt := Heap.lt_size eb
      rcases List.mem_cons.mp hb with rfl | hb
      · rw [hsz] at lt; exact Nat.lt_irrefl _ (Nat.lt_of_succ_lt lt)
      · rw [List.mem_singleton.mp hb] at lt; exact Nat.lt_irrefl _ lt
  · rintro i v s1 o Q' E' hi hP ⟨h1, t1, rfl, k1⟩ hst hS hc
    obtain ⟨p, rfl, hb, hq⟩ := hk i v hP
    rcases hq with ⟨its, hit, hs⟩ | ⟨its, hit, hs⟩
    · refine Calls.call_len_list (hit.at fun o e => k1 _ _ e) (by rw [hs]; omega) ?_
      rw [hs]
      exact hc _ _ ⟨h1, _, rfl, k1⟩ hst hS ⟨_, rfl⟩ fun _ _ z => z
    · refine len_tuple (hit.keeps k1) (by rw [hs]; omega) ?_
      rw [hs]
      exact hc _ _ ⟨h1, _, rfl, k1⟩ hst hS ⟨_, rfl⟩ fun _ _ z => z
  · rintro i j ki kj s1 Q' E' _ ⟨t, rfl⟩ ⟨t', rfl⟩ q
    refine CmpOf.ints_lt (prog := prog) (w := w) (A := A.in1) (P := fun i v => ∃ t, v = .int (kf i : Nat) t) (fun i => (kf i : Int)) (fun i v h => h) i j _ _ _ _ _ ⟨t, rfl⟩ ⟨t', rfl⟩ ?_
    have e : (decide ((kf i : Int) < (kf j : Int))) = decide (kf i < kf j) := by
      by_cases z : kf i < kf j
      · rw [decide_eq_true z, decide_eq_true (by omega)]
      · rw [decide_eq_false z, decide_eq_false (by omega)]
    show Q' (.bool (decide ((kf i : Int) < (kf j : Int)))) s1
    rw [e]; exact q
  · exact ⟨_, _, by rw [e], hk2⟩
  · obtain ⟨h', tk, rfl, k⟩ := hJ
    exact h v h' tk hP k
end
section
variable {C : Cxt} {A : Addr} {W : WX'} {X : Cx} {a : PySem.Expr} {pos p p' kp : Pos} {ms : M (List Op)}
theorem se_minlen (hK : X.K = C.K) (hc : X.calm = true) (hg : Gl X "min") (hm : X.mg "min" = none) (hgl : Gl X "len") (hml : X.mg "len" = none) (ha : PA X [a] (gM C A W (ρOs C) ms))
    (he : backTo pos (starEach [a] X.env) = (false, eval a X.env) :: backTo pos (starEach [] X.env)) (hpl : (backTo pos (starEach [a] X.env)).any (·.1) = false) :
    PE X (.Call (.Name "min" p) [a] [⟨some "key", .Name "len" p', kp⟩] pos) (gM C A W (ρV C) (rgM .minlen ms)) := by
  refine ⟨fun pins s σ H Q I ⟨F, S, r, h⟩ => ?_⟩
  refine wpAny_Call_Name_kw (ld_blt I hg hm (by rfl) ?_)
  refine callWith_kw (thn (ha.run pos pins s σ H _ I ⟨F, S, r, gAt.bind (ρ1 := ρOs C) (lifts_V C) h⟩) fun us s1 ⟨vs, H1, I1, rv, F1, S1, ps, r1, _, x1, h1⟩ => ?_) he hpl
  show wpAny _ _ (evalAll ((do let v ← eval (.Name "len" p') X.env; standAt pos; pure v) :: [])) _ _ _
  refine wpAny_evalAll_cons (wpAny_bind (ld_blt I1 hgl hml (by rfl) (wpAny_bind (wpAny_standAt (wpAny_pure (wpAny_evalAll_nil ?_))))))
  obtain ⟨ds, kd, h2⟩ := gets_bind r1 x1 h1
  obtain ⟨rw', e, h3⟩ := opt_some h2
  match ds, e with
  | [.lst []], e => simp [bltD, minlenD] at e
  | [.lst (x :: xs)], e =>
    simp only [bltD, minlenD] at e
    split at e
    · rename_i hall
      cases e
      obtain ⟨v, rfl, kv⟩ := one_of kd rfl
      obtain ⟨l, zs, rfl, hl, hz⟩ := r_lst kv
      obtain ⟨its, rz, pl, hsz⟩ := I1.list (X := X) (SqL.of hl)
      have eu : us = [Value.ref l] := by
        cases rv with
        | cons q1 q2 => cases q2; rw [show _ = Value.ref l from q1]
      subst eu
      have lenz : its.length = (x :: xs).length := by rw [← rz.length, ← hz.length]
      have look : ∀ (i : Nat) u, its[i]? = some u → ∃ d z, (x :: xs)[i]? = some d ∧ zs[i]? = some z ∧ R C F1 d z ∧ RelV z u := fun i u hu => by
        have hi : i < its.length := (List.getElem?_eq_some_iff.mp hu).1
        obtain ⟨d, hd⟩ : ∃ d, (x :: xs)[i]? = some d := ⟨_, List.getElem?_eq_getElem (by omega)⟩
        obtain ⟨z, hz1, hz2⟩ := Rs.get hz hd
        refine ⟨d, z, hd, hz1, hz2, ?_⟩
        have := rz.get hz1
        obtain ⟨u', e1, e2⟩ := this
        rw [hu] at e1; cases e1; exact e2
      refine minlen_raw (kf := fun i => dl ((x :: xs).getD i .non)) (I1.ok.hd hc) pl.isList (by simp only [List.size_toArray]; rw [lenz]; simp) (fun i u hu => ?_) fun u h' tk hu hk => ?_
      · rw [List.getElem?_toArray] at hu
        obtain ⟨d, z, e1, e2, e3, e4⟩ := look i u hu
        have ed : (x :: xs).getD i .non = d := by rw [List.getD_eq_getElem?_getD, e1]; rfl
        have hs := List.all_eq_true.mp hall d (List.mem_of_getElem? e1)
        cases d with
        | lst ys =>
          simp only [R] at e3
          obtain ⟨q, ws, rfl, g1, g2⟩ := e3
          obtain ⟨its2, s1', pl2, hz2⟩ := I1.list (X := X) (SqL.of (r1.sub q _ g1))
          have hn := line63
          have hln : its2.length = ys.length := by rw [← s1'.length, ← g2.length]
          refine ⟨q, e4, ?_, .inl ⟨_, pl2.isList, ?_⟩⟩
          · rw [ed]; show ys.length < _
            rw [g2.length]; rw [sizeLine_eq] at hz2; omega
          · rw [ed, List.size_toArray, hln]; rfl
        | tup ys =>
          simp only [R] at e3
          obtain ⟨q, ws, rfl, g1, g2⟩ := e3
          obtain ⟨its2, s1', pl2, hz2⟩ := I1.tuple (X := X) (xs := ws) (by rw [hK]; exact r1.sub.t g1)
          have hln : its2.length = ys.length := by rw [← s1'.length, ← g2.length]
          refine ⟨q, e4, ?_, .inr ⟨_, pl2, ?_⟩⟩
          · rw [ed]; show ys.length < _
            rw [g2.length]; rw [sizeLine_eq] at hz2; omega
          · rw [ed, List.size_toArray, hln]; rfl
        | _ => cases hs
      · rw [List.getElem?_toArray] at hu
        obtain ⟨d, z, e1, e2, e3, e4⟩ := look _ u hu
        have af := (PySem.W.argBest_fold (fun (a b : D) => decide (dl a < dl b)) .non x xs xs.length (Nat.le_refl _)).2
        rw [List.take_length] at af
        have esz : its.toArray.size - 1 = xs.length := by rw [List.size_toArray, lenz]; simp
        rw [esz] at e1
        have ed : (x :: xs).getD (argBest (fun i j => decide (dl ((x :: xs).getD i .non) < dl ((x :: xs).getD j .non))) xs.length) .non = d := by rw [List.getD_eq_getElem?_getD, e1]; rfl
        rw [ed] at af
        rw [← af] at h3
        exact ⟨z, H1, I1.kept hk, e4, res_val (w := ⟨σ, F1, H1, S1⟩) r1 h3 e3⟩
    · cases e
end
end Pl
set_option Elab.async false
set_option linter.all false
set_option maxRecDepth 100000
/-! Pl: is this expression of ours that expression of the text? -/
namespace Pl
open PySem L2
structure Tab where
  fns : List (Str × Nat × Option Nat)
  cls : List (Str × Nat)
  nms : List Str
  flds : List Str
  shF : List (Nat × Nat × List Str × List Pm)
  shC : List (Nat × Nat × List Str × List Pm)
  shM : List (Nat × Nat × List Str × List Pm)
  vals : List (Str × D)
def dSame : D → D → Bool
  | .non, .non => true
  | .bl a, .bl b => a == b
  | .int a, .int b => a == b
  | .str a, .str b => decide (a = b)
  | _, _ => false
theorem dSame_eq {a b : D} (h : dSame a b = true) : a = b := by
  cases a <;> cases b <;> simp only [dSame, beq_iff_eq, decide_eq_true_eq, Bool.false_eq_true, reduceCtorEq] at h <;> first | rfl | (subst h; rfl)
def pmSame : Pm → Pm → Bool
  | .at i, .at j => i == j
  | .df a, .df b => dSame a b
  | _, _ => false
def pmsSame : List Pm → List Pm → Bool
  | [], [] => true
  | a :: r, b :: s => pmSame a b && pmsSame r s
  | _, _ => false
theorem pmSame_eq {a b : Pm} (h : pmSame a b = true) : a = b := by
  cases a <;> cases b <;> simp only [pmSame, beq_iff_eq, Bool.false_eq_true] at h
  · subst h; rfl
  · rw [dSame_eq h]
theorem pmsSame_eq : ∀ {a b : List Pm}, pmsSame a b = true → a = b
  | [], [], _ => rfl
  | a :: r, b :: s, h => by
    simp only [pmsSame, Bool.and_eq_true] at h
    rw [pmSame_eq h.1, pmsSame_eq h.2]
  | [], _ :: _, h => by cases h
  | _ :: _, [], h => by cases h
def hasSh (sh : List (Nat × Nat × List Str × List Pm)) (f n : Nat) (ks : List Str) (pm : List Pm) : Bool := sh.any fun q => q.1 == f && (q.2.1 == n && (decide (q.2.2.1 = ks) && pmsSame q.2.2.2 pm))
def bltNames : List Str := ["range", "len", "abs", "max", "min", "int", "sum", "all", "any", "tuple", "list", "sorted", "isinstance", "enumerate", "zip", "bool", "str", "dict"]
/-- the static facts about a context -/
structure XOk (T : Tab) (C : Cxt) (A : Addr) (W : WX') (G : Gam) (k : Nat) (X : Cx) : Prop where
  K : X.K = C.K
  calm : X.calm = true
  nd : X.N.Nodup
  room : Room k X.A
  tk : Takes X W
  cf : CF C
  inj : ∀ i j, C.nm i = C.nm j → i = j
  na : ∀ f c x, T.flds[f]? = some x → C.okc c → NoAttr C.K (C.cls c) (C.nm f)
  nf : ∀ i x, T.flds[i]? = some x → C.nm i = x
  nm : ∀ i x, T.nms[i]? = some x → C.nm i = x
  bl : ∀ x, x ∈ bltNames → X.mg x = none
  gv : ∀ x d, (x, d) ∈ T.vals → ∃ u v, X.mg x = some u ∧ RelV v u ∧ dfV d = some v
  fn : ∀ f x np iop, T.fns[f]? = some (x, np, iop) → ∃ fa fd ps, FnOk X.prog X.w X.K X.mg X.base (L2.CX X.prog X.w) k fa fd ps (spF C (G.call f) iop np) ∧ X.mg x = some (.ref fa) ∧ PySem.W.keepIn X.K (.ref fa) = true ∧
    ∀ n ks pm, hasSh T.shF f n ks pm = true → BF X.K fd ps n ks pm
  cl : ∀ c x np, T.cls[c]? = some (x, np) → C.okc c ∧ X.mg x = some (.ref (C.cls c)) ∧ (∃ k' fa fd ps, k = k' + 1 ∧ Mk X.K (C.cls c) fa ∧ FnOk X.prog X.w X.K X.mg X.base (L2.CX X.prog X.w) k' fa fd ps (spI C c (G.make c) np) ∧
    ∀ n ks pm, hasSh T.shC c n ks pm = true → BI X.K fd ps n ks pm)
  mkd : ∀ c xs rv out, G.make c xs = .ok rv out → out = none ∧ ∃ ks ys, rv = .val (.obj c ks ys)
  mt : ∀ m n ks pm c f, hasSh T.shM m n ks pm = true → C.okc c → G.meth c m = some f → ∃ fa fd ps np, FnOk X.prog X.w X.K X.mg X.base (L2.CX X.prog X.w) k fa fd ps (spF C (G.call f) none np) ∧ Meth X.K (C.cls c) (C.nm m) fa ∧ BF X.K fd ps (n + 1) ks pm ∧ pm.length = np
/-- the same facts within a block -/
theorem XOk.blk {T : Tab} {C : Cxt} {A : Addr} {W : WX'} {G : Gam} {k : Nat} {X : Cx} (x : XOk T C A W G k X) (scope : Scope) (s : Shared) (H : Hp) (Cc : Addr) (cl : List (Str × Addr)) (fp : List Addr) : XOk T C A W0 G k (BX X scope s H Cc cl fp) := by
  exact ⟨x.K, x.calm, x.nd, x.room, takes0, x.cf, x.inj, x.na, x.nf, x.nm, x.bl, x.gv, x.fn, x.cl, x.mkd, x.mt⟩
/-! ### names -/
def visC (N : List Str) (sc : Scope) (i : Nat) (x : Str) : Bool := decide (N[i]? = some x) && ((match sc.names.lookup x with | some .local => true | some .cell => true | some .free => true | _ => false) && (!(x == "__debug__") && !(x == "__classdict__")))
def locC (N : List Str) (sc : Scope) (i : Nat) (x : Str) : Bool := decide (N[i]? = some x) && (match sc.names.lookup x with | some .local => true | some .cell => true | _ => false)
def lclC (N : List Str) (sc : Scope) (i : Nat) (x : Str) : Bool := decide (N[i]? = some x) && decide (sc.names.lookup x = some .local)
def glC (sc : Scope) (x : Str) : Bool := decide (sc.names.lookup x = some .globalImplicit) && (!(x == "__debug__") && !decide (x = "__name__"))
section
variable {N : List Str} {sc : Scope} {i : Nat} {x : Str} {X : Cx} {pos : Pos}
theorem vis_of (h : visC N sc i x = true) (hN : X.N = N) (hs : X.env.scope = sc) : PE X (.Name x pos) (tVar i) := by
  unfold visC at h
  simp only [Bool.and_eq_true, decide_eq_true_eq, Bool.not_eq_true'] at h
  obtain ⟨h1, h2, h3, h4⟩ := h
  refine pe_var (by rw [hN]; exact h1) ?_ h3 h4
  unfold Vis
  rw [hs]
  split at h2 <;> first | exact .inl (by assumption) | exact .inr (.inl (by assumption)) | exact .inr (.inr (by assumption)) | cases h2
theorem loc_of (h : locC N sc i x = true) (hN : X.N = N) (hs : X.env.scope = sc) : X.N[i]? = some x ∧ L2.Loc X.env.scope x := by
  unfold locC at h
  simp only [Bool.and_eq_true, decide_eq_true_eq] at h
  obtain ⟨h1, h2⟩ := h
  refine ⟨by rw [hN]; exact h1, ?_⟩
  unfold L2.Loc
  rw [hs]
  split at h2 <;> first | exact .inl (by assumption) | exact .inr (by assumption) | cases h2
theorem gl_of (h : glC sc x = true) (hs : X.env.scope = sc) : Gl X x ∧ (x == ("__debug__" : Str)) = false ∧ x ≠ "__name__" := by
  unfold glC at h
  simp only [Bool.and_eq_true, decide_eq_true_eq, Bool.not_eq_true', decide_eq_false_iff_not] at h
  obtain ⟨h1, h2, h3⟩ := h
  refine ⟨?_, h2, h3⟩
  show X.env.scope.names.lookup x = _
  rw [hs]; exact h1
end
/-! ### shapes of expressions -/
def baseOk : PySem.Expr → Bool
  | .Call (.Name _ _) [] [] _ => false
  | _ => true
theorem base_of {o : PySem.Expr} {f : Str} {env : Env} {t : Sem Value} (h : baseOk o = true) : attributeBase o f env t = t := by
  unfold attributeBase
  split
  · cases h
  · rfl
def notSet : PySem.Expr → Bool
  | .Set _ _ _ => false
  | _ => true
theorem set_of {e : PySem.Expr} {env : Env} {x : Value} (h : notSet e = true) : foldedSetIterable e env x = pure x := by
  unfold foldedSetIterable
  split
  · cases h
  · rfl
def notSlice : PySem.Expr → Bool
  | .Slice _ _ _ _ => false
  | _ => true
theorem slice_of {e : PySem.Expr} (h : notSlice e = true) : PlainIxT e := by
  intro o i
  unfold subscripted
  split
  · cases h
  · rename_i h2; cases h2
  · rfl
def plainT : PySem.Expr → Bool
  | .UnaryOp .Not _ _ => false
  | .BoolOp _ _ _ => false
  | .IfExp _ _ _ _ => false
  | .Compare _ _ _ _ => false
  | _ => true
theorem test_of {e : PySem.Expr} {env : Env} {whole : Sem Value} (h : plainT e = true) : isTrue e env whole = (do let v ← whole; standAt e.pos; holding [v] (truthy v)) := by
  cases e <;> first | rfl | (cases h; done) | skip
  rename_i op a p
  cases op <;> first | rfl | cases h
def notComp : PySem.Expr → Bool
  | .ListComp _ _ _ _ => false
  | .SetComp _ _ _ _ => false
  | .DictComp _ _ _ _ _ => false
  | _ => true
theorem swaps_of {e : PySem.Expr} {t : Option PySem.Expr} {n : Nat} {env : Env} (h : notComp e = true) : swapsWith e t n env = pure false := by
  cases e <;> first | rfl | cases h
/-! ### targets -/
def allC (N : List Str) (sc : Scope) : List Nat → List PySem.Expr → Bool
  | [], [] => true
  | i :: is, .Name x _ :: es => locC N sc i x && allC N sc is es
  | _, _ => false
def tgC (N : List Str) (sc : Scope) : Tgt → PySem.Expr → Bool
  | .nm i, .Name x _ => locC N sc i x
  | .tp is, .Tuple es _ _ => allC N sc is es
  | _, _ => false
/-- names that may be stored into -/
def Stores (X : Cx) (sc : Scope) : Prop := ∀ x, (sc.names.lookup x = some .local ∨ sc.names.lookup x = some .cell) → L2.Loc X.env.scope x ∧ (X.fn x = true ∨ X.env.scope.names.lookup x = some .local)
theorem locC_of {N : List Str} {sc : Scope} {i : Nat} {x : Str} (h : locC N sc i x = true) : N[i]? = some x ∧ (sc.names.lookup x = some .local ∨ sc.names.lookup x = some .cell) := by
  unfold locC at h
  simp only [Bool.and_eq_true, decide_eq_true_eq] at h
  obtain ⟨h1, h2⟩ := h
  refine ⟨h1, ?_⟩
  split at h2 <;> first | exact .inl (by assumption) | exact .inr (by assumption) | cases h2
theorem pgs_of {N : List Str} {sc : Scope} {X : Cx} (hN : X.N = N) (nd : X.N.Nodup) (st : Stores X sc) : ∀ {is : List Nat} {es : List PySem.Expr}, allC N sc is es = true → PGs X es (gNs is) ∧ (assignEach es X.env).length = is.length ∧ (assignEach es X.env).findIdx? (·.1) = none
  | [], [], _ => ⟨pgs_nil, rfl, rfl⟩
  | i :: is, .Name x p :: es, h => by
    simp only [allC, Bool.and_eq_true] at h
    obtain ⟨h1, h2⟩ := locC_of h.1
    obtain ⟨k1, k2, k3⟩ := pgs_of hN nd st h.2
    obtain ⟨m1, m2⟩ := st x h2
    refine ⟨pgs_cons (pg_name nd (by rw [hN]; exact h1) m1 m2) k1 rfl, ?_, ?_⟩
    · show (assignEach es X.env).length + 1 = is.length + 1
      rw [k2]
    · show List.findIdx? (·.1) ((false, assign (.Name x p) X.env) :: assignEach es X.env) = none
      rw [List.findIdx?_cons, k3]; rfl
  | [], _ :: _, h => by simp [allC] at h
  | _ :: _, [], h => by simp [allC] at h
theorem pg_of {N : List Str} {sc : Scope} {X : Cx} {C : Cxt} (hK : X.K = C.K) (hc : X.calm = true) (hN : X.N = N) (nd : X.N.Nodup) (st : Stores X sc) {g : Tgt} {tg : PySem.Expr} (h : tgC N sc g tg = true) : PG X tg (gT C.K g) := by
  unfold tgC at h
  split at h
  · obtain ⟨h1, h2⟩ := locC_of h
    obtain ⟨m1, m2⟩ := st _ h2
    exact pg_name nd (by rw [hN]; exact h1) m1 m2
  · obtain ⟨k1, k2, k3⟩ := pgs_of hN nd st h
    show PG X _ (gSq C.K _ _)
    rw [← hK]
    exact pg_sq hc k1 k2 k3
  · cases h
theorem stores_fn {X : Cx} (h : ∀ x, X.fn x = true) : Stores X X.env.scope := fun x hx => ⟨hx, .inl (h x)⟩
theorem stores_blk {X : Cx} {scope : Scope} {s : Shared} {H : Hp} {Cc : Addr} {cl : List (Str × Addr)} {fp : List Addr} : Stores (BX X scope s H Cc cl fp) scope := fun x hx => by
  rcases hx with h | h
  · have := lookup_relS_keep (sc := X.env.scope) (k := .local) (by decide) h
    exact ⟨.inl this, .inr this⟩
  · have := lookup_relS_keep (sc := X.env.scope) (k := .cell) (by decide) h
    refine ⟨.inr this, .inl ?_⟩
    show (scope.names.lookup x == some .cell) = true
    rw [h]; rfl
theorem blk_scope {X : Cx} {scope : Scope} {s : Shared} {H : Hp} {Cc : Addr} {cl : List (Str × Addr)} {fp : List Addr} : (BX X scope s H Cc cl fp).env.scope = relS scope X.env.scope := rfl
end Pl
set_option Elab.async false
set_option linter.all false
set_option maxRecDepth 100000
/-! Pl: the check of expressions. -/
namespace Pl
open PySem L2
def cstC (T : Tab) (sc : Scope) (d : D) : PySem.Expr → Bool
  | .Constant .none _ _ => dSame d .non
  | .Constant (.bool b) _ _ => dSame d (.bl b)
  | .Constant (.int i) _ _ => dSame d (.int i)
  | .Constant (.str s) _ _ => dSame d (.str s)
  | .Name x _ => glC sc x && T.vals.any fun q => decide (q.1 = x) && dSame q.2 d
  | _ => false
def tyName : Tg → Option Str
  | .int => some "int"
  | .bool => some "bool"
  | .str => some "str"
  | .tuple => some "tuple"
  | .list => some "list"
  | .dict => some "dict"
  | .cls _ => none
def tgCk (T : Tab) (sc : Scope) (t : Tg) : PySem.Expr → Bool
  | .Name x _ => glC sc x && match t with
    | .cls c => (match T.cls[c]? with | some (y, _) => decide (y = x) | none => false)
    | t => decide (tyName t = some x)
  | _ => false
def bltName : Blt → Option Str
  | .len => some "len"
  | .abs => some "abs"
  | .max2 => some "max"
  | .min2 => some "min"
  | .int => some "int"
  | .sum => some "sum"
  | .all => some "all"
  | .any => some "any"
  | .tuple => some "tuple"
  | .list => some "list"
  | .sorted => some "sorted"
  | .maxl => some "max"
  | .minl => some "min"
  | _ => none
def bmtName : Blt → Option Str
  | .index => some "index"
  | .count => some "count"
  | _ => none
def mutName : Mut → Option (Str × Bool)
  | .app => some ("append", true)
  | .ext => some ("extend", true)
  | .pop => some ("pop", false)
  | .popat => some ("pop", true)
  | .rev => some ("reverse", false)
  | .clear => some ("clear", false)
  | _ => none
def uopC (op : UnaryOp) (o : Uop) : Bool := match op, o with
  | .USub, .neg => true
  | .Invert, .inv => true
  | _, _ => false
def noIo (es : List Ex) : Bool := es.all fun e => !isIoE e
def ownOf (N : List Str) (vs : List Nat) : List (Str × Nat) := vs.map fun i => (N.getD i "", i)
def iterC (sc : Scope) (k : Ik) (tg iter : PySem.Expr) : Option (List PySem.Expr) := match k with
  | .seq => some [iter]
  | .rng1 => (match iter with | .Call (.Name x _) [a] [] _ => if decide (x = "range") && glC sc x then some [a] else none | _ => none)
  | .rng2 => (match iter with | .Call (.Name x _) [a, b] [] _ => if decide (x = "range") && glC sc x then some [a, b] else none | _ => none)
  | .enum => (match tg, iter with | .Tuple _ _ _, .Call (.Name x _) [a] [] _ => if decide (x = "enumerate") && glC sc x then some [a] else none | _, _ => none)
  | .zip => (match tg, iter with | .Tuple _ _ _, .Call (.Name x _) [a, b] [] _ => if decide (x = "zip") && glC sc x then some [a, b] else none | _, _ => none)
  | .rng3 => none
def rgName : Blt → Option (Str × Nat)
  | .lrng1 => some ("list", 1)
  | .lrng2 => some ("list", 2)
  | .trng1 => some ("tuple", 1)
  | .trng2 => some ("tuple", 2)
  | _ => none
/-- list(range(..)), tuple(range(..)): the range's arguments -/
def rgArgs (b : Blt) (sc : Scope) : PySem.Expr → Option (List PySem.Expr)
  | .Call (.Name x _) [.Call (.Name y _) as [] _] [] _ => if decide (y = "range") && (glC sc x && (glC sc y && decide (rgName b = some (x, as.length)))) then some as else none
  | _ => none
theorem rgArgs_of {b : Blt} {sc : Scope} {e : PySem.Expr} {as : List PySem.Expr} (h : rgArgs b sc e = some as) : ∃ x p p' pos' pos, e = .Call (.Name x p) [.Call (.Name "range" p') as [] pos'] [] pos ∧ glC sc x = true ∧ glC sc "range" = true ∧ rgName b = some (x, as.length) := by
  unfold rgArgs at h
  split at h
  · split at h
    · rename_i q
      simp only [Bool.and_eq_true, decide_eq_true_eq] at q
      obtain ⟨rfl, q2, q3, q4⟩ := q
      cases h
      exact ⟨_, _, _, _, _, rfl, q2, q3, q4⟩
    · cases h
  · cases h
/-- min(.., key=len): the list -/
def mnArgs (b : Blt) (sc : Scope) : PySem.Expr → Option (List PySem.Expr)
  | .Call (.Name x _) [a] [⟨some k, .Name y _, _⟩] _ => if decide (b = .minlen) && (decide (x = "min") && (decide (y = "len") && (decide (k = "key") && (glC sc x && glC sc y)))) then some [a] else none
  | _ => none
theorem mnArgs_of {b : Blt} {sc : Scope} {e : PySem.Expr} {as : List PySem.Expr} (h : mnArgs b sc e = some as) : ∃ a p p' kp pos, e = .Call (.Name "min" p) [a] [⟨some "key", .Name "len" p', kp⟩] pos ∧ as = [a] ∧ b = .minlen ∧ glC sc "min" = true ∧ glC sc "len" = true := by
  unfold mnArgs at h
  split at h
  · split at h
    · rename_i q
      simp only [Bool.and_eq_true, decide_eq_true_eq] at q
      obtain ⟨q1, rfl, rfl, rfl, q5, q6⟩ := q
      cases h
      exact ⟨_, _, _, _, _, rfl, rfl, q1, q5, q6⟩
    · cases h
  · cases h
/-- built-ins written in a form of their own: the operands -/
def spArgs (b : Blt) (sc : Scope) (e : PySem.Expr) : Option (List PySem.Expr) := match rgArgs b sc e with
  | some as => some as
  | none => mnArgs b sc e
theorem spArgs_call {b : Blt} {sc : Scope} {e : PySem.Expr} {as : List PySem.Expr} (h : spArgs b sc e = some as) : ∃ f es ks pos, e = .Call f es ks pos := by
  unfold spArgs at h
  split at h
  · rename_i q
    obtain ⟨_, _, _, _, _, e, _⟩ := rgArgs_of q
    exact ⟨_, _, _, _, e⟩
  · obtain ⟨_, _, _, _, _, e, _⟩ := mnArgs_of h
    exact ⟨_, _, _, _, e⟩
def notNil : Ex → Bool
  | .nil => false
  | _ => true
def isNil : Ex → Bool
  | .nil => true
  | _ => false
def ifsLen (fs : List Ex) : Bool := match fs with
  | [] => true
  | [_] => true
  | _ => false
def ioC (N : List Str) (sc : Scope) : Ex → PySem.Expr → Bool
  | .io i, .Name y _ => visC N sc i y
  | _, _ => false
mutual
def ckE (T : Tab) (N : List Str) : Ex → Scope → PySem.Expr → Bool
  | .nev, _, _ => true
  | .c d, sc, e => cstC T sc d e
  | .v i, sc, e => (match e with | .Name x _ => visC N sc i x | _ => false)
  | .io _, _, _ => false
  | .nil, _, _ => false
  | .star _, _, _ => false
  | .bin o a b, sc, e => (match e with | .BinOp l op r _ => decide (bopOf op = some o) && (ckE T N a sc l && ckE T N b sc r) | _ => false)
  | .un o a, sc, e => (match e with | .UnaryOp op x _ => uopC op o && ckE T N a sc x | _ => false)
  | .cmp o a b, sc, e => (match e with | .Compare l [op] [r] _ => decide (copOf op = o) && (!behindInMarks op r && (ckE T N a sc l && ckE T N b sc r)) | _ => false)
  | .chain o o' a b c, sc, e => (match e with | .Compare l [op, op'] [r, s] _ => decide (copOf op = o) && (decide (copOf op' = o') && (!lastMarks [op, op'] [r, s] && (ckE T N a sc l && (ckE T N b sc r && ckE T N c sc s)))) | _ => false)
  | .and a b, sc, e => (match e with | .BoolOp .And [x, y] _ => ckE T N a sc x && ckE T N b sc y | .BoolOp .And (x :: y :: z :: r) pos => ckE T N a sc x && ckE T N b sc (.BoolOp .And (y :: z :: r) pos) | _ => false)
  | .or a b, sc, e => (match e with | .BoolOp .Or [x, y] _ => ckE T N a sc x && ckE T N b sc y | .BoolOp .Or (x :: y :: z :: r) pos => ckE T N a sc x && ckE T N b sc (.BoolOp .Or (y :: z :: r) pos) | _ => false)
  | .not a, sc, e => (match e with | .UnaryOp .Not x _ => ckE T N a sc x | _ => false)
  | .ite t a b, sc, e => (match e with | .IfExp c x y _ => ckE T N t sc c && (ckE T N a sc x && ckE T N b sc y) | _ => false)
  | .tup es, sc, e => (match e with | .Tuple xs _ _ => ckEs T N es sc xs | _ => false)
  | .lst es, sc, e => (match e with | .List xs _ => ckEs T N es sc xs | _ => false)
  | .ix a b, sc, e => (match e with | .Subscript l r _ => notSlice r && (ckE T N a sc l && ckE T N b sc r) | _ => false)
  | .sl a lo hi, sc, e => (match e with | .Subscript l (.Slice u v none _) _ => ckE T N a sc l && ((match u with | none => isNil lo | some x => ckE T N lo sc x) && (match v with | none => isNil hi | some x => ckE T N hi sc x)) | _ => false)
  | .rev a, sc, e => (match e with | .Subscript l (.Slice none none (some (.UnaryOp .USub (.Constant (.int i) _ _) _)) _) _ => (i == 1) && ckE T N a sc l | _ => false)
  | .fld a f, sc, e => (match e with | .Attribute x nm _ => decide (T.flds[f]? = some nm) && (baseOk x && ckE T N a sc x) | _ => false)
  | .sfld f, sc, e => (match e with | .Attribute (.Name x _) nm _ => decide (T.flds[f]? = some nm) && visC N sc 0 x | _ => false)
  | .call f es kes pm, sc, e => (match e with | .Call (.Name x _) args kws _ => (match T.fns[f]? with | some (y, np, iop) => decide (y = x) && (pm.length == np && okPm iop (es ++ kes) pm) | none => false) &&
      (glC sc x && (hasSh T.shF f es.length (kwNames kws) pm && (args.all plainE && (kws.all (·.arg.isSome) && (kes.length == (kwNames kws).length && (ckAs T N es sc args && ckKs T N kes sc kws)))))) | _ => false)
  | .make c es kes pm, sc, e => (match e with | .Call (.Name x _) args kws _ => (match T.cls[c]? with | some (y, np) => decide (y = x) && (pm.length == np && okPm none (es ++ kes) pm) | none => false) &&
      (glC sc x && (hasSh T.shC c es.length (kwNames kws) pm && (args.all plainE && (kws.all (·.arg.isSome) && (kes.length == (kwNames kws).length && (ckAs T N es sc args && ckKs T N kes sc kws)))))) | _ => false)
  | .meth o m es kes pm, sc, e => (match e with | .Call (.Attribute x nm apos) args kws pos => decide (T.nms[m]? = some nm) && (baseOk x && ((apos.endLine == pos.line) && (okPm none (.nil :: (es ++ kes)) pm &&
      (hasSh T.shM m es.length (kwNames kws) pm && (args.all plainE && (kws.all (·.arg.isSome) && (decide (args.length + kws.length < 29) && (kes.length == (kwNames kws).length && (ckE T N o sc x && (ckAs T N es sc args && ckKs T N kes sc kws)))))))))) | _ => false)
  | .blt b es, sc, e => (match spArgs b sc e with | some as => as.all plainE && (!as.isEmpty && ckPs T N es sc as) | none => match e with | .Call (.Name x _) args [] _ => decide (bltName b = some x) && (glC sc x && (args.all plainE && (!args.isEmpty && ckPs T N es sc args))) | _ => false)
  | .bmt b o es, sc, e => (match e with | .Call (.Attribute x nm apos) args [] pos => decide (bmtName b = some nm) && (baseOk x && ((apos.endLine == pos.line) && (args.all plainE && (!args.isEmpty && (decide (args.length < 30) && (ckE T N o sc x && ckPs T N es sc args)))))) | _ => false)
  | .isi a ts, sc, e => (match e, ts with | .Call (.Name x _) [l, r] [] _, [t] => decide (x = "isinstance") && (glC sc x && (plainE l && (plainE r && (tgCk T sc t r && ckE T N a sc l)))) | _, _ => false)
  | .mut i m es, sc, e => (match e with | .Call (.Attribute (.Name x _) nm apos) args [] pos => visC N sc i x && ((apos.endLine == pos.line) && (decide (mutName m = some (nm, !args.isEmpty)) && (args.all plainE && (decide (args.length < 30) && ckEs T N es sc args)))) | _ => false)
  | .lc1 vs k it g fs e', sc, e => (match e with | .ListComp elt [⟨tg, iter, ifs, 0⟩] scope _ => blkC N sc scope (ownOf N vs) && ((ixT g).all (fun i => vs.contains i) && (tgC N scope g tg && (notSet iter && (noIo it &&
      ((match iterC sc k tg iter with | some args => args.all plainE && ckEs T N it sc args | none => false) && (ifsLen fs && (ckTs T N fs (relS scope sc) ifs && ckE T N e' (relS scope sc) elt))))))) | _ => false)
  | .lc2 vs vs1 k it g fs k1 it1 g1 fs1 e', sc, e => (match e with | .ListComp elt [⟨tg, iter, ifs, 0⟩, ⟨tg1, iter1, ifs1, 0⟩] scope _ => blkC N sc scope (ownOf N vs) && ((ixT g).all (fun i => vs.contains i) && ((ixT g1).all (fun i => vs1.contains i) && (vs1.all (fun i => vs.contains i) &&
      (tgC N scope g tg && (tgC N scope g1 tg1 && (notSet iter && (notSet iter1 && ((noIo it && noIo it1) && ((match iterC sc k tg iter with | some args => args.all plainE && ckEs T N it sc args | none => false) &&
      ((match iterC (relS scope sc) k1 tg1 iter1 with | some args => args.all plainE && ckEs T N it1 (relS scope sc) args | none => false) && (ifsLen fs && (ifsLen fs1 && (ckTs T N fs (relS scope sc) ifs && (ckTs T N fs1 (relS scope sc) ifs1 && ckE T N e' (relS scope sc) elt)))))))))))))) | _ => false)
def ckEs (T : Tab) (N : List Str) : List Ex → Scope → List PySem.Expr → Bool
  | [], _, xs => xs.isEmpty
  | e :: es, sc, xs => (match xs with
    | [] => false
    | x :: r => (ckSt T N e sc x || (plainE x && ckE T N e sc x)) && ckEs T N es sc r)
def ckSt (T : Tab) (N : List Str) : Ex → Scope → PySem.Expr → Bool
  | .star a, sc, x => (match x with | .Starred y _ => ckE T N a sc y | _ => false)
  | _, _, _ => false
def ckPs (T : Tab) (N : List Str) : List Ex → Scope → List PySem.Expr → Bool
  | [], _, xs => xs.isEmpty
  | e :: es, sc, xs => (match xs with | [] => false | x :: r => ckE T N e sc x && ckPs T N es sc r)
def ckTs (T : Tab) (N : List Str) : List Ex → Scope → List PySem.Expr → Bool
  | [], _, xs => xs.isEmpty
  | e :: es, sc, xs => (match xs with | [] => false | x :: r => ckE T N e sc x && ckTs T N es sc r)
def ckAs (T : Tab) (N : List Str) : List Ex → Scope → List PySem.Expr → Bool
  | [], _, xs => xs.isEmpty
  | e :: es, sc, xs => (match xs with
    | [] => false
    | x :: r => (ioC N sc e x || ckE T N e sc x) && ckAs T N es sc r)
def ckKs (T : Tab) (N : List Str) : List Ex → Scope → List Keyword → Bool
  | [], _, xs => xs.isEmpty
  | e :: es, sc, xs => (match xs with | [] => false | x :: r => ckE T N e sc x.value && ckKs T N es sc r)
end
example (T N sc x) : ckE T N .nev sc x = true := rfl
end Pl
set_option Elab.async false
set_option linter.all false
set_option maxRecDepth 100000
set_option maxHeartbeats 1000000
/-! Pl: what is checked is so: expressions. -/
namespace Pl
open PySem L2
section
variable {T : Tab} {N : List Str} {C : Cxt} {A : Addr} {W : WX'} {G : Gam} {k : Nat} {X : Cx}
theorem units_of (x : XOk T C A W G k X) : X.A.units + 65 < cLine := by
  have := x.room.un; omega
theorem cst_of {sc : Scope} {d : D} {e : PySem.Expr} (x : XOk T C A W G k X) (hs : X.env.scope = sc) (h : cstC T sc d e = true) : PE X e (gM C A W (ρV C) (M.pure (.val d))) := by
  unfold cstC at h
  split at h
  · rw [dSame_eq h]; exact se_c pe_non fun F => by simp only [R]
  · rw [dSame_eq h]; exact se_c pe_bl fun F => by simp only [R]
  · rw [dSame_eq h]; exact se_c pe_int fun F => by simp only [R]
  · rw [dSame_eq h]; exact se_c pe_str fun F => by simp only [R]
  · rename_i y p
    simp only [Bool.and_eq_true, List.any_eq_true, decide_eq_true_eq] at h
    obtain ⟨h1, ⟨q1, q2⟩, m, e1, e2⟩ := h
    obtain ⟨g1, g2, g3⟩ := gl_of h1 hs
    simp only at e1 e2
    subst e1
    rw [dSame_eq e2] at m
    obtain ⟨u, v, k1, k2, k3⟩ := x.gv _ _ m
    exact se_c (pe_glob g1 k1 k2 g2) fun F => dfV_R k3
  · cases h
theorem tyn_of {sc : Scope} {t : Tg} {e : PySem.Expr} (x : XOk T C A W G k X) (hs : X.env.scope = sc) (h : tgCk T sc t e = true) : PE X e (tC (tgV C t)) ∧ t.ok C := by
  unfold tgCk at h
  split at h
  · rename_i y p
    simp only [Bool.and_eq_true] at h
    obtain ⟨g1, g2, g3⟩ := gl_of h.1 hs
    have h2 := h.2
    have go : ∀ (s : Str) (u : String) (v : V), y = s → v = .ty u → bootBuiltins s = some (.type u) → s ∈ bltNames → PE X (.Name y p) (tC v) := fun s u v e1 e2 e3 e4 => by
      subst e1; subst e2
      exact pe_bltn g1 (x.bl _ e4) e3 rfl g3 g2
    cases t with
    | cls c =>
      simp only at h2
      split at h2
      · rename_i z np eq
        simp only [decide_eq_true_eq] at h2
        subst h2
        obtain ⟨k1, k2, _⟩ := x.cl c _ _ eq
        exact ⟨pe_glob g1 k2 rfl g2, k1⟩
      · cases h2
    | int => simp only [tyName, decide_eq_true_eq, Option.some.injEq] at h2; exact ⟨go _ "int" _ h2.symm rfl rfl (by decide +kernel), trivial⟩
    | bool => simp only [tyName, decide_eq_true_eq, Option.some.injEq] at h2; exact ⟨go _ "bool" _ h2.symm rfl rfl (by decide +kernel), trivial⟩
    | str => simp only [tyName, decide_eq_true_eq, Option.some.injEq] at h2; exact ⟨go _ "str" _ h2.symm rfl rfl (by decide +kernel), trivial⟩
    | tuple => simp only [tyName, decide_eq_true_eq, Option.some.injEq] at h2; exact ⟨go _ "tuple" _ h2.symm rfl rfl (by decide +kernel), trivial⟩
    | list => simp only [tyName, decide_eq_true_eq, Option.some.injEq] at h2; exact ⟨go _ "list" _ h2.symm rfl rfl (by decide +kernel), trivial⟩
    | dict => simp only [tyName, decide_eq_true_eq, Option.some.injEq] at h2; exact ⟨go _ "dict" _ h2.symm rfl rfl (by decide +kernel), trivial⟩
  · cases h
theorem star_all' {env : Env} {pos : Pos} {es : List PySem.Expr} (h : es.all plainE = true) : (backTo pos (starEach es env)).any (·.1) = false := star_any h
/-- calls of built-ins -/
theorem rg_of {sc : Scope} {b : Blt} {y : Str} {p p' pos pos' : Pos} {a : PySem.Expr} {as : List PySem.Expr} {ms : M (List Op)} (x : XOk T C A W G k X) (hs : X.env.scope = sc) (h1 : glC sc y = true) (h2 : glC sc "range" = true) (h3 : rgName b = some (y, (a :: as).length)) (hp : (a :: as).all plainE = true) (ha : PA X (a :: as) (gM C A W (ρOs C) ms)) :
    PE X (.Call (.Name y p) [.Call (.Name "range" p') (a :: as) [] pos'] [] pos) (gM C A W (ρV C) (rgM b ms)) := by
  obtain ⟨g1, _, _⟩ := gl_of h1 hs
  obtain ⟨g2, _, _⟩ := gl_of h2 hs
  simp only [List.all_cons, Bool.and_eq_true] at hp
  cases b <;> simp only [rgName, Option.some.injEq, Prod.mk.injEq, reduceCtorEq] at h3
  all_goals obtain ⟨e1, _⟩ := h3; subst e1
  · exact se_tupRg (.inl rfl) x.calm g1 (x.bl _ (by decide +kernel)) g2 (x.bl _ (by decide +kernel)) ha (starEach_cons hp.1) (star_any hp.2)
  · exact se_tupRg (.inr rfl) x.calm g1 (x.bl _ (by decide +kernel)) g2 (x.bl _ (by decide +kernel)) ha (starEach_cons hp.1) (star_any hp.2)
  · exact se_listRg (.inl rfl) x.calm g1 (x.bl _ (by decide +kernel)) g2 (x.bl _ (by decide +kernel)) ha (starEach_cons hp.1) (star_any hp.2)
  · exact se_listRg (.inr rfl) x.calm g1 (x.bl _ (by decide +kernel)) g2 (x.bl _ (by decide +kernel)) ha (starEach_cons hp.1) (star_any hp.2)
theorem sp_of {sc : Scope} {b : Blt} {e : PySem.Expr} {as : List PySem.Expr} {ms : M (List Op)} (x : XOk T C A W G k X) (hs : X.env.scope = sc) (h : spArgs b sc e = some as) (hp : as.all plainE = true) (hne : as.isEmpty = false) (ha : PA X as (gM C A W (ρOs C) ms)) :
    PE X e (gM C A W (ρV C) (rgM b ms)) := by
  unfold spArgs at h
  split at h
  · rename_i q
    cases h
    obtain ⟨y, p, p', pos', pos, rfl, q1, q2, q3⟩ := rgArgs_of q
    cases as with
    | nil => cases hne
    | cons a as' => exact rg_of x hs q1 q2 q3 hp ha
  · obtain ⟨a, p, p', kp, pos, rfl, rfl, rfl, q1, q2⟩ := mnArgs_of h
    obtain ⟨g1, _, _⟩ := gl_of q1 hs
    obtain ⟨g2, _, _⟩ := gl_of q2 hs
    simp only [List.all_cons, List.all_nil, Bool.and_true] at hp
    exact se_minlen x.K x.calm g1 (x.bl _ (by decide +kernel)) g2 (x.bl _ (by decide +kernel)) ha (by rw [starEach_cons hp]; rfl) (by rw [starEach_cons hp]; rfl)
theorem blt_of {sc : Scope} {b : Blt} {y : Str} {p pos : Pos} {a : PySem.Expr} {as : List PySem.Expr} {ms : M (List Op)} (x : XOk T C A W G k X) (hs : X.env.scope = sc) (h1 : bltName b = some y) (h2 : glC sc y = true) (h3 : (a :: as).all plainE = true) (ha : PA X (a :: as) (gM C A W (ρOs C) ms)) :
    PE X (.Call (.Name y p) (a :: as) [] pos) (gM C A W (ρV C) (ms.bind fun ps => (gets ps).bind fun xs => M.opt (bltD b xs))) := by
  obtain ⟨g1, g2, g3⟩ := gl_of h2 hs
  simp only [List.all_cons, Bool.and_eq_true] at h3
  cases b <;> simp only [bltName, Option.some.injEq, reduceCtorEq] at h1 <;> subst h1
  · exact se_callB (cb_len x.K) g1 (x.bl _ (by decide +kernel)) rfl ha g3 g2 (starEach_cons h3.1) (star_all' h3.2)
  · exact se_callB cb_abs g1 (x.bl _ (by decide +kernel)) rfl ha g3 g2 (starEach_cons h3.1) (star_all' h3.2)
  · exact se_callB (cb_max2 x.calm) g1 (x.bl _ (by decide +kernel)) rfl ha g3 g2 (starEach_cons h3.1) (star_all' h3.2)
  · exact se_callB (cb_min2 x.calm) g1 (x.bl _ (by decide +kernel)) rfl ha g3 g2 (starEach_cons h3.1) (star_all' h3.2)
  · exact se_callT ct_int g1 (x.bl _ (by decide +kernel)) rfl ha g3 g2 (starEach_cons h3.1) (star_all' h3.2)
  · exact se_callB (cb_sum x.calm x.K) g1 (x.bl _ (by decide +kernel)) rfl ha g3 g2 (starEach_cons h3.1) (star_all' h3.2)
  · exact se_callB (cb_all x.calm) g1 (x.bl _ (by decide +kernel)) rfl ha g3 g2 (starEach_cons h3.1) (star_all' h3.2)
  · exact se_callB (cb_any x.calm) g1 (x.bl _ (by decide +kernel)) rfl ha g3 g2 (starEach_cons h3.1) (star_all' h3.2)
  · exact se_callT (ct_tuple x.K) g1 (x.bl _ (by decide +kernel)) rfl ha g3 g2 (starEach_cons h3.1) (star_all' h3.2)
  · exact se_callT (ct_list x.K) g1 (x.bl _ (by decide +kernel)) rfl ha g3 g2 (starEach_cons h3.1) (star_all' h3.2)
  · exact se_callB (cb_sorted x.K) g1 (x.bl _ (by decide +kernel)) rfl ha g3 g2 (starEach_cons h3.1) (star_all' h3.2)
  · exact se_callB (cb_maxl x.calm) g1 (x.bl _ (by decide +kernel)) rfl ha g3 g2 (starEach_cons h3.1) (star_all' h3.2)
  · exact se_callB (cb_minl x.calm) g1 (x.bl _ (by decide +kernel)) rfl ha g3 g2 (starEach_cons h3.1) (star_all' h3.2)
theorem bmt_of {b : Blt} {o : PySem.Expr} {nm : Str} {apos pos : Pos} {a : PySem.Expr} {as : List PySem.Expr} {mo : M Op} {ms : M (List Op)} (x : XOk T C A W G k X) (h1 : bmtName b = some nm) (h2 : baseOk o = true) (h3 : (apos.endLine == pos.line) = true) (h4 : (a :: as).all plainE = true) (h5 : (a :: as).length < 30)
    (ho : PE X o (gM C A W (ρO C) mo)) (ha : PA X (a :: as) (gM C A W (ρOs C) ms)) : PE X (.Call (.Attribute o nm apos) (a :: as) [] pos) (gM C A W (ρV C) (bmtM b mo ms)) := by
  cases b <;> simp only [bmtName, Option.some.injEq, reduceCtorEq] at h1 <;> subst h1
  · exact se_bmt PySem.F.slot_list_index PySem.F.type_list_index (mt_idx x.K) ho ha (base_of h2) h4 h5 h3
  · exact se_bmt PySem.F.slot_list_count PySem.F.type_list_count (mt_cnt x.K) ho ha (base_of h2) h4 h5 h3
theorem mut_of {m : Mut} {i : Nat} {o : PySem.Expr} {nm : Str} {apos pos : Pos} {as : List PySem.Expr} {ms : M (List D)} {e0 : Bool} (h1 : mutName m = some (nm, !as.isEmpty)) (h2 : baseOk o = true) (h3 : (apos.endLine == pos.line) = true) (h4 : as.all plainE = true) (h5 : as.length < 30)
    (ho : PE X o (tVar i)) (ha : PA X as (gM C A W (ρDs C) ms)) (h0 : as = [] → ms = M.pure []) : PE X (.Call (.Attribute o nm apos) as [] pos) (gM C A W (ρV C) ((ownS i).bind fun _ => ms.bind fun ws => mutM i m ws)) := by
  cases as with
  | nil =>
    rw [h0 rfl]
    cases m <;> simp only [mutName, Option.some.injEq, Prod.mk.injEq, List.isEmpty_nil, Bool.not_true, Bool.true_eq_false, Bool.false_eq_true, and_false, and_true, reduceCtorEq] at h1 <;> subst h1
    · exact se_mut0 PySem.F.slot_list_pop PySem.F.type_list_pop mt_pop0 ho (base_of h2) h3
    · exact se_mut0 PySem.F.slot_list_reverse PySem.F.type_list_reverse mt_rev ho (base_of h2) h3
    · exact se_mut0 PySem.F.slot_list_clear PySem.F.type_list_clear mt_clr ho (base_of h2) h3
  | cons a as =>
    cases m <;> simp only [mutName, Option.some.injEq, Prod.mk.injEq, List.isEmpty_cons, Bool.not_false, Bool.true_eq_false, Bool.false_eq_true, and_false, and_true, reduceCtorEq] at h1 <;> subst h1
    · exact se_mut PySem.F.slot_list_append PySem.F.type_list_append mt_app ho ha (base_of h2) h4 h5 h3
    · exact se_mut PySem.F.slot_list_extend PySem.F.type_list_extend mt_ext ho ha (base_of h2) h4 h5 h3
    · exact se_mut PySem.F.slot_list_pop PySem.F.type_list_pop mt_pop1 ho ha (base_of h2) h4 h5 h3
end
end Pl
set_option Elab.async false
set_option linter.all false
set_option maxRecDepth 100000
set_option maxHeartbeats 2000000
/-! Pl: what is checked is so: expressions, the induction. -/
namespace Pl
open PySem L2
theorem starM_pl {e : Ex} {d : D} (h : ∀ a, e ≠ .star a) : starM e d = M.pure [d] := by
  cases e <;> first | rfl | exact absurd rfl (h _)
theorem evEs_cons {G : Gam} {e : Ex} {es : List Ex} (h : ∀ a, e ≠ .star a) : evEs G (e :: es) = (evE G e).toD.bind fun d => (evEs G es).bind fun ds => M.pure (d :: ds) := by
  simp only [evEs]
  congr 1
  funext d
  rw [starM_pl h]
  rfl
theorem evEs_one {G : Gam} {e : Ex} {β : Type} {f : List D → M β} (h : ∀ a, e ≠ .star a) : (evEs G [e]).bind f = (evE G e).toD.bind fun d => f [d] := by
  rw [evEs_cons h, M.bind_assoc]
  rfl
theorem truM_ite {mt : M Bool} {ma mb : M RV} : truM (iteM mt ma mb) = mt.bind fun k => if k then truM ma else truM mb := by
  funext S
  unfold truM iteM M.toD M.bind
  cases mt S with
  | bad => rfl
  | ex c d S' => rfl
  | ok k S' => cases k <;> rfl
theorem PA.of_eq {X : Cx} {es : List PySem.Expr} {t t' : TA} (h : PA X es t) (e : t = t') : PA X es t' := e ▸ h
section
variable {T : Tab} {N : List Str} {C : Cxt} {A : Addr} {W : WX'} {G : Gam} {k : Nat} {X : Cx}
theorem it_of {sc : Scope} {kk : Ik} {tg iter : PySem.Expr} {args : List PySem.Expr} {it : List Ex} (x : XOk T C A W G k X) (hs : X.env.scope = sc) (h : iterC sc kk tg iter = some args) (hp : args.all plainE = true) (hA : PA X args (gM C A W (ρDs C) (evEs G it)))
    (hE : ∀ y, args = [y] → ∃ e, it = [e] ∧ (∀ a, e ≠ .star a) ∧ PE X y (gM C A W (ρV C) (evE G e))) : PI X tg iter (ti' C A W ((evEs G it).bind fun ds => M.opt (walkD kk ds))) := by
  cases kk with
  | seq =>
    simp only [iterC, Option.some.injEq] at h
    subst h
    obtain ⟨e, rfl, h1, h2⟩ := hE _ rfl
    rw [evEs_one h1]
    exact sw_seq x.K h2
  | rng1 =>
    simp only [iterC] at h
    split at h
    · split at h
      · rename_i y p a pos q
        simp only [Bool.and_eq_true, decide_eq_true_eq] at q
        cases h
        obtain ⟨g1, _, _⟩ := gl_of q.2 hs
        rw [q.1] at g1
        rw [q.1]
        simp only [List.all_cons, List.all_nil, Bool.and_true] at hp
        exact sw_rng1 g1 (x.bl _ (by decide +kernel)) hA hp
      · cases h
    · cases h
  | rng2 =>
    simp only [iterC] at h
    split at h
    · split at h
      · rename_i y p a b pos q
        simp only [Bool.and_eq_true, decide_eq_true_eq] at q
        cases h
        obtain ⟨g1, _, _⟩ := gl_of q.2 hs
        rw [q.1] at g1
        rw [q.1]
        simp only [List.all_cons, List.all_nil, Bool.and_true, Bool.and_eq_true] at hp
        exact sw_rng2 g1 (x.bl _ (by decide +kernel)) hA hp.1 hp.2
      · cases h
    · cases h
  | rng3 => cases h
  | enum =>
    simp only [iterC] at h
    split at h
    · split at h
      · rename_i e1 e2 e3 y p a pos q
        simp only [Bool.and_eq_true, decide_eq_true_eq] at q
        cases h
        obtain ⟨g1, _, _⟩ := gl_of q.2 hs
        rw [q.1] at g1
        rw [q.1]
        simp only [List.all_cons, List.all_nil, Bool.and_true] at hp
        exact sw_enum x.K g1 (x.bl _ (by decide +kernel)) hA hp
      · cases h
    · cases h
  | zip =>
    simp only [iterC] at h
    split at h
    · split at h
      · rename_i e1 e2 e3 y p a b pos q
        simp only [Bool.and_eq_true, decide_eq_true_eq] at q
        cases h
        obtain ⟨g1, _, _⟩ := gl_of q.2 hs
        rw [q.1] at g1
        rw [q.1]
        simp only [List.all_cons, List.all_nil, Bool.and_true, Bool.and_eq_true] at hp
        exact sw_zip x.K g1 (x.bl _ (by decide +kernel)) hA hp.1 hp.2
      · cases h
    · cases h
theorem ckE_star {a : Ex} {sc : Scope} {e : PySem.Expr} (h : ckE T N (.star a) sc e = true) : False := by simp only [ckE, Bool.false_eq_true] at h
theorem ckSt_star {e : Ex} {sc : Scope} {y : PySem.Expr} (h : ckSt T N e sc y = true) : ∃ a z p, e = .star a ∧ y = .Starred z p ∧ ckE T N a sc z = true := by
  cases e <;> simp only [ckSt, Bool.false_eq_true] at h
  split at h
  · exact ⟨_, _, _, rfl, rfl, h⟩
  · cases h
theorem ioC_io {e : Ex} {sc : Scope} {y : PySem.Expr} (h : ioC N sc e y = true) : ∃ i z p, e = .io i ∧ y = .Name z p ∧ visC N sc i z = true := by
  unfold ioC at h
  split at h
  · exact ⟨_, _, _, rfl, rfl, h⟩
  · cases h
/-- whose test is the value's truth -/
theorem plainT_of {ex : Ex} {sc : Scope} {e : PySem.Expr} (h : ckE T N ex sc e = true) : (match ex with
    | .nev => True | .and _ _ => True | .or _ _ => True | .not _ => True | .ite _ _ _ => True | .cmp _ _ _ => True | .chain _ _ _ _ _ => True
    | _ => plainT e = true) := by
  cases ex <;> simp only [ckE, Bool.false_eq_true] at h <;> first | trivial | skip
  · unfold cstC at h
    split at h <;> first | rfl | cases h
  · split at h <;> first | rfl | cases h
  · split at h <;> first | rfl | cases h
  · split at h
    · rename_i op y p
      simp only [Bool.and_eq_true] at h
      cases op <;> first | rfl | (have := h.1; simp [uopC] at this)
    · cases h
  all_goals first | (split at h <;> first | rfl | cases h; done) | skip
  all_goals (
    split at h
    · rename_i q
      obtain ⟨_, _, _, _, rfl⟩ := spArgs_call q
      rfl
    · split at h <;> first | rfl | cases h)
end
end Pl
set_option Elab.async false
set_option linter.all false
set_option maxRecDepth 100000
set_option maxHeartbeats 4000000
/-! Pl: what is checked is so: expressions, the induction. -/
namespace Pl
open PySem L2
section
variable {T : Tab} {N : List Str} {C : Cxt} {A : Addr} {G : Gam} {k : Nat}
theorem hv_of {vs : List Nat} : vs = (ownOf N vs).map (·.2) := by unfold ownOf; simp [Function.comp_def]
theorem opv {X : Cx} {W : WX'} {ex : Ex} {sc : Scope} {e : PySem.Expr} (hN : X.N = N) (hs : X.env.scope = sc) (h : ckE T N ex sc e = true) (he : PE X e (gM C A W (ρV C) (evE G ex))) : PE X e (gM C A W (ρO C) (opOf ex (evE G ex))) := by
  refine so_opOf he fun i q => ?_
  subst q
  simp only [ckE] at h
  split at h
  · exact vis_of h hN hs
  · cases h
theorem io_eq {i : Nat} : ioM i = evE G (.io i) := by simp only [evE]; rfl
mutual
theorem sE : ∀ (ex : Ex) {X : Cx} {W : WX'} {sc : Scope} {e : PySem.Expr}, XOk T C A W G k X → X.N = N → X.env.scope = sc → ckE T N ex sc e = true → PE X e (gM C A W (ρV C) (evE G ex))
  | .nev, X, W, sc, e, x, hN, hs, h => by simp only [evE]; exact pe_nev
  | .c d, X, W, sc, e, x, hN, hs, h => by simp only [evE]; simp only [ckE] at h; exact cst_of x hs h
  | .v i, X, W, sc, e, x, hN, hs, h => by
    simp only [evE]; simp only [ckE] at h
    split at h
    · exact se_rd (vis_of h hN hs)
    · cases h
  | .io i, X, W, sc, e, x, hN, hs, h => by simp only [ckE, Bool.false_eq_true] at h
  | .nil, X, W, sc, e, x, hN, hs, h => by simp only [ckE, Bool.false_eq_true] at h
  | .star a, X, W, sc, e, x, hN, hs, h => by simp only [ckE, Bool.false_eq_true] at h
  | .bin o a b, X, W, sc, e, x, hN, hs, h => by
    simp only [evE]; simp only [ckE] at h
    split at h
    · simp only [Bool.and_eq_true, decide_eq_true_eq] at h
      exact se_bin x.K h.1 (opv hN hs h.2.1 (sE a x hN hs h.2.1)) (opv hN hs h.2.2 (sE b x hN hs h.2.2))
    · cases h
  | .un o a, X, W, sc, e, x, hN, hs, h => by
    simp only [evE]; simp only [ckE] at h
    split at h
    · simp only [Bool.and_eq_true] at h
      have hu := h.1
      unfold uopC at hu
      split at hu
      · exact se_un unr_neg (opv hN hs h.2 (sE a x hN hs h.2))
      · exact se_un unr_inv (opv hN hs h.2 (sE a x hN hs h.2))
      · cases hu
    · cases h
  | .cmp o a b, X, W, sc, e, x, hN, hs, h => by
    simp only [evE]; simp only [ckE] at h
    split at h
    · simp only [Bool.and_eq_true, decide_eq_true_eq, Bool.not_eq_true'] at h
      obtain ⟨rfl, h2, h3, h4⟩ := h
      exact se_cmp x.K (units_of x) (opv hN hs h3 (sE a x hN hs h3)) (opv hN hs h4 (sE b x hN hs h4)) h2
    · cases h
  | .chain o o' a b c, X, W, sc, e, x, hN, hs, h => by
    simp only [evE]; simp only [ckE] at h
    split at h
    · simp only [Bool.and_eq_true, decide_eq_true_eq, Bool.not_eq_true'] at h
      obtain ⟨rfl, rfl, h2, h3, h4, h5⟩ := h
      exact se_chain x.K (units_of x) (sE a x hN hs h3) (sE b x hN hs h4) (sE c x hN hs h5) h2
    · cases h
  | .and a b, X, W, sc, e, x, hN, hs, h => by
    simp only [evE]; simp only [ckE] at h
    split at h
    · simp only [Bool.and_eq_true] at h
      exact se_and x.K (sE a x hN hs h.1) (pe_one (sE b x hN hs h.2))
    · simp only [Bool.and_eq_true] at h
      exact se_and x.K (sE a x hN hs h.1) (sE b x hN hs h.2)
    · cases h
  | .or a b, X, W, sc, e, x, hN, hs, h => by
    simp only [evE]; simp only [ckE] at h
    split at h
    · simp only [Bool.and_eq_true] at h
      exact se_or x.K (sE a x hN hs h.1) (pe_one (sE b x hN hs h.2))
    · simp only [Bool.and_eq_true] at h
      exact se_or x.K (sE a x hN hs h.1) (sE b x hN hs h.2)
    · cases h
  | .not a, X, W, sc, e, x, hN, hs, h => by
    simp only [evE]; simp only [ckE] at h
    split at h
    · exact se_not x.K (sE a x hN hs h)
    · cases h
  | .ite t a b, X, W, sc, e, x, hN, hs, h => by
    simp only [evE]; simp only [ckE] at h
    split at h
    · simp only [Bool.and_eq_true] at h
      exact se_ite (sT t x hN hs h.1) (sE a x hN hs h.2.1) (sE b x hN hs h.2.2)
    · cases h
  | .tup es, X, W, sc, e, x, hN, hs, h => by
    simp only [evE]; simp only [ckE] at h
    split at h
    · exact se_tup (sEs es x hN hs h)
    · cases h
  | .lst es, X, W, sc, e, x, hN, hs, h => by
    simp only [evE]; simp only [ckE] at h
    split at h
    · exact se_lst (sEs es x hN hs h)
    · cases h
  | .ix a b, X, W, sc, e, x, hN, hs, h => by
    simp only [evE]; simp only [ckE] at h
    split at h
    · simp only [Bool.and_eq_true] at h
      exact se_ix x.K (opv hN hs h.2.1 (sE a x hN hs h.2.1)) (sE b x hN hs h.2.2) (slice_of h.1)
    · cases h
  | .sl a lo hi, X, W, sc, e, x, hN, hs, h => by
    simp only [evE]; simp only [ckE] at h
    split at h
    · rename_i l u v p2 p
      simp only [Bool.and_eq_true] at h
      obtain ⟨h1, h2, h3⟩ := h
      have hlo : PO X u (gM C A W (ρE (α := Option Int)) (partOf lo (evE G lo))) := by
        split at h2
        · cases lo <;> simp only [isNil, Bool.false_eq_true] at h2
          exact sp_none
        · have hl := sE lo x hN hs h2
          cases lo <;> first | exact sp_some hl | (simp only [ckE, Bool.false_eq_true] at h2)
      have hhi : PO X v (gM C A W (ρE (α := Option Int)) (partOf hi (evE G hi))) := by
        split at h3
        · cases hi <;> simp only [isNil, Bool.false_eq_true] at h3
          exact sp_none
        · have hl := sE hi x hN hs h3
          cases hi <;> first | exact sp_some hl | (simp only [ckE, Bool.false_eq_true] at h3)
      exact se_sl x.K (opv hN hs h1 (sE a x hN hs h1)) hlo hhi
    · cases h
  | .rev a, X, W, sc, e, x, hN, hs, h => by
    simp only [evE]; simp only [ckE] at h
    split at h
    · simp only [Bool.and_eq_true, beq_iff_eq] at h
      obtain ⟨rfl, h2⟩ := h
      exact se_rev x.K (opv hN hs h2 (sE a x hN hs h2))
    · cases h
  | .fld a f, X, W, sc, e, x, hN, hs, h => by
    simp only [evE]; simp only [ckE] at h
    split at h
    · simp only [Bool.and_eq_true, decide_eq_true_eq] at h
      rw [← x.nf _ _ h.1]
      exact se_fld x.K x.cf x.inj (fun c hc => x.na f c _ h.1 hc) (sE a x hN hs h.2.2) (base_of h.2.1)
    · cases h
  | .sfld f, X, W, sc, e, x, hN, hs, h => by
    simp only [evE]; simp only [ckE] at h
    split at h
    · simp only [Bool.and_eq_true, decide_eq_true_eq] at h
      rw [← x.nf _ _ h.1]
      exact se_sfld x.K x.cf x.inj (fun c hc => x.na f c _ h.1 hc) (vis_of h.2 hN hs) (base_of rfl)
    · cases h
  | .call f es kes pm, X, W, sc, e, x, hN, hs, h => by
    simp only [evE]; simp only [ckE] at h
    split at h
    · rename_i y p args kws pos
      simp only [Bool.and_eq_true, beq_iff_eq] at h
      obtain ⟨h1, h2, h3, h4, h5, h6, h7, h8⟩ := h
      split at h1
      · rename_i z np iop eq
        simp only [Bool.and_eq_true, decide_eq_true_eq, beq_iff_eq] at h1
        obtain ⟨rfl, h9, h10⟩ := h1
        obtain ⟨fa, fd, ps, F, hm, hk, bf⟩ := x.fn _ _ _ _ eq
        obtain ⟨g1, g2, g3⟩ := gl_of h2 hs
        have ha := sAs es x hN hs h7 h4
        have hz := sKs kes x hN hs h8
        cases args with
        | nil =>
          cases es with
          | nil =>
            simp only [evEs]
            exact se_call0 F x.room g1 hm hk (bf _ _ _ h3) x.tk h10 h9 g2 h5 h6 hz
          | cons _ _ => simp [ckAs] at h7
        | cons a as =>
          exact se_call F x.room g1 hm hk (bf _ _ _ h3) x.tk h10 h9 g2 h4 h5 h6 ha hz
      · cases h1
    · cases h
  | .make c es kes pm, X, W, sc, e, x, hN, hs, h => by
    simp only [evE]; simp only [ckE] at h
    split at h
    · rename_i y p args kws pos
      simp only [Bool.and_eq_true, beq_iff_eq] at h
      obtain ⟨h1, h2, h3, h4, h5, h6, h7, h8⟩ := h
      split at h1
      · rename_i z np eq
        simp only [Bool.and_eq_true, decide_eq_true_eq, beq_iff_eq] at h1
        obtain ⟨rfl, h9, h10⟩ := h1
        obtain ⟨okc, hm, hh⟩ := x.cl _ _ _ eq
        obtain ⟨g1, g2, g3⟩ := gl_of h2 hs
        have ha := sAs es x hN hs h7 h4
        have hz := sKs kes x hN hs h8
        obtain ⟨k', fa, fd, ps, rfl, Mf, F, bi⟩ := hh
        cases args with
        | nil =>
          cases es with
          | nil =>
            simp only [evEs]
            exact se_make0 Mf F x.room g1 hm (bi _ _ _ h3) x.tk okc h10 h9 (x.mkd c) g2 h5 h6 hz
          | cons _ _ => simp [ckAs] at h7
        | cons a as =>
          exact se_make Mf F x.room g1 hm (bi _ _ _ h3) x.tk okc h10 h9 (x.mkd c) g2 h4 h5 h6 ha hz
      · cases h1
    · cases h
  | .meth o m es kes pm, X, W, sc, e, x, hN, hs, h => by
    simp only [evE]; simp only [ckE] at h
    split at h
    · rename_i ox nm apos args kws pos
      simp only [Bool.and_eq_true, beq_iff_eq, decide_eq_true_eq] at h
      obtain ⟨h1, h2, h3, h4, h5, h6, h7, h8, h9, h10, h11, h12⟩ := h
      have ho := sE o x hN hs h10
      have ha := sAs es x hN hs h11 h6
      have hz := sKs kes x hN hs h12
      have hM : MFact X C G m k es kes kws pm := fun c f q1 q2 => by
        obtain ⟨fa, fd, ps, np, k1, k2, k3, k4⟩ := x.mt _ _ _ _ _ _ h5 q1 q2
        exact ⟨fa, fd, ps, none, np, k1, k2, k3, h4, k4⟩
      rw [← x.nm _ _ h1]
      have hl : (apos.endLine == pos.line) = true := by simpa using h3
      cases args with
      | nil =>
        cases es with
        | nil =>
          simp only [evEs]
          exact se_meth0 x.K x.cf x.inj hM x.room x.tk h9 h7 (by simpa using h8) hl (base_of h2) ho hz
        | cons _ _ => simp [ckAs] at h11
      | cons a as =>
        exact se_meth x.K x.cf x.inj hM x.room x.tk h9 h6 h7 h8 hl (base_of h2) ho ha hz
    · cases h
  | .blt b es, X, W, sc, e, x, hN, hs, h => by
    simp only [evE]; simp only [ckE] at h
    split at h
    · rename_i as q
      simp only [Bool.and_eq_true, Bool.not_eq_true'] at h
      obtain ⟨h3, h4, h5⟩ := h
      exact sp_of x hs q h3 h4 (sPs es x hN hs h5 h3)
    · split at h
      · rename_i y p args pos _
        simp only [Bool.and_eq_true, decide_eq_true_eq, Bool.not_eq_true'] at h
        obtain ⟨h1, h2, h3, h4, h5⟩ := h
        cases args with
        | nil => simp at h4
        | cons a as => exact blt_of x hs h1 h2 h3 (sPs es x hN hs h5 h3)
      · cases h
  | .bmt b o es, X, W, sc, e, x, hN, hs, h => by
    simp only [evE]; simp only [ckE] at h
    split at h
    · rename_i ox nm apos args pos
      simp only [Bool.and_eq_true, decide_eq_true_eq, Bool.not_eq_true', beq_iff_eq] at h
      obtain ⟨h1, h2, h3, h4, h5, h6, h7, h8⟩ := h
      cases args with
      | nil => simp at h5
      | cons a as => exact bmt_of x h1 h2 (by simpa using h3) h4 h6 (opv hN hs h7 (sE o x hN hs h7)) (sPs es x hN hs h8 h4)
    · cases h
  | .isi a ts, X, W, sc, e, x, hN, hs, h => by
    simp only [evE]; simp only [ckE] at h
    split at h
    · rename_i y p l r pos t
      simp only [Bool.and_eq_true, decide_eq_true_eq] at h
      obtain ⟨rfl, h2, h3, h4, h5, h6⟩ := h
      obtain ⟨g1, g2, g3⟩ := gl_of h2 hs
      obtain ⟨k1, k2⟩ := tyn_of x hs h5
      exact se_isi x.K x.cf g1 (x.bl _ (by decide +kernel)) k2 (opv hN hs h6 (sE a x hN hs h6)) k1 h3 h4
    · cases h
  | .mut i m es, X, W, sc, e, x, hN, hs, h => by
    simp only [evE]; simp only [ckE] at h
    split at h
    · rename_i y p nm apos args pos
      simp only [Bool.and_eq_true, decide_eq_true_eq, beq_iff_eq] at h
      obtain ⟨h1, h2, h3, h4, h5, h6⟩ := h
      refine mut_of (e0 := true) h3 rfl (by simpa using h2) h4 h5 (vis_of h1 hN hs) (sEs es x hN hs h6) fun q => ?_
      subst q
      cases es with
      | nil => simp only [evEs]
      | cons _ _ => simp [ckEs] at h6
    · cases h
  | .lc1 vs kk it g fs e', X, W, sc, e, x, hN, hs, h => by
    simp only [evE]; simp only [ckE] at h
    split at h
    · rename_i elt tg iter ifs scope pos
      simp only [Bool.and_eq_true] at h
      obtain ⟨h1, h2, h3, h4, h5, h6, h7, h8, h9⟩ := h
      split at h6
      · rename_i args q
        simp only [Bool.and_eq_true] at h6
        have hA := sEs it x hN hs h6.2
        have hI : PI X tg iter (ti' C A W ((evEs G it).bind fun ds => M.opt (walkD kk ds))) := it_of x hs q h6.1 hA fun y hy => by
          subst hy
          cases it with
          | nil => simp [ckEs] at h6
          | cons e0 es =>
            have h62 := h6.2
            simp only [ckEs, Bool.and_eq_true] at h62
            cases es with
            | cons _ _ => simp [ckEs] at h62
            | nil =>
              have h63 := h62.1
              simp only [List.all_cons, Bool.and_eq_true] at h6
              have hp : plainE y = true := h6.1.1
              simp only [Bool.or_eq_true] at h63
              rcases h63 with h63 | h63
              · obtain ⟨_, _, _, _, rfl, _⟩ := ckSt_star h63
                cases hp
              · simp only [Bool.and_eq_true] at h63
                exact ⟨e0, rfl, fun a q => by subst q; exact ckE_star h63.2, sE e0 x hN hs h63.2⟩
        have key := se_lc1 (X := X) (C := C) (A := A) (W := W) (pos := pos) (elt := elt) (vs := vs) (g := g) (mt := evTs G fs) (me := evE G e') x.calm x.nd hI (blkOk_by (by rw [hN, hs]; exact h1)) hv_of (fun i hi => by simpa using List.all_eq_true.mp h2 i hi)
          (fun s H Cc cl fp => pg_of (X := BX X scope s H Cc cl fp) (C := C) x.K x.calm hN x.nd stores_blk h3)
          (fun s H Cc cl fp => sTs fs (x.blk scope s H Cc cl fp) hN (blk_scope.trans (by rw [hs])) h7 h8)
          (fun s H Cc cl fp => sE e' (x.blk scope s H Cc cl fp) hN (blk_scope.trans (by rw [hs])) h9) (fun y => set_of h4)
        unfold lc1M at key
        rw [M.bind_assoc] at key
        exact key
      · cases h6
    · cases h
  | .lc2 vs vs1 kk it g fs k1 it1 g1 fs1 e', X, W, sc, e, x, hN, hs, h => by
    simp only [evE]; simp only [ckE] at h
    split at h
    · rename_i elt tg iter ifs tg1 iter1 ifs1 scope pos
      simp only [Bool.and_eq_true] at h
      obtain ⟨h1, h2, h3, h4, h5, h6, h7, h8, ⟨h9, h9'⟩, h10, h11, h12, h13, h14, h15, h16⟩ := h
      split at h10
      · rename_i args q
        split at h11
        · rename_i args1 q1
          simp only [Bool.and_eq_true] at h10 h11
          have one : ∀ {X : Cx} {W : WX'} {sc : Scope} (it : List Ex) (args : List PySem.Expr), XOk T C A W G k X → X.N = N → X.env.scope = sc → args.all plainE = true → ckEs T N it sc args = true → (∀ e ∈ it, ∀ (y : PySem.Expr), ckE T N e sc y = true → PE X y (gM C A W (ρV C) (evE G e))) →
              ∀ y, args = [y] → ∃ e, it = [e] ∧ (∀ a, e ≠ .star a) ∧ PE X y (gM C A W (ρV C) (evE G e)) := fun {X W sc} it args x hN hs hp hc hE y hy => by
            subst hy
            cases it with
            | nil => simp [ckEs] at hc
            | cons e0 es =>
              simp only [ckEs, Bool.and_eq_true] at hc
              cases es with
              | cons _ _ => simp [ckEs] at hc
              | nil =>
                have h63 := hc.1
                simp only [List.all_cons, Bool.and_eq_true] at hp
                have hp : plainE y = true := hp.1
                simp only [Bool.or_eq_true] at h63
                rcases h63 with h63 | h63
                · obtain ⟨_, _, _, _, rfl, _⟩ := ckSt_star h63
                  cases hp
                · simp only [Bool.and_eq_true] at h63
                  exact ⟨e0, rfl, fun a q => by subst q; exact ckE_star h63.2, hE e0 (by simp) y h63.2⟩
          have hI : PI X tg iter (ti' C A W ((evEs G it).bind fun ds => M.opt (walkD kk ds))) := it_of x hs q h10.1 (sEs it x hN hs h10.2) (one it args x hN hs h10.1 h10.2 fun e he y hy => sE e x hN hs hy)
          have hI1 : ∀ s H Cc cl fp, PI (BX X scope s H Cc cl fp) tg1 iter1 (ti' C A W0 ((evEs G it1).bind fun ds => M.opt (walkD k1 ds))) := fun s H Cc cl fp =>
            it_of (x.blk scope s H Cc cl fp) (blk_scope.trans (by rw [hs])) q1 h11.1 (sEs it1 (x.blk scope s H Cc cl fp) hN (blk_scope.trans (by rw [hs])) h11.2) (one it1 args1 (x.blk scope s H Cc cl fp) hN (blk_scope.trans (by rw [hs])) h11.1 h11.2 fun e he y hy => sE e (x.blk scope s H Cc cl fp) hN (blk_scope.trans (by rw [hs])) hy)
          have key := se_lc2 (X := X) (C := C) (A := A) (W := W) (pos := pos) (elt := elt) (vs := vs) (vs1 := vs1) (g := g) (g1 := g1) (mt := evTs G fs) (mt1 := evTs G fs1) (me := evE G e') x.calm x.nd hI (blkOk_by (by rw [hN, hs]; exact h1)) hv_of (fun i hi => by simpa using List.all_eq_true.mp h2 i hi)
            (fun i hi => by simpa using List.all_eq_true.mp h4 i hi) (fun i hi => by simpa using List.all_eq_true.mp h3 i hi)
            (fun s H Cc cl fp => pg_of (X := BX X scope s H Cc cl fp) (C := C) x.K x.calm hN x.nd stores_blk h5)
            (fun s H Cc cl fp => sTs fs (x.blk scope s H Cc cl fp) hN (blk_scope.trans (by rw [hs])) h12 h14) hI1
            (fun s H Cc cl fp => pg_of (X := BX X scope s H Cc cl fp) (C := C) x.K x.calm hN x.nd stores_blk h6)
            (fun s H Cc cl fp => sTs fs1 (x.blk scope s H Cc cl fp) hN (blk_scope.trans (by rw [hs])) h13 h15)
            (fun s H Cc cl fp => sE e' (x.blk scope s H Cc cl fp) hN (blk_scope.trans (by rw [hs])) h16) (fun y => set_of h7) (fun env y => set_of h8)
          unfold lc2M at key
          rw [M.bind_assoc] at key
          have e2 : ∀ acc : List D, (fun b : Bool => if b = true then ((evEs G it1).bind fun ds => M.opt (walkD k1 ds)).bind fun ys => innerM vs1 (compM vs1 g1 (elemM (evTs G fs1) (evE G e')) ys acc) else M.pure acc) =
              (fun b : Bool => if b = true then (evEs G it1).bind fun ds => (M.opt (walkD k1 ds)).bind fun ys => innerM vs1 (compM vs1 g1 (elemM (evTs G fs1) (evE G e')) ys acc) else M.pure acc) := fun acc => by
            funext b
            rw [M.bind_assoc]
          simp only [e2] at key
          exact key
        · cases h11
      · cases h10
    · cases h
  termination_by e => (sizeOf e, 0)
theorem sW : ∀ (ex : Ex) {X : Cx} {W : WX'} {sc : Scope} {op : BoolOp} {vals : List PySem.Expr} {pos : Pos}, XOk T C A W G k X → X.N = N → X.env.scope = sc → ckE T N ex sc (.BoolOp op vals pos) = true → PW X (.BoolOp op vals pos) (gM C A W (ρE (α := Bool)) (truM (evE G ex)))
  | .and a b, X, W, sc, op, vals, pos, x, hN, hs, h => by
    have e : truM (evE G (.and a b)) = andM (truM (evE G a)) (truM (evE G b)) := by simp only [evE]; exact tru_and _ _
    rw [e]
    simp only [ckE] at h
    split at h
    · rename_i q
      cases q
      simp only [Bool.and_eq_true] at h
      exact sw_and (sT a x hN hs h.1) (pw_and1 (sT b x hN hs h.2))
    · rename_i q
      cases q
      simp only [Bool.and_eq_true] at h
      exact sw_and (sT a x hN hs h.1) (sW b x hN hs h.2)
    · cases h
  | .or a b, X, W, sc, op, vals, pos, x, hN, hs, h => by
    have e : truM (evE G (.or a b)) = orM (truM (evE G a)) (truM (evE G b)) := by simp only [evE]; exact tru_or _ _
    rw [e]
    simp only [ckE] at h
    split at h
    · rename_i q
      cases q
      simp only [Bool.and_eq_true] at h
      exact sw_or (sT a x hN hs h.1) (pw_or1 (sT b x hN hs h.2))
    · rename_i q
      cases q
      simp only [Bool.and_eq_true] at h
      exact sw_or (sT a x hN hs h.1) (sW b x hN hs h.2)
    · cases h
  | .nev, X, W, sc, op, vals, pos, x, hN, hs, h => ⟨fun wh pins s σ H Q I ⟨F, S, r, h⟩ => by simp only [evE] at h; exact h.elim⟩
  | .c d, X, W, sc, op, vals, pos, x, hN, hs, h => by simp [ckE, cstC] at h
  | .v i, X, W, sc, op, vals, pos, x, hN, hs, h => by simp [ckE] at h
  | .io i, X, W, sc, op, vals, pos, x, hN, hs, h => by simp [ckE] at h
  | .nil, X, W, sc, op, vals, pos, x, hN, hs, h => by simp [ckE] at h
  | .star i, X, W, sc, op, vals, pos, x, hN, hs, h => by simp [ckE] at h
  | .bin _ _ _, X, W, sc, op, vals, pos, x, hN, hs, h => by simp [ckE] at h
  | .un _ _, X, W, sc, op, vals, pos, x, hN, hs, h => by simp [ckE] at h
  | .cmp _ _ _, X, W, sc, op, vals, pos, x, hN, hs, h => by simp [ckE] at h
  | .chain _ _ _ _ _, X, W, sc, op, vals, pos, x, hN, hs, h => by simp [ckE] at h
  | .not _, X, W, sc, op, vals, pos, x, hN, hs, h => by simp [ckE] at h
  | .ite _ _ _, X, W, sc, op, vals, pos, x, hN, hs, h => by simp [ckE] at h
  | .tup _, X, W, sc, op, vals, pos, x, hN, hs, h => by simp [ckE] at h
  | .lst _, X, W, sc, op, vals, pos, x, hN, hs, h => by simp [ckE] at h
  | .ix _ _, X, W, sc, op, vals, pos, x, hN, hs, h => by simp [ckE] at h
  | .sl _ _ _, X, W, sc, op, vals, pos, x, hN, hs, h => by simp [ckE] at h
  | .rev _, X, W, sc, op, vals, pos, x, hN, hs, h => by simp [ckE] at h
  | .fld _ _, X, W, sc, op, vals, pos, x, hN, hs, h => by simp [ckE] at h
  | .sfld _, X, W, sc, op, vals, pos, x, hN, hs, h => by simp [ckE] at h
  | .call _ _ _ _, X, W, sc, op, vals, pos, x, hN, hs, h => by simp [ckE] at h
  | .make _ _ _ _, X, W, sc, op, vals, pos, x, hN, hs, h => by simp [ckE] at h
  | .meth _ _ _ _ _, X, W, sc, op, vals, pos, x, hN, hs, h => by simp [ckE] at h
  | .blt _ _, X, W, sc, op, vals, pos, x, hN, hs, h => by
    simp only [ckE] at h
    split at h
    · rename_i q
      obtain ⟨_, _, _, _, e⟩ := spArgs_call q
      cases e
    · cases h
  | .bmt _ _ _, X, W, sc, op, vals, pos, x, hN, hs, h => by simp [ckE] at h
  | .isi _ _, X, W, sc, op, vals, pos, x, hN, hs, h => by simp [ckE] at h
  | .mut _ _ _, X, W, sc, op, vals, pos, x, hN, hs, h => by simp [ckE] at h
  | .lc1 _ _ _ _ _ _, X, W, sc, op, vals, pos, x, hN, hs, h => by simp [ckE] at h
  | .lc2 _ _ _ _ _ _ _ _ _ _ _, X, W, sc, op, vals, pos, x, hN, hs, h => by simp [ckE] at h
  termination_by e => (sizeOf e, 1)
theorem sT : ∀ (ex : Ex) {X : Cx} {W : WX'} {sc : Scope} {e : PySem.Expr}, XOk T C A W G k X → X.N = N → X.env.scope = sc → ckE T N ex sc e = true → PT X e (gM C A W (ρE (α := Bool)) (truM (evE G ex)))
  | .not a, X, W, sc, e, x, hN, hs, h => by
    have e1 : truM (evE G (.not a)) = (truM (evE G a)).bind fun k => M.pure (!k) := by simp only [evE]; exact truth_bl _
    rw [e1]
    simp only [ckE] at h
    split at h
    · exact st_not (sT a x hN hs h)
    · cases h
  | .ite t a b, X, W, sc, e, x, hN, hs, h => by
    have e1 : truM (evE G (.ite t a b)) = (truM (evE G t)).bind fun k => if k then truM (evE G a) else truM (evE G b) := by simp only [evE]; exact truM_ite
    rw [e1]
    simp only [ckE] at h
    split at h
    · simp only [Bool.and_eq_true] at h
      exact st_ite (sT t x hN hs h.1) (sT a x hN hs h.2.1) (sT b x hN hs h.2.2)
    · cases h
  | .cmp o a b, X, W, sc, e, x, hN, hs, h => by
    have e1 : truM (evE G (.cmp o a b)) = cmpM o (opOf a (evE G a)) (opOf b (evE G b)) := by simp only [evE]; exact truth_bl _
    rw [e1]
    simp only [ckE] at h
    split at h
    · simp only [Bool.and_eq_true, decide_eq_true_eq, Bool.not_eq_true'] at h
      obtain ⟨rfl, h2, h3, h4⟩ := h
      exact st_cmp x.K (units_of x) (opv hN hs h3 (sE a x hN hs h3)) (opv hN hs h4 (sE b x hN hs h4)) h2
    · cases h
  | .chain o o' a b c, X, W, sc, e, x, hN, hs, h => by
    have e1 : truM (evE G (.chain o o' a b c)) = chainM o o' (evE G a) (evE G b) (evE G c) := by simp only [evE]; exact truth_bl _
    rw [e1]
    simp only [ckE] at h
    split at h
    · simp only [Bool.and_eq_true, decide_eq_true_eq, Bool.not_eq_true'] at h
      obtain ⟨rfl, rfl, h2, h3, h4, h5⟩ := h
      exact st_chain x.K (units_of x) (sE a x hN hs h3) (sE b x hN hs h4) (sE c x hN hs h5) h2
    · cases h
  | .and a b, X, W, sc, e, x, hN, hs, h => by
    have h' := h
    simp only [ckE] at h'
    split at h'
    · exact (sW (.and a b) x hN hs h).pt
    · exact (sW (.and a b) x hN hs h).pt
    · cases h'
  | .or a b, X, W, sc, e, x, hN, hs, h => by
    have h' := h
    simp only [ckE] at h'
    split at h'
    · exact (sW (.or a b) x hN hs h).pt
    · exact (sW (.or a b) x hN hs h).pt
    · cases h'
  | .nev, X, W, sc, e, x, hN, hs, h => ⟨fun pins s σ H Q I ⟨F, S, r, h⟩ => by simp only [evE] at h; exact h.elim⟩
  | .c d, X, W, sc, e, x, hN, hs, h => st_truth x.K (sE (.c d) x hN hs h) fun _ => test_of (plainT_of h)
  | .v i, X, W, sc, e, x, hN, hs, h => st_truth x.K (sE (.v i) x hN hs h) fun _ => test_of (plainT_of h)
  | .io i, X, W, sc, e, x, hN, hs, h => st_truth x.K (sE (.io i) x hN hs h) fun _ => test_of (plainT_of h)
  | .nil, X, W, sc, e, x, hN, hs, h => st_truth x.K (sE .nil x hN hs h) fun _ => test_of (plainT_of h)
  | .star a, X, W, sc, e, x, hN, hs, h => st_truth x.K (sE (.star a) x hN hs h) fun _ => test_of (plainT_of h)
  | .bin o a b, X, W, sc, e, x, hN, hs, h => st_truth x.K (sE (.bin o a b) x hN hs h) fun _ => test_of (plainT_of h)
  | .un o a, X, W, sc, e, x, hN, hs, h => st_truth x.K (sE (.un o a) x hN hs h) fun _ => test_of (plainT_of h)
  | .tup a, X, W, sc, e, x, hN, hs, h => st_truth x.K (sE (.tup a) x hN hs h) fun _ => test_of (plainT_of h)
  | .lst a, X, W, sc, e, x, hN, hs, h => st_truth x.K (sE (.lst a) x hN hs h) fun _ => test_of (plainT_of h)
  | .ix a b, X, W, sc, e, x, hN, hs, h => st_truth x.K (sE (.ix a b) x hN hs h) fun _ => test_of (plainT_of h)
  | .sl a b c, X, W, sc, e, x, hN, hs, h => st_truth x.K (sE (.sl a b c) x hN hs h) fun _ => test_of (plainT_of h)
  | .rev a, X, W, sc, e, x, hN, hs, h => st_truth x.K (sE (.rev a) x hN hs h) fun _ => test_of (plainT_of h)
  | .fld a b, X, W, sc, e, x, hN, hs, h => st_truth x.K (sE (.fld a b) x hN hs h) fun _ => test_of (plainT_of h)
  | .sfld a, X, W, sc, e, x, hN, hs, h => st_truth x.K (sE (.sfld a) x hN hs h) fun _ => test_of (plainT_of h)
  | .call a b c d, X, W, sc, e, x, hN, hs, h => st_truth x.K (sE (.call a b c d) x hN hs h) fun _ => test_of (plainT_of h)
  | .make a b c d, X, W, sc, e, x, hN, hs, h => st_truth x.K (sE (.make a b c d) x hN hs h) fun _ => test_of (plainT_of h)
  | .meth o a b c d, X, W, sc, e, x, hN, hs, h => st_truth x.K (sE (.meth o a b c d) x hN hs h) fun _ => test_of (plainT_of h)
  | .blt a b, X, W, sc, e, x, hN, hs, h => st_truth x.K (sE (.blt a b) x hN hs h) fun _ => test_of (plainT_of h)
  | .bmt a b c, X, W, sc, e, x, hN, hs, h => st_truth x.K (sE (.bmt a b c) x hN hs h) fun _ => test_of (plainT_of h)
  | .isi a b, X, W, sc, e, x, hN, hs, h => st_truth x.K (sE (.isi a b) x hN hs h) fun _ => test_of (plainT_of h)
  | .mut a b c, X, W, sc, e, x, hN, hs, h => st_truth x.K (sE (.mut a b c) x hN hs h) fun _ => test_of (plainT_of h)
  | .lc1 a b c d f g, X, W, sc, e, x, hN, hs, h => st_truth x.K (sE (.lc1 a b c d f g) x hN hs h) fun _ => test_of (plainT_of h)
  | .lc2 a b c d f g h1 h2 h3 h4 h5, X, W, sc, e, x, hN, hs, h => st_truth x.K (sE (.lc2 a b c d f g h1 h2 h3 h4 h5) x hN hs h) fun _ => test_of (plainT_of h)
  termination_by e => (sizeOf e, 2)
theorem sEs : ∀ (es : List Ex) {X : Cx} {W : WX'} {sc : Scope} {xs : List PySem.Expr}, XOk T C A W G k X → X.N = N → X.env.scope = sc → ckEs T N es sc xs = true → PA X xs (gM C A W (ρDs C) (evEs G es))
  | [], X, W, sc, xs, x, hN, hs, h => by
    cases xs with
    | nil => simp only [evEs]; exact sa_nil
    | cons _ _ => simp [ckEs] at h
  | e :: es, X, W, sc, xs, x, hN, hs, h => by
    cases xs with
    | nil => simp [ckEs] at h
    | cons y r =>
      simp only [ckEs, Bool.and_eq_true] at h
      obtain ⟨h1, h2⟩ := h
      have hr := sEs es x hN hs h2
      simp only [Bool.or_eq_true] at h1
      rcases h1 with h1 | h1
      · obtain ⟨a, z, p, rfl, rfl, h1⟩ := ckSt_star h1
        simp only [evEs, evE]
        exact sa_star x.K (sE a x hN hs h1) hr
      · simp only [Bool.and_eq_true] at h1
        rw [evEs_cons fun a q => by subst q; exact ckE_star h1.2]
        exact sa_cons (sE e x hN hs h1.2) hr (starEach_cons h1.1)
  termination_by e => (sizeOf e, 0)
theorem sPs : ∀ (es : List Ex) {X : Cx} {W : WX'} {sc : Scope} {xs : List PySem.Expr}, XOk T C A W G k X → X.N = N → X.env.scope = sc → ckPs T N es sc xs = true → xs.all plainE = true → PA X xs (gM C A W (ρOs C) (evPs G es))
  | [], X, W, sc, xs, x, hN, hs, h, hp => by
    cases xs with
    | nil => simp only [evPs]; exact sq_nil
    | cons _ _ => simp [ckPs] at h
  | e :: es, X, W, sc, xs, x, hN, hs, h, hp => by
    cases xs with
    | nil => simp [ckPs] at h
    | cons y r =>
      simp only [ckPs, Bool.and_eq_true] at h
      simp only [List.all_cons, Bool.and_eq_true] at hp
      simp only [evPs]
      exact sq_cons (opv hN hs h.1 (sE e x hN hs h.1)) (sPs es x hN hs h.2 hp.2) (starEach_cons hp.1)
  termination_by e => (sizeOf e, 0)
theorem sTs : ∀ (es : List Ex) {X : Cx} {W : WX'} {sc : Scope} {xs : List PySem.Expr}, XOk T C A W G k X → X.N = N → X.env.scope = sc → ifsLen es = true → ckTs T N es sc xs = true → PTs X xs (gM C A W (ρE (α := Bool)) (evTs G es))
  | [], X, W, sc, xs, x, hN, hs, hl, h => by
    cases xs with
    | nil => simp only [evTs]; exact ⟨fun pins s σ H Q I h => pts_nil.run pins s σ H Q I (by
        obtain ⟨F, S, r, h⟩ := h
        exact h.pure (w := ⟨σ, F, H, S⟩) r rfl)⟩
    | cons _ _ => simp [ckTs] at h
  | [e], X, W, sc, xs, x, hN, hs, hl, h => by
    cases xs with
    | nil => simp [ckTs] at h
    | cons y r =>
      cases r with
      | cons _ _ => simp [ckTs] at h
      | nil =>
        simp only [ckTs, Bool.and_eq_true] at h
        have e1 : evTs G [e] = truM (evE G e) := by
          simp only [evTs]
          funext S
          unfold M.bind
          cases truM (evE G e) S with
          | bad => rfl
          | ex c d S' => rfl
          | ok b S' => cases b <;> rfl
        rw [e1]
        exact pts_one (sT e x hN hs h.1)
  | _ :: _ :: _, X, W, sc, xs, x, hN, hs, hl, h => by cases hl
  termination_by e => (sizeOf e, 0)
theorem sAs : ∀ (es : List Ex) {X : Cx} {W : WX'} {sc : Scope} {xs : List PySem.Expr}, XOk T C A W G k X → X.N = N → X.env.scope = sc → ckAs T N es sc xs = true → xs.all plainE = true → PA X xs (gM C A W (ρA C es) (evEs G es))
  | [], X, W, sc, xs, x, hN, hs, h, hp => by
    cases xs with
    | nil => simp only [evEs]; exact sx_nil
    | cons _ _ => simp [ckAs] at h
  | e :: es, X, W, sc, xs, x, hN, hs, h, hp => by
    cases xs with
    | nil => simp [ckAs] at h
    | cons y r =>
      simp only [ckAs, Bool.and_eq_true] at h
      simp only [List.all_cons, Bool.and_eq_true] at hp
      obtain ⟨h1, h2⟩ := h
      have hr := sAs es x hN hs h2 hp.2
      simp only [Bool.or_eq_true] at h1
      rcases h1 with h1 | h1
      · obtain ⟨i, z, p, rfl, rfl, h1⟩ := ioC_io h1
        rw [evEs_cons (fun a q => by cases q), ← io_eq]
        exact sx_io (vis_of h1 hN hs) hr hp.1
      · rw [evEs_cons fun a q => by subst q; exact ckE_star h1]
        refine sx_cons (fun i q => ?_) (sE e x hN hs h1) hr hp.1
        subst q
        simp only [ckE, Bool.false_eq_true] at h1
  termination_by e => (sizeOf e, 0)
theorem sKs : ∀ (es : List Ex) {X : Cx} {W : WX'} {sc : Scope} {xs : List Keyword}, XOk T C A W G k X → X.N = N → X.env.scope = sc → ckKs T N es sc xs = true → PK X xs (gM C A W (ρA C es) (evEs G es))
  | [], X, W, sc, xs, x, hN, hs, h => by
    cases xs with
    | nil => simp only [evEs]; exact sk_nil
    | cons _ _ => simp [ckKs] at h
  | e :: es, X, W, sc, xs, x, hN, hs, h => by
    cases xs with
    | nil => simp [ckKs] at h
    | cons y r =>
      obtain ⟨nm, v, kp⟩ := y
      simp only [ckKs, Bool.and_eq_true] at h
      rw [evEs_cons fun a q => by subst q; exact ckE_star h.1]
      refine sk_cons (fun i q => ?_) (sE e x hN hs h.1) (sKs es x hN hs h.2)
      subst q
      simp [ckE] at h
  termination_by e => (sizeOf e, 0)
end
end
end Pl
set_option Elab.async false
set_option linter.all false
set_option maxRecDepth 100000
set_option maxHeartbeats 4000000
/-! Pl: the check of statements. -/
namespace Pl
open PySem L2
def swC (sc : Scope) (s : Scope) (p : Pos) (t : Str) (tp : Pos) : Bool := decide (sc.names.lookup t = some .local) && (tp.line == p.line && !(s.names.any fun (n, k) => n == t && (k == .local || k == .cell)))
/-- value, name: is the name's old value let go before the block ends? -/
def swapC (sc : Scope) (v : PySem.Expr) (t : Str) (tp : Pos) : Bool := match v with
  | .ListComp _ _ s p => swC sc s p t tp
  | _ => false
def notSD : PySem.Expr → Bool
  | .SetComp _ _ _ _ => false
  | .DictComp _ _ _ _ _ => false
  | _ => true
theorem swap_of {sc : Scope} {v : PySem.Expr} {t : Str} {tp : Pos} {n : Nat} {env : Env} (hk : sc.kind = .function) (hs : env.scope = sc) (hv : notSD v = true) :
    swapsWith v (some (.Name t tp)) n env = pure (swapC sc v t tp) := by
  have hb : env.blockKind = .function := by unfold Env.blockKind; rw [hs, hk]; rfl
  cases v with
  | ListComp elt gs s p =>
    show (pure (env.blockKind == .function && env.kindOf t == some .local && tp.line == p.line && !(s.names.any fun (n, k) => n == t && (k == .local || k == .cell))) : Sem Bool) = _
    congr 1
    unfold swapC swC
    rw [hb]
    have e1 : (env.kindOf t == some NameKind.local) = decide (sc.names.lookup t = some .local) := by
      show (env.scope.names.lookup t == some NameKind.local) = _
      rw [hs]
      cases List.lookup t sc.names with
      | none => rfl
      | some k => cases k <;> rfl
    rw [e1]
    simp [Bool.and_assoc]
  | SetComp _ _ _ _ => cases hv
  | DictComp _ _ _ _ _ => cases hv
  | _ => rfl
def starB : PySem.Expr → Bool
  | .Starred .. => true
  | _ => false
def nmB (env : Env) (line : Nat) : PySem.Expr → Option Str
  | .Name id pos => if env.kindOf id == some .local && pos.line == line then some id else none
  | _ => none
def nmC (sc : Scope) (line : Nat) : PySem.Expr → Option Str
  | .Name id pos => if sc.names.lookup id == some .local && pos.line == line then some id else none
  | _ => none
def headL (ts : List PySem.Expr) : Nat := (ts.head?.map (·.pos.line)).getD 0
theorem sw_unf {ts vs : List PySem.Expr} {k k2 : Nat} {p p2 : Pos} {env : Env} : swappedStores [.Tuple ts k p] (.Tuple vs k2 p2) env =
    (if (!(ts.length == 2 || ts.length == 3) || vs.length != ts.length || env.blockKind != .function) = true then pure none
    else if vs.any starB = true then pure none
    else if ((ts.filterMap (nmB env (headL ts))).length != ts.length || (ts.filterMap (nmB env (headL ts))).eraseDups.length != (ts.filterMap (nmB env (headL ts))).length) = true then pure none
    else if vs.all (foldedForSure 8) = true then pure none
    else if vs.all (constantsAlone 8) = true then (do unsupported "assign.tuple-of-constant-expressions:order-of-the-stores"; return some (ts.filterMap (nmB env (headL ts))))
    else pure (some (ts.filterMap (nmB env (headL ts))))) := by
  unfold swappedStores
  simp only []
  rfl
def swK (sc : Scope) (ts vs : List PySem.Expr) : Option (Option (List Str)) :=
  if (!(ts.length == 2 || ts.length == 3) || vs.length != ts.length) = true then some none
  else if vs.any starB = true then some none
  else if ((ts.filterMap (nmC sc (headL ts))).length != ts.length || (ts.filterMap (nmC sc (headL ts))).eraseDups.length != (ts.filterMap (nmC sc (headL ts))).length) = true then some none
  else if vs.all (foldedForSure 8) = true then some none
  else if vs.all (constantsAlone 8) = true then none
  else some (some (ts.filterMap (nmC sc (headL ts))))
theorem swK_of {sc : Scope} {ts vs : List PySem.Expr} {k k2 : Nat} {p p2 : Pos} {env : Env} {r : Option (List Str)} (hk : sc.kind = .function) (hs : env.scope = sc) (h : swK sc ts vs = some r) : swappedStores [.Tuple ts k p] (.Tuple vs k2 p2) env = pure r := by
  have hb : env.blockKind = .function := by unfold Env.blockKind; rw [hs, hk]; rfl
  have hb2 : (env.blockKind != ScopeKind.function) = false := by rw [hb]; rfl
  have hn : nmB env = nmC sc := by subst hs; rfl
  rw [sw_unf, hb2, Bool.or_false, hn]
  unfold swK at h
  split at h
  · rename_i h1; cases h; rw [if_pos h1]
  · rename_i h1
    rw [if_neg h1]
    split at h
    · rename_i h1; cases h; rw [if_pos h1]
    · rename_i h1
      rw [if_neg h1]
      split at h
      · rename_i h1; cases h; rw [if_pos h1]
      · rename_i h1
        rw [if_neg h1]
        split at h
        · rename_i h1; cases h; rw [if_pos h1]
        · rename_i h1
          rw [if_neg h1]
          split at h
          · cases h
          · rename_i h1
            rw [if_neg h1]
            cases h; rfl
end Pl
set_option Elab.async false
set_option linter.all false
set_option maxRecDepth 100000
set_option maxHeartbeats 4000000
/-! Pl: name = [..]. -/
namespace Pl
open PySem L2
section
variable {T : Tab} {N : List Str} {C : Cxt} {A : Addr} {G : Gam} {k : Nat}
theorem sLc {X : Cx} {W : WX'} {sc : Scope} {i : Nat} {y : Str} {py spos : Pos} (x : XOk T C A W G k X) (hN : X.N = N) (hs : X.env.scope = sc) (hi : X.N[i]? = some y) (hl : X.env.scope.names.lookup y = some .local) :
    ∀ (ex : Ex) (e : PySem.Expr), ckE T N ex sc e = true → swapsWith e (some (.Name y py)) spos.line X.env = pure true → (match e with | .ListComp _ _ _ _ => True | _ => False) → PS X (.Assign [.Name y py] e spos) (tSet C A W (evE G ex) i)
  | .nev, e, h, hsw, hc => ⟨fun pins s σ H D I ⟨F, S, r, h⟩ => by simp only [evE] at h; exact h.elim⟩
  | .lc1 vs kk it g fs e', e, h, hsw, hc => by
    simp only [evE]; simp only [ckE] at h
    split at h
    · rename_i elt tg iter ifs scope pos
      simp only [Bool.and_eq_true] at h
      obtain ⟨h1, h2, h3, h4, h5, h6, h7, h8, h9⟩ := h
      split at h6
      · rename_i args q
        simp only [Bool.and_eq_true] at h6
        have hA := sEs it x hN hs h6.2
        have hI : PI X tg iter (ti' C A W ((evEs G it).bind fun ds => M.opt (walkD kk ds))) := it_of x hs q h6.1 hA fun y hy => by
          subst hy
          cases it with
          | nil => simp [ckEs] at h6
          | cons e0 es =>
            have h62 := h6.2
            simp only [ckEs, Bool.and_eq_true] at h62
            cases es with
            | cons _ _ => simp [ckEs] at h62
            | nil =>
              have h63 := h62.1
              simp only [List.all_cons, Bool.and_eq_true] at h6
              have hp : plainE y = true := h6.1.1
              simp only [Bool.or_eq_true] at h63
              rcases h63 with h63 | h63
              · obtain ⟨_, _, _, _, rfl, _⟩ := ckSt_star h63
                cases hp
              · simp only [Bool.and_eq_true] at h63
                exact ⟨e0, rfl, fun a q => by subst q; exact ckE_star h63.2, sE e0 x hN hs h63.2⟩
        have key := ss_lc1 (X := X) (C := C) (A := A) (W := W) (pos := pos) (elt := elt) (vs := vs) (g := g) (mt := evTs G fs) (me := evE G e') x.calm x.nd hi hl hsw hI (blkOk_by (by rw [hN, hs]; exact h1)) hv_of (fun i hi => by simpa using List.all_eq_true.mp h2 i hi)
          (fun s H Cc cl fp => pg_of (X := BX X scope s H Cc cl fp) (C := C) x.K x.calm hN x.nd stores_blk h3)
          (fun s H Cc cl fp => sTs fs (x.blk scope s H Cc cl fp) hN (blk_scope.trans (by rw [hs])) h7 h8)
          (fun s H Cc cl fp => sE e' (x.blk scope s H Cc cl fp) hN (blk_scope.trans (by rw [hs])) h9) (fun y => set_of h4)
        unfold lc1M at key
        rw [M.bind_assoc] at key
        exact key
      · cases h6
    · cases h
  | .lc2 vs vs1 kk it g fs k1 it1 g1 fs1 e', e, h, hsw, hc => by
    simp only [evE]; simp only [ckE] at h
    split at h
    · rename_i elt tg iter ifs tg1 iter1 ifs1 scope pos
      simp only [Bool.and_eq_true] at h
      obtain ⟨h1, h2, h3, h4, h5, h6, h7, h8, ⟨h9, h9'⟩, h10, h11, h12, h13, h14, h15, h16⟩ := h
      split at h10
      · rename_i args q
        split at h11
        · rename_i args1 q1
          simp only [Bool.and_eq_true] at h10 h11
          have one : ∀ {X : Cx} {W : WX'} {sc : Scope} (it : List Ex) (args : List PySem.Expr), XOk T C A W G k X → X.N = N → X.env.scope = sc → args.all plainE = true → ckEs T N it sc args = true → (∀ e ∈ it, ∀ (y : PySem.Expr), ckE T N e sc y = true → PE X y (gM C A W (ρV C) (evE G e))) →
              ∀ y, args = [y] → ∃ e, it = [e] ∧ (∀ a, e ≠ .star a) ∧ PE X y (gM C A W (ρV C) (evE G e)) := fun {X W sc} it args x hN hs hp hc hE y hy => by
            subst hy
            cases it with
            | nil => simp [ckEs] at hc
            | cons e0 es =>
              simp only [ckEs, Bool.and_eq_true] at hc
              cases es with
              | cons _ _ => simp [ckEs] at hc
              | nil =>
                have h63 := hc.1
                simp only [List.all_cons, Bool.and_eq_true] at hp
                have hp : plainE y = true := hp.1
                simp only [Bool.or_eq_true] at h63
                rcases h63 with h63 | h63
                · obtain ⟨_, _, _, _, rfl, _⟩ := ckSt_star h63
                  cases hp
                · simp only [Bool.and_eq_true] at h63
                  exact ⟨e0, rfl, fun a q => by subst q; exact ckE_star h63.2, hE e0 (by simp) y h63.2⟩
          have hI : PI X tg iter (ti' C A W ((evEs G it).bind fun ds => M.opt (walkD kk ds))) := it_of x hs q h10.1 (sEs it x hN hs h10.2) (one it args x hN hs h10.1 h10.2 fun e he y hy => sE e x hN hs hy)
          have hI1 : ∀ s H Cc cl fp, PI (BX X scope s H Cc cl fp) tg1 iter1 (ti' C A W0 ((evEs G it1).bind fun ds => M.opt (walkD k1 ds))) := fun s H Cc cl fp =>
            it_of (x.blk scope s H Cc cl fp) (blk_scope.trans (by rw [hs])) q1 h11.1 (sEs it1 (x.blk scope s H Cc cl fp) hN (blk_scope.trans (by rw [hs])) h11.2) (one it1 args1 (x.blk scope s H Cc cl fp) hN (blk_scope.trans (by rw [hs])) h11.1 h11.2 fun e he y hy => sE e (x.blk scope s H Cc cl fp) hN (blk_scope.trans (by rw [hs])) hy)
          have key := ss_lc2 (X := X) (C := C) (A := A) (W := W) (pos := pos) (elt := elt) (vs := vs) (vs1 := vs1) (g := g) (g1 := g1) (mt := evTs G fs) (mt1 := evTs G fs1) (me := evE G e') x.calm x.nd hi hl hsw hI (blkOk_by (by rw [hN, hs]; exact h1)) hv_of (fun i hi => by simpa using List.all_eq_true.mp h2 i hi)
            (fun i hi => by simpa using List.all_eq_true.mp h4 i hi) (fun i hi => by simpa using List.all_eq_true.mp h3 i hi)
            (fun s H Cc cl fp => pg_of (X := BX X scope s H Cc cl fp) (C := C) x.K x.calm hN x.nd stores_blk h5)
            (fun s H Cc cl fp => sTs fs (x.blk scope s H Cc cl fp) hN (blk_scope.trans (by rw [hs])) h12 h14) hI1
            (fun s H Cc cl fp => pg_of (X := BX X scope s H Cc cl fp) (C := C) x.K x.calm hN x.nd stores_blk h6)
            (fun s H Cc cl fp => sTs fs1 (x.blk scope s H Cc cl fp) hN (blk_scope.trans (by rw [hs])) h13 h15)
            (fun s H Cc cl fp => sE e' (x.blk scope s H Cc cl fp) hN (blk_scope.trans (by rw [hs])) h16) (fun y => set_of h7) (fun env y => set_of h8)
          unfold lc2M at key
          rw [M.bind_assoc] at key
          have e2 : ∀ acc : List D, (fun b : Bool => if b = true then ((evEs G it1).bind fun ds => M.opt (walkD k1 ds)).bind fun ys => innerM vs1 (compM vs1 g1 (elemM (evTs G fs1) (evE G e')) ys acc) else M.pure acc) =
              (fun b : Bool => if b = true then (evEs G it1).bind fun ds => (M.opt (walkD k1 ds)).bind fun ys => innerM vs1 (compM vs1 g1 (elemM (evTs G fs1) (evE G e')) ys acc) else M.pure acc) := fun acc => by
            funext b
            rw [M.bind_assoc]
          simp only [e2] at key
          exact key
        · cases h11
      · cases h10
    · cases h
  | .c _, e, h, hsw, hc => by cases e <;> first | exact hc.elim | simp [ckE, cstC, spArgs, rgArgs, mnArgs] at h
  | .v _, e, h, hsw, hc => by cases e <;> first | exact hc.elim | simp [ckE, cstC, spArgs, rgArgs, mnArgs] at h
  | .io _, e, h, hsw, hc => by cases e <;> first | exact hc.elim | simp [ckE, cstC, spArgs, rgArgs, mnArgs] at h
  | .nil, e, h, hsw, hc => by cases e <;> first | exact hc.elim | simp [ckE, cstC, spArgs, rgArgs, mnArgs] at h
  | .star _, e, h, hsw, hc => by cases e <;> first | exact hc.elim | simp [ckE, cstC, spArgs, rgArgs, mnArgs] at h
  | .bin _ _ _, e, h, hsw, hc => by cases e <;> first | exact hc.elim | simp [ckE, cstC, spArgs, rgArgs, mnArgs] at h
  | .un _ _, e, h, hsw, hc => by cases e <;> first | exact hc.elim | simp [ckE, cstC, spArgs, rgArgs, mnArgs] at h
  | .cmp _ _ _, e, h, hsw, hc => by cases e <;> first | exact hc.elim | simp [ckE, cstC, spArgs, rgArgs, mnArgs] at h
  | .chain _ _ _ _ _, e, h, hsw, hc => by cases e <;> first | exact hc.elim | simp [ckE, cstC, spArgs, rgArgs, mnArgs] at h
  | .and _ _, e, h, hsw, hc => by cases e <;> first | exact hc.elim | simp [ckE, cstC, spArgs, rgArgs, mnArgs] at h
  | .or _ _, e, h, hsw, hc => by cases e <;> first | exact hc.elim | simp [ckE, cstC, spArgs, rgArgs, mnArgs] at h
  | .not _, e, h, hsw, hc => by cases e <;> first | exact hc.elim | simp [ckE, cstC, spArgs, rgArgs, mnArgs] at h
  | .ite _ _ _, e, h, hsw, hc => by cases e <;> first | exact hc.elim | simp [ckE, cstC, spArgs, rgArgs, mnArgs] at h
  | .tup _, e, h, hsw, hc => by cases e <;> first | exact hc.elim | simp [ckE, cstC, spArgs, rgArgs, mnArgs] at h
  | .lst _, e, h, hsw, hc => by cases e <;> first | exact hc.elim | simp [ckE, cstC, spArgs, rgArgs, mnArgs] at h
  | .ix _ _, e, h, hsw, hc => by cases e <;> first | exact hc.elim | simp [ckE, cstC, spArgs, rgArgs, mnArgs] at h
  | .sl _ _ _, e, h, hsw, hc => by cases e <;> first | exact hc.elim | simp [ckE, cstC, spArgs, rgArgs, mnArgs] at h
  | .rev _, e, h, hsw, hc => by cases e <;> first | exact hc.elim | simp [ckE, cstC, spArgs, rgArgs, mnArgs] at h
  | .fld _ _, e, h, hsw, hc => by cases e <;> first | exact hc.elim | simp [ckE, cstC, spArgs, rgArgs, mnArgs] at h
  | .sfld _, e, h, hsw, hc => by cases e <;> first | exact hc.elim | simp [ckE, cstC, spArgs, rgArgs, mnArgs] at h
  | .call _ _ _ _, e, h, hsw, hc => by cases e <;> first | exact hc.elim | simp [ckE, cstC, spArgs, rgArgs, mnArgs] at h
  | .make _ _ _ _, e, h, hsw, hc => by cases e <;> first | exact hc.elim | simp [ckE, cstC, spArgs, rgArgs, mnArgs] at h
  | .meth _ _ _ _ _, e, h, hsw, hc => by cases e <;> first | exact hc.elim | simp [ckE, cstC, spArgs, rgArgs, mnArgs] at h
  | .blt _ _, e, h, hsw, hc => by cases e <;> first | exact hc.elim | simp [ckE, cstC, spArgs, rgArgs, mnArgs] at h
  | .bmt _ _ _, e, h, hsw, hc => by cases e <;> first | exact hc.elim | simp [ckE, cstC, spArgs, rgArgs, mnArgs] at h
  | .isi _ _, e, h, hsw, hc => by cases e <;> first | exact hc.elim | simp [ckE, cstC, spArgs, rgArgs, mnArgs] at h
  | .mut _ _ _, e, h, hsw, hc => by cases e <;> first | exact hc.elim | simp [ckE, cstC, spArgs, rgArgs, mnArgs] at h
end
end Pl
set_option Elab.async false
set_option linter.all false
set_option maxRecDepth 100000
set_option maxHeartbeats 4000000
/-! Pl: the check of statements, its soundness. -/
namespace Pl
open PySem L2
def isLc : PySem.Expr → Bool
  | .ListComp _ _ _ _ => true
  | _ => false
def notTup : PySem.Expr → Bool
  | .Tuple _ _ _ => false
  | _ => true
def augOp (op : Operator) (o : Bop) : Bool := match op, o with
  | .Add, .add => true
  | .Sub, .sub => true
  | _, _ => false
def subTa (T : Tab) (N : List Str) (sc : Scope) (i : Nat) (ei : Ex) : PySem.Expr → Bool
  | .Subscript (.Name y _) r _ => visC N sc i y && (notSlice r && ckE T N ei sc r)
  | _ => false
def ckAsg (T : Tab) (N : List Str) (sc : Scope) (t : Ta) (e : Ex) (tg v : PySem.Expr) : Bool := ckE T N e sc v && (notSD v && match t with
  | .nm i own => (match tg with | .Name y yp => locC N sc i y | _ => false)
  | .fld f => (match tg with | .Attribute (.Name y _) nm _ => visC N sc 0 y && decide (T.flds[f]? = some nm) | _ => false)
  | .sub i ei => subTa T N sc i ei tg)
def ckTa (T : Tab) (N : List Str) (sc : Scope) : Ta → PySem.Expr → Bool
  | .nm i own, .Name y _ => locC N sc i y
  | .sub i ei, tg => subTa T N sc i ei tg
  | _, _ => false
def ckTas (T : Tab) (N : List Str) (sc : Scope) : List Ta → List PySem.Expr → Bool
  | [], [] => true
  | t :: ts, g :: gs => ckTa T N sc t g && ckTas T N sc ts gs
  | _, _ => false
def ckRs (T : Tab) (N : List Str) (sc : Scope) : List Ex → List PySem.Expr → Bool
  | [], [] => true
  | e :: es, v :: vs => plainE v && (ckE T N e sc v && ckRs T N sc es vs)
  | _, _ => false
def ckPar (T : Tab) (N : List Str) (sc : Scope) (ts : List Ta) (es : List Ex) (tgs vs : List PySem.Expr) : Bool := match swK sc tgs vs with
  | some none => ckTas T N sc ts tgs && (ckRs T N sc es vs && decide (ts.length < 1000))
  | some (some names) => ckRs T N sc es vs && (match ts, tgs with
    | [.nm i _, .nm j _], [.Name x _, .Name y _] => lclC N sc i x && (lclC N sc j y && (!(i == j) && (decide (names = [x, y]) && vs.length == 2)))
    | [.nm i _, .nm j _, .nm l _], [.Name x _, .Name y _, .Name z _] => lclC N sc i x && (lclC N sc j y && (lclC N sc l z && (!(i == j) && (!(i == l) && (!(j == l) && (decide (names = [x, y, z]) && vs.length == 3))))))
    | _, _ => false)
  | none => false
mutual
def ckS (T : Tab) (N : List Str) : Sm → Scope → Stmt → Bool
  | .nev, _, _ => true
  | .pass, _, st => (match st with | .Pass _ => true | .Expr (.Constant (.str _) _ _) _ => true | _ => false)
  | .brk, _, st => (match st with | .Break _ => true | _ => false)
  | .cont, _, st => (match st with | .Continue _ => true | _ => false)
  | .expr e, sc, st => (match st with | .Expr v _ => notComp v && ckE T N e sc v | _ => false)
  | .ret e, sc, st => (match st with
    | .Return (some v) _ => ckE T N e sc v
    | .Return none _ => (match e with | .c d => dSame d .non | _ => false)
    | _ => false)
  | .asg t e, sc, st => (match st with | .Assign [tg] v _ => ckAsg T N sc t e tg v | _ => false)
  | .unp is e, sc, st => (match st with | .Assign [.Tuple ts kt pt] v _ => notTup v && (notSD v && (tgC N sc (.tp is) (.Tuple ts kt pt) && ckE T N e sc v)) | _ => false)
  | .par ts es, sc, st => (match st with | .Assign [.Tuple tgs _ _] (.Tuple vs _ _) _ => ckPar T N sc ts es tgs vs | _ => false)
  | .aug i o e, sc, st => (match st with | .AugAssign (.Name x _) op v _ => augOp op o && (locC N sc i x && ckE T N e sc v) | _ => false)
  | .augs _ _ _ _, _, _ => false
  | .iff t a b, sc, st => (match st with | .If c x y _ => ckE T N t sc c && (ckSs T N a sc x && ckSs T N b sc y) | _ => false)
  | .for kk it g b, sc, st => (match st with | .For tg iter body [] _ => notSet iter && (tgC N sc g tg && ((match iterC sc kk tg iter with | some args => args.all plainE && ckEs T N it sc args | none => false) && ckSs T N b sc body)) | _ => false)
  | .wh t b, sc, st => (match st with | .While c body [] _ => ckE T N t sc c && ckSs T N b sc body | _ => false)
  | .raise _ _, _, _ => false
def ckSs (T : Tab) (N : List Str) : List Sm → Scope → List Stmt → Bool
  | [], _, xs => xs.isEmpty
  | s :: ss, sc, xs => (match xs with | [] => false | x :: r => ckS T N s sc x && ckSs T N ss sc r)
end
section
variable {T : Tab} {N : List Str} {C : Cxt} {A : Addr} {G : Gam} {k : Nat} {X : Cx} {W : WX'} {sc : Scope}
theorem itOne (it : List Ex) (args : List PySem.Expr) (x : XOk T C A W G k X) (hN : X.N = N) (hs : X.env.scope = sc) (hp : args.all plainE = true) (hc : ckEs T N it sc args = true) :
    ∀ y, args = [y] → ∃ e, it = [e] ∧ (∀ a, e ≠ .star a) ∧ PE X y (gM C A W (ρV C) (evE G e)) := fun y hy => by
  subst hy
  cases it with
  | nil => simp [ckEs] at hc
  | cons e0 es =>
    simp only [ckEs, Bool.and_eq_true] at hc
    cases es with
    | cons _ _ => simp [ckEs] at hc
    | nil =>
      have h63 := hc.1
      simp only [List.all_cons, Bool.and_eq_true] at hp
      have hp : plainE y = true := hp.1
      simp only [Bool.or_eq_true] at h63
      rcases h63 with h63 | h63
      · obtain ⟨_, _, _, _, rfl, _⟩ := ckSt_star h63
        cases hp
      · simp only [Bool.and_eq_true] at h63
        exact ⟨e0, rfl, fun a q => by subst q; exact ckE_star h63.2, sE e0 x hN hs h63.2⟩
theorem mv_of {e : Ex} {v : PySem.Expr} (x : XOk T C A W G k X) (hN : X.N = N) (hs : X.env.scope = sc) (h : ckE T N e sc v = true) : PE X v (gM C A W (ρV C) (retOf e (evE G e))) := by
  have hv := sE e x hN hs h
  cases e with
  | v i =>
    simp only [ckE] at h
    split at h
    · exact se_mv (vis_of h hN hs)
    · cases h
  | _ => exact hv
theorem sRs (x : XOk T C A W G k X) (hN : X.N = N) (hs : X.env.scope = sc) : ∀ {es : List Ex} {vs : List PySem.Expr}, ckRs T N sc es vs = true → PA X vs (gM C A W (ρRs C) (evRs G es))
  | [], [], _ => sr_nil
  | e :: es, v :: vs, h => by
    simp only [ckRs, Bool.and_eq_true] at h
    exact sr_cons (sE e x hN hs h.2.1) (sRs x hN hs h.2.2) h.1
  | [], _ :: _, h => by simp [ckRs] at h
  | _ :: _, [], h => by simp [ckRs] at h
theorem sTa (x : XOk T C A W G k X) (hN : X.N = N) (hs : X.env.scope = sc) (hf : ∀ y, X.fn y = true) {i : Nat} {ei : Ex} {tg : PySem.Expr} (h : subTa T N sc i ei tg = true) : PG X tg (gR C A W (stoA G (.sub i ei))) ∧ (∀ s, tg ≠ .Starred s ⟨0, 0, 0, 0⟩) ∧ ∃ y p r q, tg = .Subscript (.Name y p) r q := by
  unfold subTa at h
  split at h
  · rename_i y p r q
    simp only [Bool.and_eq_true] at h
    refine ⟨sg_sub (m := evE G ei) (vis_of h.1 hN hs) (sE ei x hN hs h.2.2) fun v => ?_, (fun s z => by cases z), y, p, r, q, rfl⟩
    have := h.2.1
    cases r <;> first | rfl | cases this
  · cases h
theorem sTs' (x : XOk T C A W G k X) (hN : X.N = N) (hs : X.env.scope = sc) (hf : ∀ y, X.fn y = true) : ∀ {ts : List Ta} {tgs : List PySem.Expr}, ckTas T N sc ts tgs = true → PGs X tgs (gRs C A W (stoLs (ts.map (stoA G)))) ∧ (assignEach tgs X.env).length = ts.length ∧ (assignEach tgs X.env).findIdx? (·.1) = none
  | [], [], _ => ⟨sgs_nil, rfl, rfl⟩
  | t :: ts, g :: gs, h => by
    simp only [ckTas, Bool.and_eq_true] at h
    obtain ⟨k1, k2, k3⟩ := sTs' x hN hs hf h.2
    have h1 := h.1
    have key : PG X g (gR C A W (stoA G t)) ∧ (∀ env, assignEach (g :: gs) env = (false, assign g env) :: assignEach gs env) := by
      unfold ckTa at h1
      split at h1
      · obtain ⟨m1, m2⟩ := loc_of h1 hN hs
        exact ⟨sg_nm x.nd m1 m2 (.inl (hf _)), fun _ => rfl⟩
      · obtain ⟨q1, _, y, p, r, q, rfl⟩ := sTa x hN hs hf h1
        exact ⟨q1, fun _ => rfl⟩
      · cases h1
    refine ⟨sgs_cons key.1 k1 fun env => ?_, ?_, ?_⟩
    · rw [key.2]; rfl
    · rw [key.2]; simp [k2]
    · rw [key.2, List.findIdx?_cons, k3]; rfl
  | [], _ :: _, h => by simp [ckTas] at h
  | _ :: _, [], h => by simp [ckTas] at h
theorem swn_of {tg v : PySem.Expr} {env : Env} (h : notTup v = true) : swappedStores [tg] v env = pure none := by
  cases v <;> first | (cases h; done) | (cases tg <;> rfl)
theorem lcl_of {i : Nat} {y : Str} (hN : X.N = N) (hs : X.env.scope = sc) (h : lclC N sc i y = true) : X.N[i]? = some y ∧ X.env.scope.names.lookup y = some .local := by
  unfold lclC at h
  simp only [Bool.and_eq_true, decide_eq_true_eq] at h
  exact ⟨by rw [hN]; exact h.1, by rw [hs]; exact h.2⟩
theorem sPar (x : XOk T C A W G k X) (hN : X.N = N) (hs : X.env.scope = sc) (hf : ∀ y, X.fn y = true) (hk : sc.kind = .function) {ts : List Ta} {es : List Ex} {tgs vs : List PySem.Expr} {kt k2 : Nat} {pt p2 pos : Pos} (h : ckPar T N sc ts es tgs vs = true) :
    PS X (.Assign [.Tuple tgs kt pt] (.Tuple vs k2 p2) pos) (gS C A W (nxM ((evRs G es).bind fun rs => parL (ts.map (stoA G)) rs))) := by
  unfold ckPar at h
  split at h
  · rename_i q
    simp only [Bool.and_eq_true, decide_eq_true_eq] at h
    obtain ⟨k1, k2', k3⟩ := sTs' x hN hs hf h.1
    exact st_parT x.K x.calm (sRs x hN hs h.2.1) k1 (by simpa using h.2.2) (by simpa using k2') k3 (swK_of hk hs q) rfl rfl
  · rename_i names q
    simp only [Bool.and_eq_true] at h
    have hr := sRs (A := A) (W := W) (G := G) (k := k) (T := T) (C := C) x hN hs h.1
    have h2 := h.2
    split at h2
    · rename_i i o1 j o2 y py z pz
      simp only [Bool.and_eq_true, Bool.not_eq_true', beq_eq_false_iff_ne, decide_eq_true_eq, beq_iff_eq] at h2
      obtain ⟨h3, h4, h5, h6, h7⟩ := h2
      obtain ⟨a1, a2⟩ := lcl_of hN hs h3
      obtain ⟨b1, b2⟩ := lcl_of hN hs h4
      match vs, h7, hr, q with
      | [v1, v2], _, hr, q =>
        exact st_par2 x.calm x.nd a1 b1 h5 a2 b2 hr (by rw [swK_of hk hs q, h6]) rfl
    · rename_i i o1 j o2 l o3 y py z pz u pu
      simp only [Bool.and_eq_true, Bool.not_eq_true', beq_eq_false_iff_ne, decide_eq_true_eq, beq_iff_eq] at h2
      obtain ⟨h3, h4, h4', h5, h5', h5'', h6, h7⟩ := h2
      obtain ⟨a1, a2⟩ := lcl_of hN hs h3
      obtain ⟨b1, b2⟩ := lcl_of hN hs h4
      obtain ⟨c1, c2⟩ := lcl_of hN hs h4'
      match vs, h7, hr, q with
      | [v1, v2, v3], _, hr, q =>
        exact st_par3 x.calm x.nd a1 b1 c1 h5 h5' h5'' a2 b2 c2 hr (by rw [swK_of hk hs q, h6]) rfl
    · cases h2
  · cases h
theorem sAsg (x : XOk T C A W G k X) (hN : X.N = N) (hs : X.env.scope = sc) (hf : ∀ y, X.fn y = true) (hk : sc.kind = .function) {t : Ta} {e : Ex} {tg v : PySem.Expr} {pos : Pos} (h : ckAsg T N sc t e tg v = true) :
    PS X (.Assign [tg] v pos) (gS C A W (nxM ((evE G e).bind fun r => stoA G t r))) := by
  unfold ckAsg at h
  simp only [Bool.and_eq_true] at h
  obtain ⟨h1, h2, h3⟩ := h
  have he := sE e x hN hs h1
  cases t with
  | nm i own =>
    simp only at h3
    split at h3
    · rename_i y yp
      obtain ⟨m1, m2⟩ := loc_of h3 hN hs
      have hsw := swap_of (sc := sc) (t := y) (tp := yp) (n := pos.line) (env := X.env) hk hs h2
      cases hq : swapC sc v y yp with
      | false =>
        rw [hq] at hsw
        exact st_set x.nd m1 m2 (.inl (hf _)) he hsw
      | true =>
        rw [hq] at hsw
        have hl : X.env.scope.names.lookup y = some .local := by
          unfold swapC swC at hq
          split at hq
          · simp only [Bool.and_eq_true, decide_eq_true_eq] at hq
            rw [hs]; exact hq.1
          · cases hq
        refine st_tset (sLc x hN hs m1 hl e v h1 hsw ?_)
        unfold swapC at hq
        split at hq
        · trivial
        · cases hq
    · cases h3
  | fld f =>
    simp only at h3
    split at h3
    · rename_i y p nm p'
      simp only [Bool.and_eq_true, decide_eq_true_eq] at h3
      rw [← x.nf _ _ h3.2]
      refine st_fld x.K x.cf x.inj (fun c hc => x.na f c _ h3.2 hc) (vis_of h3.1 hN hs) he ?_
      cases v <;> first | rfl | cases h2
    · cases h3
  | sub i ei =>
    simp only at h3
    obtain ⟨k1, _, y, p, r, q, rfl⟩ := sTa x hN hs hf h3
    refine st_gR he k1 ?_ ?_ rfl
    · cases v <;> first | rfl | cases h2
    · cases v <;> rfl
mutual
theorem sS : ∀ (st : Sm) {X : Cx} {W : WX'} {sc : Scope} {s : Stmt}, XOk T C A W G k X → X.N = N → X.env.scope = sc → (∀ y, X.fn y = true) → sc.kind = .function → PassesOwn (model X.prog X.w) X.A X.env X.xe → ckS T N st sc s = true → PS X s (gS C A W (exS G st))
  | .nev, X, W, sc, s, x, hN, hs, hf, hk, hp, h => by simp only [exS]; exact st_never
  | .pass, X, W, sc, s, x, hN, hs, hf, hk, hp, h => by
    simp only [exS]; simp only [ckS] at h
    split at h
    · exact st_pass ps_pass
    · exact st_pass ps_doc
    · cases h
  | .brk, X, W, sc, s, x, hN, hs, hf, hk, hp, h => by
    simp only [exS]; simp only [ckS] at h
    split at h
    · exact st_brk
    · cases h
  | .cont, X, W, sc, s, x, hN, hs, hf, hk, hp, h => by
    simp only [exS]; simp only [ckS] at h
    split at h
    · exact st_cont
    · cases h
  | .expr e, X, W, sc, s, x, hN, hs, hf, hk, hp, h => by
    simp only [exS]; simp only [ckS] at h
    split at h
    · simp only [Bool.and_eq_true] at h
      exact st_expr (sE e x hN hs h.2) (swaps_of h.1)
    · cases h
  | .ret e, X, W, sc, s, x, hN, hs, hf, hk, hp, h => by
    simp only [exS]; simp only [ckS] at h
    split at h
    · exact st_ret (mv_of x hN hs h)
    · split at h
      · rw [dSame_eq h]
        have e1 : retOf (.c .non) (evE G (.c .non)) = M.pure (.val .non) := by simp only [evE]; rfl
        rw [e1]
        exact st_ret0
      · cases h
    · cases h
  | .asg t e, X, W, sc, s, x, hN, hs, hf, hk, hp, h => by
    simp only [exS]; simp only [ckS] at h
    split at h
    · exact sAsg x hN hs hf hk h
    · cases h
  | .unp is e, X, W, sc, s, x, hN, hs, hf, hk, hp, h => by
    simp only [exS]; simp only [ckS] at h
    split at h
    · simp only [Bool.and_eq_true] at h
      obtain ⟨h1, h2, h3, h4⟩ := h
      refine st_unp (sE e x hN hs h4) (pg_of (C := C) x.K x.calm hN x.nd (by rw [← hs]; exact stores_fn hf) h3) ?_ (swn_of h1) rfl
      rename_i ts kt pt v pos
      cases v <;> first | rfl | cases h2
    · cases h
  | .par ts es, X, W, sc, s, x, hN, hs, hf, hk, hp, h => by
    simp only [exS]; simp only [ckS] at h
    split at h
    · exact sPar x hN hs hf hk h
    · cases h
  | .aug i o e, X, W, sc, s, x, hN, hs, hf, hk, hp, h => by
    simp only [exS]; simp only [ckS] at h
    split at h
    · simp only [Bool.and_eq_true] at h
      obtain ⟨h1, h2, h3⟩ := h
      obtain ⟨m1, m2⟩ := loc_of h2 hN hs
      refine st_aug ?_ x.nd m1 m2 (.inl (hf _)) (sE e x hN hs h3)
      unfold augOp at h1
      split at h1
      · exact .inl ⟨rfl, rfl⟩
      · exact .inr ⟨rfl, rfl⟩
      · cases h1
    · cases h
  | .augs _ _ _ _, X, W, sc, s, x, hN, hs, hf, hk, hp, h => by simp [ckS] at h
  | .raise _ _, X, W, sc, s, x, hN, hs, hf, hk, hp, h => by simp [ckS] at h
  | .iff t a b, X, W, sc, s, x, hN, hs, hf, hk, hp, h => by
    simp only [exS]; simp only [ckS] at h
    split at h
    · simp only [Bool.and_eq_true] at h
      exact st_if (sT t x hN hs h.1) (sSs a x hN hs hf hk hp h.2.1) (sSs b x hN hs hf hk hp h.2.2)
    · cases h
  | .for kk it g b, X, W, sc, s, x, hN, hs, hf, hk, hp, h => by
    simp only [exS]; simp only [ckS] at h
    split at h
    · simp only [Bool.and_eq_true] at h
      obtain ⟨h1, h2, h3, h4⟩ := h
      split at h3
      · rename_i args q
        simp only [Bool.and_eq_true] at h3
        have hI := it_of (C := C) (A := A) (W := W) (G := G) (k := k) (T := T) x hs q h3.1 (sEs it x hN hs h3.2) (itOne it args x hN hs h3.1 h3.2)
        have key := fun pos : Pos => st_for (pos := pos) (mb := exSs G b) hp x.calm hI (pg_of (C := C) x.K x.calm hN x.nd (by rw [← hs]; exact stores_fn hf) h2) (sSs b x hN hs hf hk hp h4) (fun y => set_of h1)
        simp only [M.bind_assoc] at key
        exact key _
      · cases h3
    · cases h
  | .wh t b, X, W, sc, s, x, hN, hs, hf, hk, hp, h => by
    simp only [exS]; simp only [ckS] at h
    split at h
    · simp only [Bool.and_eq_true] at h
      exact st_while hp (sT t x hN hs h.1) (sSs b x hN hs hf hk hp h.2)
    · cases h
  termination_by e => sizeOf e
theorem sSs : ∀ (ss : List Sm) {X : Cx} {W : WX'} {sc : Scope} {s : List Stmt}, XOk T C A W G k X → X.N = N → X.env.scope = sc → (∀ y, X.fn y = true) → sc.kind = .function → PassesOwn (model X.prog X.w) X.A X.env X.xe → ckSs T N ss sc s = true → PSs X s (gS C A W (exSs G ss))
  | [], X, W, sc, s, x, hN, hs, hf, hk, hp, h => by
    cases s with
    | nil => simp only [exSs]; exact sts_nil
    | cons _ _ => simp [ckSs] at h
  | st :: ss, X, W, sc, s, x, hN, hs, hf, hk, hp, h => by
    cases s with
    | nil => simp [ckSs] at h
    | cons y r =>
      simp only [ckSs, Bool.and_eq_true] at h
      simp only [exSs]
      exact sts_cons (sS st x hN hs hf hk hp h.1) (sSs ss x hN hs hf hk hp h.2)
  termination_by e => sizeOf e
end
end
end Pl
set_option Elab.async false
set_option linter.all false
set_option maxRecDepth 100000
set_option maxHeartbeats 1000000
/-! Pl: a def keeps its promise. -/
namespace Pl
open PySem L2
section
variable {C : Cxt} {A : Addr}
theorem getS_start {ds : List D} {m j : Nat} : getS (ds.map Slot.val ++ List.replicate m .un) j = match ds[j]? with | some d => .val d | none => .un := by
  unfold getS
  rw [List.getD_eq_getElem?_getD]
  by_cases h : j < ds.length
  · rw [List.getElem?_append_left (by simpa using h), List.getElem?_map, List.getElem?_eq_getElem h]; rfl
  · rw [List.getElem?_append_right (by simpa using Nat.le_of_not_lt h), List.getElem?_eq_none (by omega : ds.length ≤ j), List.getElem?_replicate]
    split <;> rfl
theorem start_get {N : List Str} {vs : List V} {j : Nat} {v : V} (h : vs[j]? = some v) : (L2.start N vs)[j]? = some (some v) := by
  unfold L2.start
  have hj := (List.getElem?_eq_some_iff.mp h).1
  rw [List.getElem?_append_left (by simpa using hj), List.getElem?_map, h]; rfl
theorem start_len {N : List Str} {vs : List V} (h : vs.length ≤ N.length) : (L2.start N vs).length = N.length := by
  unfold L2.start; simp; omega
/-- the world at a def's entry -/
theorem rel_start {N : List Str} {f : Fn} {F H : Hp} {ds : List D} {io : Option (List D)} {vs : List V} {S : Sl} (hN : N.length = f.nn) (hl : vs.length = f.np) (h : FIn C F H f.io A ds io vs) (e : startS f ds io = some S) :
    Rel C A ⟨L2.start N vs, F, H, S⟩ ∧ (∀ a, (⟨L2.start N vs, F, H, S⟩ : Wd).Own a → f.io.isSome = true ∧ a = A) := by
  unfold startS at e
  split at e
  · rename_i hb
    obtain ⟨hb1, hb2⟩ := hb
    have hlen : (L2.start N vs).length = N.length := start_len (by omega)
    have hS0 : (ds.map Slot.val ++ List.replicate (f.nn - f.np) Slot.un).length = N.length := by simp; omega
    cases hio : f.io with
    | none =>
      cases io with
      | some _ => rw [hio] at e; cases e
      | none =>
        rw [hio] at e h
        cases e
        have no : ∀ j, isOwn (getS (ds.map Slot.val ++ List.replicate (f.nn - f.np) .un) j) = false := fun j => by
          rw [getS_start]; cases ds[j]? <;> rfl
        refine ⟨⟨by show _ = (L2.start N vs).length; rw [hS0, hlen], h.sub, fun j d q => ?_, fun j xs q => ?_, fun j xs q => ?_, fun j c ks xs q => ?_, fun j1 j2 a h1 => ?_⟩, fun a ⟨j, h1, _⟩ => ?_⟩
        · have q : getS (ds.map Slot.val ++ List.replicate (f.nn - f.np) .un) j = .val d := q
          rw [getS_start] at q
          cases e2 : ds[j]? with
          | none => rw [e2] at q; cases q
          | some d' =>
            rw [e2] at q; cases q
            obtain ⟨v, k1, k2⟩ := h.arg j _ e2 (fun z => nomatch z)
            exact ⟨v, start_get k1, k2⟩
        · have := no j; rw [show getS _ j = _ from q] at this; cases this
        · have := no j; rw [show getS _ j = _ from q] at this; cases this
        · have := no j; rw [show getS _ j = _ from q] at this; cases this
        · have h1 : isOwn (getS (ds.map Slot.val ++ List.replicate (f.nn - f.np) .un) j1) = true := h1
          rw [no] at h1; cases h1
        · have h1 : isOwn (getS (ds.map Slot.val ++ List.replicate (f.nn - f.np) .un) j) = true := h1
          rw [no] at h1; cases h1
    | some i =>
      cases io with
      | none => rw [hio] at e; cases e
      | some ys =>
        rw [hio] at e h
        cases e
        have hi := h.io
        obtain ⟨z1, z2, ws, z3, z4⟩ := hi
        have hil : i < ds.length := by rw [h.len]; exact (List.getElem?_eq_some_iff.mp z1).1
        have hiS : i < (ds.map Slot.val ++ List.replicate (f.nn - f.np) Slot.un).length := by simp; omega
        have g : ∀ j, getS ((ds.map Slot.val ++ List.replicate (f.nn - f.np) Slot.un).set i (.io ys)) j = if i = j then .io ys else (match ds[j]? with | some d => .val d | none => .un) := fun j => by
          rw [getS_set, if_pos hiS, getS_start]
        have no : ∀ j, isOwn (getS ((ds.map Slot.val ++ List.replicate (f.nn - f.np) Slot.un).set i (.io ys)) j) = true → i = j := fun j q => by
          rw [g] at q
          by_cases hij : i = j
          · exact hij
          · rw [if_neg hij] at q
            cases e2 : ds[j]? <;> rw [e2] at q <;> cases q
        refine ⟨⟨by show (List.set _ _ _).length = (L2.start N vs).length; rw [List.length_set, hS0, hlen], h.sub, fun j d q => ?_, fun j xs q => ?_, fun j xs q => ?_, fun j c ks xs q => ?_, fun j1 j2 a h1 h2 _ _ => ?_⟩, fun a ⟨j, h1, h2⟩ => ?_⟩
        · have q : getS ((ds.map Slot.val ++ List.replicate (f.nn - f.np) Slot.un).set i (.io ys)) j = .val d := q
          rw [g] at q
          by_cases hij : i = j
          · rw [if_pos hij] at q; cases q
          · rw [if_neg hij] at q
            cases e2 : ds[j]? with
            | none => rw [e2] at q; cases q
            | some d' =>
              rw [e2] at q; cases q
              obtain ⟨v, k1, k2⟩ := h.arg j _ e2 (fun z => hij (Option.some.inj z))
              exact ⟨v, start_get k1, k2⟩
        · have q : getS ((ds.map Slot.val ++ List.replicate (f.nn - f.np) Slot.un).set i (.io ys)) j = .own xs := q
          rw [g] at q
          by_cases hij : i = j
          · rw [if_pos hij] at q; cases q
          · rw [if_neg hij] at q
            cases e2 : ds[j]? <;> rw [e2] at q <;> cases q
        · have q : getS ((ds.map Slot.val ++ List.replicate (f.nn - f.np) Slot.un).set i (.io ys)) j = .io xs := q
          rw [g] at q
          by_cases hij : i = j
          · rw [if_pos hij] at q; cases q
            subst hij
            exact ⟨ws, start_get z1, z2, z3, z4⟩
          · rw [if_neg hij] at q
            cases e2 : ds[j]? <;> rw [e2] at q <;> cases q
        · have q : getS ((ds.map Slot.val ++ List.replicate (f.nn - f.np) Slot.un).set i (.io ys)) j = .slf c ks xs := q
          rw [g] at q
          by_cases hij : i = j
          · rw [if_pos hij] at q; cases q
          · rw [if_neg hij] at q
            cases e2 : ds[j]? <;> rw [e2] at q <;> cases q
        · exact (no j1 h1).symm.trans (no j2 h2)
        · have := no j h1
          subst this
          have h2 : (L2.start N vs)[i]? = _ := h2
          rw [start_get z1] at h2
          exact ⟨rfl, by cases h2; rfl⟩
  · cases e
/-- what a run's end tells of the heap -/
theorem fhp_of {w0 w' : Wd} {own : Addr → Prop} (s : Step w0 w') (r : Rel C A w') (ho : ∀ a, w0.Own a → own a) (hA : ∀ a, w0.Own a → w'.F a = none) : FHp C w0.F w0.H own w'.F w'.H := by
  refine ⟨s.ex, r.sub, fun a o h n => s.keep a o h fun z => n (ho a z), fun a h1 h2 => ?_, s.dom⟩
  by_cases q : w0.Own a
  · exact hA a q
  · exact s.frz a h1 h2 q
/-- a body that is run as told -/
theorem run_body {N : List Str} {f : Fn} {G : Gam} {F H : Hp} {ds : List D} {io : Option (List D)} {vs : List V} {Q : VK} {E : XK} (hN : N.length = f.nn) (hl : vs.length = f.np) (h : FIn C F H f.io A ds io vs)
    (hk : match runFn G f ds io with
    | .ok r out => ∀ v F' H', FHp C F H (fun a => f.io.isSome = true ∧ a = A) F' H' → FRes C H F' H' r v → FOutL C f.io A out F' H' → Q v H'
    | .ex c d => ∀ cls dx F' H', FHp C F H (fun _ => False) F' H' → FXR C H F' H' c d cls dx → E cls dx H'
    | .bad => False) : gS C A (fun cls d _ H => E cls d H) (exSs G f.body) { nx := fun _ H' => Q .non H', rt := Q } (L2.start N vs) H := by
  unfold runFn at hk
  cases es : startS f ds io with
  | none => rw [es] at hk; exact hk.elim
  | some S =>
    rw [es] at hk
    obtain ⟨r0, ow⟩ := rel_start hN hl h es
    refine ⟨F, S, r0, ?_⟩
    -- an end that hands v back
    have fin : ∀ (S' : Sl) (rv : RV), (match endOf f S' rv with
        | .ok r out => ∀ v F' H', FHp C F H (fun a => f.io.isSome = true ∧ a = A) F' H' → FRes C H F' H' r v → FOutL C f.io A out F' H' → Q v H'
        | .ex c d => ∀ cls dx F' H', FHp C F H (fun _ => False) F' H' → FXR C H F' H' c d cls dx → E cls dx H'
        | .bad => False) → ∀ v σ' F' H', Rel C A ⟨σ', F', H', S'⟩ → Step ⟨L2.start N vs, F, H, S⟩ ⟨σ', F', H', S'⟩ → RVR C ⟨L2.start N vs, F, H, S⟩ ⟨σ', F', H', S'⟩ rv v → Q v H' := by
      intro S' rv he v σ' F' H' r s x
      unfold endOf at he
      cases eo : outOf f S' with
      | none => rw [eo] at he; exact he.elim
      | some o =>
        rw [eo] at he
        unfold outOf at eo
        cases hio : f.io with
        | none =>
          rw [hio] at eo
          cases eo
          have noown : ∀ a, ¬ (⟨L2.start N vs, F, H, S⟩ : Wd).Own a := fun a z => by
            have := (ow a z).1; rw [hio] at this; cases this
          refine he v F' H' (fhp_of s r (fun a z => absurd z (noown a)) (fun a z => absurd z (noown a))) ?_ (by rw [hio]; trivial)
          cases rv with
          | val d => exact x
          | fr xs =>
            obtain ⟨p, ws, h1, h2, h3, h4, h5, h6⟩ := x
            exact ⟨p, ws, h1, h2, h3, h4, h6.resolve_right (noown p)⟩
        | some i =>
          rw [hio] at eo
          simp only at eo
          cases eg : getS S' i with
          | io ys =>
            rw [eg] at eo
            cases eo
            obtain ⟨ws, q1, q2, q3, q4⟩ := r.io i ys eg
            have ownA : (⟨σ', F', H', S'⟩ : Wd).Own A := ⟨i, by show isOwn (getS S' i) = true; rw [eg]; rfl, q1⟩
            refine he v F' H' (fhp_of s r (fun a z => by have := ow a z; exact this) (fun a z => by rw [(ow a z).2]; exact q2)) ?_ (by rw [hio]; exact ⟨ws, q3, q4⟩)
            cases rv with
            | val d => exact x
            | fr xs =>
              obtain ⟨p, ws', h1, h2, h3, h4, h5, h6⟩ := x
              refine ⟨p, ws', h1, h2, h3, h4, h6.resolve_right fun z => h5 ?_⟩
              rw [(ow p z).2]; exact ownA
          | _ => rw [eg] at eo; cases eo
    have hk : (match endR f (exSs G f.body S) with
      | .ok r out => ∀ v F' H', FHp C F H (fun a => f.io.isSome = true ∧ a = A) F' H' → FRes C H F' H' r v → FOutL C f.io A out F' H' → Q v H'
      | .ex c d => ∀ cls dx F' H', FHp C F H (fun _ => False) F' H' → FXR C H F' H' c d cls dx → E cls dx H'
      | .bad => False) := hk
    show gSb C A _ _ (exSs G f.body S) _
    generalize exSs G f.body S = res at hk
    unfold endR at hk
    cases res with
    | bad => exact hk.elim
    | ex c d S' =>
      simp only at hk
      intro σ' F' H' cls dx r s x
      by_cases hn : f.io.isNone = true
      · rw [if_pos hn] at hk
        have noown : ∀ a, ¬ (⟨L2.start N vs, F, H, S⟩ : Wd).Own a := fun a z => by
          have := (ow a z).1
          cases hio : f.io with
          | none => rw [hio] at this; cases this
          | some i => rw [hio] at hn; cases hn
        exact hk cls dx F' H' (fhp_of s r (fun a z => (noown a z).elim) (fun a z => (noown a z).elim)) ⟨x.1, x.2⟩
      · rw [if_neg hn] at hk
        exact hk.elim
    | ok k S' =>
      cases k with
      | nx => exact fun σ' F' H' r s => fin S' (.val .non) hk .non σ' F' H' r s (by show R C F' .non .non; simp only [R])
      | rt rv => exact fun x σ' F' H' r s x' => fin S' rv hk x σ' F' H' r s x'
      | bk => exact hk.elim
      | ct => exact hk.elim
/-- the world at an __init__'s entry -/
theorem rel_ini {N : List Str} {f : Fn} {c : Nat} {F H : Hp} {ds : List D} {us : List V} {S : Sl} {x dx : Addr} (hN : N.length = f.nn) (hl : us.length + 1 = f.np) (hio : f.io = none) (h : FIn C F H none x ds none us) (hF : F x = none) (hx : H x = some (.ins (C.cls c) dx [])) (okc : C.okc c)
    (e : startS f (.non :: ds) none = some S) : Rel C x ⟨L2.start N (.ref x :: us), F, H, S.set 0 (.slf c [] [])⟩ ∧ (∀ a, (⟨L2.start N (.ref x :: us), F, H, S.set 0 (.slf c [] [])⟩ : Wd).Own a → a = x) ∧ getS (S.set 0 (.slf c [] [])) 0 = .slf c [] [] := by
  unfold startS at e
  split at e
  · rename_i hb
    obtain ⟨hb1, hb2⟩ := hb
    rw [hio] at e
    cases e
    have hlen : (L2.start N (.ref x :: us)).length = N.length := start_len (by simp; omega)
    have hpos : 0 < ((Pl.D.non :: ds).map Slot.val ++ List.replicate (f.nn - f.np) Slot.un).length := by simp
    have hS0 : ((Pl.D.non :: ds).map Slot.val ++ List.replicate (f.nn - f.np) Slot.un).length = N.length := by simp at hb1 ⊢; omega
    have g : ∀ j, getS (((Pl.D.non :: ds).map Slot.val ++ List.replicate (f.nn - f.np) Slot.un).set 0 (.slf c [] [])) j = if 0 = j then .slf c [] [] else (match (Pl.D.non :: ds)[j]? with | some d => .val d | none => .un) := fun j => by
      rw [getS_set, if_pos hpos, getS_start]
    have no : ∀ j, isOwn (getS (((Pl.D.non :: ds).map Slot.val ++ List.replicate (f.nn - f.np) Slot.un).set 0 (.slf c [] [])) j) = true → 0 = j := fun j q => by
      rw [g] at q
      by_cases hij : 0 = j
      · exact hij
      · rw [if_neg hij] at q
        cases e2 : (Pl.D.non :: ds)[j]? <;> rw [e2] at q <;> cases q
    have z1 : (L2.start N (.ref x :: us))[0]? = some (some (.ref x)) := start_get rfl
    refine ⟨⟨by show (List.set _ _ _).length = (L2.start N (.ref x :: us)).length; rw [List.length_set, hS0, hlen], h.sub, fun j d q => ?_, fun j xs q => ?_, fun j xs q => ?_, fun j c' ks xs q => ?_, fun j1 j2 a h1 h2 _ _ => (no j1 h1).symm.trans (no j2 h2)⟩, fun a ⟨j, h1, h2⟩ => ?_, by rw [g, if_pos rfl]⟩
    · have q : getS (((Pl.D.non :: ds).map Slot.val ++ List.replicate (f.nn - f.np) Slot.un).set 0 (.slf c [] [])) j = .val d := q
      rw [g] at q
      by_cases hij : 0 = j
      · rw [if_pos hij] at q; cases q
      · rw [if_neg hij] at q
        obtain ⟨j', rfl⟩ : ∃ j', j = j' + 1 := ⟨j - 1, by omega⟩
        rw [List.getElem?_cons_succ] at q
        cases e2 : ds[j']? with
        | none => rw [e2] at q; cases q
        | some d' =>
          rw [e2] at q; cases q
          obtain ⟨v, k1, k2⟩ := h.arg j' _ e2 (fun z => nomatch z)
          exact ⟨v, start_get (by rw [List.getElem?_cons_succ]; exact k1), k2⟩
    · have q : getS (((Pl.D.non :: ds).map Slot.val ++ List.replicate (f.nn - f.np) Slot.un).set 0 (.slf c [] [])) j = .own xs := q
      have hij := no j (by rw [q]; rfl)
      rw [g, if_pos hij] at q; cases q
    · have q : getS (((Pl.D.non :: ds).map Slot.val ++ List.replicate (f.nn - f.np) Slot.un).set 0 (.slf c [] [])) j = .io xs := q
      have hij := no j (by rw [q]; rfl)
      rw [g, if_pos hij] at q; cases q
    · have q : getS (((Pl.D.non :: ds).map Slot.val ++ List.replicate (f.nn - f.np) Slot.un).set 0 (.slf c [] [])) j = .slf c' ks xs := q
      have hij := no j (by rw [q]; rfl)
      rw [g, if_pos hij] at q; cases q
      subst hij
      exact ⟨dx, [], z1, hF, hx, Rs.nil, rfl, okc⟩
    · have := no j h1
      subst this
      have h2 : (L2.start N (.ref x :: us))[0]? = _ := h2
      rw [z1] at h2
      cases h2; rfl
  · cases e
theorem run_ini {N : List Str} {f : Fn} {G : Gam} {c : Nat} {F H : Hp} {ds : List D} {us : List V} {x dx : Addr} {Q : VK} {E : XK} (hN : N.length = f.nn) (hl : us.length + 1 = f.np) (hio : f.io = none) (h : FIn C F H none x ds none us) (hF : F x = none) (hx : H x = some (.ins (C.cls c) dx [])) (okc : C.okc c)
    (hk : match runIni G c f ds with
    | .ok (.val (.obj k ks xs)) none => k = c ∧ ∀ F' H' ws dx', FHp C F H (fun a => a = x) F' H' → H' x = some (.ins (C.cls c) dx' ((ks.map C.nm).zip ws)) → Rs C F' xs ws → ks.length = xs.length → Q .non H'
    | .ex k d => ∀ cls dx' F' H', FHp C F H (fun a => a = x) F' H' → FXR C H F' H' k d cls dx' → E cls dx' H'
    | _ => False) : gS C x (fun cls d _ H => E cls d H) (exSs G f.body) { nx := fun _ H' => Q .non H', rt := Q } (L2.start N (.ref x :: us)) H := by
  unfold runIni at hk
  cases es : startS f (.non :: ds) none with
  | none => rw [es] at hk; exact hk.elim
  | some S =>
    rw [es] at hk
    obtain ⟨r0, ow, _⟩ := rel_ini hN hl hio h hF hx okc es
    refine ⟨F, S.set 0 (.slf c [] []), r0, ?_⟩
    have hk : (match endI c (exSs G f.body (S.set 0 (.slf c [] []))) with
      | .ok (.val (.obj k ks xs)) none => k = c ∧ ∀ F' H' ws dx', FHp C F H (fun a => a = x) F' H' → H' x = some (.ins (C.cls c) dx' ((ks.map C.nm).zip ws)) → Rs C F' xs ws → ks.length = xs.length → Q .non H'
      | .ex k d => ∀ cls dx' F' H', FHp C F H (fun a => a = x) F' H' → FXR C H F' H' k d cls dx' → E cls dx' H'
      | _ => False) := hk
    show gSb C x _ _ (exSs G f.body (S.set 0 (.slf c [] []))) _
    generalize exSs G f.body (S.set 0 (.slf c [] [])) = res at hk
    unfold endI at hk
    cases res with
    | bad => exact hk.elim
    | ex k d S' =>
      simp only at hk
      intro σ' F' H' cls dx' r s x'
      cases eg : getS S' 0 with
      | slf c' ks xs =>
        rw [eg] at hk
        obtain ⟨dx2, ws, q1, q2, q3, q4, q5, q6⟩ := r.slf 0 c' ks xs eg
        exact hk cls dx' F' H' (fhp_of s r (fun a z => ow a z) (fun a z => by rw [ow a z]; exact q2)) ⟨x'.1, x'.2⟩
      | _ => rw [eg] at hk; exact hk.elim
    | ok k S' =>
      cases k with
      | nx =>
        simp only at hk
        intro σ' F' H' r s
        cases eg : getS S' 0 with
        | slf c' ks xs =>
          rw [eg] at hk
          simp only at hk
          obtain ⟨dx2, ws, q1, q2, q3, q4, q5, q6⟩ := r.slf 0 c' ks xs eg
          by_cases hc : c' = c
          · subst hc
            rw [if_pos rfl] at hk
            exact hk.2 F' H' ws dx2 (fhp_of s r (fun a z => ow a z) (fun a z => by rw [ow a z]; exact q2)) q3 q4 q5
          · rw [if_neg hc] at hk
            exact hk.elim
        | _ => rw [eg] at hk; exact hk.elim
      | rt rv => exact hk.elim
      | bk => exact hk.elim
      | ct => exact hk.elim
end
/-! ### a def of the text -/
section
variable {T : Tab} {C : Cxt} {P : Program} {w : World} {K : PySem.W.Frag} {mg : Str → Option Value} {base : Heap} {k : Nat}
/-- the static facts, for any context of that program at that room -/
def Static (T : Tab) (C : Cxt) (G : Gam) (k : Nat) (P : Program) (w : World) (K : PySem.W.Frag) (mg : Str → Option Value) (base : Heap) : Prop :=
  ∀ (X : Cx) (A : Addr) (W : WX'), X.prog = P → X.w = w → X.K = K → X.mg = mg → X.base = base → X.calm = true → X.N.Nodup → Room k X.A → Takes X W → XOk T C A W G k X
theorem def_ok {G : Gam} {x qual : Str} {params : Arguments} {body : List Stmt} {scope : Scope} {dvs : List V} {fa : Addr} {fd : FuncData} {N ps : List Str} {f : Fn} {sp : Sp} (F : FunD K x qual params body scope dvs [] fa fd) (S : FnScope N ps scope) (hs : Static T C G k P w K mg base) (hc : ckSs T N f.body scope body = true)
    (len : ∀ vs H Q E, sp vs H Q E → vs.length = ps.length)
    (hb : ∀ vs H Q E, sp vs H Q E → ∃ A, gS C A (fun cls d _ H => E cls d H) (exSs G f.body) { nx := fun _ H' => Q .non H', rt := Q } (L2.start N vs) H) : FnOk P w K mg base (L2.CX P w) (k + 1) fa fd ps sp := by
  refine F.ok S len fun cdv A outer s H vs Q E hr h => ?_
  obtain ⟨A', hg⟩ := hb vs H Q E h
  refine ⟨_, sSs f.body (hs (cxOf (L2.CX P w) P w K mg base N qual scope fa cdv A outer s H E) A' (fun cls d _ H => E cls d H) rfl rfl rfl rfl rfl rfl S.nd hr (takes_of rfl rfl rfl rfl)) rfl rfl (fun _ => rfl) S.kind (passes_of rfl) hc, hg⟩
end
end Pl
set_option Elab.async false
set_option linter.all false
set_option maxRecDepth 100000
set_option maxHeartbeats 1000000
/-! Pl: all defs of a program keep their promises, level by level. -/
namespace Pl
open PySem L2
section
variable {T : Tab} {C : Cxt} {Pg : Pr} {P : Program} {w : World} {K : PySem.W.Frag} {mg : Str → Option Value} {base : Heap} {k : Nat}
/-- d is the text of the function at fa -/
def DefOk (T : Tab) (K : PySem.W.Frag) (d : Fn) (fa : Addr) (fd : FuncData) (ps : List Str) : Prop :=
  ∃ x qual params body scope dvs N, FunD K x qual params body scope dvs [] fa fd ∧ FnScope N ps scope ∧ ckSs T N d.body scope body = true ∧ N.length = d.nn ∧ ps.length = d.np
structure Facts (T : Tab) (C : Cxt) (Pg : Pr) (K : PySem.W.Frag) (mg : Str → Option Value) : Prop where
  hK : K = C.K
  cf : CF C
  inj : ∀ i j, C.nm i = C.nm j → i = j
  na : ∀ f c x, T.flds[f]? = some x → C.okc c → NoAttr C.K (C.cls c) (C.nm f)
  nf : ∀ i x, T.flds[i]? = some x → C.nm i = x
  nm : ∀ i x, T.nms[i]? = some x → C.nm i = x
  bl : ∀ x, x ∈ bltNames → mg x = none
  gv : ∀ x d, (x, d) ∈ T.vals → ∃ u v, mg x = some u ∧ RelV v u ∧ dfV d = some v
  fn : ∀ f x np iop, T.fns[f]? = some (x, np, iop) → ∃ d fa fd ps, Pg.fn f = some d ∧ d.np = np ∧ d.io = iop ∧ DefOk T K d fa fd ps ∧ mg x = some (.ref fa) ∧ PySem.W.keepIn K (.ref fa) = true ∧ ∀ n ks pm, hasSh T.shF f n ks pm = true → BF K fd ps n ks pm
  cl : ∀ c x np, T.cls[c]? = some (x, np) → C.okc c ∧ mg x = some (.ref (C.cls c)) ∧ ∃ d fa fd ps, Pg.ini c = some d ∧ d.np = np + 1 ∧ d.io = none ∧ DefOk T K d fa fd ps ∧ Mk K (C.cls c) fa ∧ ∀ n ks pm, hasSh T.shC c n ks pm = true → BI K fd ps n ks pm
  mt : ∀ m n ks pm c f, hasSh T.shM m n ks pm = true → C.okc c → Pg.meth c m = some f → ∃ d fa fd ps, Pg.fn f = some d ∧ d.io = none ∧ DefOk T K d fa fd ps ∧ Meth K (C.cls c) (C.nm m) fa ∧ BF K fd ps (n + 1) ks pm ∧ pm.length = d.np
theorem call_ok {G : Gam} {d : Fn} {fa : Addr} {fd : FuncData} {ps : List Str} (D : DefOk T K d fa fd ps) (hs : Static T C G k P w K mg base) : FnOk P w K mg base (L2.CX P w) (k + 1) fa fd ps (spF C (fun xs io => runFn G d xs io) d.io d.np) := by
  obtain ⟨x, qual, params, body, scope, dvs, N, F, S, hc, hN, hp⟩ := D
  exact def_ok F S hs hc (fun vs H Q E h => h.1.trans hp.symm) fun vs H Q E ⟨hl, F0, A, ds, io, hf, hk⟩ => ⟨A, run_body hN hl hf hk⟩
theorem ini_ok {G : Gam} {c np : Nat} {d : Fn} {fa : Addr} {fd : FuncData} {ps : List Str} (D : DefOk T K d fa fd ps) (hnp : d.np = np + 1) (hio : d.io = none) (hs : Static T C G k P w K mg base) : FnOk P w K mg base (L2.CX P w) (k + 1) fa fd ps (spI C c (fun xs => runIni G c d xs) np) := by
  obtain ⟨x, qual, params, body, scope, dvs, N, F, S, hc, hN, hp⟩ := D
  refine def_ok F S hs hc (fun vs H Q E h => h.1.trans (by omega)) fun vs H Q E ⟨hl, F0, x0, dx, ds, us, e, hf, hF, hdx, hx, okc, hk⟩ => ?_
  subst e
  exact ⟨x0, run_ini hN (by simp at hl; omega) hio hf hF hx okc hk⟩
theorem bad_call {fa : Addr} {fd : FuncData} {ps : List Str} {iop : Option Nat} {np : Nat} (hp : ps.length = np) : FnOk P w K mg base (L2.CX P w) k fa fd ps (spF C (fun _ _ => .bad) iop np) :=
  ⟨fun vs H Q E h => h.1.trans hp.symm, fun A outer s H args us vs Q E hr he hb hv ⟨_, F, A', ds, io, _, z⟩ => z.elim⟩
theorem bad_ini {fa : Addr} {fd : FuncData} {ps : List Str} {c np : Nat} (hp : ps.length = np + 1) : FnOk P w K mg base (L2.CX P w) k fa fd ps (spI C c (fun _ => .bad) np) :=
  ⟨fun vs H Q E h => h.1.trans hp.symm, fun A outer s H args us vs Q E hr he hb hv ⟨_, F, x, dx, ds, us', _, _, _, _, _, _, z⟩ => z.elim⟩
theorem ini_obj {G : Gam} {c : Nat} {d : Fn} {xs : List D} {rv : RV} {out : Option (List D)} (h : runIni G c d xs = .ok rv out) : out = none ∧ ∃ ks ys, rv = .val (.obj c ks ys) := by
  unfold runIni at h
  split at h
  · cases h
  · generalize exSs G d.body _ = r at h
    unfold endI at h
    split at h
    · split at h
      · split at h
        · rename_i hc
          cases h
          subst hc
          exact ⟨rfl, _, _, rfl⟩
        · cases h
      · cases h
    · cases h
    · split at h <;> cases h
    · cases h
theorem gam_mk {n c : Nat} {xs : List D} {rv : RV} {out : Option (List D)} (h : (gam Pg n).make c xs = .ok rv out) : out = none ∧ ∃ ks ys, rv = .val (.obj c ks ys) := by
  match n, h with
  | 0, h => cases h
  | 1, h => cases h
  | n + 2, h =>
    rw [gam_make] at h
    unfold makeG at h
    cases e : Pg.ini c with
    | none => rw [e] at h; cases h
    | some d => rw [e] at h; exact ini_obj h
/-- level n: contexts with room n + 1 -/
theorem level (F : Facts T C Pg K mg) : ∀ n, Static T C (gam Pg n) (n + 1) P w K mg base := by
  intro n
  induction n using Nat.strongRecOn with
  | ind n ih =>
    -- the calls
    have hcall : ∀ f d fa fd ps, Pg.fn f = some d → DefOk T K d fa fd ps → FnOk P w K mg base (L2.CX P w) (n + 1) fa fd ps (spF C ((gam Pg n).call f) d.io d.np) := fun f d fa fd ps hf D => by
      match n, ih with
      | 0, _ => exact bad_call (by obtain ⟨_, _, _, _, _, _, _, _, _, _, _, h⟩ := D; exact h)
      | m + 1, ih =>
        have e : (gam Pg (m + 1)).call f = fun xs io => runFn (gam Pg m) d xs io := by
          funext xs io
          rw [gam_call]
          unfold callG
          rw [hf]
        rw [e]
        exact call_ok D (ih m (Nat.lt_succ_self m))
    have hmake : ∀ c d fa fd ps np, Pg.ini c = some d → d.np = np + 1 → d.io = none → DefOk T K d fa fd ps → FnOk P w K mg base (L2.CX P w) n fa fd ps (spI C c ((gam Pg n).make c) np) := fun c d fa fd ps np hf h1 h2 D => by
      have hp : ps.length = np + 1 := by obtain ⟨_, _, _, _, _, _, _, _, _, _, _, h⟩ := D; omega
      match n, ih with
      | 0, _ => exact bad_ini hp
      | 1, _ => exact bad_ini hp
      | m + 2, ih =>
        have e : (gam Pg (m + 2)).make c = fun xs => runIni (gam Pg m) c d xs := by
          funext xs
          rw [gam_make]
          unfold makeG
          rw [hf]
        rw [e]
        exact ini_ok D h1 h2 (ih m (by omega))
    intro X A W e1 e2 e3 e4 e5 hc hN hr tk
    subst e1 e2 e3 e4 e5
    refine ⟨F.hK, hc, hN, hr, tk, F.cf, F.inj, F.na, F.nf, F.nm, F.bl, F.gv, fun f x np iop h => ?_, fun c x np h => ?_, fun c xs rv out h => gam_mk h, fun m n' ks pm c f h1 h2 h3 => ?_⟩
    · obtain ⟨d, fa, fd, ps, k1, rfl, rfl, k4, k5, k6, k7⟩ := F.fn f x np iop h
      exact ⟨fa, fd, ps, hcall f d fa fd ps k1 k4, k5, k6, k7⟩
    · obtain ⟨k0, k1, d, fa, fd, ps, k2, k3, k4, k5, k6, k7⟩ := F.cl c x np h
      exact ⟨k0, k1, n, fa, fd, ps, rfl, k6, hmake c d fa fd ps np k2 k3 k4 k5, k7⟩
    · have h3' : Pg.meth c m = some f := by
        match n, h3 with
        | 0, h3 => cases h3
        | _ + 1, h3 => rw [gam_meth] at h3; exact h3
      obtain ⟨d, fa, fd, ps, k1, k2, k3, k4, k5, k6⟩ := F.mt m n' ks pm c f h1 h2 h3'
      have := hcall f d fa fd ps k1 k3
      rw [k2] at this
      exact ⟨fa, fd, ps, d.np, this, k4, k5, k6⟩
/-- the law's def at level n -/
theorem law_ok (F : Facts T C Pg K mg) (n f : Nat) {d : Fn} {fa : Addr} {fd : FuncData} {ps : List Str} (hf : Pg.fn f = some d) (D : DefOk T K d fa fd ps) : FnOk P w K mg base (L2.CX P w) (n + 2) fa fd ps (spF C ((gam Pg (n + 1)).call f) d.io d.np) := by
  have e : (gam Pg (n + 1)).call f = fun xs io => runFn (gam Pg n) d xs io := by
    funext xs io
    rw [gam_call]
    unfold callG
    rw [hf]
  rw [e]
  exact call_ok D (level F n)
end
end Pl
set_option Elab.async false
set_option linter.all false
set_option maxRecDepth 100000
set_option maxHeartbeats 1000000
/-! Pl: a law's whole text; what the head tells of it. -/
namespace Pl
open PySem L2
/-! ### binding of arguments, by shapes -/
def pmT (ts : List Value) : List Pm → List Value → List Value
  | [], _ => []
  | .at i :: r, dfs => ts.getD i .none :: pmT ts r dfs
  | .df _ :: r, u :: dfs => u :: pmT ts r dfs
  | .df _ :: _, [] => []
def dfsOf : List Pm → List D
  | [] => []
  | .at _ :: r => dfsOf r
  | .df d :: r => d :: dfsOf r
theorem vals_get : ∀ {vs : List V} {us : List Value} {i : Nat} {v : V}, Vals vs us → vs[i]? = some v → RelV v (us.getD i .none)
  | [], _, _, _, _, h => by simp at h
  | v :: vs, _, 0, w, .cons a b, h => by simp at h; subst h; exact a
  | v :: vs, _, i + 1, w, .cons a b, h => by
    have := vals_get (i := i) b (by simpa using h)
    simpa using this
theorem pmT_ok : ∀ {pm : List Pm} {ts dfs : List Value} {vs vs' ds : List V}, Vals vs ts → pmV vs pm = some vs' → (dfsOf pm).map dfV = ds.map some → Vals ds dfs → Vals vs' (pmT ts pm dfs)
  | [], _, _, _, _, _, _, h, _, _ => by simp [pmV] at h; subst h; exact .nil
  | .at i :: r, ts, dfs, vs, vs', ds, hv, h, hd, hr => by
    unfold pmV at h
    cases e1 : vs[i]? with
    | none => rw [e1] at h; cases h
    | some v =>
      cases e2 : pmV vs r with
      | none => rw [e1, e2] at h; cases h
      | some ws =>
        rw [e1, e2] at h
        cases h
        exact .cons (vals_get hv e1) (pmT_ok hv e2 hd hr)
  | .df d :: r, ts, dfs, vs, vs', ds, hv, h, hd, hr => by
    unfold pmV at h
    cases e1 : dfV d with
    | none => rw [e1] at h; cases h
    | some v =>
      cases e2 : pmV vs r with
      | none => rw [e1, e2] at h; cases h
      | some ws =>
        rw [e1, e2] at h
        cases h
        cases ds with
        | nil => simp [dfsOf] at hd
        | cons z zs =>
          simp only [dfsOf, List.map_cons, List.cons.injEq] at hd
          obtain ⟨h1, h2⟩ := hd
          rw [e1] at h1
          cases h1
          cases hr with
          | cons a b => exact .cons a (pmT_ok hv e2 h2 b)
section
variable {K : PySem.W.Frag} {x qual : Str} {params : Arguments} {body : List Stmt} {scope : Scope} {dvs : List V} {f : Addr} {fd : FuncData} {ps : List Str} {n : Nat} {ks : List Str} {pm : List Pm}
theorem bf0 (F : FunD K x qual params body scope [] [] f fd) (hd : dfsOf pm = [])
    (h : ∀ (kV doc pv : Value) (an : Option Addr) (cdv ct : Value) (us ws : List Value), us.length = n → ws.length = ks.length → bindArgs (PySem.W.fnOf x qual params body scope .none kV doc pv an cdv ct) ⟨us, ks.zip ws⟩ = pure (ps.zip (pmT (us ++ ws) pm []))) : BF K fd ps n ks pm := by
  intro s us ws vs vs' X hu hw hv hp
  obtain ⟨oc, od, dV, kV, doc, pv, an, cdv, ct, osl, rfl, lk, hcd, hD, hK⟩ := F.ex
  rcases hD with ⟨_, rfl⟩ | ⟨e, _⟩
  · exact ⟨_, .of_eq (h kV doc pv an cdv ct us ws hu hw), pmT_ok (ds := []) hv hp (by rw [hd]; rfl) .nil⟩
  · exact absurd rfl e
theorem bi0 (F : FunD K x qual params body scope [] [] f fd) (hd : dfsOf pm = [])
    (h : ∀ (kV doc pv : Value) (an : Option Addr) (cdv ct : Value) (z : Value) (us ws : List Value), us.length = n → ws.length = ks.length → bindArgs (PySem.W.fnOf x qual params body scope .none kV doc pv an cdv ct) ⟨z :: us, ks.zip ws⟩ = pure (ps.zip (z :: pmT (us ++ ws) pm []))) : BI K fd ps n ks pm := by
  intro s z us ws vs vs' X hu hw hv hp
  obtain ⟨oc, od, dV, kV, doc, pv, an, cdv, ct, osl, rfl, lk, hcd, hD, hK⟩ := F.ex
  rcases hD with ⟨_, rfl⟩ | ⟨e, _⟩
  · exact ⟨_, .of_eq (h kV doc pv an cdv ct z us ws hu hw), pmT_ok (ds := []) hv hp (by rw [hd]; rfl) .nil⟩
  · exact absurd rfl e
/-- some of the defaults, by their places -/
def selV {α : Type} (l : List α) (d : α) (js : List Nat) : List α := js.map fun j => l.getD j d
theorem vals_sel {vs : List V} {us : List Value} (h : Vals vs us) : ∀ {js : List Nat}, (∀ j ∈ js, j < vs.length) → Vals (selV vs .non js) (selV us .none js)
  | [], _ => .nil
  | j :: js, hj => by
    refine .cons ?_ (vals_sel h fun i hi => hj i (List.mem_cons_of_mem _ hi))
    have h1 := hj j (List.mem_cons_self ..)
    exact vals_get h (show vs[j]? = some (vs.getD j .non) by rw [List.getD_eq_getElem?_getD, List.getElem?_eq_getElem h1]; rfl)
theorem bf1 (js : List Nat) (F : FunD K x qual params body scope dvs [] f fd) (hne : dvs ≠ []) (hj' : (js.all fun j => decide (j < dvs.length)) = true) (hd : (dfsOf pm).map dfV = (selV dvs .non js).map some)
    (h : ∀ (T : Addr) (kV doc pv : Value) (an : Option Addr) (cdv ct : Value) (us ws its : List Value), us.length = n → ws.length = ks.length → its.length = dvs.length →
      ∃ k, bindArgs (PySem.W.fnOf x qual params body scope (.ref T) kV doc pv an cdv ct) ⟨us, ks.zip ws⟩ = seqItems? (.ref T) >>= k ∧ k (some its.toArray) = pure (ps.zip (pmT (us ++ ws) pm (selV its .none js)))) : BF K fd ps n ks pm := by
  have hj : ∀ j ∈ js, j < dvs.length := fun j h => of_decide_eq_true (List.all_eq_true.mp hj' j h)
  intro s us ws vs vs' X hu hw hv hp
  obtain ⟨oc, od, dV, kV, doc, pv, an, cdv, ct, osl, rfl, lk, hcd, hD, hK⟩ := F.ex
  rcases hD with ⟨e, _⟩ | ⟨_, T, o, its, m, rfl, lT, oT, rT⟩
  · exact absurd e hne
  · obtain ⟨k, e1, e2⟩ := h T kV doc pv an cdv ct us ws its hu hw rT.length.symm
    refine ⟨_, BindsTo.of_looks fun M => ?_, pmT_ok hv hp hd (vals_sel rT hj)⟩
    rw [e1]
    exact looks_items X lT oT (.of_pure e2)
end
theorem fa_nil {α : Type} {p : α → Prop} : ∀ x ∈ ([] : List α), p x := fun _ h => nomatch h
theorem fa_cons {α : Type} {p : α → Prop} {a : α} {l : List α} (h : p a) (t : ∀ x ∈ l, p x) : ∀ x ∈ a :: l, p x := fun x hx => by
  rcases List.mem_cons.mp hx with e | e
  · rw [e]; exact h
  · exact t x e
/-! ### a law's text -/
structure Row where
  pl : Nat × Option Nat
  at_ : Str × Option Str
  name : Str
  qual : Str
  N : List Str
  ps : List Str
  dfl : List He.Dv
  fn : Fn
def topAt (P : Program) (i : Nat) : Stmt := P.main.body.getD i (.Pass ⟨0, 0, 0, 0⟩)
def stAt (P : Program) : Nat × Option Nat → Stmt
  | (i, none) => topAt P i
  | (i, some j) => match topAt P i with
    | .ClassDef _ _ _ b _ _ _ _ _ _ _ => b.getD j (.Pass ⟨0, 0, 0, 0⟩)
    | s => s
def Row.dd (P : Program) (r : Row) : He.DefD := ⟨r.at_, r.name, r.qual, defArgs (stAt P r.pl), defBody (stAt P r.pl), defScope (stAt P r.pl), r.dfl, []⟩
structure Text where
  P : Program
  T : Tab
  /-- the module's defs, then the methods -/
  rows : List Row
  ng : Nat
  inis : List Row
  mth : List (Nat × Nat × Nat)
namespace Text
def pr (L : Text) : Pr := ⟨fun f => (L.rows[f]?).map (·.fn), fun c => (L.inis[c]?).map (·.fn), fun c m => (L.mth.find? fun q => q.1 == c && q.2.1 == m).map (·.2.2)⟩
def clsName (L : Text) (c : Nat) : Str := match L.inis[c]? with
  | some r => r.at_.1
  | none => ⟨#[]⟩
def nmAt (L : Text) (m : Nat) : Str := match L.T.nms[m]? with
  | some x => x
  | none => ⟨(List.replicate (m + 1000) 122).toArray⟩
def cxt (L : Text) (K : PySem.W.Frag) : Cxt := ⟨K, fun c => He.ga K (L.clsName c), fun _ => 0, L.nmAt, fun c => c < L.inis.length⟩
def valFa : Str × D → List He.Fa
  | (x, .int i) => [.int x i]
  | (x, .str s) => [.str x s]
  | _ => []
def fa (L : Text) : List He.Fa :=
  (L.rows.take L.ng).map (fun r => He.Fa.glo r.at_.1) ++ (bltNames.map fun x => He.Fa.free x) ++ (L.inis.flatMap fun r => [.glo r.at_.1, .mkr r.at_.1, .cls r.at_.1] ++ L.T.flds.map fun f => .noat r.at_.1 f) ++ (L.mth.map fun q => .meth (L.clsName q.1) (L.nmAt q.2.1)) ++ L.T.vals.flatMap valFa
def defs (L : Text) : List He.DefD := (L.rows ++ L.inis).map (Row.dd L.P)
def exC (L : Text) (K : PySem.W.Frag) (x : Str) : Bool :=
  decide (PySem.W.findIn K (.ref (He.ga K x)) "__class__" = some (some (.builtin "object.__class__"))) &&
  (decide (PySem.W.specialIn K (.builtin "object.__class__") "__get__" = some (some (.builtin "getset_descriptor.__get__"))) &&
  (decide (PySem.W.takesIn K (.builtin "object.__class__") = some true) &&
  (decide (PySem.W.mroIn K (He.ga K x) (.type "object") = some true) &&
  ((["NoneType", "bool", "int", "str", "list", "tuple", "dict"].all fun T => decide (PySem.W.kitOne K (.type T) (.ref (He.ga K x)) = some false)) &&
  ((["bool", "int", "str", "list", "tuple", "dict"].all fun T => decide (PySem.W.kitOne K (.ref (He.ga K x)) (.type T) = some false)) &&
  (List.range L.inis.length).all fun c => decide (PySem.W.kitOne K (.ref (He.ga K x)) (.ref (He.ga K (L.clsName c))) = some (decide (L.clsName c = x))))))))
def ex (L : Text) (K : PySem.W.Frag) : Bool := (List.range L.inis.length).all fun c => L.exC K (L.clsName c)
/-! ### the static checks -/
def scOk (N ps : List Str) (sc : Scope) : Bool := (match sc.kind with | .function => true | _ => false) && (!sc.isCoroutine && (!sc.isGenerator && (decide N.Nodup && (decide (N.take ps.length = ps) && ((ps.all fun x => decide (sc.names.lookup x = some .local) || decide (sc.names.lookup x = some .cell)) && sc.names.all fun y => decide (y.2 ≠ .free))))))
theorem scOk_ok {N ps : List Str} {sc : Scope} (h : scOk N ps sc = true) : FnScope N ps sc := by
  unfold scOk at h
  simp only [Bool.and_eq_true, Bool.not_eq_true', decide_eq_true_eq, List.all_eq_true, Bool.or_eq_true] at h
  obtain ⟨h1, h2, h3, h4, h5, h6, h7⟩ := h
  refine ⟨?_, h2, h3, h4, h5, h6, h7⟩
  cases e : sc.kind <;> rw [e] at h1 <;> first | rfl | cases h1
def rowOk (L : Text) (r : Row) : Bool := scOk r.N r.ps (defScope (stAt L.P r.pl)) && (decide (r.N.length = r.fn.nn) && (decide (r.ps.length = r.fn.np) && ckSs L.T r.N r.fn.body (defScope (stAt L.P r.pl)) (defBody (stAt L.P r.pl))))
def isVal : Str × D → Bool
  | (_, .int _) => true
  | (_, .str _) => true
  | _ => false
def mthOk (L : Text) (q : Nat × Nat × Nat) : Bool := decide (q.1 < L.inis.length) && match L.rows[q.2.2]? with
  | some r => decide (r.at_ = (L.clsName q.1, some (L.nmAt q.2.1))) && (decide (r.fn.io = none) && L.T.shM.all fun s => s.1 != q.2.1 || decide (s.2.2.2.length = r.fn.np))
  | none => false
structure Ok (L : Text) : Prop where
  rows : L.rows.all L.rowOk = true
  inis : L.inis.all L.rowOk = true
  fns : L.T.fns = (L.rows.take L.ng).map fun r => (r.at_.1, r.fn.np, r.fn.io)
  glo : (L.rows.take L.ng).all (fun r => decide (r.at_.2 = none)) = true
  cls : L.T.cls = L.inis.map fun r => (r.at_.1, r.fn.np - 1)
  ini : L.inis.all (fun r => decide (r.at_.2 = some "__init__") && (decide (r.fn.io = none) && decide (0 < r.fn.np))) = true
  cnd : (L.inis.map fun r => r.at_.1).Nodup
  flds : L.T.flds = L.T.nms.take L.T.flds.length
  nd : L.T.nms.Nodup
  short : L.T.nms.all (fun x => decide (x.cps.size < 1000)) = true
  mth : L.mth.all L.mthOk = true
  vals : L.T.vals.all isVal = true
abbrev FR (L : Text) (r : Row) (K : PySem.W.Frag) (f : Addr) (fd : FuncData) : Prop := FunD K r.name r.qual (defArgs (stAt L.P r.pl)) (defBody (stAt L.P r.pl)) (defScope (stAt L.P r.pl)) (r.dfl.map (He.Dv.v K)) [] f fd
def okF (L : Text) (q : Nat × Nat × List Str × List Pm) : Prop := ∀ r, L.rows[q.1]? = some r → ∀ K f fd, L.FR r K f fd → BF K fd r.ps q.2.1 q.2.2.1 q.2.2.2
def okC (L : Text) (q : Nat × Nat × List Str × List Pm) : Prop := ∀ r, L.inis[q.1]? = some r → ∀ K f fd, L.FR r K f fd → BI K fd r.ps q.2.1 q.2.2.1 q.2.2.2
def okMp (L : Text) (q : Nat × Nat × List Str × List Pm) (p : Nat × Nat × Nat) : Prop := p.2.1 = q.1 → ∀ r, L.rows[p.2.2]? = some r → ∀ K f fd, L.FR r K f fd → BF K fd r.ps (q.2.1 + 1) q.2.2.1 q.2.2.2
def okM (L : Text) (q : Nat × Nat × List Str × List Pm) : Prop := ∀ p ∈ L.mth, L.okMp q p
structure Shapes (L : Text) : Prop where
  F : ∀ q ∈ L.T.shF, L.okF q
  C : ∀ q ∈ L.T.shC, L.okC q
  M : ∀ q ∈ L.T.shM, L.okM q
theorem hasSh_mem {sh : List (Nat × Nat × List Str × List Pm)} {f n : Nat} {ks : List Str} {pm : List Pm} (h : hasSh sh f n ks pm = true) : (f, n, ks, pm) ∈ sh := by
  unfold hasSh at h
  obtain ⟨q, hq, e⟩ := List.any_eq_true.mp h
  simp only [Bool.and_eq_true, beq_iff_eq, decide_eq_true_eq] at e
  obtain ⟨e1, e2, e3, e4⟩ := e
  have e5 := pmsSame_eq e4
  obtain ⟨q1, q2, q3, q4⟩ := q
  simp only at e1 e2 e3 e5
  subst e1 e2 e3 e5
  exact hq
theorem nmAt_inj {L : Text} (ok : L.Ok) {i j : Nat} (h : L.nmAt i = L.nmAt j) : i = j := by
  unfold nmAt at h
  have sh : ∀ {k : Nat} {x : Str}, L.T.nms[k]? = some x → x.cps.size < 1000 := fun {k x} e => by
    have := List.all_eq_true.mp ok.short x (List.mem_of_getElem? e)
    exact of_decide_eq_true this
  cases e1 : L.T.nms[i]? with
  | some x =>
    have l1 := sh e1
    rw [e1] at h
    cases e2 : L.T.nms[j]? with
    | some y =>
      rw [e2] at h
      simp only at h
      subst h
      obtain ⟨a1, b1⟩ := List.getElem?_eq_some_iff.mp e1
      obtain ⟨a2, b2⟩ := List.getElem?_eq_some_iff.mp e2
      exact (List.getElem_inj ok.nd).mp (b1.trans b2.symm)
    | none =>
      rw [e2] at h
      simp only at h
      subst h
      simp at l1
      omega
  | none =>
    rw [e1] at h
    cases e2 : L.T.nms[j]? with
    | some y =>
      have l2 := sh e2
      rw [e2] at h
      simp only at h
      subst h
      simp at l2
      omega
    | none =>
      rw [e2] at h
      simp only at h
      have := congrArg (fun s : Str => s.cps.size) h
      simp at this
      exact this
end Text
section
variable {L : Text} {K : PySem.W.Frag} {h : Heap} {mg : Str → Option Value}
theorem defOk_of (ok : L.Ok) {r : Row} (hr : L.rowOk r = true) {f : Addr} {fd : FuncData} (F : FunD K r.name r.qual (defArgs (stAt L.P r.pl)) (defBody (stAt L.P r.pl)) (defScope (stAt L.P r.pl)) (r.dfl.map (He.Dv.v K)) [] f fd) : DefOk L.T K r.fn f fd r.ps := by
  unfold Text.rowOk at hr
  simp only [Bool.and_eq_true, decide_eq_true_eq] at hr
  obtain ⟨h1, h2, h3, h4⟩ := hr
  exact ⟨_, _, _, _, _, _, r.N, F, Text.scOk_ok h1, h4, h2, h3⟩
theorem facts_of (ok : L.Ok) (sh : L.Shapes) (X : K.In h) (G : h.Ns mainGlobals mg) (c : He.SaysD L.fa L.defs K) (hx : L.ex K = true) : Facts L.T (L.cxt K) L.pr K mg := by
  have hfa : ∀ {f : He.Fa}, f ∈ L.fa → f.ok K = true := fun hf => c.facts hf
  have exq : ∀ i, i < L.inis.length → L.exC K (L.clsName i) = true := fun i hi => List.all_eq_true.mp hx i (List.mem_range.mpr hi)
  have iniMem : ∀ {i : Nat} {r : Row}, L.inis[i]? = some r → r ∈ L.inis := fun e => List.mem_of_getElem? e
  have clsN : ∀ {i : Nat} {r : Row}, L.inis[i]? = some r → L.clsName i = r.at_.1 := fun {i r} e => by unfold Text.clsName; rw [e]
  have inFa1 : ∀ r ∈ L.rows.take L.ng, He.Fa.glo r.at_.1 ∈ L.fa := fun r hr => by
    unfold Text.fa
    simp only [List.mem_append, List.mem_map]
    exact .inl (.inl (.inl (.inl ⟨r, hr, rfl⟩)))
  have inFaC : ∀ r ∈ L.inis, ∀ f, f ∈ ([.glo r.at_.1, .mkr r.at_.1, .cls r.at_.1] ++ L.T.flds.map fun f => He.Fa.noat r.at_.1 f : List He.Fa) → f ∈ L.fa := fun r hr f hf => by
    unfold Text.fa
    simp only [List.mem_append, List.mem_flatMap]
    exact .inl (.inl (.inr ⟨r, hr, by simpa only [List.mem_append] using hf⟩))
  have rowD : ∀ r, r ∈ L.rows ∨ r ∈ L.inis → ∃ fd, FunD K r.name r.qual (defArgs (stAt L.P r.pl)) (defBody (stAt L.P r.pl)) (defScope (stAt L.P r.pl)) (r.dfl.map (He.Dv.v K)) [] (He.fAd K r.at_) fd := fun r hr => by
    have hm : Row.dd L.P r ∈ L.defs := by
      unfold Text.defs
      exact List.mem_map.mpr ⟨r, List.mem_append.mpr hr, rfl⟩
    exact c.defs hm
  have rowK : ∀ r, r ∈ L.rows ∨ r ∈ L.inis → L.rowOk r = true := fun r hr => by
    rcases hr with hr | hr
    · exact List.all_eq_true.mp ok.rows r hr
    · exact List.all_eq_true.mp ok.inis r hr
  have exs : ∀ i, i < L.inis.length → _ := fun i hi => by
    have := exq i hi
    unfold Text.exC at this
    simp only [Bool.and_eq_true, decide_eq_true_eq, List.all_eq_true] at this
    exact this
  refine ⟨rfl, ⟨fun i hi => ?_, fun i hi => (exs i hi).1, fun i hi => (exs i hi).2.1, fun i hi => (exs i hi).2.2.1, fun i hi => (exs i hi).2.2.2.1, fun i T hi hT => (exs i hi).2.2.2.2.1 T hT, fun i T hi hT => (exs i hi).2.2.2.2.2.1 T hT, fun i j hi hj => ?_⟩, fun i j e => Text.nmAt_inj ok e, fun f i x hf hi => ?_, fun i x e => ?_, fun i x e => ?_, fun x hx => ?_, fun x d hd => ?_, fun f x np iop e => ?_, fun i x np e => ?_, fun m n ks pm i f hs hi e => ?_⟩
  · obtain ⟨r, e⟩ : ∃ r, L.inis[i]? = some r := ⟨_, List.getElem?_eq_getElem (show i < L.inis.length from hi)⟩
    show Cls K (He.ga K (L.clsName i))
    rw [clsN e]
    exact He.cls_ok (hfa (inFaC r (iniMem e) _ (by simp)))
  · have := (exs i hi).2.2.2.2.2.2 j (List.mem_range.mpr hj)
    show PySem.W.kitOne K (.ref (He.ga K (L.clsName i))) (.ref (He.ga K (L.clsName j))) = _
    rw [this]
    congr 1
    obtain ⟨r, e⟩ : ∃ r, L.inis[i]? = some r := ⟨_, List.getElem?_eq_getElem (show i < L.inis.length from hi)⟩
    obtain ⟨r', e'⟩ : ∃ r, L.inis[j]? = some r := ⟨_, List.getElem?_eq_getElem (show j < L.inis.length from hj)⟩
    rw [clsN e, clsN e']
    have key : r'.at_.1 = r.at_.1 ↔ j = i := by
      constructor
      · intro q
        have l1 : i < (L.inis.map fun r => r.at_.1).length := by rw [List.length_map]; exact hi
        have l2 : j < (L.inis.map fun r => r.at_.1).length := by rw [List.length_map]; exact hj
        have b1 : (L.inis.map fun r => r.at_.1)[i] = r.at_.1 := by
          rw [List.getElem_map]
          rw [List.getElem?_eq_getElem (show i < L.inis.length from hi)] at e
          cases e; rfl
        have b2 : (L.inis.map fun r => r.at_.1)[j] = r'.at_.1 := by
          rw [List.getElem_map]
          rw [List.getElem?_eq_getElem (show j < L.inis.length from hj)] at e'
          cases e'; rfl
        exact ((List.getElem_inj ok.cnd).mp (b1.trans (q.symm.trans b2.symm))).symm
      · rintro rfl
        rw [e] at e'; cases e'; rfl
    by_cases q : j = i
    · rw [decide_eq_true q, decide_eq_true (key.mpr q)]
    · rw [decide_eq_false q, decide_eq_false (fun z => q (key.mp z))]
  · obtain ⟨r, e⟩ : ∃ r, L.inis[i]? = some r := ⟨_, List.getElem?_eq_getElem (show i < L.inis.length from hi)⟩
    have hn : L.nmAt f = x := by
      unfold Text.nmAt
      have h2 : L.T.nms[f]? = some x := by
        rw [ok.flds, List.getElem?_take] at hf
        split at hf
        · exact hf
        · cases hf
      rw [h2]
    show NoAttr K (He.ga K (L.clsName i)) (L.nmAt f)
    rw [hn, clsN e]
    refine He.noat_ok (hfa (inFaC r (iniMem e) _ ?_))
    exact List.mem_append.mpr (.inr (List.mem_map.mpr ⟨x, List.mem_of_getElem? hf, rfl⟩))
  · show L.nmAt i = x
    unfold Text.nmAt
    have h2 : L.T.nms[i]? = some x := by
      rw [ok.flds, List.getElem?_take] at e
      split at e
      · exact e
      · cases e
    rw [h2]
  · show L.nmAt i = x
    unfold Text.nmAt
    rw [e]
  · refine He.free_ok X G (hfa ?_)
    unfold Text.fa
    simp only [List.mem_append, List.mem_map]
    exact .inl (.inl (.inl (.inr ⟨x, hx, rfl⟩)))
  · have hv := List.all_eq_true.mp ok.vals (x, d) hd
    have hm : ∀ f, f ∈ Text.valFa (x, d) → f ∈ L.fa := fun f hf => by
      unfold Text.fa
      simp only [List.mem_append, List.mem_flatMap]
      exact .inr ⟨_, hd, hf⟩
    cases d <;> simp only [Text.isVal, Bool.false_eq_true] at hv
    · obtain ⟨t, e⟩ := He.int_ok X G (hfa (hm _ (List.mem_singleton.mpr rfl)))
      exact ⟨_, .int _, e, ⟨t, rfl⟩, rfl⟩
    · obtain ⟨t, e⟩ := He.str_ok X G (hfa (hm _ (List.mem_singleton.mpr rfl)))
      exact ⟨_, .str _, e, ⟨t, rfl⟩, rfl⟩
  · rw [ok.fns, List.getElem?_map] at e
    cases q : (L.rows.take L.ng)[f]? with
    | none => rw [q] at e; cases e
    | some r =>
      rw [q] at e
      cases e
      have hm := List.mem_of_getElem? q
      have hm2 : r ∈ L.rows := List.mem_of_mem_take hm
      have q2 : L.rows[f]? = some r := by
        rw [List.getElem?_take] at q
        split at q
        · exact q
        · cases q
      have g : r.at_.2 = none := of_decide_eq_true (List.all_eq_true.mp ok.glo r hm)
      obtain ⟨fd, F⟩ := rowD r (.inl hm2)
      refine ⟨r.fn, _, fd, r.ps, by show (L.rows[f]?).map _ = _; rw [q2]; rfl, rfl, rfl, defOk_of ok (rowK r (.inl hm2)) F, ?_, F.kp, fun n ks pm hs => sh.F _ (Text.hasSh_mem hs) r q2 K _ fd F⟩
      have e1 := He.glo_ok X G (hfa (inFa1 r hm))
      rw [e1]
      unfold He.fAd
      rw [g]
  · rw [ok.cls, List.getElem?_map] at e
    cases q : L.inis[i]? with
    | none => rw [q] at e; cases e
    | some r =>
      rw [q] at e
      cases e
      have hi : i < L.inis.length := (List.getElem?_eq_some_iff.mp q).1
      have hm := iniMem q
      have g := List.all_eq_true.mp ok.ini r hm
      simp only [Bool.and_eq_true, decide_eq_true_eq] at g
      obtain ⟨g1, g2, g3⟩ := g
      obtain ⟨fd, F⟩ := rowD r (.inr hm)
      refine ⟨hi, ?_, r.fn, _, fd, r.ps, by show (L.inis[i]?).map _ = _; rw [q]; rfl, by omega, g2, defOk_of ok (rowK r (.inr hm)) F, ?_, fun n ks pm hs => sh.C _ (Text.hasSh_mem hs) r q K _ fd F⟩
      · show mg r.at_.1 = some (.ref (He.ga K (L.clsName i)))
        rw [clsN q]
        exact He.glo_ok X G (hfa (inFaC r hm _ (by simp)))
      · show Mk K (He.ga K (L.clsName i)) _
        rw [clsN q]
        have := He.mkr_ok (hfa (inFaC r hm (.mkr r.at_.1) (by simp)))
        unfold He.fAd
        rw [g1]
        exact this
  · have e0 : (L.mth.find? fun q => q.1 == i && q.2.1 == m).map (·.2.2) = some f := e
    cases q : L.mth.find? fun q => q.1 == i && q.2.1 == m with
    | none => rw [q] at e0; cases e0
    | some p =>
      rw [q] at e0
      cases e0
      have hp := List.find?_some q
      have hm := List.mem_of_find?_eq_some q
      simp only [Bool.and_eq_true, beq_iff_eq] at hp
      obtain ⟨hp1, hp2⟩ := hp
      have mo := List.all_eq_true.mp ok.mth p hm
      unfold Text.mthOk at mo
      simp only [Bool.and_eq_true, decide_eq_true_eq] at mo
      obtain ⟨mo1, mo2⟩ := mo
      cases qr : L.rows[p.2.2]? with
      | none => rw [qr] at mo2; cases mo2
      | some r =>
        rw [qr] at mo2
        simp only [Bool.and_eq_true, decide_eq_true_eq] at mo2
        obtain ⟨m1, m2, m3⟩ := mo2
        have hm2 : r ∈ L.rows := List.mem_of_getElem? qr
        obtain ⟨fd, F⟩ := rowD r (.inl hm2)
        have hsm := Text.hasSh_mem hs
        refine ⟨r.fn, _, fd, r.ps, by show (L.rows[p.2.2]?).map _ = _; rw [qr]; rfl, m2, defOk_of ok (rowK r (.inl hm2)) F, ?_, sh.M _ hsm p hm hp2 r qr K _ fd F, ?_⟩
        · show Meth K (He.ga K (L.clsName i)) (L.nmAt m) _
          have := He.meth_ok (hfa (show He.Fa.meth (L.clsName p.1) (L.nmAt p.2.1) ∈ L.fa from by
            unfold Text.fa
            simp only [List.mem_append, List.mem_map]
            exact .inl (.inr ⟨p, hm, rfl⟩)))
          rw [hp1, hp2] at this
          unfold He.fAd
          rw [m1, hp1, hp2]
          exact this
        · have := List.all_eq_true.mp m3 _ hsm
          simp only [Bool.or_eq_true, bne_iff_ne, ne_eq, decide_eq_true_eq] at this
          rcases this with z | z
          · exact absurd hp2.symm z
          · exact z
end
/-! ### the hook, the end -/
abbrev AlP : Type := He.AlD × Bool
def obsP (n : Nat) (L : Text) (g : Addr → Option Obj) : AlP := (He.obsD L.fa L.defs (He.frG g (He.asD g n)), L.ex (He.frG g (He.asD g n)))
def hookP (n : Nat) (L : Text) : PySem.W.Hook where
  α := AlP
  obs := fun s => obsP n L s.heap.get?
  val := fun _ => (He.valD L.defs, true)
  says := fun _ h => ∃ K : PySem.W.Frag, K.In h ∧ (He.SaysD L.fa L.defs K ∧ L.ex K = true)
  of := fun _ _ e => ⟨_, He.frG_in, congrArg (fun z : AlP => z.1) e, congrArg (fun z : AlP => z.2) e⟩
  keeps := fun _ _ _ ⟨K, hK, c⟩ k => ⟨K, PySem.W.Frag.In.keeps hK k, c⟩
theorem obsP_eq {n : Nat} {L : Text} {g : Addr → Option Obj} {s : Shared} (h : ∀ a, g a = s.heap.get? a) : obsP n L g = (hookP n L).obs s := by
  have e : g = s.heap.get? := funext h
  rw [e] <;> rfl
/-- as walk_ofE, the contexts by worlds -/
theorem walk_P {l : PySem.W.OpenLaw} {n k : Nat} {q : Program} {loose : List Str} {XP : (Str → Option Value) → Heap → Prop} {YP : World → Heap → Prop} {d : DefRec} {CX : World → CXT} {x : Str}
    (hn : l.most = some n) (hn2 : n ≤ sizeLine) (hdf : d.params.defaults = []) (hr : Room k callerA)
    (F : ∀ (w : World) (mg : Str → Option Value) (fa : Addr) (h : Heap), YP w h → h.Ns mainGlobals mg → mg d.name = some (.ref fa) →
      ∃ (K : PySem.W.Frag) (fd : FuncData) (sp : Sp), K.In h ∧ (∀ (s : Shared) (u : Value), BindsTo s fd ⟨[u], []⟩ [(x, u)]) ∧
        (∀ (H : Hp) (a : Addr) (ns : List Int), ns.length ≤ n → Only H → SqL K H a (ns.map V.int) → sp [.ref a] H (fun v _ => v = .bl true) fun _ _ _ => False) ∧
        ∀ base : Heap, K.In base → base.Ns mainGlobals mg → FnOk l.prog w K mg base (CX w) k fa fd [x] sp)
    (hCX : ∀ (w : World) (H : Hp) (s : Shared) (e : Value) (s' : Shared), CX w [] H s (fun _ _ _ => False) e s' → False) :
    PySem.W.WalkO q loose XP YP l.row.toRowW d [] (fun f vs => PySem.call f vs) := by
  refine Att.attach_call hn hdf fun w s₀ s₁ mg mb fa o pm cd doc a vs ns G Y ho hd hcd hmg hobj hints hlen hg => ?_
  obtain ⟨K, fd, sp, KX, hb, hsp, hF⟩ := F w mg fa _ Y G.T.g hmg
  exact law_call KX G.T.g G.T.b G.T.builtins G.T.nolimit hg hobj hints (Nat.le_trans hlen hn2) hr hF hb (fun H hO hS => hsp H a ns hlen hO hS) fun H e s' => hCX w H s₁ e s'
/-- the plain law: the evaluator says True of each script -/
def Plain (L : Text) (n f : Nat) : Prop := ∀ ns : List Int, ns.length ≤ 63 → ∃ b, (gam L.pr (n + 1)).call f [.scr ns] none = .ok (.val (.bl true)) b ∧ b = none
theorem walk_law {L : Text} {l : PySem.W.OpenLaw} {q : Program} {loose : List Str} {XP : (Str → Option Value) → Heap → Prop} {d : DefRec} {x : Str} {m n f : Nat} {r : Row} (ok : L.Ok) (sh : L.Shapes) (hn : l.most = some 63) (hdf : d.params.defaults = []) (hr : Room (n + 2) callerA)
    (hrow : (L.rows.take L.ng)[f]? = some r) (hname : r.at_.1 = d.name) (hps : r.ps = [x]) (hdfl : r.dfl = []) (hio : r.fn.io = none) (hbind : ∀ (kV doc pm : Value) (an : Option Addr) (cdv ct : Value) (u : Value), bindArgs (PySem.W.fnOf r.name r.qual (defArgs (stAt L.P r.pl)) (defBody (stAt L.P r.pl)) (defScope (stAt L.P r.pl)) .none kV doc pm an cdv ct) ⟨[u], []⟩ = pure [(x, u)])
    (pl : Plain L n f) : PySem.W.WalkO q loose XP (hookP m L).says l.row.toRowW d [] (fun f vs => PySem.call f vs) := by
  refine walk_P (n := 63) (k := n + 2) (CX := fun w => L2.CX l.prog w) (x := x) hn (by decide) hdf hr ?F fun w H s e s' z => ?_
  case F =>
    intro w mg fa h Y G hmg
    obtain ⟨K, KX, c, hx⟩ := Y
    have FC := facts_of ok sh KX G c hx
    have hm : r ∈ L.rows := List.mem_of_mem_take (List.mem_of_getElem? hrow)
    have q2 : L.rows[f]? = some r := by
      rw [List.getElem?_take] at hrow
      split at hrow
      · exact hrow
      · cases hrow
    obtain ⟨fd, F⟩ : ∃ fd, FunD K r.name r.qual (defArgs (stAt L.P r.pl)) (defBody (stAt L.P r.pl)) (defScope (stAt L.P r.pl)) (r.dfl.map (He.Dv.v K)) [] (He.fAd K r.at_) fd := by
      have hm : Row.dd L.P r ∈ L.defs := by
        unfold Text.defs
        exact List.mem_map.mpr ⟨r, List.mem_append.mpr (.inl hm), rfl⟩
      exact c.defs hm
    have g : r.at_.2 = none := of_decide_eq_true (List.all_eq_true.mp ok.glo r (List.mem_of_getElem? hrow))
    have efa : He.fAd K r.at_ = fa := by
      have e1 := He.glo_ok KX G (c.facts (show He.Fa.glo r.at_.1 ∈ L.fa from by
        unfold Text.fa
        simp only [List.mem_append, List.mem_map]
        exact .inl (.inl (.inl (.inl ⟨r, List.mem_of_getElem? hrow, rfl⟩)))))
      rw [hname, hmg] at e1
      unfold He.fAd
      rw [g, hname]
      cases e1; rfl
    rw [efa] at F
    have D := defOk_of ok (List.all_eq_true.mp ok.rows r hm) F
    rw [hps] at D
    refine ⟨K, fd, _, KX, fun s u => ?_, fun H a ns hl _ hS => ?_, fun base _ _ => law_ok FC n f (show (L.rows[f]?).map _ = _ by rw [q2]; rfl) D⟩
    · rw [hdfl] at F
      obtain ⟨oc, od, dV, kV, doc, pm, an, cdv, ct, osl, rfl, lk, hcd, hD, hK⟩ := F.ex
      rcases hD with ⟨_, rfl⟩ | ⟨e, _⟩
      · exact .of_eq (hbind kV doc pm an cdv ct u)
      · exact absurd rfl e
    · obtain ⟨b, e, rfl⟩ := pl ns hl
      have hnp : r.fn.np = 1 := by
        have h0 := List.all_eq_true.mp ok.rows r hm
        unfold Text.rowOk at h0
        simp only [Bool.and_eq_true, decide_eq_true_eq] at h0
        rw [← h0.2.2.1, hps]; rfl
      rw [hio, hnp]
      refine ⟨rfl, H, 0, [.scr ns], none, ⟨Sub.refl H, rfl, fun i d hi _ => ?_, trivial⟩, ?_⟩
      · match i, hi with
        | 0, hi =>
          cases hi
          exact ⟨_, rfl, by simp only [R]; exact ⟨a, rfl, hS⟩⟩
        | i + 1, hi => simp at hi
      · rw [e]
        intro v F' H' _ hv _
        have hv : R (L.cxt K) F' (.bl true) v := hv
        simp only [R] at hv
        exact hv
  · obtain ⟨_, _, _, _, _, _, _, _, _, _, _, _, z⟩ := z
    exact z.elim
end Pl
set_option Elab.async false
set_option linter.all false
set_option maxRecDepth 100000
/-! Pl: what holds behind a run of the evaluator. -/
namespace Pl
open PySem
def W {α : Type} (r : Res α) (Q : α → Sl → Prop) : Prop := match r with
  | .ok a S => Q a S
  | _ => False
def Wc (c : CRes) (Q : RV → Option (List D) → Prop) : Prop := match c with
  | .ok r o => Q r o
  | _ => False
section
variable {α β : Type} {S : Sl} {Q : α → Sl → Prop} {R : β → Sl → Prop}
theorem W.mono {r : Res α} {Q' : α → Sl → Prop} (h : W r Q) (k : ∀ a S, Q a S → Q' a S) : W r Q' := by
  cases r <;> first | exact k _ _ h | exact h
theorem W_congr {r r' : Res α} (h : r = r') : W r Q = W r' Q := by rw [h]
theorem Wc.mono {c : CRes} {Q Q' : RV → Option (List D) → Prop} (h : Wc c Q) (k : ∀ a S, Q a S → Q' a S) : Wc c Q' := by
  cases c <;> first | exact k _ _ h | exact h
theorem W_bind {m : M α} {f : α → M β} : W (m.bind f S) R = W (m S) (fun a S' => W (f a S') R) := by
  unfold M.bind; cases m S <;> rfl
theorem W_pure {a : α} : W (M.pure a S) Q = Q a S := rfl
theorem W_some {a : α} : W (M.opt (some a) S) Q = Q a S := rfl
theorem W_vi {i : Int} {Q : RV → Sl → Prop} : W (M.opt (vi i) S) Q = Q (.val (.int i)) S := rfl
theorem W_vb {i : Bool} {Q : RV → Sl → Prop} : W (M.opt (vb i) S) Q = Q (.val (.bl i)) S := rfl
theorem W_toD {m : M RV} {Q : D → Sl → Prop} : W (m.toD S) Q = W (m S) (fun r S' => Q r.d S') := by
  unfold M.toD; rw [W_bind]; rfl
theorem W_rd {i : Nat} {Q : RV → Sl → Prop} : W (rdS i S) Q = (match getS S i with
    | .val d => Q (.val d) S
    | .own xs => Q (.val (.lst xs)) (S.set i (.val (.lst xs)))
    | _ => False) := by
  unfold rdS; cases getS S i <;> rfl
theorem W_mv {i : Nat} {Q : RV → Sl → Prop} : W (mvS i S) Q = (match getS S i with
    | .val d => Q (.val d) S
    | .own xs => Q (.fr xs) (S.set i .un)
    | _ => False) := by
  unfold mvS; cases getS S i <;> rfl
theorem W_op {i : Nat} {Q : Op → Sl → Prop} : W (opS i S) Q = (match getS S i with
    | .val d => Q (.dat d) S
    | .own _ => Q (.at i) S
    | .io _ => Q (.at i) S
    | _ => False) := by
  unfold opS; cases getS S i <;> rfl
theorem W_own {i : Nat} {Q : List D → Sl → Prop} : W (ownS i S) Q = (match getS S i with
    | .own xs => Q xs S
    | .io xs => Q xs S
    | _ => False) := by
  unfold ownS; cases getS S i <;> rfl
theorem W_get_dat {d : D} {Q : D → Sl → Prop} : W ((Op.dat d).get S) Q = Q d S := rfl
theorem W_get_at {i : Nat} {Q : D → Sl → Prop} : W ((Op.at i).get S) Q = (match getS S i with
    | .own xs => Q (.lst xs) S
    | .io xs => Q (.lst xs) S
    | _ => False) := by
  show W (((ownS i).bind fun xs => M.pure (.lst xs)) S) Q = _
  rw [W_bind, W_own]; cases getS S i <;> rfl
theorem W_gets_nil {Q : List D → Sl → Prop} : W (gets [] S) Q = Q [] S := rfl
theorem W_gets_cons {p : Op} {ps : List Op} {Q : List D → Sl → Prop} : W (gets (p :: ps) S) Q = W (p.get S) (fun d S' => W (gets ps S') (fun ds S'' => Q (d :: ds) S'')) := by
  show W ((p.get.bind fun d => (gets ps).bind fun ds => M.pure (d :: ds)) S) Q = _
  rw [W_bind]; congr 1; funext d S'; rw [W_bind]; rfl
theorem W_put {i : Nat} {xs : List D} {Q : Unit → Sl → Prop} : W (putS i xs S) Q = (match getS S i with
    | .own _ => Q () (S.set i (.own xs))
    | .io _ => Q () (S.set i (.io xs))
    | _ => False) := by
  unfold putS; cases getS S i <;> rfl
theorem W_val {i : Nat} {Q : D → Sl → Prop} : W (valS i S) Q = (match getS S i with
    | .val d => Q d S
    | _ => False) := by
  unfold valS; cases getS S i <;> rfl
theorem W_bool {m : M Bool} {Q : RV → Sl → Prop} : W (boolM m S) Q = W (m S) (fun b S' => Q (.val (.bl b)) S') := by
  unfold boolM; rw [W_bind]; rfl
theorem W_tru {m : M RV} {Q : Bool → Sl → Prop} : W (truM m S) Q = W (m S) (fun r S' => W (M.opt (truth r.d) S') Q) := by
  unfold truM; rw [W_bind, W_toD]
theorem W_nx {m : M Unit} {Q : Ctl → Sl → Prop} : W (nxM m S) Q = W (m S) (fun _ S' => Q .nx S') := by
  unfold nxM; rw [W_bind]; rfl
def stoV : Bool → RV → Slot
  | true, .fr xs => .own xs
  | _, r => .val r.d
theorem W_sto {i : Nat} {own : Bool} {r : RV} {Q : Unit → Sl → Prop} (hi : i < S.length) : W (stoS i own r S) Q = Q () (S.set i (stoV own r)) := by
  unfold stoS; rw [if_pos hi]; cases r <;> cases own <;> rfl
theorem W_ite {c : Prop} [Decidable c] {m m' : M α} : W ((if c then m else m') S) Q = if c then W (m S) Q else W (m' S) Q := by
  by_cases h : c <;> simp only [h, if_true, if_false]
theorem W_iteb {c : Bool} {m m' : M α} : W ((if c = true then m else m') S) Q = if c = true then W (m S) Q else W (m' S) Q := W_ite
theorem W_keep {acc : List D} {y : D} {Q : List D → Sl → Prop} : W (keepM acc y S) Q = (acc.length < lim ∧ Q (acc ++ [y]) S) := by
  unfold keepM
  by_cases h : acc.length < lim
  · rw [if_pos h]; simp only [h, true_and]; rfl
  · rw [if_neg h]; simp only [h, false_and]; rfl
theorem getS_0 {x : Slot} : getS (x :: S) 0 = x := rfl
theorem getS_s {x : Slot} {i : Nat} : getS (x :: S) (i + 1) = getS S i := rfl
/-! ### calls -/
variable {c : Nat → List D → Option (List D) → CRes} {f : Nat} {xs : List D}
theorem W_call0 {Q : RV → Sl → Prop} (h : Wc (c f xs none) fun r o => o = none ∧ Q r S) : W (callM c f none xs S) Q := by
  unfold callM ioS
  rw [W_bind, W_pure]
  cases e : c f xs none with
  | ok r o =>
    rw [e] at h
    obtain ⟨rfl, h⟩ := h
    simp only [e]
    exact h
  | ex k d => rw [e] at h; exact h.elim
  | bad => rw [e] at h; exact h.elim
theorem W_call1 {i : Nat} {ys : List D} {Q : RV → Sl → Prop} (hi : getS S i = .own ys) (h : Wc (c f xs (some ys)) fun r o => ∃ zs, o = some zs ∧ Q r (S.set i (.own zs))) : W (callM c f (some i) xs S) Q := by
  unfold callM ioS
  rw [W_bind, W_bind, W_own, hi]
  simp only [W_pure]
  cases e : c f xs (some ys) with
  | ok r o =>
    rw [e] at h
    obtain ⟨zs, rfl, h⟩ := h
    show W (((backS (some i) (some zs)).bind fun _ => M.pure r) S) Q
    unfold backS
    rw [W_bind, W_put, hi]
    exact h
  | ex k d => rw [e] at h; exact h.elim
  | bad => rw [e] at h; exact h.elim
theorem W_call2 {i : Nat} {ys : List D} {Q : RV → Sl → Prop} (hi : getS S i = .io ys) (h : Wc (c f xs (some ys)) fun r o => ∃ zs, o = some zs ∧ Q r (S.set i (.io zs))) : W (callM c f (some i) xs S) Q := by
  unfold callM ioS
  rw [W_bind, W_bind, W_own, hi]
  simp only [W_pure]
  cases e : c f xs (some ys) with
  | ok r o =>
    rw [e] at h
    obtain ⟨zs, rfl, h⟩ := h
    show W (((backS (some i) (some zs)).bind fun _ => M.pure r) S) Q
    unfold backS
    rw [W_bind, W_put, hi]
    exact h
  | ex k d => rw [e] at h; exact h.elim
  | bad => rw [e] at h; exact h.elim
end
/-! ### a def's run -/
theorem Wc_run {G : Gam} {fn : Fn} {xs : List D} {io : Option (List D)} {S : Sl} {Q : RV → Option (List D) → Prop} (hs : startS fn xs io = some S)
    (h : W (exSs G fn.body S) fun c S' => match c with
      | .nx => Wc (endOf fn S' (.val .non)) Q
      | .rt r => Wc (endOf fn S' r) Q
      | _ => False) : Wc (runFn G fn xs io) Q := by
  unfold runFn
  rw [hs]
  show Wc (endR fn (exSs G fn.body S)) Q
  cases e : exSs G fn.body S with
  | ok c S' =>
    rw [e] at h
    cases c with
    | nx => exact h
    | rt r => exact h
    | bk => exact False.elim h
    | ct => exact False.elim h
  | ex k d S' => rw [e] at h; exact False.elim h
  | bad => rw [e] at h; exact False.elim h
/-- what a body's end tells -/
def endC (Q : RV → Prop) (c : Ctl) : Prop := match c with
  | .nx => Q (.val .non)
  | .rt r => Q r
  | _ => False
theorem Wc_run0 {G : Gam} {fn : Fn} {xs : List D} {S : Sl} {Q : RV → Option (List D) → Prop} (hio : fn.io = none) (hs : startS fn xs none = some S)
    (h : W (exSs G fn.body S) fun c _ => endC (fun r => Q r none) c) : Wc (runFn G fn xs none) Q := by
  refine Wc_run hs (h.mono fun c S' h => ?_)
  have e : outOf fn S' = some none := by unfold outOf; rw [hio]
  cases c <;> first | (show Wc (endOf fn S' _) Q; unfold endOf; rw [e]; exact h) | exact h
theorem Wc_run1 {G : Gam} {fn : Fn} {xs ys : List D} {i : Nat} {S : Sl} {Q : RV → Option (List D) → Prop} (hio : fn.io = some i) (hs : startS fn xs (some ys) = some S)
    (h : W (exSs G fn.body S) fun c S' => endC (fun r => match getS S' i with | .io zs => Q r (some zs) | _ => False) c) : Wc (runFn G fn xs (some ys)) Q := by
  refine Wc_run hs (h.mono fun c S' h => ?_)
  have key : ∀ r, (match getS S' i with | .io zs => Q r (some zs) | _ => False) → Wc (endOf fn S' r) Q := fun r h => by
    cases e : getS S' i with
    | io zs =>
      rw [e] at h
      have e2 : outOf fn S' = some (some zs) := by unfold outOf; rw [hio]; simp only [e]
      unfold endOf; rw [e2]; exact h
    | _ => rw [e] at h; exact h.elim
  cases c <;> first | exact key _ h | exact h
theorem Wc_call {P : Pr} {n f : Nat} {fn : Fn} {xs : List D} {io : Option (List D)} {Q : RV → Option (List D) → Prop} (hf : P.fn f = some fn) (h : Wc (runFn (gam P n) fn xs io) Q) : Wc ((gam P (n + 1)).call f xs io) Q := by
  rw [gam_call]
  unfold callG
  rw [hf]
  exact h
/-! ### loops -/
section
variable {g : Tgt} {body : M Ctl}
theorem W_for {Q : Ctl → Sl → Prop} (I : List D → List D → Sl → Prop) : ∀ (xs : List D) {pre : List D} {S : Sl}, I pre xs S →
    (∀ pre x post S, I pre (x :: post) S → ∃ S1, tgtS g x S = some S1 ∧ W (body S1) fun c S2 => match c with
      | .nx => I (pre ++ [x]) post S2
      | .ct => I (pre ++ [x]) post S2
      | .bk => Q .nx S2
      | .rt r => Q (.rt r) S2) →
    (∀ pre S, I pre [] S → Q .nx S) → W (forL g body xs S) Q
  | [], pre, S, h0, _, he => he pre S h0
  | x :: xs, pre, S, h0, hs, he => by
    obtain ⟨S1, e1, h1⟩ := hs pre x xs S h0
    unfold forL
    rw [e1]
    simp only
    cases e : body S1 with
    | ok c S2 =>
      rw [e] at h1
      cases c with
      | nx => exact W_for I xs h1 hs he
      | ct => exact W_for I xs h1 hs he
      | bk => exact h1
      | rt r => exact h1
    | ex k d S2 => rw [e] at h1; exact h1.elim
    | bad => rw [e] at h1; exact h1.elim
theorem irng_length (lo : Int) (n : Nat) : (irng lo n).length = n := by unfold irng; rw [List.length_map, List.length_range]
theorem irng_succ (lo : Int) (n : Nat) : irng lo (n + 1) = .int lo :: irng (lo + 1) n := by
  unfold irng
  rw [List.range_succ_eq_map, List.map_cons, List.map_map]
  congr 1
  · simp
  · apply List.map_congr_left
    intro k _
    show D.int (lo + ((k + 1 : Nat) : Int)) = D.int (lo + 1 + (k : Int))
    congr 1; omega
/-- a loop over lo, lo + 1, .. -/
theorem W_forR {Q : Ctl → Sl → Prop} (I : Nat → Sl → Prop) (lo : Int) (n : Nat) {S : Sl} (h0 : I 0 S)
    (hs : ∀ k S, k < n → I k S → ∃ S1, tgtS g (.int (lo + (k : Int))) S = some S1 ∧ W (body S1) fun c S2 => match c with
      | .nx => I (k + 1) S2
      | .ct => I (k + 1) S2
      | .bk => Q .nx S2
      | .rt r => Q (.rt r) S2)
    (he : ∀ S, I n S → Q .nx S) : W (forL g body (irng lo n) S) Q := by
  refine W_for (fun pre post S => pre.length + post.length = n ∧ post = irng (lo + (pre.length : Int)) post.length ∧ I pre.length S) _ (pre := []) ?_ ?_ ?_
  · exact ⟨by simp [irng_length], by simp [irng_length], h0⟩
  · rintro pre x post S ⟨h1, h2, h3⟩
    rw [List.length_cons, irng_succ] at h2
    injection h2 with e1 e2
    subst e1
    obtain ⟨S1, e1, w⟩ := hs pre.length S (by rw [List.length_cons] at h1; omega) h3
    refine ⟨S1, e1, w.mono fun c S2 h => ?_⟩
    have key : I (pre.length + 1) S2 → (pre ++ [D.int (lo + (pre.length : Int))]).length + post.length = n ∧ post = irng (lo + ((pre ++ [D.int (lo + (pre.length : Int))]).length : Int)) post.length ∧ I (pre ++ [D.int (lo + (pre.length : Int))]).length S2 := fun h => by
      rw [List.length_append]
      refine ⟨by rw [List.length_cons] at h1; simp only [List.length_cons, List.length_nil]; omega, ?_, h⟩
      rw [show (lo + ((pre.length + [D.int (lo + (pre.length : Int))].length : Nat) : Int)) = lo + (pre.length : Int) + 1 by simp only [List.length_cons, List.length_nil]; omega]
      exact e2
    cases c <;> first | exact key h | exact h
  · rintro pre S ⟨h1, _, h3⟩
    have : pre.length = n := by simpa using h1
    rw [this] at h3
    exact he S h3
/-- a loop over l.map h -/
theorem W_forM {ι : Type} {xs : List ι} {S : Sl} {Q : Ctl → Sl → Prop} (h : ι → D) (I : Nat → Sl → Prop) (h0 : I 0 S)
    (hs : ∀ (k : Nat) (hk : k < xs.length) S, I k S → ∃ S1, tgtS g (h xs[k]) S = some S1 ∧ W (body S1) fun c S2 => match c with
      | .nx => I (k + 1) S2
      | .ct => I (k + 1) S2
      | .bk => Q .nx S2
      | .rt r => Q (.rt r) S2)
    (he : ∀ S, I xs.length S → Q .nx S) : W (forL g body (xs.map h) S) Q := by
  refine W_for (fun pre post S => ∃ k, post = (xs.drop k).map h ∧ k ≤ xs.length ∧ I k S) _ (pre := []) ⟨0, rfl, Nat.zero_le _, h0⟩ ?_ ?_
  · rintro pre x post S1 ⟨k, e1, e2, e3⟩
    have hk : k < xs.length := by
      rcases Nat.lt_or_ge k xs.length with z | z
      · exact z
      · rw [List.drop_of_length_le z] at e1; cases e1
    rw [List.drop_eq_getElem_cons hk, List.map_cons] at e1
    injection e1 with e4 e5
    subst e4
    obtain ⟨S2, g1, g2⟩ := hs k hk S1 e3
    refine ⟨S2, g1, g2.mono fun c S3 z => ?_⟩
    cases c <;> first | exact ⟨k + 1, e5, hk, z⟩ | exact z
  · rintro pre S1 ⟨k, e1, e2, e3⟩
    have : k = xs.length := by
      have := congrArg List.length e1
      rw [List.length_map, List.length_drop] at this
      simp at this; omega
    subst this
    exact he S1 e3
/-- a while: I holds ahead of each test, m falls -/
theorem W_wh {t : M Bool} {Q : Ctl → Sl → Prop} (I : Nat → Sl → Prop) : ∀ (n : Nat) {k : Nat} {S : Sl}, k < n → I k S →
    (∀ k S, I k S → W (t S) fun b S1 => if b = true then W (body S1) (fun c S2 => match c with
      | .nx => ∃ j, j < k ∧ I j S2
      | .ct => ∃ j, j < k ∧ I j S2
      | .bk => Q .nx S2
      | .rt r => Q (.rt r) S2) else Q .nx S1) → W (whL t body n S) Q
  | 0, k, S, hk, _, _ => absurd hk (Nat.not_lt_zero _)
  | n + 1, k, S, hk, h0, hs => by
    unfold whL
    rw [W_bind]
    refine (hs k S h0).mono fun b S1 h => ?_
    cases b with
    | false => simp only [Bool.false_eq_true, if_false] at h ⊢; exact h
    | true =>
      simp only [if_true] at h ⊢
      unfold turnM
      cases e : body S1 with
      | ok c S2 =>
        rw [e] at h
        cases c with
        | nx => obtain ⟨j, hj, h⟩ := h; exact W_wh I n (by omega) h hs
        | ct => obtain ⟨j, hj, h⟩ := h; exact W_wh I n (by omega) h hs
        | bk => exact h
        | rt r => exact h
      | ex k d S2 => rw [e] at h; exact h.elim
      | bad => rw [e] at h; exact h.elim
end
/-! ### comprehensions -/
section
variable {vs : List Nat} {g : Tgt} {f : List D → M (List D)}
theorem W_comp {Q : List D → Sl → Prop} (I : List D → List D → List D → Sl → Prop) : ∀ (xs : List D) {pre acc : List D} {S : Sl}, I pre xs acc S →
    (∀ pre x post acc S, I pre (x :: post) acc S → ∃ S1, tgtS g x (wipeS S vs) = some S1 ∧ W (f acc S1) fun acc' S2 => I (pre ++ [x]) post acc' S2) →
    (∀ pre acc S, I pre [] acc S → Q acc S) → W (compM vs g f xs acc S) Q
  | [], pre, acc, S, h0, _, he => he pre acc S h0
  | x :: xs, pre, acc, S, h0, hs, he => by
    obtain ⟨S1, e1, h1⟩ := hs pre x xs acc S h0
    unfold compM
    rw [e1]
    simp only
    cases e : f acc S1 with
    | ok acc' S2 => rw [e] at h1; exact W_comp I xs h1 hs he
    | ex k d S2 => rw [e] at h1; exact h1.elim
    | bad => rw [e] at h1; exact h1.elim
/-- turns that leave the names as they were: what each item gives -/
theorem W_compP {Q : List D → Sl → Prop} (e : D → List D) {S0 : Sl} : ∀ (xs : List D) {acc : List D} {S : Sl}, wipeS S vs = S0 → acc.length + (xs.flatMap e).length < lim →
    (∀ x, x ∈ xs → ∀ acc, acc.length + (e x).length < lim → ∃ S1, tgtS g x S0 = some S1 ∧ W (f acc S1) fun acc' S2 => acc' = acc ++ e x ∧ wipeS S2 vs = S0) →
    (∀ S, wipeS S vs = S0 → Q (acc ++ xs.flatMap e) S) → W (compM vs g f xs acc S) Q
  | [], acc, S, h0, _, _, he => by
    show Q acc S
    have := he S h0
    rwa [List.flatMap_nil, List.append_nil] at this
  | x :: xs, acc, S, h0, hl, hs, he => by
    rw [List.flatMap_cons, List.length_append] at hl
    obtain ⟨S1, e1, h1⟩ := hs x (List.mem_cons_self ..) acc (by omega)
    unfold compM
    rw [h0, e1]
    simp only
    cases eq : f acc S1 with
    | ok acc' S2 =>
      rw [eq] at h1
      obtain ⟨rfl, h2⟩ := h1
      refine W_compP e xs h2 (by rw [List.length_append]; omega) (fun y hy => hs y (List.mem_cons_of_mem _ hy)) fun S hS => ?_
      have := he S hS
      rwa [List.flatMap_cons, ← List.append_assoc] at this
    | ex k d S2 => rw [eq] at h1; exact h1.elim
    | bad => rw [eq] at h1; exact h1.elim
theorem wipe_len (S : Sl) : ∀ vs : List Nat, (wipeS S vs).length = S.length
  | [] => rfl
  | v :: vs => by show ((wipeS S vs).set v .un).length = _; rw [List.length_set, wipe_len S vs]
theorem back_len (S : Sl) : ∀ (vs : List Nat) (S' : Sl), (backAll S vs S').length = S'.length
  | [], _ => rfl
  | v :: vs, S' => by show ((backAll S vs S').set v _).length = _; rw [List.length_set, back_len S vs]
theorem wipe_out (S : Sl) {i : Nat} : ∀ {vs : List Nat}, i ∉ vs → (wipeS S vs)[i]? = S[i]?
  | [], _ => rfl
  | v :: vs, h => by
    simp only [List.mem_cons, not_or] at h
    show ((wipeS S vs).set v .un)[i]? = _
    rw [List.getElem?_set_ne (by omega), wipe_out S h.2]
theorem back_out (S S' : Sl) {i : Nat} : ∀ {vs : List Nat}, i ∉ vs → (backAll S vs S')[i]? = S'[i]?
  | [], _ => rfl
  | v :: vs, h => by
    simp only [List.mem_cons, not_or] at h
    show ((backAll S vs S').set v _)[i]? = _
    rw [List.getElem?_set_ne (by omega), back_out S S' h.2]
theorem back_in (S S' : Sl) {i : Nat} (hi : i < S'.length) : ∀ {vs : List Nat}, i ∈ vs → (backAll S vs S')[i]? = some (getS S i)
  | [], h => by cases h
  | v :: vs, h => by
    show ((backAll S vs S').set v (getS S v))[i]? = _
    by_cases e : v = i
    · subst e
      rw [List.getElem?_set_self (by rw [back_len]; exact hi)]
    · rw [List.getElem?_set_ne e]
      rcases List.mem_cons.mp h with z | z
      · exact absurd z.symm e
      · exact back_in S S' hi z
theorem back_same {S S' : Sl} (h : wipeS S' vs = wipeS S vs) : backAll S vs S' = S := by
  have hl : S'.length = S.length := by
    have := congrArg List.length h
    rwa [wipe_len, wipe_len] at this
  apply List.ext_getElem?
  intro i
  by_cases hi : i ∈ vs
  · by_cases hb : i < S'.length
    · rw [back_in S S' hb hi]
      unfold getS
      rw [List.getD_eq_getElem?_getD, List.getElem?_eq_getElem (by omega)]; rfl
    · rw [List.getElem?_eq_none (by rw [back_len]; omega), List.getElem?_eq_none (by omega)]
  · rw [back_out S S' hi, ← wipe_out S' hi, ← wipe_out S hi, h]
theorem W_block {m : M (List D)} {S : Sl} {Q : RV → Sl → Prop} (h : W (m S) fun acc S' => Q (.fr acc) (backAll S vs S')) : W (blockM vs m S) Q := by
  unfold blockM
  cases e : m S <;> rw [e] at h <;> first | exact h | exact h.elim
/-- a comprehension whose turns leave the names as they were -/
theorem W_blockP {xs : List D} {S : Sl} {Q : RV → Sl → Prop} (e : D → List D) (hl : (xs.flatMap e).length < lim)
    (hs : ∀ x, x ∈ xs → ∀ acc, acc.length + (e x).length < lim → ∃ S1, tgtS g x (wipeS S vs) = some S1 ∧ W (f acc S1) fun acc' S2 => acc' = acc ++ e x ∧ wipeS S2 vs = wipeS S vs)
    (h : Q (.fr (xs.flatMap e)) S) : W (blockM vs (compM vs g f xs []) S) Q := by
  refine W_block (W_compP e xs rfl (by simpa using hl) hs fun S' h' => ?_)
  rw [back_same h', List.nil_append]
  exact h
/-- the same over l.map h -/
theorem W_compM {ι : Type} {Q : List D → Sl → Prop} (h : ι → D) (e : ι → List D) {S0 : Sl} : ∀ (xs : List ι) {acc : List D} {S : Sl}, wipeS S vs = S0 → acc.length + (xs.flatMap e).length < lim →
    (∀ x, x ∈ xs → ∀ acc, acc.length + (e x).length < lim → ∃ S1, tgtS g (h x) S0 = some S1 ∧ W (f acc S1) fun acc' S2 => acc' = acc ++ e x ∧ wipeS S2 vs = S0) →
    (∀ S, wipeS S vs = S0 → Q (acc ++ xs.flatMap e) S) → W (compM vs g f (xs.map h) acc S) Q
  | [], acc, S, h0, _, _, he => by
    show Q acc S
    have := he S h0
    rwa [List.flatMap_nil, List.append_nil] at this
  | x :: xs, acc, S, h0, hl, hs, he => by
    rw [List.flatMap_cons, List.length_append] at hl
    obtain ⟨S1, e1, h1⟩ := hs x (List.mem_cons_self ..) acc (by omega)
    rw [List.map_cons]
    unfold compM
    rw [h0, e1]
    simp only
    cases eq : f acc S1 with
    | ok acc' S2 =>
      rw [eq] at h1
      obtain ⟨rfl, h2⟩ := h1
      refine W_compM h e xs h2 (by rw [List.length_append]; omega) (fun y hy => hs y (List.mem_cons_of_mem _ hy)) fun S hS => ?_
      have := he S hS
      rwa [List.flatMap_cons, ← List.append_assoc] at this
    | ex k d S2 => rw [eq] at h1; exact h1.elim
    | bad => rw [eq] at h1; exact h1.elim
theorem W_blockM {ι : Type} {xs : List ι} {S : Sl} {Q : RV → Sl → Prop} (h : ι → D) (e : ι → List D) (hl : (xs.flatMap e).length < lim)
    (hs : ∀ x, x ∈ xs → ∀ acc, acc.length + (e x).length < lim → ∃ S1, tgtS g (h x) (wipeS S vs) = some S1 ∧ W (f acc S1) fun acc' S2 => acc' = acc ++ e x ∧ wipeS S2 vs = wipeS S vs)
    (hq : Q (.fr (xs.flatMap e)) S) : W (blockM vs (compM vs g f (xs.map h) []) S) Q := by
  refine W_block (W_compM h e xs rfl (by simpa using hl) hs fun S' h' => ?_)
  rw [back_same h', List.nil_append]
  exact hq
/-- a comprehension with a state: I of the turns done, what is kept, the names -/
theorem W_blockI {ι : Type} {xs : List ι} {S : Sl} {Q : RV → Sl → Prop} (h : ι → D) (I : Nat → List D → Sl → Prop) (h0 : I 0 [] S)
    (hs : ∀ (k : Nat) (hk : k < xs.length) acc S, I k acc S → ∃ S1, tgtS g (h xs[k]) (wipeS S vs) = some S1 ∧ W (f acc S1) fun acc' S2 => I (k + 1) acc' S2)
    (hq : ∀ acc S', I xs.length acc S' → Q (.fr acc) (backAll S vs S')) : W (blockM vs (compM vs g f (xs.map h) []) S) Q := by
  refine W_block ?_
  refine W_comp (fun pre post acc S => ∃ k, post = (xs.drop k).map h ∧ k ≤ xs.length ∧ I k acc S) _ (pre := []) ⟨0, rfl, Nat.zero_le _, h0⟩ ?_ ?_
  · rintro pre x post acc S1 ⟨k, e1, e2, e3⟩
    have hk : k < xs.length := by
      rcases Nat.lt_or_ge k xs.length with z | z
      · exact z
      · rw [List.drop_of_length_le z] at e1; cases e1
    rw [List.drop_eq_getElem_cons hk, List.map_cons] at e1
    injection e1 with e4 e5
    subst e4
    obtain ⟨S2, g1, g2⟩ := hs k hk acc S1 e3
    exact ⟨S2, g1, g2.mono fun acc' S3 z => ⟨k + 1, e5, hk, z⟩⟩
  · rintro pre acc S1 ⟨k, e1, e2, e3⟩
    have : k = xs.length := by
      have := congrArg List.length e1
      rw [List.length_map, List.length_drop] at this
      simp at this; omega
    subst this
    exact hq acc S1 e3
end
end Pl
set_option Elab.async false
set_option linter.all false
set_option maxRecDepth 100000
/-! Pl: the evaluator, outermost first. -/
namespace Pl
open PySem
section
variable {G : Gam} {S : Sl} {QR : RV → Sl → Prop} {QD : D → Sl → Prop} {QO : Op → Sl → Prop} {QB : Bool → Sl → Prop} {QL : List D → Sl → Prop} {QC : Ctl → Sl → Prop} {QU : Unit → Sl → Prop} {a b c e : Ex} {es kes : List Ex} {i : Nat}
def isVb : Ex → Bool
  | .nev => false
  | .c _ => false
  | .v _ => true
  | .io _ => false
  | .bin _ _ _ => false
  | .un _ _ => false
  | .cmp _ _ _ => false
  | .chain _ _ _ _ _ => false
  | .and _ _ => false
  | .or _ _ => false
  | .not _ => false
  | .ite _ _ _ => false
  | .tup _ => false
  | .lst _ => false
  | .star _ => false
  | .ix _ _ => false
  | .sl _ _ _ => false
  | .rev _ => false
  | .nil => false
  | .fld _ _ => false
  | .sfld _ => false
  | .call _ _ _ _ => false
  | .make _ _ _ _ => false
  | .meth _ _ _ _ _ => false
  | .blt _ _ => false
  | .bmt _ _ _ => false
  | .isi _ _ => false
  | .mut _ _ _ => false
  | .lc1 _ _ _ _ _ _ => false
  | .lc2 _ _ _ _ _ _ _ _ _ _ _ => false
/-- an operand -/
def opX (G : Gam) (a : Ex) : M Op := opOf a (evE G a)
theorem e_opv : W (opX G (.v i) S) QO = (match getS S i with
    | .val d => QO (.dat d) S
    | .own _ => QO (.at i) S
    | .io _ => QO (.at i) S
    | _ => False) := W_op
theorem e_ope (h : isVb a = false) : W (opX G a S) QO = W (evE G a S) (fun r S' => QO (.dat r.d) S') := by
  have : opX G a = (evE G a).toD.bind fun d => M.pure (.dat d) := by
    unfold opX opOf
    cases a <;> first | rfl | cases h
  rw [this, W_bind, W_toD]; rfl
theorem e_c {d : D} : W (evE G (.c d) S) QR = QR (.val d) S := by simp only [evE]; rfl
theorem e_v : W (evE G (.v i) S) QR = (match getS S i with
    | .val d => QR (.val d) S
    | .own xs => QR (.val (.lst xs)) (S.set i (.val (.lst xs)))
    | _ => False) := by simp only [evE]; exact W_rd
theorem e_io : W (evE G (.io i) S) QR = (match getS S i with
    | .own xs => QR (.val .non) S
    | .io xs => QR (.val .non) S
    | _ => False) := by simp only [evE]; rw [W_bind, W_own]; cases getS S i <;> rfl
theorem e_bin {o : Bop} : W (evE G (.bin o a b) S) QR = W (opX G a S) (fun p S1 => W (opX G b S1) fun q S2 => W (p.get S2) fun x S3 => W (q.get S3) fun y S4 => W (M.opt (binD o x y) S4) QR) := by
  simp only [evE]; simp only [W_bind]; rfl
theorem e_un {o : Uop} : W (evE G (.un o a) S) QR = W (opX G a S) (fun p S1 => W (p.get S1) fun x S3 => W (M.opt (unD o x) S3) QR) := by
  simp only [evE]; simp only [W_bind]; rfl
theorem e_cmp {o : Cop} : W (evE G (.cmp o a b) S) QR = W (opX G a S) (fun p S1 => W (opX G b S1) fun q S2 => W (p.get S2) fun x S3 => W (q.get S3) fun y S4 => W (M.opt (cmpD o x y) S4) fun k S5 => QR (.val (.bl k)) S5) := by
  simp only [evE]; simp only [W_bool, W_bind]; rfl
theorem e_chain {o o' : Cop} : W (evE G (.chain o o' a b c) S) QR = W (evE G a S) (fun x S1 => W (evE G b S1) fun y S2 => W (M.opt (cmpD o x.d y.d) S2) fun k S3 => if k = true then W (evE G c S3) (fun z S4 => W (M.opt (cmpD o' y.d z.d) S4) fun k S5 => QR (.val (.bl k)) S5) else QR (.val (.bl false)) S3) := by
  simp only [evE]; simp only [W_bool, W_bind, W_toD, W_ite]; rfl
theorem e_and : W (evE G (.and a b) S) QR = W (evE G a S) (fun x S1 => W (M.opt (truth x.d) S1) fun k S2 => if k = true then W (evE G b S2) QR else QR (.val x.d) S2) := by
  simp only [evE]; simp only [W_bind, W_toD, W_ite]; rfl
theorem e_or : W (evE G (.or a b) S) QR = W (evE G a S) (fun x S1 => W (M.opt (truth x.d) S1) fun k S2 => if k = true then QR (.val x.d) S2 else W (evE G b S2) QR) := by
  simp only [evE]; simp only [W_bind, W_toD, W_ite]; rfl
theorem e_not : W (evE G (.not a) S) QR = W (evE G a S) (fun x S1 => W (M.opt (truth x.d) S1) fun k S2 => QR (.val (.bl (!k))) S2) := by
  simp only [evE]; simp only [W_bool, W_bind, W_tru]; rfl
theorem e_ite : W (evE G (.ite c a b) S) QR = W (evE G c S) (fun x S1 => W (M.opt (truth x.d) S1) fun k S2 => if k = true then W (evE G a S2) QR else W (evE G b S2) QR) := by
  simp only [evE]; simp only [W_bind, W_tru, W_ite]
theorem e_tup : W (evE G (.tup es) S) QR = W (evEs G es S) (fun xs S1 => xs.length ≤ lim ∧ QR (.val (.tup xs)) S1) := by
  simp only [evE]; rw [W_bind]; congr 1; funext xs S1
  unfold newT
  by_cases h : xs.length ≤ lim
  · rw [if_pos h]; simp only [h, true_and]; rfl
  · rw [if_neg h]; simp only [h, false_and]; rfl
theorem e_lst : W (evE G (.lst es) S) QR = W (evEs G es S) (fun xs S1 => xs.length ≤ lim ∧ QR (.fr xs) S1) := by
  simp only [evE]; rw [W_bind]; congr 1; funext xs S1
  unfold newL
  by_cases h : xs.length ≤ lim
  · rw [if_pos h]; simp only [h, true_and]; rfl
  · rw [if_neg h]; simp only [h, false_and]; rfl
theorem e_ix : W (evE G (.ix a b) S) QR = W (opX G a S) (fun p S1 => W (evE G b S1) fun y S2 => W (p.get S2) fun x S3 => W (M.opt (itemD x y.d) S3) QR) := by
  simp only [evE]; simp only [W_bind, W_toD]; rfl
theorem e_sl {lo hi : Ex} : W (evE G (.sl a lo hi) S) QR = W (opX G a S) (fun p S1 => W (partOf lo (evE G lo) S1) fun l S2 => W (partOf hi (evE G hi) S2) fun h S3 => W (p.get S3) fun x S4 => W (M.opt (sliceD x l h) S4) QR) := by
  simp only [evE]; simp only [W_bind]; rfl
theorem e_pnil {m : M RV} {Q : Option Int → Sl → Prop} : W (partOf .nil m S) Q = Q none S := rfl
def isNl : Ex → Bool
  | .nev => false
  | .c _ => false
  | .v _ => false
  | .io _ => false
  | .bin _ _ _ => false
  | .un _ _ => false
  | .cmp _ _ _ => false
  | .chain _ _ _ _ _ => false
  | .and _ _ => false
  | .or _ _ => false
  | .not _ => false
  | .ite _ _ _ => false
  | .tup _ => false
  | .lst _ => false
  | .star _ => false
  | .ix _ _ => false
  | .sl _ _ _ => false
  | .rev _ => false
  | .nil => true
  | .fld _ _ => false
  | .sfld _ => false
  | .call _ _ _ _ => false
  | .make _ _ _ _ => false
  | .meth _ _ _ _ _ => false
  | .blt _ _ => false
  | .bmt _ _ _ => false
  | .isi _ _ => false
  | .mut _ _ _ => false
  | .lc1 _ _ _ _ _ _ => false
  | .lc2 _ _ _ _ _ _ _ _ _ _ _ => false
theorem e_part {Q : Option Int → Sl → Prop} (h : isNl a = false) : W (partOf a (evE G a) S) Q = W (evE G a S) (fun r S' => W (M.opt (partD r.d) S') fun i S'' => Q (some i) S'') := by
  have : partOf a (evE G a) = (evE G a).toD.bind fun d => (M.opt (partD d)).bind fun i => M.pure (some i) := by
    unfold partOf
    cases a <;> first | rfl | cases h
  rw [this]; simp only [W_bind, W_toD]; rfl
theorem e_rev : W (evE G (.rev a) S) QR = W (opX G a S) (fun p S1 => W (p.get S1) fun x S3 => W (M.opt (revD x) S3) QR) := by
  simp only [evE]; simp only [W_bind]; rfl
theorem e_fld {f : Nat} : W (evE G (.fld a f) S) QR = W (evE G a S) (fun x S1 => W (M.opt (fldD f x.d) S1) QR) := by
  simp only [evE]; simp only [W_bind, W_toD]
theorem e_sfld {f : Nat} : W (evE G (.sfld f) S) QR = (match getS S 0 with
    | .slf c ks xs => W (M.opt (fldD f (.obj c ks xs)) S) QR
    | _ => False) := by
  simp only [evE]; cases getS S 0 <;> rfl
theorem e_call {f : Nat} {pm : List Pm} : W (evE G (.call f es kes pm) S) QR = W (evEs G es S) (fun ws S1 => W (evEs G kes S1) fun zs S2 => W (M.opt (pmD (ws ++ zs) pm) S2) fun xs S3 => W (callM G.call f (ioOf (es ++ kes)) xs S3) QR) := by
  simp only [evE]; simp only [W_bind]
theorem e_make {f : Nat} {pm : List Pm} : W (evE G (.make f es kes pm) S) QR = W (evEs G es S) (fun ws S1 => W (evEs G kes S1) fun zs S2 => W (M.opt (pmD (ws ++ zs) pm) S2) fun xs S3 => W (makeM G.make f xs S3) QR) := by
  simp only [evE]; simp only [W_bind]
theorem e_meth {m : Nat} {pm : List Pm} : W (evE G (.meth a m es kes pm) S) QR = W (evE G a S) (fun x S0 => W (M.opt (methD G m x.d) S0) fun f S0 => W (evEs G es S0) fun ws S1 => W (evEs G kes S1) fun zs S2 => W (M.opt (pmD (x.d :: (ws ++ zs)) pm) S2) fun xs S3 => W (callM G.call f (ioOf (.nil :: (es ++ kes))) xs S3) QR) := by
  simp only [evE]; simp only [W_bind, W_toD]
theorem e_blt {o : Blt} : W (evE G (.blt o es) S) QR = W (evPs G es S) (fun ps S1 => W (gets ps S1) fun xs S2 => W (M.opt (bltD o xs) S2) QR) := by
  simp only [evE]; simp only [W_bind]
theorem e_isi {ts : List Tg} : W (evE G (.isi a ts) S) QR = W (opX G a S) (fun p S1 => W (p.get S1) fun x S2 => W (M.opt (isTgs x ts) S2) fun k S3 => QR (.val (.bl k)) S3) := by
  simp only [evE]; simp only [W_bool, W_bind]; rfl
theorem e_mut {m : Mut} : W (evE G (.mut i m es) S) QR = (match getS S i with
    | .own _ => W (evEs G es S) (fun ws S1 => W (ownS i S1) fun xs S2 => W (M.opt (mutD m xs ws) S2) fun p S3 => W (putS i p.2 S3) fun _ S4 => QR (.val p.1) S4)
    | .io _ => W (evEs G es S) (fun ws S1 => W (ownS i S1) fun xs S2 => W (M.opt (mutD m xs ws) S2) fun p S3 => W (putS i p.2 S3) fun _ S4 => QR (.val p.1) S4)
    | _ => False) := by
  simp only [evE]; simp only [W_bind]; rw [W_own]; cases getS S i <;> rfl
theorem e_lc1 {vs : List Nat} {k : Ik} {it fs : List Ex} {g : Tgt} : W (evE G (.lc1 vs k it g fs e) S) QR = W (evEs G it S) (fun ds S1 => W (M.opt (walkD k ds) S1) fun xs S2 =>
    W (blockM vs (compM vs g (fun acc => (evTs G fs).bind fun b => if b then (evE G e).toD.bind fun y => keepM acc y else M.pure acc) xs []) S2) QR) := by
  simp only [evE]; simp only [W_bind]
theorem e_es0 : W (evEs G [] S) QL = QL [] S := by simp only [evEs]; rfl
def isSt : Ex → Bool
  | .nev => false
  | .c _ => false
  | .v _ => false
  | .io _ => false
  | .bin _ _ _ => false
  | .un _ _ => false
  | .cmp _ _ _ => false
  | .chain _ _ _ _ _ => false
  | .and _ _ => false
  | .or _ _ => false
  | .not _ => false
  | .ite _ _ _ => false
  | .tup _ => false
  | .lst _ => false
  | .star _ => true
  | .ix _ _ => false
  | .sl _ _ _ => false
  | .rev _ => false
  | .nil => false
  | .fld _ _ => false
  | .sfld _ => false
  | .call _ _ _ _ => false
  | .make _ _ _ _ => false
  | .meth _ _ _ _ _ => false
  | .blt _ _ => false
  | .bmt _ _ _ => false
  | .isi _ _ => false
  | .mut _ _ _ => false
  | .lc1 _ _ _ _ _ _ => false
  | .lc2 _ _ _ _ _ _ _ _ _ _ _ => false
theorem e_es (h : isSt e = false) : W (evEs G (e :: es) S) QL = W (evE G e S) (fun d S1 => W (evEs G es S1) fun ds S2 => QL (d.d :: ds) S2) := by
  have h2 : ∀ d, starM e d = M.pure [d] := fun d => by
    unfold starM
    cases e <;> first | rfl | cases h
  simp only [evEs]; simp only [W_bind, W_toD, h2, W_pure]; rfl
theorem e_star : W (evEs G (.star e :: es) S) QL = W (evE G e S) (fun d S1 => W (M.opt (starD d.d) S1) fun xs S2 => W (evEs G es S2) fun ds S3 => QL (xs ++ ds) S3) := by
  simp only [evEs, evE]; simp only [W_bind, W_toD, W_pure]; rfl
theorem e_ps0 {Q : List Op → Sl → Prop} : W (evPs G [] S) Q = Q [] S := by simp only [evPs]; rfl
theorem e_ps {Q : List Op → Sl → Prop} : W (evPs G (e :: es) S) Q = W (opX G e S) (fun p S1 => W (evPs G es S1) fun ps S2 => Q (p :: ps) S2) := by
  simp only [evPs]; simp only [W_bind, W_pure]; rfl
theorem e_ts0 : W (evTs G [] S) QB = QB true S := by simp only [evTs]; rfl
theorem e_ts : W (evTs G (e :: es) S) QB = W (evE G e S) (fun x S1 => W (M.opt (truth x.d) S1) fun k S2 => if k = true then W (evTs G es S2) QB else QB false S2) := by
  simp only [evTs]; simp only [W_bind, W_tru, W_ite, W_pure]
theorem e_rs0 {Q : List RV → Sl → Prop} : W (evRs G [] S) Q = Q [] S := rfl
theorem e_rs {Q : List RV → Sl → Prop} : W (evRs G (e :: es) S) Q = W (evE G e S) (fun r S1 => W (evRs G es S1) fun rs S2 => Q (r :: rs) S2) := by
  show W (((evE G e).bind fun r => (evRs G es).bind fun rs => M.pure (r :: rs)) S) Q = _
  simp only [W_bind, W_pure]
/-! ### statements -/
variable {s : Sm} {ss : List Sm}
theorem s_nil : W (exSs G [] S) QC = QC .nx S := by simp only [exSs]; rfl
theorem s_cons : W (exSs G (s :: ss) S) QC = W (exS G s S) (fun c S1 => match c with
    | .nx => W (exSs G ss S1) QC
    | .rt r => QC (.rt r) S1
    | .bk => QC .bk S1
    | .ct => QC .ct S1) := by
  simp only [exSs]; rw [W_bind]; congr 1; funext c S1; cases c <;> rfl
theorem s_asgn {own : Bool} : W (exS G (.asg (.nm i own) e) S) QC = W (evE G e S) (fun r S1 => W (stoS i own r S1) fun _ S2 => QC .nx S2) := by
  simp only [exS]; simp only [W_nx, W_bind]; rfl
theorem s_sto {own : Bool} {r : RV} : W (stoS i own r S) QU = (i < S.length ∧ QU () (S.set i (stoV own r))) := by
  by_cases h : i < S.length
  · rw [W_sto h]; simp only [h, true_and]
  · simp only [h, false_and]; unfold stoS; rw [if_neg h]; rfl
/-- a place of a list of our own -/
def subX (G : Gam) (i : Nat) (k : D) (r : RV) : M Unit := (ownS i).bind fun xs => match k with
  | .int j => (M.opt (ixD xs.length j)).bind fun n => putS i (xs.set n r.d)
  | _ => M.bad
theorem s_sub {r : RV} : W (stoA G (.sub i e) r S) QU = (match getS S i with
    | .own _ => W (evE G e S) (fun k S1 => W (subX G i k.d r S1) QU)
    | .io _ => W (evE G e S) (fun k S1 => W (subX G i k.d r S1) QU)
    | _ => False) := by
  unfold stoA
  simp only [W_bind]
  rw [W_own]; simp only [W_toD]
  cases getS S i <;> first | rfl | skip
  all_goals
    simp only
    congr 1; funext k S1
    unfold subX
    rw [W_bind]
    try (refine congrArg _ (funext fun a => funext fun S2 => ?_); cases k.d <;> rfl)
theorem s_subX {j : Int} {r : RV} : W (subX G i (.int j) r S) QU = (match getS S i with
    | .own xs => W (M.opt (ixD xs.length j) S) (fun n S1 => W (putS i (xs.set n r.d) S1) QU)
    | .io xs => W (M.opt (ixD xs.length j) S) (fun n S1 => W (putS i (xs.set n r.d) S1) QU)
    | _ => False) := by
  unfold subX
  rw [W_bind, W_own]
  cases getS S i <;> first | rfl | (simp only [W_bind])
theorem s_asgs {k : Ex} : W (exS G (.asg (.sub i k) e) S) QC = W (evE G e S) (fun r S1 => W (stoA G (.sub i k) r S1) fun _ S2 => QC .nx S2) := by
  simp only [exS]; simp only [W_nx, W_bind]
theorem s_asgf {f : Nat} : W (exS G (.asg (.fld f) e) S) QC = W (evE G e S) (fun r S1 => W (stoA G (.fld f) r S1) fun _ S2 => QC .nx S2) := by
  simp only [exS]; simp only [W_nx, W_bind]
theorem s_fld {f : Nat} {r : RV} : W (stoA G (.fld f) r S) QU = (match getS S 0 with
    | .slf c ks xs => if (ks.contains f || decide (900 ≤ ks.length)) = true then False else QU () (S.set 0 (.slf c (ks ++ [f]) (xs ++ [r.d])))
    | _ => False) := by
  show W ((fun S => match getS S 0 with
    | .slf c ks xs => if ks.contains f || decide (900 ≤ ks.length) then .bad else .ok () (S.set 0 (.slf c (ks ++ [f]) (xs ++ [r.d])))
    | _ => .bad) S) QU = _
  simp only
  cases getS S 0 <;> first | rfl | skip
  rename_i c ks xs
  simp only
  by_cases h : (ks.contains f || decide (900 ≤ ks.length)) = true
  · rw [if_pos h, if_pos h]; rfl
  · rw [if_neg h, if_neg h]; rfl
theorem s_par {ts : List Ta} : W (exS G (.par ts es) S) QC = W (evRs G es S) (fun rs S1 => W (parL (ts.map (stoA G)) rs S1) fun _ S2 => QC .nx S2) := by
  simp only [exS]; simp only [W_nx, W_bind]
def stoX (G : Gam) : List Ta → List RV → M Unit
  | ts, rs => stoLs (ts.map (stoA G)) rs
theorem s_parL {ts : List Ta} {rs : List RV} (h : rs.length = ts.length) : W (parL (ts.map (stoA G)) rs S) QU = W (stoX G ts rs S) QU := by
  unfold parL
  rw [if_pos (by rw [List.length_map]; exact h)]; rfl
theorem s_stoX0 : W (stoX G [] [] S) QU = QU () S := rfl
theorem s_stoXn {own : Bool} {ts : List Ta} {r : RV} {rs : List RV} : W (stoX G (.nm i own :: ts) (r :: rs) S) QU = W (stoS i own r S) (fun _ S1 => W (stoX G ts rs S1) QU) := by
  show W (((stoS i own r).bind fun _ => stoLs (ts.map (stoA G)) rs) S) QU = _
  rw [W_bind]; rfl
theorem s_stoXs {ts : List Ta} {r : RV} {rs : List RV} : W (stoX G (.sub i e :: ts) (r :: rs) S) QU = W (stoA G (.sub i e) r S) (fun _ S1 => W (stoX G ts rs S1) QU) := by
  show W (((stoA G (.sub i e) r).bind fun _ => stoLs (ts.map (stoA G)) rs) S) QU = _
  rw [W_bind]; rfl
theorem s_unp {is : List Nat} : W (exS G (.unp is e) S) QC = W (evE G e S) (fun d S1 => W (unpM is d.d S1) fun _ S2 => QC .nx S2) := by
  simp only [exS]; simp only [W_nx, W_bind, W_toD]
theorem s_unpT {is : List Nat} {xs : List D} : W (unpM is (.tup xs) S) QU = (match tupS is xs S with
    | some S' => QU () S'
    | none => False) := by
  show W ((match tupS is xs S with | some S' => Res.ok () S' | none => Res.bad) : Res Unit) QU = _
  cases tupS is xs S <;> rfl
theorem s_aug {o : Bop} : W (exS G (.aug i o e) S) QC = W (valS i S) (fun x S1 => W (evE G e S1) fun y S2 => W (M.opt (augD o x y.d) S2) fun d S3 => W (stoS i false (.val d) S3) fun _ S4 => QC .nx S4) := by
  simp only [exS]; simp only [W_nx, W_bind, W_toD]
theorem s_expr : W (exS G (.expr e) S) QC = W (evE G e S) (fun _ S1 => QC .nx S1) := by
  simp only [exS]; simp only [W_nx, W_bind, W_pure]
theorem s_retv : W (exS G (.ret (.v i)) S) QC = (match getS S i with
    | .val d => QC (.rt (.val d)) S
    | .own xs => QC (.rt (.fr xs)) (S.set i .un)
    | _ => False) := by
  simp only [exS, retOf]; simp only [W_bind, W_pure]; rw [W_mv]; try (cases getS S i <;> rfl)
theorem s_ret (h : isVb e = false) : W (exS G (.ret e) S) QC = W (evE G e S) (fun r S1 => QC (.rt r) S1) := by
  have : retOf e (evE G e) = evE G e := by
    unfold retOf
    cases e <;> first | rfl | cases h
  simp only [exS]; rw [this, W_bind]; rfl
theorem s_iff {s1 s2 : List Sm} : W (exS G (.iff e s1 s2) S) QC = W (evE G e S) (fun x S1 => W (M.opt (truth x.d) S1) fun k S2 => if k = true then W (exSs G s1 S2) QC else W (exSs G s2 S2) QC) := by
  simp only [exS]; simp only [W_bind, W_tru, W_ite]
theorem s_for {k : Ik} {it : List Ex} {g : Tgt} {bd : List Sm} : W (exS G (.for k it g bd) S) QC = W (evEs G it S) (fun ds S1 => W (M.opt (walkD k ds) S1) fun xs S2 => W (forL g (exSs G bd) xs S2) QC) := by
  simp only [exS]; simp only [W_bind]
theorem s_wh {bd : List Sm} : W (exS G (.wh e bd) S) QC = W (whL (truM (evE G e)) (exSs G bd) wlim S) QC := by
  simp only [exS]
theorem s_pass : W (exS G .pass S) QC = QC .nx S := by simp only [exS]; rfl
theorem s_brk : W (exS G .brk S) QC = QC .bk S := by simp only [exS]; rfl
theorem s_cont : W (exS G .cont S) QC = QC .ct S := by simp only [exS]; rfl
/-! ### operations -/
variable {x y : Int}
theorem o_add : W (M.opt (binD .add (.int x) (.int y)) S) QR = QR (.val (.int (x + y))) S := rfl
theorem o_sub : W (M.opt (binD .sub (.int x) (.int y)) S) QR = QR (.val (.int (x - y))) S := rfl
theorem o_and : W (M.opt (binD .and (.int x) (.int y)) S) QR = QR (.val (.int (Builtin.bitAnd x y))) S := rfl
theorem o_or : W (M.opt (binD .or (.int x) (.int y)) S) QR = QR (.val (.int (Builtin.bitOr x y))) S := rfl
theorem o_xor : W (M.opt (binD .xor (.int x) (.int y)) S) QR = QR (.val (.int (Builtin.bitXor x y))) S := rfl
theorem o_if {p : Prop} [Decidable p] {o : Option RV} : W (M.opt (if p then o else none) S) QR = (p ∧ W (M.opt o S) QR) := by
  by_cases h : p
  · rw [if_pos h]; simp only [h, true_and]
  · rw [if_neg h]; simp only [h, false_and]; rfl
theorem o_mul : W (M.opt (binD .mul (.int x) (.int y)) S) QR = ((small x || small y) = true ∧ QR (.val (.int (x * y))) S) := by
  unfold binD; rw [o_if]; rfl
theorem o_fdiv : W (M.opt (binD .fdiv (.int x) (.int y)) S) QR = ((y ≠ 0 ∧ y.natAbs < 1073741824) ∧ QR (.val (.int (x.fdiv y))) S) := by
  unfold binD; rw [o_if]; rfl
theorem o_mod : W (M.opt (binD .mod (.int x) (.int y)) S) QR = (y ≠ 0 ∧ QR (.val (.int (x.fmod y))) S) := by
  unfold binD; rw [o_if]; rfl
theorem o_pow : W (M.opt (binD .pow (.int x) (.int y)) S) QR = ((0 ≤ y ∧ y ≤ 1000 ∧ small x = true) ∧ QR (.val (.int (x ^ y.toNat))) S) := by
  unfold binD; rw [o_if]; rfl
theorem o_shl : W (M.opt (binD .shl (.int x) (.int y)) S) QR = ((0 ≤ y ∧ y ≤ 1000 ∧ small x = true) ∧ QR (.val (.int (x * 2 ^ y.toNat))) S) := by
  unfold binD; rw [o_if]; rfl
theorem o_shr : W (M.opt (binD .shr (.int x) (.int y)) S) QR = (0 ≤ y ∧ QR (.val (.int (x / 2 ^ y.toNat))) S) := by
  unfold binD; rw [o_if]; rfl
theorem o_addL {xs ys : List D} : W (M.opt (binD .add (.lst xs) (.lst ys)) S) QR = ((xs ++ ys).length ≤ lim ∧ QR (.fr (xs ++ ys)) S) := by
  show W (M.opt (newL (xs ++ ys)) S) QR = _
  unfold newL; rw [o_if]; rfl
theorem o_addT {xs ys : List D} : W (M.opt (binD .add (.tup xs) (.tup ys)) S) QR = ((xs ++ ys).length ≤ lim ∧ QR (.val (.tup (xs ++ ys))) S) := by
  show W (M.opt (newT (xs ++ ys)) S) QR = _
  unfold newT; rw [o_if]; rfl
theorem o_mulL {xs : List D} : W (M.opt (binD .mul (.lst xs) (.int y)) S) QR = ((xs.length * y.toNat ≤ lim ∧ -(2 ^ 62) < y ∧ y < 2 ^ 62) ∧ QR (.fr (List.replicate y.toNat xs).flatten) S) := by
  unfold binD; rw [o_if]; rfl
theorem o_inv : W (M.opt (unD .inv (.int x)) S) QR = QR (.val (.int (Builtin.bitNot x))) S := rfl
theorem o_neg : W (M.opt (unD .neg (.int x)) S) QR = QR (.val (.int (-x))) S := rfl
theorem o_lt : W (M.opt (cmpD .lt (.int x) (.int y)) S) QB = QB (decide (x < y)) S := rfl
theorem o_le : W (M.opt (cmpD .le (.int x) (.int y)) S) QB = QB (decide (x ≤ y)) S := rfl
theorem o_gt : W (M.opt (cmpD .gt (.int x) (.int y)) S) QB = QB (decide (y < x)) S := rfl
theorem o_ge : W (M.opt (cmpD .ge (.int x) (.int y)) S) QB = QB (decide (y ≤ x)) S := rfl
theorem eqD_int : eqD (.int x) (.int y) = some (decide (x = y)) := by
  have h1 : D.plain (.int x) = true := rfl
  have h2 : D.plain (.int y) = true := rfl
  unfold eqD
  rw [h1, h2]
  show some (PyData.eqv (.int x) (.int y)) = _
  rfl
theorem o_eq : W (M.opt (cmpD .eq (.int x) (.int y)) S) QB = QB (decide (x = y)) S := by
  show W (M.opt (eqD _ _) S) QB = _
  rw [eqD_int]; rfl
theorem o_ne : W (M.opt (cmpD .ne (.int x) (.int y)) S) QB = QB (!decide (x = y)) S := by
  show W (M.opt ((eqD (.int x) (.int y)).map (!·)) S) QB = _
  rw [eqD_int]; rfl
theorem o_item {xs : List D} : W (M.opt (itemD (.lst xs) (.int x)) S) QR = (match atD xs x with
    | some d => QR (.val d) S
    | none => False) := by
  show W (M.opt ((atD xs x).map RV.val) S) QR = _
  cases atD xs x <;> rfl
theorem o_itemT {xs : List D} : W (M.opt (itemD (.tup xs) (.int x)) S) QR = (match atD xs x with
    | some d => QR (.val d) S
    | none => False) := by
  show W (M.opt ((atD xs x).map RV.val) S) QR = _
  cases atD xs x <;> rfl
theorem ixD_nat {n k : Nat} (h : k < n) : ixD n (k : Int) = some k := by
  unfold ixD L2.ixN
  rw [if_pos (by omega), if_pos (by omega)]; simp
theorem ixD_lit {n : Nat} {i : Int} (h0 : 0 ≤ i) (h : i < n) : ixD n i = some i.toNat := by
  have := ixD_nat (n := n) (k := i.toNat) (by omega)
  rwa [Int.toNat_of_nonneg h0] at this
theorem atD_nat {xs : List D} {k : Nat} (h : k < xs.length) : atD xs (k : Int) = xs[k]? := by
  unfold atD; rw [ixD_nat h]; rfl
theorem atD_lit {xs : List D} {i : Int} (h0 : 0 ≤ i) (h : i < xs.length) : atD xs i = xs[i.toNat]? := by
  unfold atD; rw [ixD_lit h0 h]; rfl
theorem atD_0 {x : D} {xs : List D} : atD (x :: xs) 0 = some x := by rw [atD_lit (by omega) (by simp only [List.length_cons]; omega)]; rfl
theorem atD_1 {x y : D} {xs : List D} : atD (x :: y :: xs) 1 = some y := by rw [atD_lit (by omega) (by simp only [List.length_cons]; omega)]; rfl
theorem atD_2 {x y z : D} {xs : List D} : atD (x :: y :: z :: xs) 2 = some z := by rw [atD_lit (by omega) (by simp only [List.length_cons]; omega)]; rfl
theorem atD_3 {x y z u : D} {xs : List D} : atD (x :: y :: z :: u :: xs) 3 = some u := by rw [atD_lit (by omega) (by simp only [List.length_cons]; omega)]; rfl
theorem ixD_0 {x : D} {xs : List D} : ixD (x :: xs).length 0 = some 0 := by rw [ixD_lit (by omega) (by simp only [List.length_cons]; omega)]; rfl
theorem ixD_3 {x y z u : D} {xs : List D} : ixD (x :: y :: z :: u :: xs).length 3 = some 3 := by rw [ixD_lit (by omega) (by simp only [List.length_cons]; omega)]; rfl
theorem t_int : W (M.opt (truth (.int x)) S) QB = QB (x != 0) S := rfl
theorem t_bl {k : Bool} : W (M.opt (truth (.bl k)) S) QB = QB k S := rfl
theorem t_non : W (M.opt (truth .non) S) QB = QB false S := rfl
theorem t_lst {xs : List D} : W (M.opt (truth (.lst xs)) S) QB = QB (!xs.isEmpty) S := rfl
theorem irng_map (lo : Int) (n : Nat) : irng lo n = (List.range n).map fun (k : Nat) => D.int (lo + (k : Int)) := rfl
theorem r_rng1 {n : Nat} (h : n < 2 ^ 59) {Q : List D → Sl → Prop} : W (M.opt (walkD .rng1 [.int (n : Int)]) S) Q = Q ((List.range n).map fun (k : Nat) => D.int (k : Int)) S := by
  have e : walkD .rng1 [.int (n : Int)] = some ((List.range n).map fun (k : Nat) => D.int (k : Int)) := by
    show rngD 0 (n : Int) = _
    unfold rngD
    have : rngOk 0 (n : Int) = true := by unfold rngOk; exact decide_eq_true (by omega)
    rw [if_pos this]
    unfold irng
    simp
  rw [e]; rfl
theorem r_rng2 {a b : Int} (h1 : -(2 ^ 60) < a) (h2 : a < 2 ^ 60) (h3 : -(2 ^ 60) < b) (h4 : b < 2 ^ 60) {Q : List D → Sl → Prop} : W (M.opt (walkD .rng2 [.int a, .int b]) S) Q = Q ((List.range (b - a).toNat).map fun (k : Nat) => D.int (a + (k : Int))) S := by
  have e : walkD .rng2 [.int a, .int b] = some ((List.range (b - a).toNat).map fun (k : Nat) => D.int (a + (k : Int))) := by
    show rngD a b = _
    unfold rngD
    have : rngOk a b = true := by unfold rngOk; exact decide_eq_true (by omega)
    rw [if_pos this]; rfl
  rw [e]; rfl
theorem r_seq {xs : List D} {Q : List D → Sl → Prop} : W (M.opt (walkD .seq [.lst xs]) S) Q = Q xs S := rfl
theorem r_seqt {xs : List D} {Q : List D → Sl → Prop} : W (M.opt (walkD .seq [.tup xs]) S) Q = Q xs S := rfl
theorem b_sum {xs : List D} {ns : List Int} (h : intsD xs = some ns) : W (M.opt (bltD .sum [.lst xs]) S) QR = QR (.val (.int ns.sum)) S := by
  show W (M.opt ((intsD xs).bind fun ns => vi (sumI ns)) S) QR = _
  rw [h]; rfl
theorem b_all {xs : List D} {ns : List Bool} (h : boolsD xs = some ns) : W (M.opt (bltD .all [.lst xs]) S) QR = QR (.val (.bl (ns.all id))) S := by
  show W (M.opt ((boolsD xs).bind fun ns => vb (ns.all id)) S) QR = _
  rw [h]; rfl
theorem W_M {α : Type} {a : α} {Q : α → Sl → Prop} : W (.ok a S) Q = Q a S := rfl
theorem o_some {α : Type} {o : Option α} {a : α} {Q : α → Sl → Prop} (h : o = some a) : W (M.opt o S) Q = Q a S := by rw [h]; rfl
theorem b_len {xs : List D} : W (M.opt (bltD .len [.lst xs]) S) QR = QR (.val (.int xs.length)) S := rfl
theorem b_lent {xs : List D} : W (M.opt (bltD .len [.tup xs]) S) QR = QR (.val (.int xs.length)) S := rfl
theorem b_lens {xs : List Int} : W (M.opt (bltD .len [.scr xs]) S) QR = QR (.val (.int xs.length)) S := rfl
theorem b_abs : W (M.opt (bltD .abs [.int x]) S) QR = QR (.val (.int (if x < 0 then -x else x))) S := rfl
theorem b_max2 : W (M.opt (bltD .max2 [.int x, .int y]) S) QR = QR (.val (.int (if y > x then y else x))) S := rfl
theorem b_min2 : W (M.opt (bltD .min2 [.int x, .int y]) S) QR = QR (.val (.int (if y < x then y else x))) S := rfl
theorem b_int : W (M.opt (bltD .int [.int x]) S) QR = QR (.val (.int x)) S := rfl
theorem b_tuple {xs : List D} : W (M.opt (bltD .tuple [.lst xs]) S) QR = QR (.val (.tup xs)) S := rfl
theorem b_tuplet {xs : List D} : W (M.opt (bltD .tuple [.tup xs]) S) QR = QR (.val (.tup xs)) S := rfl
theorem b_list {xs : List D} : W (M.opt (bltD .list [.lst xs]) S) QR = QR (.fr xs) S := rfl
theorem b_listt {xs : List D} : W (M.opt (bltD .list [.tup xs]) S) QR = QR (.fr xs) S := rfl
end
end Pl
set_option Elab.async false
set_option linter.all false
set_option maxRecDepth 100000
/-! Pl: W with a continuation that simp does not enter (printed by genD.py). -/
namespace Pl
open PySem
structure Dm {α : Type} (a : α) : Type where
structure Wq {α : Type} (m : M α) (S : Sl) (Q : α → Sl → Prop) (_ : Dm Q := ⟨⟩) : Prop where mk ::
  out : W (m S) Q
theorem Wd_eq {α : Type} {m : M α} {S : Sl} {Q : α → Sl → Prop} : Wq m S Q = W (m S) Q := propext ⟨Wq.out, Wq.mk⟩
structure Wk (c : CRes) (Q : RV → Option (List D) → Prop) : Prop where mk ::
  out : Wc c Q
theorem Wk_eq {c : CRes} {Q : RV → Option (List D) → Prop} : Wk c Q = Wc c Q := propext ⟨Wk.out, Wk.mk⟩
theorem Wq.mono {α : Type} {m : M α} {S : Sl} {Q Q1 : α → Sl → Prop} (h : Wq m S Q) (k : ∀ a S, Q a S → Q1 a S) : Wq m S Q1 := ⟨W.mono h.out k⟩
theorem Wk.mono {c : CRes} {Q Q1 : RV → Option (List D) → Prop} (h : Wk c Q) (k : ∀ a S, Q a S → Q1 a S) : Wk c Q1 := ⟨Wc.mono h.out k⟩
section
variable {α β : Type} {Q : α → Sl → Prop} {R : β → Sl → Prop}
variable {G : Gam} {S : Sl} {QR : RV → Sl → Prop} {QD : D → Sl → Prop} {QO : Op → Sl → Prop} {QB : Bool → Sl → Prop} {QL : List D → Sl → Prop} {QC : Ctl → Sl → Prop} {QU : Unit → Sl → Prop} {a b c e : Ex} {es kes : List Ex} {i : Nat} {s : Sm} {ss : List Sm} {x y : Int}
theorem dW_bind {m : M α} {f : α → M β} : Wq (m.bind f) S R = Wq (m) S (fun a S' => Wq (f a) S' R) := by
  simp only [Wd_eq]; exact W_bind 
theorem dW_pure {a : α} : Wq (M.pure a) S Q = Q a S := by
  simp only [Wd_eq]; exact W_pure 
theorem dW_some {a : α} : Wq (M.opt (some a)) S Q = Q a S := by
  simp only [Wd_eq]; exact W_some 
theorem dW_vi {i : Int} {Q : RV → Sl → Prop} : Wq (M.opt (vi i)) S Q = Q (.val (.int i)) S := by
  simp only [Wd_eq]; exact W_vi 
theorem dW_vb {i : Bool} {Q : RV → Sl → Prop} : Wq (M.opt (vb i)) S Q = Q (.val (.bl i)) S := by
  simp only [Wd_eq]; exact W_vb 
theorem dW_toD {m : M RV} {Q : D → Sl → Prop} : Wq (m.toD) S Q = Wq (m) S (fun r S' => Q r.d S') := by
  simp only [Wd_eq]; exact W_toD 
theorem dW_rd {i : Nat} {Q : RV → Sl → Prop} : Wq (rdS i) S Q = (match getS S i with
    | .val d => Q (.val d) S
    | .own xs => Q (.val (.lst xs)) (S.set i (.val (.lst xs)))
    | _ => False) := by
  simp only [Wd_eq]; exact W_rd 
theorem dW_mv {i : Nat} {Q : RV → Sl → Prop} : Wq (mvS i) S Q = (match getS S i with
    | .val d => Q (.val d) S
    | .own xs => Q (.fr xs) (S.set i .un)
    | _ => False) := by
  simp only [Wd_eq]; exact W_mv 
theorem dW_op {i : Nat} {Q : Op → Sl → Prop} : Wq (opS i) S Q = (match getS S i with
    | .val d => Q (.dat d) S
    | .own _ => Q (.at i) S
    | .io _ => Q (.at i) S
    | _ => False) := by
  simp only [Wd_eq]; exact W_op 
theorem dW_own {i : Nat} {Q : List D → Sl → Prop} : Wq (ownS i) S Q = (match getS S i with
    | .own xs => Q xs S
    | .io xs => Q xs S
    | _ => False) := by
  simp only [Wd_eq]; exact W_own 
theorem dW_get_dat {d : D} {Q : D → Sl → Prop} : Wq ((Op.dat d).get) S Q = Q d S := by
  simp only [Wd_eq]; exact W_get_dat 
theorem dW_get_at {i : Nat} {Q : D → Sl → Prop} : Wq ((Op.at i).get) S Q = (match getS S i with
    | .own xs => Q (.lst xs) S
    | .io xs => Q (.lst xs) S
    | _ => False) := by
  simp only [Wd_eq]; exact W_get_at 
theorem dW_gets_nil {Q : List D → Sl → Prop} : Wq (gets []) S Q = Q [] S := by
  simp only [Wd_eq]; exact W_gets_nil 
theorem dW_gets_cons {p : Op} {ps : List Op} {Q : List D → Sl → Prop} : Wq (gets (p :: ps)) S Q = Wq (p.get) S (fun d S' => Wq (gets ps) S' (fun ds S'' => Q (d :: ds) S'')) := by
  simp only [Wd_eq]; exact W_gets_cons 
theorem dW_put {i : Nat} {xs : List D} {Q : Unit → Sl → Prop} : Wq (putS i xs) S Q = (match getS S i with
    | .own _ => Q () (S.set i (.own xs))
    | .io _ => Q () (S.set i (.io xs))
    | _ => False) := by
  simp only [Wd_eq]; exact W_put 
theorem dW_val {i : Nat} {Q : D → Sl → Prop} : Wq (valS i) S Q = (match getS S i with
    | .val d => Q d S
    | _ => False) := by
  simp only [Wd_eq]; exact W_val 
theorem dW_bool {m : M Bool} {Q : RV → Sl → Prop} : Wq (boolM m) S Q = Wq (m) S (fun b S' => Q (.val (.bl b)) S') := by
  simp only [Wd_eq]; exact W_bool 
theorem dW_tru {m : M RV} {Q : Bool → Sl → Prop} : Wq (truM m) S Q = Wq (m) S (fun r S' => Wq (M.opt (truth r.d)) S' Q) := by
  simp only [Wd_eq]; exact W_tru 
theorem dW_nx {m : M Unit} {Q : Ctl → Sl → Prop} : Wq (nxM m) S Q = Wq (m) S (fun _ S' => Q .nx S') := by
  simp only [Wd_eq]; exact W_nx 
theorem dW_sto {i : Nat} {own : Bool} {r : RV} {Q : Unit → Sl → Prop} (hi : i < S.length) : Wq (stoS i own r) S Q = Q () (S.set i (stoV own r)) := by
  simp only [Wd_eq]; exact W_sto hi
theorem dW_ite {c : Prop} [Decidable c] {m m' : M α} : Wq ((if c then m else m')) S Q = if c then Wq (m) S Q else Wq (m') S Q := by
  simp only [Wd_eq]; exact W_ite 
theorem dW_keep {acc : List D} {y : D} {Q : List D → Sl → Prop} : Wq (keepM acc y) S Q = (acc.length < lim ∧ Q (acc ++ [y]) S) := by
  simp only [Wd_eq]; exact W_keep 
theorem de_opv : Wq (opX G (.v i)) S QO = (match getS S i with
    | .val d => QO (.dat d) S
    | .own _ => QO (.at i) S
    | .io _ => QO (.at i) S
    | _ => False) := by
  simp only [Wd_eq]; exact e_opv 
theorem de_ope (h : isVb a = false) : Wq (opX G a) S QO = Wq (evE G a) S (fun r S' => QO (.dat r.d) S') := by
  simp only [Wd_eq]; exact e_ope h
theorem de_c {d : D} : Wq (evE G (.c d)) S QR = QR (.val d) S := by
  simp only [Wd_eq]; exact e_c 
theorem de_v : Wq (evE G (.v i)) S QR = (match getS S i with
    | .val d => QR (.val d) S
    | .own xs => QR (.val (.lst xs)) (S.set i (.val (.lst xs)))
    | _ => False) := by
  simp only [Wd_eq]; exact e_v 
theorem de_io : Wq (evE G (.io i)) S QR = (match getS S i with
    | .own xs => QR (.val .non) S
    | .io xs => QR (.val .non) S
    | _ => False) := by
  simp only [Wd_eq]; exact e_io 
theorem de_bin {o : Bop} : Wq (evE G (.bin o a b)) S QR = Wq (opX G a) S (fun p S1 => Wq (opX G b) S1 fun q S2 => Wq (p.get) S2 fun x S3 => Wq (q.get) S3 fun y S4 => Wq (M.opt (binD o x y)) S4 QR) := by
  simp only [Wd_eq]; exact e_bin 
theorem de_un {o : Uop} : Wq (evE G (.un o a)) S QR = Wq (opX G a) S (fun p S1 => Wq (p.get) S1 fun x S3 => Wq (M.opt (unD o x)) S3 QR) := by
  simp only [Wd_eq]; exact e_un 
theorem de_cmp {o : Cop} : Wq (evE G (.cmp o a b)) S QR = Wq (opX G a) S (fun p S1 => Wq (opX G b) S1 fun q S2 => Wq (p.get) S2 fun x S3 => Wq (q.get) S3 fun y S4 => Wq (M.opt (cmpD o x y)) S4 fun k S5 => QR (.val (.bl k)) S5) := by
  simp only [Wd_eq]; exact e_cmp 
theorem de_chain {o o' : Cop} : Wq (evE G (.chain o o' a b c)) S QR = Wq (evE G a) S (fun x S1 => Wq (evE G b) S1 fun y S2 => Wq (M.opt (cmpD o x.d y.d)) S2 fun k S3 => if k = true then Wq (evE G c) S3 (fun z S4 => Wq (M.opt (cmpD o' y.d z.d)) S4 fun k S5 => QR (.val (.bl k)) S5) else QR (.val (.bl false)) S3) := by
  simp only [Wd_eq]; exact e_chain 
theorem de_and : Wq (evE G (.and a b)) S QR = Wq (evE G a) S (fun x S1 => Wq (M.opt (truth x.d)) S1 fun k S2 => if k = true then Wq (evE G b) S2 QR else QR (.val x.d) S2) := by
  simp only [Wd_eq]; exact e_and 
theorem de_or : Wq (evE G (.or a b)) S QR = Wq (evE G a) S (fun x S1 => Wq (M.opt (truth x.d)) S1 fun k S2 => if k = true then QR (.val x.d) S2 else Wq (evE G b) S2 QR) := by
  simp only [Wd_eq]; exact e_or 
theorem de_not : Wq (evE G (.not a)) S QR = Wq (evE G a) S (fun x S1 => Wq (M.opt (truth x.d)) S1 fun k S2 => QR (.val (.bl (!k))) S2) := by
  simp only [Wd_eq]; exact e_not 
theorem de_ite : Wq (evE G (.ite c a b)) S QR = Wq (evE G c) S (fun x S1 => Wq (M.opt (truth x.d)) S1 fun k S2 => if k = true then Wq (evE G a) S2 QR else Wq (evE G b) S2 QR) := by
  simp only [Wd_eq]; exact e_ite 
theorem de_tup : Wq (evE G (.tup es)) S QR = Wq (evEs G es) S (fun xs S1 => xs.length ≤ lim ∧ QR (.val (.tup xs)) S1) := by
  simp only [Wd_eq]; exact e_tup 
theorem de_lst : Wq (evE G (.lst es)) S QR = Wq (evEs G es) S (fun xs S1 => xs.length ≤ lim ∧ QR (.fr xs) S1) := by
  simp only [Wd_eq]; exact e_lst 
theorem de_ix : Wq (evE G (.ix a b)) S QR = Wq (opX G a) S (fun p S1 => Wq (evE G b) S1 fun y S2 => Wq (p.get) S2 fun x S3 => Wq (M.opt (itemD x y.d)) S3 QR) := by
  simp only [Wd_eq]; exact e_ix 
theorem de_sl {lo hi : Ex} : Wq (evE G (.sl a lo hi)) S QR = Wq (opX G a) S (fun p S1 => Wq (partOf lo (evE G lo)) S1 fun l S2 => Wq (partOf hi (evE G hi)) S2 fun h S3 => Wq (p.get) S3 fun x S4 => Wq (M.opt (sliceD x l h)) S4 QR) := by
  simp only [Wd_eq]; exact e_sl 
theorem de_pnil {m : M RV} {Q : Option Int → Sl → Prop} : Wq (partOf .nil m) S Q = Q none S := by
  simp only [Wd_eq]; exact e_pnil 
theorem de_part {Q : Option Int → Sl → Prop} (h : isNl a = false) : Wq (partOf a (evE G a)) S Q = Wq (evE G a) S (fun r S' => Wq (M.opt (partD r.d)) S' fun i S'' => Q (some i) S'') := by
  simp only [Wd_eq]; exact e_part h
theorem de_rev : Wq (evE G (.rev a)) S QR = Wq (opX G a) S (fun p S1 => Wq (p.get) S1 fun x S3 => Wq (M.opt (revD x)) S3 QR) := by
  simp only [Wd_eq]; exact e_rev 
theorem de_fld {f : Nat} : Wq (evE G (.fld a f)) S QR = Wq (evE G a) S (fun x S1 => Wq (M.opt (fldD f x.d)) S1 QR) := by
  simp only [Wd_eq]; exact e_fld 
theorem de_sfld {f : Nat} : Wq (evE G (.sfld f)) S QR = (match getS S 0 with
    | .slf c ks xs => Wq (M.opt (fldD f (.obj c ks xs))) S QR
    | _ => False) := by
  simp only [Wd_eq]; exact e_sfld 
theorem de_call {f : Nat} {pm : List Pm} : Wq (evE G (.call f es kes pm)) S QR = Wq (evEs G es) S (fun ws S1 => Wq (evEs G kes) S1 fun zs S2 => Wq (M.opt (pmD (ws ++ zs) pm)) S2 fun xs S3 => Wq (callM G.call f (ioOf (es ++ kes)) xs) S3 QR) := by
  simp only [Wd_eq]; exact e_call 
theorem de_make {f : Nat} {pm : List Pm} : Wq (evE G (.make f es kes pm)) S QR = Wq (evEs G es) S (fun ws S1 => Wq (evEs G kes) S1 fun zs S2 => Wq (M.opt (pmD (ws ++ zs) pm)) S2 fun xs S3 => Wq (makeM G.make f xs) S3 QR) := by
  simp only [Wd_eq]; exact e_make 
theorem de_meth {m : Nat} {pm : List Pm} : Wq (evE G (.meth a m es kes pm)) S QR = Wq (evE G a) S (fun x S0 => Wq (M.opt (methD G m x.d)) S0 fun f S0 => Wq (evEs G es) S0 fun ws S1 => Wq (evEs G kes) S1 fun zs S2 => Wq (M.opt (pmD (x.d :: (ws ++ zs)) pm)) S2 fun xs S3 => Wq (callM G.call f (ioOf (.nil :: (es ++ kes))) xs) S3 QR) := by
  simp only [Wd_eq]; exact e_meth 
theorem de_blt {o : Blt} : Wq (evE G (.blt o es)) S QR = Wq (evPs G es) S (fun ps S1 => Wq (gets ps) S1 fun xs S2 => Wq (M.opt (bltD o xs)) S2 QR) := by
  simp only [Wd_eq]; exact e_blt 
theorem de_isi {ts : List Tg} : Wq (evE G (.isi a ts)) S QR = Wq (opX G a) S (fun p S1 => Wq (p.get) S1 fun x S2 => Wq (M.opt (isTgs x ts)) S2 fun k S3 => QR (.val (.bl k)) S3) := by
  simp only [Wd_eq]; exact e_isi 
theorem de_mut {m : Mut} : Wq (evE G (.mut i m es)) S QR = (match getS S i with
    | .own _ => Wq (evEs G es) S (fun ws S1 => Wq (ownS i) S1 fun xs S2 => Wq (M.opt (mutD m xs ws)) S2 fun p S3 => Wq (putS i p.2) S3 fun _ S4 => QR (.val p.1) S4)
    | .io _ => Wq (evEs G es) S (fun ws S1 => Wq (ownS i) S1 fun xs S2 => Wq (M.opt (mutD m xs ws)) S2 fun p S3 => Wq (putS i p.2) S3 fun _ S4 => QR (.val p.1) S4)
    | _ => False) := by
  simp only [Wd_eq]; exact e_mut 
theorem de_lc1 {vs : List Nat} {k : Ik} {it fs : List Ex} {g : Tgt} : Wq (evE G (.lc1 vs k it g fs e)) S QR = Wq (evEs G it) S (fun ds S1 => Wq (M.opt (walkD k ds)) S1 fun xs S2 =>
    Wq (blockM vs (compM vs g (fun acc => (evTs G fs).bind fun b => if b then (evE G e).toD.bind fun y => keepM acc y else M.pure acc) xs [])) S2 QR) := by
  simp only [Wd_eq]; exact e_lc1 
theorem de_es0 : Wq (evEs G []) S QL = QL [] S := by
  simp only [Wd_eq]; exact e_es0 
theorem de_es (h : isSt e = false) : Wq (evEs G (e :: es)) S QL = Wq (evE G e) S (fun d S1 => Wq (evEs G es) S1 fun ds S2 => QL (d.d :: ds) S2) := by
  simp only [Wd_eq]; exact e_es h
theorem de_star : Wq (evEs G (.star e :: es)) S QL = Wq (evE G e) S (fun d S1 => Wq (M.opt (starD d.d)) S1 fun xs S2 => Wq (evEs G es) S2 fun ds S3 => QL (xs ++ ds) S3) := by
  simp only [Wd_eq]; exact e_star 
theorem de_ps0 {Q : List Op → Sl → Prop} : Wq (evPs G []) S Q = Q [] S := by
  simp only [Wd_eq]; exact e_ps0 
theorem de_ps {Q : List Op → Sl → Prop} : Wq (evPs G (e :: es)) S Q = Wq (opX G e) S (fun p S1 => Wq (evPs G es) S1 fun ps S2 => Q (p :: ps) S2) := by
  simp only [Wd_eq]; exact e_ps 
theorem de_ts0 : Wq (evTs G []) S QB = QB true S := by
  simp only [Wd_eq]; exact e_ts0 
theorem de_ts : Wq (evTs G (e :: es)) S QB = Wq (evE G e) S (fun x S1 => Wq (M.opt (truth x.d)) S1 fun k S2 => if k = true then Wq (evTs G es) S2 QB else QB false S2) := by
  simp only [Wd_eq]; exact e_ts 
theorem de_rs0 {Q : List RV → Sl → Prop} : Wq (evRs G []) S Q = Q [] S := by
  simp only [Wd_eq]; exact e_rs0 
theorem de_rs {Q : List RV → Sl → Prop} : Wq (evRs G (e :: es)) S Q = Wq (evE G e) S (fun r S1 => Wq (evRs G es) S1 fun rs S2 => Q (r :: rs) S2) := by
  simp only [Wd_eq]; exact e_rs 
theorem ds_nil : Wq (exSs G []) S QC = QC .nx S := by
  simp only [Wd_eq]; exact s_nil 
theorem ds_cons : Wq (exSs G (s :: ss)) S QC = Wq (exS G s) S (fun c S1 => match c with
    | .nx => Wq (exSs G ss) S1 QC
    | .rt r => QC (.rt r) S1
    | .bk => QC .bk S1
    | .ct => QC .ct S1) := by
  simp only [Wd_eq]; exact s_cons 
theorem ds_asgn {own : Bool} : Wq (exS G (.asg (.nm i own) e)) S QC = Wq (evE G e) S (fun r S1 => Wq (stoS i own r) S1 fun _ S2 => QC .nx S2) := by
  simp only [Wd_eq]; exact s_asgn 
theorem ds_sto {own : Bool} {r : RV} : Wq (stoS i own r) S QU = (i < S.length ∧ QU () (S.set i (stoV own r))) := by
  simp only [Wd_eq]; exact s_sto 
theorem ds_sub {r : RV} : Wq (stoA G (.sub i e) r) S QU = (match getS S i with
    | .own _ => Wq (evE G e) S (fun k S1 => Wq (subX G i k.d r) S1 QU)
    | .io _ => Wq (evE G e) S (fun k S1 => Wq (subX G i k.d r) S1 QU)
    | _ => False) := by
  simp only [Wd_eq]; exact s_sub 
theorem ds_subX {j : Int} {r : RV} : Wq (subX G i (.int j) r) S QU = (match getS S i with
    | .own xs => Wq (M.opt (ixD xs.length j)) S (fun n S1 => Wq (putS i (xs.set n r.d)) S1 QU)
    | .io xs => Wq (M.opt (ixD xs.length j)) S (fun n S1 => Wq (putS i (xs.set n r.d)) S1 QU)
    | _ => False) := by
  simp only [Wd_eq]; exact s_subX 
theorem ds_asgs {k : Ex} : Wq (exS G (.asg (.sub i k) e)) S QC = Wq (evE G e) S (fun r S1 => Wq (stoA G (.sub i k) r) S1 fun _ S2 => QC .nx S2) := by
  simp only [Wd_eq]; exact s_asgs 
theorem ds_asgf {f : Nat} : Wq (exS G (.asg (.fld f) e)) S QC = Wq (evE G e) S (fun r S1 => Wq (stoA G (.fld f) r) S1 fun _ S2 => QC .nx S2) := by
  simp only [Wd_eq]; exact s_asgf 
theorem ds_fld {f : Nat} {r : RV} : Wq (stoA G (.fld f) r) S QU = (match getS S 0 with
    | .slf c ks xs => if (ks.contains f || decide (900 ≤ ks.length)) = true then False else QU () (S.set 0 (.slf c (ks ++ [f]) (xs ++ [r.d])))
    | _ => False) := by
  simp only [Wd_eq]; exact s_fld 
theorem ds_par {ts : List Ta} : Wq (exS G (.par ts es)) S QC = Wq (evRs G es) S (fun rs S1 => Wq (parL (ts.map (stoA G)) rs) S1 fun _ S2 => QC .nx S2) := by
  simp only [Wd_eq]; exact s_par 
theorem ds_parL {ts : List Ta} {rs : List RV} (h : rs.length = ts.length) : Wq (parL (ts.map (stoA G)) rs) S QU = Wq (stoX G ts rs) S QU := by
  simp only [Wd_eq]; exact s_parL h
theorem ds_stoX0 : Wq (stoX G [] []) S QU = QU () S := by
  simp only [Wd_eq]; exact s_stoX0 
theorem ds_stoXn {own : Bool} {ts : List Ta} {r : RV} {rs : List RV} : Wq (stoX G (.nm i own :: ts) (r :: rs)) S QU = Wq (stoS i own r) S (fun _ S1 => Wq (stoX G ts rs) S1 QU) := by
  simp only [Wd_eq]; exact s_stoXn 
theorem ds_stoXs {ts : List Ta} {r : RV} {rs : List RV} : Wq (stoX G (.sub i e :: ts) (r :: rs)) S QU = Wq (stoA G (.sub i e) r) S (fun _ S1 => Wq (stoX G ts rs) S1 QU) := by
  simp only [Wd_eq]; exact s_stoXs 
theorem ds_unp {is : List Nat} : Wq (exS G (.unp is e)) S QC = Wq (evE G e) S (fun d S1 => Wq (unpM is d.d) S1 fun _ S2 => QC .nx S2) := by
  simp only [Wd_eq]; exact s_unp 
theorem ds_unpT {is : List Nat} {xs : List D} : Wq (unpM is (.tup xs)) S QU = (match tupS is xs S with
    | some S' => QU () S'
    | none => False) := by
  simp only [Wd_eq]; exact s_unpT 
theorem ds_aug {o : Bop} : Wq (exS G (.aug i o e)) S QC = Wq (valS i) S (fun x S1 => Wq (evE G e) S1 fun y S2 => Wq (M.opt (augD o x y.d)) S2 fun d S3 => Wq (stoS i false (.val d)) S3 fun _ S4 => QC .nx S4) := by
  simp only [Wd_eq]; exact s_aug 
theorem ds_expr : Wq (exS G (.expr e)) S QC = Wq (evE G e) S (fun _ S1 => QC .nx S1) := by
  simp only [Wd_eq]; exact s_expr 
theorem ds_retv : Wq (exS G (.ret (.v i))) S QC = (match getS S i with
    | .val d => QC (.rt (.val d)) S
    | .own xs => QC (.rt (.fr xs)) (S.set i .un)
    | _ => False) := by
  simp only [Wd_eq]; exact s_retv 
theorem ds_ret (h : isVb e = false) : Wq (exS G (.ret e)) S QC = Wq (evE G e) S (fun r S1 => QC (.rt r) S1) := by
  simp only [Wd_eq]; exact s_ret h
theorem ds_iff {s1 s2 : List Sm} : Wq (exS G (.iff e s1 s2)) S QC = Wq (evE G e) S (fun x S1 => Wq (M.opt (truth x.d)) S1 fun k S2 => if k = true then Wq (exSs G s1) S2 QC else Wq (exSs G s2) S2 QC) := by
  simp only [Wd_eq]; exact s_iff 
theorem ds_for {k : Ik} {it : List Ex} {g : Tgt} {bd : List Sm} : Wq (exS G (.for k it g bd)) S QC = Wq (evEs G it) S (fun ds S1 => Wq (M.opt (walkD k ds)) S1 fun xs S2 => Wq (forL g (exSs G bd) xs) S2 QC) := by
  simp only [Wd_eq]; exact s_for 
theorem ds_wh {bd : List Sm} : Wq (exS G (.wh e bd)) S QC = Wq (whL (truM (evE G e)) (exSs G bd) wlim) S QC := by
  simp only [Wd_eq]; exact s_wh 
theorem ds_pass : Wq (exS G .pass) S QC = QC .nx S := by
  simp only [Wd_eq]; exact s_pass 
theorem ds_brk : Wq (exS G .brk) S QC = QC .bk S := by
  simp only [Wd_eq]; exact s_brk 
theorem ds_cont : Wq (exS G .cont) S QC = QC .ct S := by
  simp only [Wd_eq]; exact s_cont 
theorem do_add : Wq (M.opt (binD .add (.int x) (.int y))) S QR = QR (.val (.int (x + y))) S := by
  simp only [Wd_eq]; exact o_add 
theorem do_sub : Wq (M.opt (binD .sub (.int x) (.int y))) S QR = QR (.val (.int (x - y))) S := by
  simp only [Wd_eq]; exact o_sub 
theorem do_and : Wq (M.opt (binD .and (.int x) (.int y))) S QR = QR (.val (.int (Builtin.bitAnd x y))) S := by
  simp only [Wd_eq]; exact o_and 
theorem do_or : Wq (M.opt (binD .or (.int x) (.int y))) S QR = QR (.val (.int (Builtin.bitOr x y))) S := by
  simp only [Wd_eq]; exact o_or 
theorem do_xor : Wq (M.opt (binD .xor (.int x) (.int y))) S QR = QR (.val (.int (Builtin.bitXor x y))) S := by
  simp only [Wd_eq]; exact o_xor 
theorem do_if {p : Prop} [Decidable p] {o : Option RV} : Wq (M.opt (if p then o else none)) S QR = (p ∧ Wq (M.opt o) S QR) := by
  simp only [Wd_eq]; exact o_if 
theorem do_mul : Wq (M.opt (binD .mul (.int x) (.int y))) S QR = ((small x || small y) = true ∧ QR (.val (.int (x * y))) S) := by
  simp only [Wd_eq]; exact o_mul 
theorem do_fdiv : Wq (M.opt (binD .fdiv (.int x) (.int y))) S QR = ((y ≠ 0 ∧ y.natAbs < 1073741824) ∧ QR (.val (.int (x.fdiv y))) S) := by
  simp only [Wd_eq]; exact o_fdiv 
theorem do_mod : Wq (M.opt (binD .mod (.int x) (.int y))) S QR = (y ≠ 0 ∧ QR (.val (.int (x.fmod y))) S) := by
  simp only [Wd_eq]; exact o_mod 
theorem do_pow : Wq (M.opt (binD .pow (.int x) (.int y))) S QR = ((0 ≤ y ∧ y ≤ 1000 ∧ small x = true) ∧ QR (.val (.int (x ^ y.toNat))) S) := by
  simp only [Wd_eq]; exact o_pow 
theorem do_shl : Wq (M.opt (binD .shl (.int x) (.int y))) S QR = ((0 ≤ y ∧ y ≤ 1000 ∧ small x = true) ∧ QR (.val (.int (x * 2 ^ y.toNat))) S) := by
  simp only [Wd_eq]; exact o_shl 
theorem do_shr : Wq (M.opt (binD .shr (.int x) (.int y))) S QR = (0 ≤ y ∧ QR (.val (.int (x / 2 ^ y.toNat))) S) := by
  simp only [Wd_eq]; exact o_shr 
theorem do_addL {xs ys : List D} : Wq (M.opt (binD .add (.lst xs) (.lst ys))) S QR = ((xs ++ ys).length ≤ lim ∧ QR (.fr (xs ++ ys)) S) := by
  simp only [Wd_eq]; exact o_addL 
theorem do_addT {xs ys : List D} : Wq (M.opt (binD .add (.tup xs) (.tup ys))) S QR = ((xs ++ ys).length ≤ lim ∧ QR (.val (.tup (xs ++ ys))) S) := by
  simp only [Wd_eq]; exact o_addT 
theorem do_mulL {xs : List D} : Wq (M.opt (binD .mul (.lst xs) (.int y))) S QR = ((xs.length * y.toNat ≤ lim ∧ -(2 ^ 62) < y ∧ y < 2 ^ 62) ∧ QR (.fr (List.replicate y.toNat xs).flatten) S) := by
  simp only [Wd_eq]; exact o_mulL 
theorem do_inv : Wq (M.opt (unD .inv (.int x))) S QR = QR (.val (.int (Builtin.bitNot x))) S := by
  simp only [Wd_eq]; exact o_inv 
theorem do_neg : Wq (M.opt (unD .neg (.int x))) S QR = QR (.val (.int (-x))) S := by
  simp only [Wd_eq]; exact o_neg 
theorem do_lt : Wq (M.opt (cmpD .lt (.int x) (.int y))) S QB = QB (decide (x < y)) S := by
  simp only [Wd_eq]; exact o_lt 
theorem do_le : Wq (M.opt (cmpD .le (.int x) (.int y))) S QB = QB (decide (x ≤ y)) S := by
  simp only [Wd_eq]; exact o_le 
theorem do_gt : Wq (M.opt (cmpD .gt (.int x) (.int y))) S QB = QB (decide (y < x)) S := by
  simp only [Wd_eq]; exact o_gt 
theorem do_ge : Wq (M.opt (cmpD .ge (.int x) (.int y))) S QB = QB (decide (y ≤ x)) S := by
  simp only [Wd_eq]; exact o_ge 
theorem do_eq : Wq (M.opt (cmpD .eq (.int x) (.int y))) S QB = QB (decide (x = y)) S := by
  simp only [Wd_eq]; exact o_eq 
theorem do_ne : Wq (M.opt (cmpD .ne (.int x) (.int y))) S QB = QB (!decide (x = y)) S := by
  simp only [Wd_eq]; exact o_ne 
theorem do_item {xs : List D} : Wq (M.opt (itemD (.lst xs) (.int x))) S QR = (match atD xs x with
    | some d => QR (.val d) S
    | none => False) := by
  simp only [Wd_eq]; exact o_item 
theorem do_itemT {xs : List D} : Wq (M.opt (itemD (.tup xs) (.int x))) S QR = (match atD xs x with
    | some d => QR (.val d) S
    | none => False) := by
  simp only [Wd_eq]; exact o_itemT 
theorem dt_int : Wq (M.opt (truth (.int x))) S QB = QB (x != 0) S := by
  simp only [Wd_eq]; exact t_int 
theorem dt_bl {k : Bool} : Wq (M.opt (truth (.bl k))) S QB = QB k S := by
  simp only [Wd_eq]; exact t_bl 
theorem dt_non : Wq (M.opt (truth .non)) S QB = QB false S := by
  simp only [Wd_eq]; exact t_non 
theorem dt_lst {xs : List D} : Wq (M.opt (truth (.lst xs))) S QB = QB (!xs.isEmpty) S := by
  simp only [Wd_eq]; exact t_lst 
theorem dr_rng1 {n : Nat} (h : n < 2 ^ 59) {Q : List D → Sl → Prop} : Wq (M.opt (walkD .rng1 [.int (n : Int)])) S Q = Q ((List.range n).map fun (k : Nat) => D.int (k : Int)) S := by
  simp only [Wd_eq]; exact r_rng1 h
theorem dr_rng2 {a b : Int} (h1 : -(2 ^ 60) < a) (h2 : a < 2 ^ 60) (h3 : -(2 ^ 60) < b) (h4 : b < 2 ^ 60) {Q : List D → Sl → Prop} : Wq (M.opt (walkD .rng2 [.int a, .int b])) S Q = Q ((List.range (b - a).toNat).map fun (k : Nat) => D.int (a + (k : Int))) S := by
  simp only [Wd_eq]; exact r_rng2 h1 h2 h3 h4
theorem dr_seq {xs : List D} {Q : List D → Sl → Prop} : Wq (M.opt (walkD .seq [.lst xs])) S Q = Q xs S := by
  simp only [Wd_eq]; exact r_seq 
theorem dr_seqt {xs : List D} {Q : List D → Sl → Prop} : Wq (M.opt (walkD .seq [.tup xs])) S Q = Q xs S := by
  simp only [Wd_eq]; exact r_seqt 
theorem db_sum {xs : List D} {ns : List Int} (h : intsD xs = some ns) : Wq (M.opt (bltD .sum [.lst xs])) S QR = QR (.val (.int ns.sum)) S := by
  simp only [Wd_eq]; exact b_sum h
theorem db_all {xs : List D} {ns : List Bool} (h : boolsD xs = some ns) : Wq (M.opt (bltD .all [.lst xs])) S QR = QR (.val (.bl (ns.all id))) S := by
  simp only [Wd_eq]; exact b_all h
theorem do_some {α : Type} {o : Option α} {a : α} {Q : α → Sl → Prop} (h : o = some a) : Wq (M.opt o) S Q = Q a S := by
  simp only [Wd_eq]; exact o_some h
theorem db_len {xs : List D} : Wq (M.opt (bltD .len [.lst xs])) S QR = QR (.val (.int xs.length)) S := by
  simp only [Wd_eq]; exact b_len 
theorem db_lent {xs : List D} : Wq (M.opt (bltD .len [.tup xs])) S QR = QR (.val (.int xs.length)) S := by
  simp only [Wd_eq]; exact b_lent 
theorem db_lens {xs : List Int} : Wq (M.opt (bltD .len [.scr xs])) S QR = QR (.val (.int xs.length)) S := by
  simp only [Wd_eq]; exact b_lens 
theorem db_abs : Wq (M.opt (bltD .abs [.int x])) S QR = QR (.val (.int (if x < 0 then -x else x))) S := by
  simp only [Wd_eq]; exact b_abs 
theorem db_max2 : Wq (M.opt (bltD .max2 [.int x, .int y])) S QR = QR (.val (.int (if y > x then y else x))) S := by
  simp only [Wd_eq]; exact b_max2 
theorem db_min2 : Wq (M.opt (bltD .min2 [.int x, .int y])) S QR = QR (.val (.int (if y < x then y else x))) S := by
  simp only [Wd_eq]; exact b_min2 
theorem db_int : Wq (M.opt (bltD .int [.int x])) S QR = QR (.val (.int x)) S := by
  simp only [Wd_eq]; exact b_int 
theorem db_tuple {xs : List D} : Wq (M.opt (bltD .tuple [.lst xs])) S QR = QR (.val (.tup xs)) S := by
  simp only [Wd_eq]; exact b_tuple 
theorem db_tuplet {xs : List D} : Wq (M.opt (bltD .tuple [.tup xs])) S QR = QR (.val (.tup xs)) S := by
  simp only [Wd_eq]; exact b_tuplet 
theorem db_list {xs : List D} : Wq (M.opt (bltD .list [.lst xs])) S QR = QR (.fr xs) S := by
  simp only [Wd_eq]; exact b_list 
theorem db_listt {xs : List D} : Wq (M.opt (bltD .list [.tup xs])) S QR = QR (.fr xs) S := by
  simp only [Wd_eq]; exact b_listt 
theorem de_op_c {q0 : D} : Wq (opX G (.c q0)) S QO = Wq (evE G (.c q0)) S (fun r S1 => QO (.dat r.d) S1) := de_ope rfl
theorem ds_ret_c {q0 : D} : Wq (exS G (.ret (.c q0))) S QC = Wq (evE G (.c q0)) S (fun r S1 => QC (.rt r) S1) := ds_ret rfl
theorem de_es_c {q0 : D} : Wq (evEs G ((.c q0) :: es)) S QL = Wq (evE G (.c q0)) S (fun d S1 => Wq (evEs G es) S1 fun ds S2 => QL (d.d :: ds) S2) := de_es rfl
theorem de_pt_c {q0 : D} {Q : Option Int → Sl → Prop} : Wq (partOf (.c q0) (evE G (.c q0))) S Q = Wq (evE G (.c q0)) S (fun r S1 => Wq (M.opt (partD r.d)) S1 fun i S2 => Q (some i) S2) := de_part rfl
theorem de_es_v {q0 : Nat} : Wq (evEs G ((.v q0) :: es)) S QL = Wq (evE G (.v q0)) S (fun d S1 => Wq (evEs G es) S1 fun ds S2 => QL (d.d :: ds) S2) := de_es rfl
theorem de_pt_v {q0 : Nat} {Q : Option Int → Sl → Prop} : Wq (partOf (.v q0) (evE G (.v q0))) S Q = Wq (evE G (.v q0)) S (fun r S1 => Wq (M.opt (partD r.d)) S1 fun i S2 => Q (some i) S2) := de_part rfl
theorem de_op_io {q0 : Nat} : Wq (opX G (.io q0)) S QO = Wq (evE G (.io q0)) S (fun r S1 => QO (.dat r.d) S1) := de_ope rfl
theorem ds_ret_io {q0 : Nat} : Wq (exS G (.ret (.io q0))) S QC = Wq (evE G (.io q0)) S (fun r S1 => QC (.rt r) S1) := ds_ret rfl
theorem de_es_io {q0 : Nat} : Wq (evEs G ((.io q0) :: es)) S QL = Wq (evE G (.io q0)) S (fun d S1 => Wq (evEs G es) S1 fun ds S2 => QL (d.d :: ds) S2) := de_es rfl
theorem de_pt_io {q0 : Nat} {Q : Option Int → Sl → Prop} : Wq (partOf (.io q0) (evE G (.io q0))) S Q = Wq (evE G (.io q0)) S (fun r S1 => Wq (M.opt (partD r.d)) S1 fun i S2 => Q (some i) S2) := de_part rfl
theorem de_op_bin {q0 : Bop} {q1 : Ex} {q2 : Ex} : Wq (opX G (.bin q0 q1 q2)) S QO = Wq (evE G (.bin q0 q1 q2)) S (fun r S1 => QO (.dat r.d) S1) := de_ope rfl
theorem ds_ret_bin {q0 : Bop} {q1 : Ex} {q2 : Ex} : Wq (exS G (.ret (.bin q0 q1 q2))) S QC = Wq (evE G (.bin q0 q1 q2)) S (fun r S1 => QC (.rt r) S1) := ds_ret rfl
theorem de_es_bin {q0 : Bop} {q1 : Ex} {q2 : Ex} : Wq (evEs G ((.bin q0 q1 q2) :: es)) S QL = Wq (evE G (.bin q0 q1 q2)) S (fun d S1 => Wq (evEs G es) S1 fun ds S2 => QL (d.d :: ds) S2) := de_es rfl
theorem de_pt_bin {q0 : Bop} {q1 : Ex} {q2 : Ex} {Q : Option Int → Sl → Prop} : Wq (partOf (.bin q0 q1 q2) (evE G (.bin q0 q1 q2))) S Q = Wq (evE G (.bin q0 q1 q2)) S (fun r S1 => Wq (M.opt (partD r.d)) S1 fun i S2 => Q (some i) S2) := de_part rfl
theorem de_op_un {q0 : Uop} {q1 : Ex} : Wq (opX G (.un q0 q1)) S QO = Wq (evE G (.un q0 q1)) S (fun r S1 => QO (.dat r.d) S1) := de_ope rfl
theorem ds_ret_un {q0 : Uop} {q1 : Ex} : Wq (exS G (.ret (.un q0 q1))) S QC = Wq (evE G (.un q0 q1)) S (fun r S1 => QC (.rt r) S1) := ds_ret rfl
theorem de_es_un {q0 : Uop} {q1 : Ex} : Wq (evEs G ((.un q0 q1) :: es)) S QL = Wq (evE G (.un q0 q1)) S (fun d S1 => Wq (evEs G es) S1 fun ds S2 => QL (d.d :: ds) S2) := de_es rfl
theorem de_pt_un {q0 : Uop} {q1 : Ex} {Q : Option Int → Sl → Prop} : Wq (partOf (.un q0 q1) (evE G (.un q0 q1))) S Q = Wq (evE G (.un q0 q1)) S (fun r S1 => Wq (M.opt (partD r.d)) S1 fun i S2 => Q (some i) S2) := de_part rfl
theorem de_op_cmp {q0 : Cop} {q1 : Ex} {q2 : Ex} : Wq (opX G (.cmp q0 q1 q2)) S QO = Wq (evE G (.cmp q0 q1 q2)) S (fun r S1 => QO (.dat r.d) S1) := de_ope rfl
theorem ds_ret_cmp {q0 : Cop} {q1 : Ex} {q2 : Ex} : Wq (exS G (.ret (.cmp q0 q1 q2))) S QC = Wq (evE G (.cmp q0 q1 q2)) S (fun r S1 => QC (.rt r) S1) := ds_ret rfl
theorem de_es_cmp {q0 : Cop} {q1 : Ex} {q2 : Ex} : Wq (evEs G ((.cmp q0 q1 q2) :: es)) S QL = Wq (evE G (.cmp q0 q1 q2)) S (fun d S1 => Wq (evEs G es) S1 fun ds S2 => QL (d.d :: ds) S2) := de_es rfl
theorem de_pt_cmp {q0 : Cop} {q1 : Ex} {q2 : Ex} {Q : Option Int → Sl → Prop} : Wq (partOf (.cmp q0 q1 q2) (evE G (.cmp q0 q1 q2))) S Q = Wq (evE G (.cmp q0 q1 q2)) S (fun r S1 => Wq (M.opt (partD r.d)) S1 fun i S2 => Q (some i) S2) := de_part rfl
theorem de_op_chain {q0 : Cop} {q1 : Cop} {q2 : Ex} {q3 : Ex} {q4 : Ex} : Wq (opX G (.chain q0 q1 q2 q3 q4)) S QO = Wq (evE G (.chain q0 q1 q2 q3 q4)) S (fun r S1 => QO (.dat r.d) S1) := de_ope rfl
theorem ds_ret_chain {q0 : Cop} {q1 : Cop} {q2 : Ex} {q3 : Ex} {q4 : Ex} : Wq (exS G (.ret (.chain q0 q1 q2 q3 q4))) S QC = Wq (evE G (.chain q0 q1 q2 q3 q4)) S (fun r S1 => QC (.rt r) S1) := ds_ret rfl
theorem de_es_chain {q0 : Cop} {q1 : Cop} {q2 : Ex} {q3 : Ex} {q4 : Ex} : Wq (evEs G ((.chain q0 q1 q2 q3 q4) :: es)) S QL = Wq (evE G (.chain q0 q1 q2 q3 q4)) S (fun d S1 => Wq (evEs G es) S1 fun ds S2 => QL (d.d :: ds) S2) := de_es rfl
theorem de_pt_chain {q0 : Cop} {q1 : Cop} {q2 : Ex} {q3 : Ex} {q4 : Ex} {Q : Option Int → Sl → Prop} : Wq (partOf (.chain q0 q1 q2 q3 q4) (evE G (.chain q0 q1 q2 q3 q4))) S Q = Wq (evE G (.chain q0 q1 q2 q3 q4)) S (fun r S1 => Wq (M.opt (partD r.d)) S1 fun i S2 => Q (some i) S2) := de_part rfl
theorem de_op_and {q0 : Ex} {q1 : Ex} : Wq (opX G (.and q0 q1)) S QO = Wq (evE G (.and q0 q1)) S (fun r S1 => QO (.dat r.d) S1) := de_ope rfl
theorem ds_ret_and {q0 : Ex} {q1 : Ex} : Wq (exS G (.ret (.and q0 q1))) S QC = Wq (evE G (.and q0 q1)) S (fun r S1 => QC (.rt r) S1) := ds_ret rfl
theorem de_es_and {q0 : Ex} {q1 : Ex} : Wq (evEs G ((.and q0 q1) :: es)) S QL = Wq (evE G (.and q0 q1)) S (fun d S1 => Wq (evEs G es) S1 fun ds S2 => QL (d.d :: ds) S2) := de_es rfl
theorem de_pt_and {q0 : Ex} {q1 : Ex} {Q : Option Int → Sl → Prop} : Wq (partOf (.and q0 q1) (evE G (.and q0 q1))) S Q = Wq (evE G (.and q0 q1)) S (fun r S1 => Wq (M.opt (partD r.d)) S1 fun i S2 => Q (some i) S2) := de_part rfl
theorem de_op_or {q0 : Ex} {q1 : Ex} : Wq (opX G (.or q0 q1)) S QO = Wq (evE G (.or q0 q1)) S (fun r S1 => QO (.dat r.d) S1) := de_ope rfl
theorem ds_ret_or {q0 : Ex} {q1 : Ex} : Wq (exS G (.ret (.or q0 q1))) S QC = Wq (evE G (.or q0 q1)) S (fun r S1 => QC (.rt r) S1) := ds_ret rfl
theorem de_es_or {q0 : Ex} {q1 : Ex} : Wq (evEs G ((.or q0 q1) :: es)) S QL = Wq (evE G (.or q0 q1)) S (fun d S1 => Wq (evEs G es) S1 fun ds S2 => QL (d.d :: ds) S2) := de_es rfl
theorem de_pt_or {q0 : Ex} {q1 : Ex} {Q : Option Int → Sl → Prop} : Wq (partOf (.or q0 q1) (evE G (.or q0 q1))) S Q = Wq (evE G (.or q0 q1)) S (fun r S1 => Wq (M.opt (partD r.d)) S1 fun i S2 => Q (some i) S2) := de_part rfl
theorem de_op_not {q0 : Ex} : Wq (opX G (.not q0)) S QO = Wq (evE G (.not q0)) S (fun r S1 => QO (.dat r.d) S1) := de_ope rfl
theorem ds_ret_not {q0 : Ex} : Wq (exS G (.ret (.not q0))) S QC = Wq (evE G (.not q0)) S (fun r S1 => QC (.rt r) S1) := ds_ret rfl
theorem de_es_not {q0 : Ex} : Wq (evEs G ((.not q0) :: es)) S QL = Wq (evE G (.not q0)) S (fun d S1 => Wq (evEs G es) S1 fun ds S2 => QL (d.d :: ds) S2) := de_es rfl
theorem de_pt_not {q0 : Ex} {Q : Option Int → Sl → Prop} : Wq (partOf (.not q0) (evE G (.not q0))) S Q = Wq (evE G (.not q0)) S (fun r S1 => Wq (M.opt (partD r.d)) S1 fun i S2 => Q (some i) S2) := de_part rfl
theorem de_op_ite {q0 : Ex} {q1 : Ex} {q2 : Ex} : Wq (opX G (.ite q0 q1 q2)) S QO = Wq (evE G (.ite q0 q1 q2)) S (fun r S1 => QO (.dat r.d) S1) := de_ope rfl
theorem ds_ret_ite {q0 : Ex} {q1 : Ex} {q2 : Ex} : Wq (exS G (.ret (.ite q0 q1 q2))) S QC = Wq (evE G (.ite q0 q1 q2)) S (fun r S1 => QC (.rt r) S1) := ds_ret rfl
theorem de_es_ite {q0 : Ex} {q1 : Ex} {q2 : Ex} : Wq (evEs G ((.ite q0 q1 q2) :: es)) S QL = Wq (evE G (.ite q0 q1 q2)) S (fun d S1 => Wq (evEs G es) S1 fun ds S2 => QL (d.d :: ds) S2) := de_es rfl
theorem de_pt_ite {q0 : Ex} {q1 : Ex} {q2 : Ex} {Q : Option Int → Sl → Prop} : Wq (partOf (.ite q0 q1 q2) (evE G (.ite q0 q1 q2))) S Q = Wq (evE G (.ite q0 q1 q2)) S (fun r S1 => Wq (M.opt (partD r.d)) S1 fun i S2 => Q (some i) S2) := de_part rfl
theorem de_op_tup {q0 : List Ex} : Wq (opX G (.tup q0)) S QO = Wq (evE G (.tup q0)) S (fun r S1 => QO (.dat r.d) S1) := de_ope rfl
theorem ds_ret_tup {q0 : List Ex} : Wq (exS G (.ret (.tup q0))) S QC = Wq (evE G (.tup q0)) S (fun r S1 => QC (.rt r) S1) := ds_ret rfl
theorem de_es_tup {q0 : List Ex} : Wq (evEs G ((.tup q0) :: es)) S QL = Wq (evE G (.tup q0)) S (fun d S1 => Wq (evEs G es) S1 fun ds S2 => QL (d.d :: ds) S2) := de_es rfl
theorem de_pt_tup {q0 : List Ex} {Q : Option Int → Sl → Prop} : Wq (partOf (.tup q0) (evE G (.tup q0))) S Q = Wq (evE G (.tup q0)) S (fun r S1 => Wq (M.opt (partD r.d)) S1 fun i S2 => Q (some i) S2) := de_part rfl
theorem de_op_lst {q0 : List Ex} : Wq (opX G (.lst q0)) S QO = Wq (evE G (.lst q0)) S (fun r S1 => QO (.dat r.d) S1) := de_ope rfl
theorem ds_ret_lst {q0 : List Ex} : Wq (exS G (.ret (.lst q0))) S QC = Wq (evE G (.lst q0)) S (fun r S1 => QC (.rt r) S1) := ds_ret rfl
theorem de_es_lst {q0 : List Ex} : Wq (evEs G ((.lst q0) :: es)) S QL = Wq (evE G (.lst q0)) S (fun d S1 => Wq (evEs G es) S1 fun ds S2 => QL (d.d :: ds) S2) := de_es rfl
theorem de_pt_lst {q0 : List Ex} {Q : Option Int → Sl → Prop} : Wq (partOf (.lst q0) (evE G (.lst q0))) S Q = Wq (evE G (.lst q0)) S (fun r S1 => Wq (M.opt (partD r.d)) S1 fun i S2 => Q (some i) S2) := de_part rfl
theorem de_op_ix {q0 : Ex} {q1 : Ex} : Wq (opX G (.ix q0 q1)) S QO = Wq (evE G (.ix q0 q1)) S (fun r S1 => QO (.dat r.d) S1) := de_ope rfl
theorem ds_ret_ix {q0 : Ex} {q1 : Ex} : Wq (exS G (.ret (.ix q0 q1))) S QC = Wq (evE G (.ix q0 q1)) S (fun r S1 => QC (.rt r) S1) := ds_ret rfl
theorem de_es_ix {q0 : Ex} {q1 : Ex} : Wq (evEs G ((.ix q0 q1) :: es)) S QL = Wq (evE G (.ix q0 q1)) S (fun d S1 => Wq (evEs G es) S1 fun ds S2 => QL (d.d :: ds) S2) := de_es rfl
theorem de_pt_ix {q0 : Ex} {q1 : Ex} {Q : Option Int → Sl → Prop} : Wq (partOf (.ix q0 q1) (evE G (.ix q0 q1))) S Q = Wq (evE G (.ix q0 q1)) S (fun r S1 => Wq (M.opt (partD r.d)) S1 fun i S2 => Q (some i) S2) := de_part rfl
theorem de_op_sl {q0 : Ex} {q1 : Ex} {q2 : Ex} : Wq (opX G (.sl q0 q1 q2)) S QO = Wq (evE G (.sl q0 q1 q2)) S (fun r S1 => QO (.dat r.d) S1) := de_ope rfl
theorem ds_ret_sl {q0 : Ex} {q1 : Ex} {q2 : Ex} : Wq (exS G (.ret (.sl q0 q1 q2))) S QC = Wq (evE G (.sl q0 q1 q2)) S (fun r S1 => QC (.rt r) S1) := ds_ret rfl
theorem de_es_sl {q0 : Ex} {q1 : Ex} {q2 : Ex} : Wq (evEs G ((.sl q0 q1 q2) :: es)) S QL = Wq (evE G (.sl q0 q1 q2)) S (fun d S1 => Wq (evEs G es) S1 fun ds S2 => QL (d.d :: ds) S2) := de_es rfl
theorem de_pt_sl {q0 : Ex} {q1 : Ex} {q2 : Ex} {Q : Option Int → Sl → Prop} : Wq (partOf (.sl q0 q1 q2) (evE G (.sl q0 q1 q2))) S Q = Wq (evE G (.sl q0 q1 q2)) S (fun r S1 => Wq (M.opt (partD r.d)) S1 fun i S2 => Q (some i) S2) := de_part rfl
theorem de_op_rev {q0 : Ex} : Wq (opX G (.rev q0)) S QO = Wq (evE G (.rev q0)) S (fun r S1 => QO (.dat r.d) S1) := de_ope rfl
theorem ds_ret_rev {q0 : Ex} : Wq (exS G (.ret (.rev q0))) S QC = Wq (evE G (.rev q0)) S (fun r S1 => QC (.rt r) S1) := ds_ret rfl
theorem de_es_rev {q0 : Ex} : Wq (evEs G ((.rev q0) :: es)) S QL = Wq (evE G (.rev q0)) S (fun d S1 => Wq (evEs G es) S1 fun ds S2 => QL (d.d :: ds) S2) := de_es rfl
theorem de_pt_rev {q0 : Ex} {Q : Option Int → Sl → Prop} : Wq (partOf (.rev q0) (evE G (.rev q0))) S Q = Wq (evE G (.rev q0)) S (fun r S1 => Wq (M.opt (partD r.d)) S1 fun i S2 => Q (some i) S2) := de_part rfl
theorem de_op_fld {q0 : Ex} {q1 : Nat} : Wq (opX G (.fld q0 q1)) S QO = Wq (evE G (.fld q0 q1)) S (fun r S1 => QO (.dat r.d) S1) := de_ope rfl
theorem ds_ret_fld {q0 : Ex} {q1 : Nat} : Wq (exS G (.ret (.fld q0 q1))) S QC = Wq (evE G (.fld q0 q1)) S (fun r S1 => QC (.rt r) S1) := ds_ret rfl
theorem de_es_fld {q0 : Ex} {q1 : Nat} : Wq (evEs G ((.fld q0 q1) :: es)) S QL = Wq (evE G (.fld q0 q1)) S (fun d S1 => Wq (evEs G es) S1 fun ds S2 => QL (d.d :: ds) S2) := de_es rfl
theorem de_pt_fld {q0 : Ex} {q1 : Nat} {Q : Option Int → Sl → Prop} : Wq (partOf (.fld q0 q1) (evE G (.fld q0 q1))) S Q = Wq (evE G (.fld q0 q1)) S (fun r S1 => Wq (M.opt (partD r.d)) S1 fun i S2 => Q (some i) S2) := de_part rfl
theorem de_op_sfld {q0 : Nat} : Wq (opX G (.sfld q0)) S QO = Wq (evE G (.sfld q0)) S (fun r S1 => QO (.dat r.d) S1) := de_ope rfl
theorem ds_ret_sfld {q0 : Nat} : Wq (exS G (.ret (.sfld q0))) S QC = Wq (evE G (.sfld q0)) S (fun r S1 => QC (.rt r) S1) := ds_ret rfl
theorem de_es_sfld {q0 : Nat} : Wq (evEs G ((.sfld q0) :: es)) S QL = Wq (evE G (.sfld q0)) S (fun d S1 => Wq (evEs G es) S1 fun ds S2 => QL (d.d :: ds) S2) := de_es rfl
theorem de_pt_sfld {q0 : Nat} {Q : Option Int → Sl → Prop} : Wq (partOf (.sfld q0) (evE G (.sfld q0))) S Q = Wq (evE G (.sfld q0)) S (fun r S1 => Wq (M.opt (partD r.d)) S1 fun i S2 => Q (some i) S2) := de_part rfl
theorem de_op_call {q0 : Nat} {q1 : List Ex} {q2 : List Ex} {q3 : List Pm} : Wq (opX G (.call q0 q1 q2 q3)) S QO = Wq (evE G (.call q0 q1 q2 q3)) S (fun r S1 => QO (.dat r.d) S1) := de_ope rfl
theorem ds_ret_call {q0 : Nat} {q1 : List Ex} {q2 : List Ex} {q3 : List Pm} : Wq (exS G (.ret (.call q0 q1 q2 q3))) S QC = Wq (evE G (.call q0 q1 q2 q3)) S (fun r S1 => QC (.rt r) S1) := ds_ret rfl
theorem de_es_call {q0 : Nat} {q1 : List Ex} {q2 : List Ex} {q3 : List Pm} : Wq (evEs G ((.call q0 q1 q2 q3) :: es)) S QL = Wq (evE G (.call q0 q1 q2 q3)) S (fun d S1 => Wq (evEs G es) S1 fun ds S2 => QL (d.d :: ds) S2) := de_es rfl
theorem de_pt_call {q0 : Nat} {q1 : List Ex} {q2 : List Ex} {q3 : List Pm} {Q : Option Int → Sl → Prop} : Wq (partOf (.call q0 q1 q2 q3) (evE G (.call q0 q1 q2 q3))) S Q = Wq (evE G (.call q0 q1 q2 q3)) S (fun r S1 => Wq (M.opt (partD r.d)) S1 fun i S2 => Q (some i) S2) := de_part rfl
theorem de_op_make {q0 : Nat} {q1 : List Ex} {q2 : List Ex} {q3 : List Pm} : Wq (opX G (.make q0 q1 q2 q3)) S QO = Wq (evE G (.make q0 q1 q2 q3)) S (fun r S1 => QO (.dat r.d) S1) := de_ope rfl
theorem ds_ret_make {q0 : Nat} {q1 : List Ex} {q2 : List Ex} {q3 : List Pm} : Wq (exS G (.ret (.make q0 q1 q2 q3))) S QC = Wq (evE G (.make q0 q1 q2 q3)) S (fun r S1 => QC (.rt r) S1) := ds_ret rfl
theorem de_es_make {q0 : Nat} {q1 : List Ex} {q2 : List Ex} {q3 : List Pm} : Wq (evEs G ((.make q0 q1 q2 q3) :: es)) S QL = Wq (evE G (.make q0 q1 q2 q3)) S (fun d S1 => Wq (evEs G es) S1 fun ds S2 => QL (d.d :: ds) S2) := de_es rfl
theorem de_pt_make {q0 : Nat} {q1 : List Ex} {q2 : List Ex} {q3 : List Pm} {Q : Option Int → Sl → Prop} : Wq (partOf (.make q0 q1 q2 q3) (evE G (.make q0 q1 q2 q3))) S Q = Wq (evE G (.make q0 q1 q2 q3)) S (fun r S1 => Wq (M.opt (partD r.d)) S1 fun i S2 => Q (some i) S2) := de_part rfl
theorem de_op_meth {q0 : Ex} {q1 : Nat} {q2 : List Ex} {q3 : List Ex} {q4 : List Pm} : Wq (opX G (.meth q0 q1 q2 q3 q4)) S QO = Wq (evE G (.meth q0 q1 q2 q3 q4)) S (fun r S1 => QO (.dat r.d) S1) := de_ope rfl
theorem ds_ret_meth {q0 : Ex} {q1 : Nat} {q2 : List Ex} {q3 : List Ex} {q4 : List Pm} : Wq (exS G (.ret (.meth q0 q1 q2 q3 q4))) S QC = Wq (evE G (.meth q0 q1 q2 q3 q4)) S (fun r S1 => QC (.rt r) S1) := ds_ret rfl
theorem de_es_meth {q0 : Ex} {q1 : Nat} {q2 : List Ex} {q3 : List Ex} {q4 : List Pm} : Wq (evEs G ((.meth q0 q1 q2 q3 q4) :: es)) S QL = Wq (evE G (.meth q0 q1 q2 q3 q4)) S (fun d S1 => Wq (evEs G es) S1 fun ds S2 => QL (d.d :: ds) S2) := de_es rfl
theorem de_pt_meth {q0 : Ex} {q1 : Nat} {q2 : List Ex} {q3 : List Ex} {q4 : List Pm} {Q : Option Int → Sl → Prop} : Wq (partOf (.meth q0 q1 q2 q3 q4) (evE G (.meth q0 q1 q2 q3 q4))) S Q = Wq (evE G (.meth q0 q1 q2 q3 q4)) S (fun r S1 => Wq (M.opt (partD r.d)) S1 fun i S2 => Q (some i) S2) := de_part rfl
theorem de_op_blt {q0 : Blt} {q1 : List Ex} : Wq (opX G (.blt q0 q1)) S QO = Wq (evE G (.blt q0 q1)) S (fun r S1 => QO (.dat r.d) S1) := de_ope rfl
theorem ds_ret_blt {q0 : Blt} {q1 : List Ex} : Wq (exS G (.ret (.blt q0 q1))) S QC = Wq (evE G (.blt q0 q1)) S (fun r S1 => QC (.rt r) S1) := ds_ret rfl
theorem de_es_blt {q0 : Blt} {q1 : List Ex} : Wq (evEs G ((.blt q0 q1) :: es)) S QL = Wq (evE G (.blt q0 q1)) S (fun d S1 => Wq (evEs G es) S1 fun ds S2 => QL (d.d :: ds) S2) := de_es rfl
theorem de_pt_blt {q0 : Blt} {q1 : List Ex} {Q : Option Int → Sl → Prop} : Wq (partOf (.blt q0 q1) (evE G (.blt q0 q1))) S Q = Wq (evE G (.blt q0 q1)) S (fun r S1 => Wq (M.opt (partD r.d)) S1 fun i S2 => Q (some i) S2) := de_part rfl
theorem de_op_bmt {q0 : Blt} {q1 : Ex} {q2 : List Ex} : Wq (opX G (.bmt q0 q1 q2)) S QO = Wq (evE G (.bmt q0 q1 q2)) S (fun r S1 => QO (.dat r.d) S1) := de_ope rfl
theorem ds_ret_bmt {q0 : Blt} {q1 : Ex} {q2 : List Ex} : Wq (exS G (.ret (.bmt q0 q1 q2))) S QC = Wq (evE G (.bmt q0 q1 q2)) S (fun r S1 => QC (.rt r) S1) := ds_ret rfl
theorem de_es_bmt {q0 : Blt} {q1 : Ex} {q2 : List Ex} : Wq (evEs G ((.bmt q0 q1 q2) :: es)) S QL = Wq (evE G (.bmt q0 q1 q2)) S (fun d S1 => Wq (evEs G es) S1 fun ds S2 => QL (d.d :: ds) S2) := de_es rfl
theorem de_pt_bmt {q0 : Blt} {q1 : Ex} {q2 : List Ex} {Q : Option Int → Sl → Prop} : Wq (partOf (.bmt q0 q1 q2) (evE G (.bmt q0 q1 q2))) S Q = Wq (evE G (.bmt q0 q1 q2)) S (fun r S1 => Wq (M.opt (partD r.d)) S1 fun i S2 => Q (some i) S2) := de_part rfl
theorem de_op_isi {q0 : Ex} {q1 : List Tg} : Wq (opX G (.isi q0 q1)) S QO = Wq (evE G (.isi q0 q1)) S (fun r S1 => QO (.dat r.d) S1) := de_ope rfl
theorem ds_ret_isi {q0 : Ex} {q1 : List Tg} : Wq (exS G (.ret (.isi q0 q1))) S QC = Wq (evE G (.isi q0 q1)) S (fun r S1 => QC (.rt r) S1) := ds_ret rfl
theorem de_es_isi {q0 : Ex} {q1 : List Tg} : Wq (evEs G ((.isi q0 q1) :: es)) S QL = Wq (evE G (.isi q0 q1)) S (fun d S1 => Wq (evEs G es) S1 fun ds S2 => QL (d.d :: ds) S2) := de_es rfl
theorem de_pt_isi {q0 : Ex} {q1 : List Tg} {Q : Option Int → Sl → Prop} : Wq (partOf (.isi q0 q1) (evE G (.isi q0 q1))) S Q = Wq (evE G (.isi q0 q1)) S (fun r S1 => Wq (M.opt (partD r.d)) S1 fun i S2 => Q (some i) S2) := de_part rfl
theorem de_op_mut {q0 : Nat} {q1 : Mut} {q2 : List Ex} : Wq (opX G (.mut q0 q1 q2)) S QO = Wq (evE G (.mut q0 q1 q2)) S (fun r S1 => QO (.dat r.d) S1) := de_ope rfl
theorem ds_ret_mut {q0 : Nat} {q1 : Mut} {q2 : List Ex} : Wq (exS G (.ret (.mut q0 q1 q2))) S QC = Wq (evE G (.mut q0 q1 q2)) S (fun r S1 => QC (.rt r) S1) := ds_ret rfl
theorem de_es_mut {q0 : Nat} {q1 : Mut} {q2 : List Ex} : Wq (evEs G ((.mut q0 q1 q2) :: es)) S QL = Wq (evE G (.mut q0 q1 q2)) S (fun d S1 => Wq (evEs G es) S1 fun ds S2 => QL (d.d :: ds) S2) := de_es rfl
theorem de_pt_mut {q0 : Nat} {q1 : Mut} {q2 : List Ex} {Q : Option Int → Sl → Prop} : Wq (partOf (.mut q0 q1 q2) (evE G (.mut q0 q1 q2))) S Q = Wq (evE G (.mut q0 q1 q2)) S (fun r S1 => Wq (M.opt (partD r.d)) S1 fun i S2 => Q (some i) S2) := de_part rfl
theorem de_op_lc1 {q0 : List Nat} {q1 : Ik} {q2 : List Ex} {q3 : Tgt} {q4 : List Ex} {q5 : Ex} : Wq (opX G (.lc1 q0 q1 q2 q3 q4 q5)) S QO = Wq (evE G (.lc1 q0 q1 q2 q3 q4 q5)) S (fun r S1 => QO (.dat r.d) S1) := de_ope rfl
theorem ds_ret_lc1 {q0 : List Nat} {q1 : Ik} {q2 : List Ex} {q3 : Tgt} {q4 : List Ex} {q5 : Ex} : Wq (exS G (.ret (.lc1 q0 q1 q2 q3 q4 q5))) S QC = Wq (evE G (.lc1 q0 q1 q2 q3 q4 q5)) S (fun r S1 => QC (.rt r) S1) := ds_ret rfl
theorem de_es_lc1 {q0 : List Nat} {q1 : Ik} {q2 : List Ex} {q3 : Tgt} {q4 : List Ex} {q5 : Ex} : Wq (evEs G ((.lc1 q0 q1 q2 q3 q4 q5) :: es)) S QL = Wq (evE G (.lc1 q0 q1 q2 q3 q4 q5)) S (fun d S1 => Wq (evEs G es) S1 fun ds S2 => QL (d.d :: ds) S2) := de_es rfl
theorem de_pt_lc1 {q0 : List Nat} {q1 : Ik} {q2 : List Ex} {q3 : Tgt} {q4 : List Ex} {q5 : Ex} {Q : Option Int → Sl → Prop} : Wq (partOf (.lc1 q0 q1 q2 q3 q4 q5) (evE G (.lc1 q0 q1 q2 q3 q4 q5))) S Q = Wq (evE G (.lc1 q0 q1 q2 q3 q4 q5)) S (fun r S1 => Wq (M.opt (partD r.d)) S1 fun i S2 => Q (some i) S2) := de_part rfl
theorem de_op_lc2 {q0 : List Nat} {q1 : List Nat} {q2 : Ik} {q3 : List Ex} {q4 : Tgt} {q5 : List Ex} {q6 : Ik} {q7 : List Ex} {q8 : Tgt} {q9 : List Ex} {q10 : Ex} : Wq (opX G (.lc2 q0 q1 q2 q3 q4 q5 q6 q7 q8 q9 q10)) S QO = Wq (evE G (.lc2 q0 q1 q2 q3 q4 q5 q6 q7 q8 q9 q10)) S (fun r S1 => QO (.dat r.d) S1) := de_ope rfl
theorem ds_ret_lc2 {q0 : List Nat} {q1 : List Nat} {q2 : Ik} {q3 : List Ex} {q4 : Tgt} {q5 : List Ex} {q6 : Ik} {q7 : List Ex} {q8 : Tgt} {q9 : List Ex} {q10 : Ex} : Wq (exS G (.ret (.lc2 q0 q1 q2 q3 q4 q5 q6 q7 q8 q9 q10))) S QC = Wq (evE G (.lc2 q0 q1 q2 q3 q4 q5 q6 q7 q8 q9 q10)) S (fun r S1 => QC (.rt r) S1) := ds_ret rfl
theorem de_es_lc2 {q0 : List Nat} {q1 : List Nat} {q2 : Ik} {q3 : List Ex} {q4 : Tgt} {q5 : List Ex} {q6 : Ik} {q7 : List Ex} {q8 : Tgt} {q9 : List Ex} {q10 : Ex} : Wq (evEs G ((.lc2 q0 q1 q2 q3 q4 q5 q6 q7 q8 q9 q10) :: es)) S QL = Wq (evE G (.lc2 q0 q1 q2 q3 q4 q5 q6 q7 q8 q9 q10)) S (fun d S1 => Wq (evEs G es) S1 fun ds S2 => QL (d.d :: ds) S2) := de_es rfl
theorem de_pt_lc2 {q0 : List Nat} {q1 : List Nat} {q2 : Ik} {q3 : List Ex} {q4 : Tgt} {q5 : List Ex} {q6 : Ik} {q7 : List Ex} {q8 : Tgt} {q9 : List Ex} {q10 : Ex} {Q : Option Int → Sl → Prop} : Wq (partOf (.lc2 q0 q1 q2 q3 q4 q5 q6 q7 q8 q9 q10) (evE G (.lc2 q0 q1 q2 q3 q4 q5 q6 q7 q8 q9 q10))) S Q = Wq (evE G (.lc2 q0 q1 q2 q3 q4 q5 q6 q7 q8 q9 q10)) S (fun r S1 => Wq (M.opt (partD r.d)) S1 fun i S2 => Q (some i) S2) := de_part rfl
theorem k_call {P : Pr} {n f : Nat} {fn : Fn} {xs : List D} {io : Option (List D)} {Q : RV → Option (List D) → Prop} (hf : P.fn f = some fn) (h : Wk (runFn (gam P n) fn xs io) Q) : Wk ((gam P (n + 1)).call f xs io) Q := ⟨Wc_call hf h.out⟩
theorem k_run0 {fn : Fn} {xs : List D} {Q : RV → Option (List D) → Prop} (hio : fn.io = none) (hs : startS fn xs none = some S) (h : Wq (exSs G fn.body) S fun c _ => endC (fun r => Q r none) c) : Wk (runFn G fn xs none) Q := ⟨Wc_run0 hio hs h.out⟩
theorem k_run1 {fn : Fn} {xs ys : List D} {Q : RV → Option (List D) → Prop} (hio : fn.io = some i) (hs : startS fn xs (some ys) = some S) (h : Wq (exSs G fn.body) S fun c S1 => endC (fun r => match getS S1 i with | .io zs => Q r (some zs) | _ => False) c) : Wk (runFn G fn xs (some ys)) Q := ⟨Wc_run1 hio hs h.out⟩
section
variable {cc : Nat → List D → Option (List D) → CRes} {f : Nat} {xs : List D}
theorem k_call0 (h : Wk (cc f xs none) fun r o => o = none ∧ QR r S) : Wq (callM cc f none xs) S QR := ⟨W_call0 h.out⟩
theorem k_call1 {ys : List D} (hi : getS S i = .own ys) (h : Wk (cc f xs (some ys)) fun r o => ∃ zs, o = some zs ∧ QR r (S.set i (.own zs))) : Wq (callM cc f (some i) xs) S QR := ⟨W_call1 hi h.out⟩
theorem k_call2 {ys : List D} (hi : getS S i = .io ys) (h : Wk (cc f xs (some ys)) fun r o => ∃ zs, o = some zs ∧ QR r (S.set i (.io zs))) : Wq (callM cc f (some i) xs) S QR := ⟨W_call2 hi h.out⟩
end
section
variable {g : Tgt} {body : M Ctl} {t : M Bool} {vs : List Nat} {f : List D → M (List D)}
/-- the body brings it from P to the next, or ends the loop -/
def tnC (Q : Ctl → Sl → Prop) (P : Sl → Prop) (c : Ctl) (S : Sl) : Prop := match c with
  | .nx => P S
  | .ct => P S
  | .bk => Q .nx S
  | .rt r => Q (.rt r) S
theorem k_forM {ι : Type} {xs : List ι} (h : ι → D) (I : Nat → Sl → Prop) (h0 : I 0 S) (hs : ∀ (k : Nat) (hk : k < xs.length) S, I k S → ∃ S1, tgtS g (h xs[k]) S = some S1 ∧ Wq body S1 (tnC QC (I (k + 1)))) (he : ∀ S, I xs.length S → QC .nx S) : Wq (forL g body (xs.map h)) S QC := by
  refine ⟨W_forM h I h0 (fun k hk S1 hI => ?_) he⟩
  obtain ⟨S2, e1, e2⟩ := hs k hk S1 hI
  refine ⟨S2, e1, e2.out.mono fun c S3 z => ?_⟩
  cases c <;> exact z
theorem k_wh (I : Nat → Sl → Prop) {n k : Nat} (hk : k < n) (h0 : I k S) (hs : ∀ k S, I k S → Wq t S fun b S1 => if b = true then Wq body S1 (tnC QC fun S2 => ∃ j, j < k ∧ I j S2) else QC .nx S1) : Wq (whL t body n) S QC := by
  refine ⟨W_wh I n hk h0 fun k S hI => (hs k S hI).out.mono fun b S1 h => ?_⟩
  cases b with
  | false => simpa using h
  | true =>
    simp only [if_true] at h ⊢
    refine h.out.mono fun c S3 z => ?_
    cases c <;> exact z
theorem k_blockM {ι : Type} {xs : List ι} (h : ι → D) (e : ι → List D) (hl : (xs.flatMap e).length < lim)
    (hs : ∀ x, x ∈ xs → ∀ acc, acc.length + (e x).length < lim → ∃ S1, tgtS g (h x) (wipeS S vs) = some S1 ∧ Wq (f acc) S1 fun acc1 S2 => acc1 = acc ++ e x ∧ wipeS S2 vs = wipeS S vs)
    (hq : QR (.fr (xs.flatMap e)) S) : Wq (blockM vs (compM vs g f (xs.map h) [])) S QR := by
  refine ⟨W_blockM h e hl (fun x hx acc ha => ?_) hq⟩
  obtain ⟨S1, e1, e2⟩ := hs x hx acc ha
  exact ⟨S1, e1, e2.out⟩
theorem k_blockI {ι : Type} {xs : List ι} (h : ι → D) (I : Nat → List D → Sl → Prop) (h0 : I 0 [] S)
    (hs : ∀ (k : Nat) (hk : k < xs.length) acc S, I k acc S → ∃ S1, tgtS g (h xs[k]) (wipeS S vs) = some S1 ∧ Wq (f acc) S1 fun acc1 S2 => I (k + 1) acc1 S2)
    (hq : ∀ acc S1, I xs.length acc S1 → QR (.fr acc) (backAll S vs S1)) : Wq (blockM vs (compM vs g f (xs.map h) [])) S QR := by
  refine ⟨W_blockI h I h0 (fun k hk acc S1 hI => ?_) hq⟩
  obtain ⟨S2, e1, e2⟩ := hs k hk acc S1 hI
  exact ⟨S2, e1, e2.out⟩
end
end
end Pl
set_option Elab.async false
set_option linter.all false
set_option maxRecDepth 100000
/-! Pl: masks. -/
namespace Pl
open PySem
theorem testBit_sub_and (i : Nat) : ∀ x y : Nat, (x - (x &&& y)).testBit i = (x.testBit i && !y.testBit i) := by
  induction i with
  | zero =>
    intro x y
    have h1 : (x &&& y) ≤ x := Nat.and_le_left
    have h2 := Nat.testBit_and x y 0
    simp only [Nat.testBit_zero] at h2 ⊢
    have hx := Nat.mod_two_eq_zero_or_one x
    have hy := Nat.mod_two_eq_zero_or_one y
    have hm := Nat.mod_two_eq_zero_or_one (x &&& y)
    rcases hx with hx | hx <;> rcases hy with hy | hy <;> rcases hm with hm | hm <;> simp [hx, hy, hm] at h2 ⊢ <;> omega
  | succ i ih =>
    intro x y
    have h1 : (x &&& y) ≤ x := Nat.and_le_left
    have h2 := Nat.testBit_and x y 0
    simp only [Nat.testBit_zero] at h2
    have h3 : (x - (x &&& y)) / 2 = x / 2 - (x / 2 &&& y / 2) := by
      rw [← Nat.and_div_two]
      have hx := Nat.mod_two_eq_zero_or_one x
      have hy := Nat.mod_two_eq_zero_or_one y
      have hm := Nat.mod_two_eq_zero_or_one (x &&& y)
      rcases hx with hx | hx <;> rcases hy with hy | hy <;> rcases hm with hm | hm <;> simp [hx, hy, hm] at h2 <;> omega
    rw [Nat.testBit_succ, h3, ih, Nat.testBit_succ, Nat.testBit_succ]
/-- a without b -/
def dif (a b : Nat) : Nat := a - (a &&& b)
theorem testBit_dif (a b i : Nat) : (dif a b).testBit i = (a.testBit i && !b.testBit i) := testBit_sub_and i a b
theorem dif_le (a b : Nat) : dif a b ≤ a := Nat.sub_le _ _
theorem xor_eq (a b : Nat) : (a ||| b) - (a &&& b) = a ^^^ b := by
  have e : ((a ||| b) &&& (a &&& b)) = (a &&& b) := by
    apply Nat.eq_of_testBit_eq; intro i
    simp only [Nat.testBit_and, Nat.testBit_or]
    cases a.testBit i <;> cases b.testBit i <;> rfl
  apply Nat.eq_of_testBit_eq; intro i
  have := testBit_sub_and i (a ||| b) (a &&& b)
  rw [e] at this
  rw [this]
  simp only [Nat.testBit_and, Nat.testBit_or, Nat.testBit_xor]
  cases a.testBit i <;> cases b.testBit i <;> rfl
theorem addN (a b : Nat) : (a : Int) + (b : Int) = ((a + b : Nat) : Int) := by omega
theorem add1N (a : Nat) : (a : Int) + 1 = ((a + 1 : Nat) : Int) := by omega
theorem oneaN (a : Nat) : 1 + (a : Int) = ((1 + a : Nat) : Int) := by omega
theorem mulN (a b : Nat) : (a : Int) * (b : Int) = ((a * b : Nat) : Int) := by simp
theorem pow1N (n : Nat) : ((2 ^ n : Nat) : Int) - 1 = ((2 ^ n - 1 : Nat) : Int) := by
  have := Nat.two_pow_pos n
  omega
theorem small1 : small 1 = true := by decide
theorem nn0 (a : Nat) : (0 ≤ (a : Int)) = True := by simp
theorem le1000 (a : Nat) : ((a : Int) ≤ 1000) = (a ≤ 1000) := by
  refine propext ⟨fun h => by omega, fun h => by omega⟩
theorem nng (a : Nat) : decide (0 ≤ (a : Int)) = true := decide_eq_true (by omega)
theorem nneg (a : Nat) : decide (0 ≤ Builtin.bitNot (a : Int)) = false := decide_eq_false (by unfold Builtin.bitNot; omega)
theorem notnot (x : Int) : Builtin.bitNot (Builtin.bitNot x) = x := by unfold Builtin.bitNot; omega
theorem andN (a b : Nat) : Builtin.bitAnd (a : Int) (b : Int) = ((a &&& b : Nat) : Int) := by
  unfold Builtin.bitAnd; rw [nng, nng]; simp
theorem and1N (a : Nat) : Builtin.bitAnd (a : Int) 1 = ((a &&& 1 : Nat) : Int) := andN a 1
theorem andnN (a b : Nat) : Builtin.bitAnd (a : Int) (Builtin.bitNot (b : Int)) = ((dif a b : Nat) : Int) := by
  unfold Builtin.bitAnd
  rw [nng, nneg]
  simp only [notnot, Int.toNat_natCast]
  unfold dif
  have : (a &&& b) ≤ a := Nat.and_le_left
  omega
theorem nandN (a b : Nat) : Builtin.bitAnd (Builtin.bitNot (b : Int)) (a : Int) = ((dif a b : Nat) : Int) := by
  unfold Builtin.bitAnd
  rw [nng, nneg]
  simp only [notnot, Int.toNat_natCast]
  unfold dif
  have : (a &&& b) ≤ a := Nat.and_le_left
  omega
theorem orN (a b : Nat) : Builtin.bitOr (a : Int) (b : Int) = ((a ||| b : Nat) : Int) := by
  unfold Builtin.bitOr Builtin.bitAnd
  rw [nneg, nneg]
  simp only [notnot, Int.toNat_natCast]
theorem xorN (a b : Nat) : Builtin.bitXor (a : Int) (b : Int) = ((a ^^^ b : Nat) : Int) := by
  unfold Builtin.bitXor
  rw [orN, andN, ← xor_eq]
  have : (a &&& b) ≤ (a ||| b) := Nat.le_trans Nat.and_le_left Nat.left_le_or
  omega
theorem shlN (a k : Nat) : (a : Int) * 2 ^ ((k : Nat) : Int).toNat = ((a * 2 ^ k : Nat) : Int) := by
  simp [Int.natCast_mul, Int.natCast_pow]
theorem shl1N (k : Nat) : (1 : Int) * 2 ^ ((k : Nat) : Int).toNat = ((2 ^ k : Nat) : Int) := by
  simp [Int.natCast_pow]
theorem shrN (a k : Nat) : (a : Int) / 2 ^ ((k : Nat) : Int).toNat = ((a / 2 ^ k : Nat) : Int) := by
  simp [Int.natCast_pow]
theorem tst (a k : Nat) : ((a / 2 ^ k &&& 1 : Nat) : Int) = (if a.testBit k then 1 else 0) := by
  rw [← Nat.shiftRight_eq_div_pow, Nat.and_one_is_mod]
  have : a.testBit k = decide (a >>> k % 2 = 1) := by
    rw [Nat.testBit_eq_decide_div_mod_eq, Nat.shiftRight_eq_div_pow]
  rw [this]
  have := Nat.mod_two_eq_zero_or_one (a >>> k)
  rcases this with h | h <;> simp [h]
theorem tstb (a k : Nat) : (((a / 2 ^ k &&& 1 : Nat) : Int) != 0) = a.testBit k := by
  rw [tst]; cases a.testBit k <;> rfl
theorem lt_256 {n a : Nat} (hn : n ≤ 8) (h : ∀ i, a.testBit i = true → i < n) : a < 2 ^ n := by
  apply Nat.lt_pow_two_of_testBit
  intro i hi
  cases e : a.testBit i with
  | false => rfl
  | true => exact absurd (h i e) (by omega)
theorem bit_lt {n a i : Nat} (h : a < 2 ^ n) (hb : a.testBit i = true) : i < n := by
  rcases Nat.lt_or_ge i n with z | z
  · exact z
  · have := Nat.testBit_lt_two_pow (Nat.lt_of_lt_of_le h (Nat.pow_le_pow_right (by omega) z))
    rw [this] at hb; cases hb
theorem testBit_pow (a i : Nat) : (2 ^ a).testBit i = decide (a = i) := Nat.testBit_two_pow ..
theorem pow_add_bit : ∀ a, a < 8 → ∀ m, m < 256 → m.testBit a = false → 2 ^ a + m = 2 ^ a ||| m := by decide +kernel
theorem or_lt {n a b : Nat} (ha : a < 2 ^ n) (hb : b < 2 ^ n) : a ||| b < 2 ^ n := Nat.or_lt_two_pow ha hb
/-- the sum of the powers of different numbers -/
theorem sum_pow {n : Nat} (hn : n ≤ 8) : ∀ l : List Nat, l.Nodup → (∀ a ∈ l, a < n) → (l.map (2 ^ ·)).sum < 2 ^ n ∧ ∀ i, (l.map (2 ^ ·)).sum.testBit i = decide (i ∈ l)
  | [], _, _ => ⟨by simpa using Nat.two_pow_pos n, fun i => by simp⟩
  | a :: l, hd, hl => by
    obtain ⟨h1, h2⟩ := List.nodup_cons.mp hd
    obtain ⟨k1, k2⟩ := sum_pow hn l h2 fun x hx => hl x (List.mem_cons_of_mem _ hx)
    have ha := hl a (List.mem_cons_self ..)
    have hp : 2 ^ n ≤ 2 ^ 8 := Nat.pow_le_pow_right (by omega) hn
    have e : ((a :: l).map (2 ^ ·)).sum = 2 ^ a ||| (l.map (2 ^ ·)).sum := by
      rw [List.map_cons, List.sum_cons]
      exact pow_add_bit a (by omega) _ (by omega) (by rw [k2]; exact decide_eq_false h1)
    rw [e]
    refine ⟨or_lt (Nat.pow_lt_pow_right (by omega) ha) k1, fun i => ?_⟩
    rw [Nat.testBit_or, k2, testBit_pow]
    by_cases z : i = a
    · subst z; simp
    · rw [decide_eq_false (fun q => z q.symm), Bool.false_or]
      simp [z]
/-- ints of a list -/
theorem ints_map {ι : Type} (h : ι → Int) : ∀ l : List ι, intsD (l.map fun x => D.int (h x)) = some (l.map h)
  | [] => rfl
  | x :: l => by
    show (intsD (l.map fun x => D.int (h x))).map (h x :: ·) = _
    rw [ints_map h l]; rfl
theorem bools_map {ι : Type} (h : ι → Bool) : ∀ l : List ι, boolsD (l.map fun x => D.bl (h x)) = some (l.map h)
  | [] => rfl
  | x :: l => by
    show (boolsD (l.map fun x => D.bl (h x))).map (h x :: ·) = _
    rw [bools_map h l]; rfl
theorem sum_cast : ∀ l : List Nat, (l.map fun (x : Nat) => (x : Int)).sum = ((l.sum : Nat) : Int)
  | [] => rfl
  | a :: l => by rw [List.map_cons, List.sum_cons, List.sum_cons, sum_cast l]; omega
theorem flat_if {ι β : Type} (p : ι → Bool) (h : ι → β) : ∀ l : List ι, l.flatMap (fun x => if p x = true then [h x] else []) = (l.filter p).map h
  | [] => rfl
  | x :: l => by
    rw [List.flatMap_cons, flat_if p h l]
    by_cases z : p x = true
    · rw [if_pos z, List.filter_cons_of_pos z]; rfl
    · rw [if_neg z, List.filter_cons_of_neg z]; rfl
theorem flat_one {ι β : Type} (h : ι → β) : ∀ l : List ι, l.flatMap (fun x => [h x]) = l.map h
  | [] => rfl
  | x :: l => by rw [List.flatMap_cons, flat_one h l]; rfl
end Pl
set_option Elab.async false
set_option linter.all false
set_option maxRecDepth 100000
/-! Pl: == of data. -/
namespace Pl
open PySem
structure PK (k : Nat) (d : D) : Prop where
  data : d.data = true
  lay : PyData.canLay0 d.py = true
  dep : d.py.depth ≤ k
theorem PK.mono {k j : Nat} {d : D} (h : PK k d) (e : k ≤ j) : PK j d := ⟨h.data, h.lay, Nat.le_trans h.dep e⟩
theorem PK.plain {k : Nat} {d : D} (h : PK k d) (hk : k ≤ 64) : d.plain = true := by
  unfold D.plain SeqAt.shaped
  rw [h.data, h.lay, decide_eq_true (Nat.le_trans h.dep hk)]; rfl
theorem pk_int (i : Int) : PK 0 (.int i) := ⟨rfl, by simp only [D.py, PyData.canLay0], by simp only [D.py, PyData.depth]; omega⟩
theorem pk_bl (i : Bool) : PK 0 (.bl i) := ⟨rfl, by simp only [D.py, PyData.canLay0], by simp only [D.py, PyData.depth]; omega⟩
theorem pk_non : PK 0 .non := ⟨rfl, by simp only [D.py, PyData.canLay0], by simp only [D.py, PyData.depth]; omega⟩
theorem pks {k : Nat} : ∀ {xs : List D}, (∀ x ∈ xs, PK k x) → datas xs = true ∧ PyData.canLayAll0 (pys xs) = true ∧ PyData.depthAll (pys xs) ≤ k
  | [], _ => ⟨rfl, by simp only [pys, PyData.canLayAll0], by simp only [pys, PyData.depthAll]; omega⟩
  | x :: xs, h => by
    obtain ⟨h1, h2, h3⟩ := pks (xs := xs) fun y hy => h y (List.mem_cons_of_mem _ hy)
    have hx := h x (List.mem_cons_self ..)
    refine ⟨by simp only [datas, hx.data, h1]; rfl, by simp only [pys, PyData.canLayAll0, hx.lay, h2]; rfl, ?_⟩
    simp only [pys, PyData.depthAll]
    exact Nat.max_le.mpr ⟨hx.dep, h3⟩
theorem pk_tup {k : Nat} {xs : List D} (h : ∀ x ∈ xs, PK k x) : PK (k + 1) (.tup xs) := by
  obtain ⟨h1, h2, h3⟩ := pks h
  exact ⟨by simp only [D.data]; exact h1, by simp only [D.py, PyData.canLay0]; exact h2, by simp only [D.py, PyData.depth]; omega⟩
theorem pk_lst {k : Nat} {xs : List D} (h : ∀ x ∈ xs, PK k x) : PK (k + 1) (.lst xs) := by
  obtain ⟨h1, h2, h3⟩ := pks h
  exact ⟨by simp only [D.data]; exact h1, by simp only [D.py, PyData.canLay0]; exact h2, by simp only [D.py, PyData.depth]; omega⟩
theorem eqD_of {k : Nat} {a b : D} (ha : PK k a) (hb : PK k b) (hk : k ≤ 64) : eqD a b = some (PyData.eqv a.py b.py) := by
  unfold eqD
  rw [ha.plain hk, hb.plain hk]; rfl
/-- the items that f makes, are told apart by eqv -/
def EqF {ι : Type} [DecidableEq ι] (f : ι → D) : Prop := ∀ a b, PyData.eqv (f a).py (f b).py = decide (a = b)
theorem eqf_all {ι : Type} [DecidableEq ι] {f : ι → D} (h : EqF f) : ∀ l m : List ι, PyData.eqvAll (pys (l.map f)) (pys (m.map f)) = decide (l = m)
  | [], [] => by simp only [List.map_nil, pys, PyData.eqvAll]; simp
  | [], b :: m => by simp only [List.map_nil, List.map_cons, pys, PyData.eqvAll]; simp
  | a :: l, [] => by simp only [List.map_nil, List.map_cons, pys, PyData.eqvAll]; simp
  | a :: l, b :: m => by
    simp only [List.map_cons, pys, PyData.eqvAll]
    rw [h a b, eqf_all h l m]
    simp
theorem eqf_int : EqF (fun k : Nat => D.int (k : Int)) := fun a b => by
  simp only [D.py, PyData.eqv]
  rw [Bool.eq_iff_iff]; simp; omega
theorem eqf_tup {ι : Type} [DecidableEq ι] {f : ι → D} (h : EqF f) : EqF (fun l : List ι => D.tup (l.map f)) := fun a b => by
  simp only [D.py, PyData.eqv]; exact eqf_all h a b
theorem eqf_lst {ι : Type} [DecidableEq ι] {f : ι → D} (h : EqF f) : EqF (fun l : List ι => D.lst (l.map f)) := fun a b => by
  simp only [D.py, PyData.eqv]; exact eqf_all h a b
/-- a pair of numbers -/
def pD (p : Nat × Nat) : D := .tup [.int (p.1 : Int), .int (p.2 : Int)]
theorem eqf_pair : EqF pD := fun a b => by
  have := eqf_tup eqf_int [a.1, a.2] [b.1, b.2]
  rw [show (PyData.eqv (pD a).py (pD b).py) = decide ([a.1, a.2] = [b.1, b.2]) from this]
  obtain ⟨a1, a2⟩ := a
  obtain ⟨b1, b2⟩ := b
  simp
theorem pk_pair (p : Nat × Nat) : PK 1 (pD p) := pk_tup fun x hx => by
  rcases List.mem_cons.mp hx with rfl | hx
  · exact pk_int _
  · rw [List.mem_singleton.mp hx]; exact pk_int _
theorem eqD_nil {k : Nat} {xs : List D} (h : ∀ x ∈ xs, PK k x) (hk : k < 64) : eqD (.lst xs) (.lst []) = some xs.isEmpty := by
  rw [eqD_of (pk_lst h) ((pk_lst (k := k) (xs := []) fun _ h => nomatch h)) hk]
  cases xs <;> simp only [D.py, pys, PyData.eqv, PyData.eqvAll] <;> rfl
theorem cf1 {c : Bool} {acc : List D} {y : D} (ha : acc.length + (if c = true then [y] else []).length < lim) : if c = true then acc.length < lim ∧ acc ++ [y] = acc ++ (if c = true then [y] else []) else acc = acc ++ (if c = true then [y] else []) := by
  cases c
  · simp
  · simp only [if_true, List.length_cons, List.length_nil] at ha ⊢
    exact ⟨by omega, trivial⟩
theorem cf2 {c : Bool} {p : Prop} {acc : List D} {y : D} (hp : p) (ha : acc.length + (if c = true then [y] else []).length < lim) : if c = true then p ∧ acc.length < lim ∧ acc ++ [y] = acc ++ (if c = true then [y] else []) else acc = acc ++ (if c = true then [y] else []) := by
  cases c
  · simp
  · simp only [if_true, List.length_cons, List.length_nil] at ha ⊢
    exact ⟨hp, by omega, trivial⟩
theorem two_lim : 2 ≤ lim := by decide
theorem lim_eq : lim = 100000 := rfl
theorem small_len {ι : Type} {n : Nat} (h : n ≤ 1000) (l : List ι) (hl : l.length ≤ n) : l.length < lim := by rw [lim_eq]; omega
section
variable {S : Sl} {Q : Bool → Sl → Prop}
theorem o_nenil {ι : Type} {f : ι → D} {l : List ι} {k : Nat} (h : ∀ x, PK k (f x)) (hk : k < 64) : W (M.opt (cmpD .ne (.lst (l.map f)) (.lst [])) S) Q = Q (!l.isEmpty) S := by
  show W (M.opt ((eqD (.lst (l.map f)) (.lst [])).map (!·)) S) Q = _
  rw [eqD_nil (k := k) (fun x hx => by obtain ⟨y, _, rfl⟩ := List.mem_map.mp hx; exact h y) hk, List.isEmpty_map]; rfl
theorem o_eqnil {ι : Type} {f : ι → D} {l : List ι} {k : Nat} (h : ∀ x, PK k (f x)) (hk : k < 64) : W (M.opt (cmpD .eq (.lst (l.map f)) (.lst [])) S) Q = Q l.isEmpty S := by
  show W (M.opt (eqD (.lst (l.map f)) (.lst [])) S) Q = _
  rw [eqD_nil (k := k) (fun x hx => by obtain ⟨y, _, rfl⟩ := List.mem_map.mp hx; exact h y) hk, List.isEmpty_map]; rfl
theorem d_neints {l : List Nat} : Wq (M.opt (cmpD .ne (.lst (l.map fun (k : Nat) => D.int (k : Int))) (.lst []))) S Q = Q (!l.isEmpty) S := by rw [Wd_eq]; exact o_nenil (k := 0) (fun x => pk_int _) (by omega)
theorem d_eqints {l : List Nat} : Wq (M.opt (cmpD .eq (.lst (l.map fun (k : Nat) => D.int (k : Int))) (.lst []))) S Q = Q l.isEmpty S := by rw [Wd_eq]; exact o_eqnil (k := 0) (fun x => pk_int _) (by omega)
end
section
variable {G : Gam} {S : Sl} {QR : RV → Sl → Prop} {QU : Unit → Sl → Prop}
theorem db_lrng1 {n : Nat} : Wq (M.opt (bltD .lrng1 [.int (n : Int)])) S QR = (n ≤ lim ∧ QR (.fr ((List.range n).map fun (k : Nat) => D.int (k : Int))) S) := by
  rw [Wd_eq]
  show W (M.opt (if (n : Int) ≤ lim then (rngD 0 n).map .fr else none) S) QR = _
  rw [o_if]
  by_cases h : n ≤ lim
  · have e : rngD 0 (n : Int) = some ((List.range n).map fun (k : Nat) => D.int (k : Int)) := by
      unfold rngD
      have l : lim = 100000 := rfl
      have : rngOk 0 (n : Int) = true := by unfold rngOk; exact decide_eq_true (by omega)
      rw [if_pos this]
      unfold irng
      simp
    rw [e]
    have h2 : (n : Int) ≤ lim := by omega
    simp only [h, h2, true_and]; rfl
  · have h2 : ¬ (n : Int) ≤ lim := by omega
    simp only [h, h2, false_and]
theorem db_trng1 {n : Nat} : Wq (M.opt (bltD .trng1 [.int (n : Int)])) S QR = (n ≤ lim ∧ QR (.val (.tup ((List.range n).map fun (k : Nat) => D.int (k : Int)))) S) := by
  rw [Wd_eq]
  show W (M.opt (if (n : Int) ≤ lim then (rngD 0 n).map fun xs => RV.val (.tup xs) else none) S) QR = _
  rw [o_if]
  by_cases h : n ≤ lim
  · have e : rngD 0 (n : Int) = some ((List.range n).map fun (k : Nat) => D.int (k : Int)) := by
      unfold rngD
      have l : lim = 100000 := rfl
      have : rngOk 0 (n : Int) = true := by unfold rngOk; exact decide_eq_true (by omega)
      rw [if_pos this]
      unfold irng
      simp
    rw [e]
    have h2 : (n : Int) ≤ lim := by omega
    simp only [h, h2, true_and]; rfl
  · have h2 : ¬ (n : Int) ≤ lim := by omega
    simp only [h, h2, false_and]
theorem ds_parL2 {t1 t2 : Ta} {r1 r2 : RV} : Wq (parL ([t1, t2].map (stoA G)) [r1, r2]) S QU = Wq (stoX G [t1, t2] [r1, r2]) S QU := ds_parL rfl
theorem ds_parL3 {t1 t2 t3 : Ta} {r1 r2 r3 : RV} : Wq (parL ([t1, t2, t3].map (stoA G)) [r1, r2, r3]) S QU = Wq (stoX G [t1, t2, t3] [r1, r2, r3]) S QU := ds_parL rfl
theorem dm_app {xs : List D} {d : D} {Q : D × List D → Sl → Prop} : Wq (M.opt (mutD .app xs [d])) S Q = (xs.length < lim ∧ Q (.non, xs ++ [d]) S) := by
  rw [Wd_eq]
  show W (M.opt (if xs.length < lim then some (D.non, xs ++ [d]) else none) S) Q = _
  by_cases h : xs.length < lim
  · rw [if_pos h]; simp only [h, true_and]; rfl
  · rw [if_neg h]; simp only [h, false_and]; rfl
theorem dm_ext {xs ys : List D} {Q : D × List D → Sl → Prop} : Wq (M.opt (mutD .ext xs [.lst ys])) S Q = (xs.length + ys.length ≤ lim ∧ Q (.non, xs ++ ys) S) := by
  rw [Wd_eq]
  show W (M.opt (if xs.length + ys.length ≤ lim then some (D.non, xs ++ ys) else none) S) Q = _
  by_cases h : xs.length + ys.length ≤ lim
  · rw [if_pos h]; simp only [h, true_and]; rfl
  · rw [if_neg h]; simp only [h, false_and]; rfl
theorem dm_rev {xs : List D} {Q : D × List D → Sl → Prop} : Wq (M.opt (mutD .rev xs [])) S Q = Q (.non, xs.reverse) S := by rw [Wd_eq]; rfl
theorem dr_rng1c {n : Nat} {Q : List D → Sl → Prop} : Wq (M.opt (walkD .rng1 [.int (n : Int)])) S Q = (n < 2 ^ 60 ∧ Q ((List.range n).map fun (k : Nat) => D.int (k : Int)) S) := by
  rw [Wd_eq]
  show W (M.opt (rngD 0 (n : Int)) S) Q = _
  unfold rngD
  by_cases h : n < 2 ^ 60
  · have : rngOk 0 (n : Int) = true := by unfold rngOk; exact decide_eq_true (by omega)
    rw [if_pos this]
    have e : irng 0 ((n : Int) - 0).toNat = (List.range n).map fun (k : Nat) => D.int (k : Int) := by unfold irng; simp
    rw [e]; simp only [h, true_and]; rfl
  · have : ¬ rngOk 0 (n : Int) = true := by unfold rngOk; rw [decide_eq_true_eq]; omega
    rw [if_neg this]; simp only [h, false_and]; rfl
theorem dr_rng2c {a n : Nat} {Q : List D → Sl → Prop} : Wq (M.opt (walkD .rng2 [.int (a : Int), .int (n : Int)])) S Q = ((a < 2 ^ 60 ∧ n < 2 ^ 60) ∧ Q ((List.range (n - a)).map fun (k : Nat) => D.int ((a + k : Nat) : Int)) S) := by
  rw [Wd_eq]
  show W (M.opt (rngD (a : Int) (n : Int)) S) Q = _
  unfold rngD
  by_cases h : a < 2 ^ 60 ∧ n < 2 ^ 60
  · have : rngOk (a : Int) (n : Int) = true := by unfold rngOk; exact decide_eq_true (by omega)
    rw [if_pos this]
    have e : irng (a : Int) ((n : Int) - a).toNat = (List.range (n - a)).map fun (k : Nat) => D.int ((a + k : Nat) : Int) := by
      unfold irng
      rw [show ((n : Int) - a).toNat = n - a by omega]
      apply List.map_congr_left
      intro k _
      congr 1
    rw [e]; simp only [h, true_and]; rfl
  · have : ¬ rngOk (a : Int) (n : Int) = true := by unfold rngOk; rw [decide_eq_true_eq]; omega
    rw [if_neg this]; simp only [h, false_and]; rfl
theorem dr_rng2o {n : Nat} {Q : List D → Sl → Prop} : Wq (M.opt (walkD .rng2 [.int 1, .int (n : Int)])) S Q = (n < 2 ^ 60 ∧ Q ((List.range (n - 1)).map fun (k : Nat) => D.int ((1 + k : Nat) : Int)) S) := by
  have := dr_rng2c (S := S) (a := 1) (n := n) (Q := Q)
  rw [show Wq (M.opt (walkD .rng2 [.int 1, .int (n : Int)])) S Q = Wq (M.opt (walkD .rng2 [.int ((1 : Nat) : Int), .int (n : Int)])) S Q from rfl, this]
  simp
theorem erase_perm {ι : Type} : ∀ (l : List ι) (j : Nat) (h : j < l.length), (l[j] :: l.eraseIdx j).Perm l
  | x :: l, 0, _ => List.Perm.refl _
  | x :: l, j + 1, h => by
    have hj : j < l.length := by simpa using h
    have := erase_perm l j hj
    show (l[j] :: x :: l.eraseIdx j).Perm (x :: l)
    exact (List.Perm.swap _ _ _).trans (this.cons x)
theorem erase_map {ι β : Type} (f : ι → β) : ∀ (l : List ι) (j : Nat), (l.map f).eraseIdx j = (l.eraseIdx j).map f
  | [], _ => rfl
  | x :: l, 0 => rfl
  | x :: l, j + 1 => by
    show f x :: (l.map f).eraseIdx j = f x :: (l.eraseIdx j).map f
    rw [erase_map f l j]
theorem dm_popat {ι : Type} {f : ι → D} {l : List ι} {j : Nat} (h : j < l.length) {Q : D × List D → Sl → Prop} : Wq (M.opt (mutD .popat (l.map f) [.int (j : Int)])) S Q = Q (f l[j], (l.eraseIdx j).map f) S := by
  rw [Wd_eq]
  show W (M.opt ((ixD (l.map f).length (j : Int)).bind fun k => ((l.map f)[k]?).map fun d => (d, (l.map f).eraseIdx k)) S) Q = _
  rw [ixD_nat (by rw [List.length_map]; exact h)]
  show W (M.opt (((l.map f)[j]?).map fun d => (d, (l.map f).eraseIdx j)) S) Q = _
  rw [List.getElem?_map, List.getElem?_eq_getElem h, erase_map]; rfl
theorem atD_map {ι : Type} {f : ι → D} {l : List ι} {j : Nat} (h : j < l.length) : atD (l.map f) (j : Int) = some (f l[j]) := by
  rw [atD_nat (by rw [List.length_map]; exact h), List.getElem?_map, List.getElem?_eq_getElem h]; rfl
/-- ints at their places -/
theorem atN {l : List Nat} {j : Nat} (h : j < l.length) : atD (l.map fun (k : Nat) => D.int (k : Int)) (j : Int) = some (.int ((l.getD j 0 : Nat) : Int)) := by
  rw [atD_map (f := fun (k : Nat) => D.int (k : Int)) h, List.getD_eq_getElem?_getD, List.getElem?_eq_getElem h]; rfl
theorem setN {l : List Nat} {j v : Nat} : (l.map fun (k : Nat) => D.int (k : Int)).set j (.int (v : Int)) = (l.set j v).map fun (k : Nat) => D.int (k : Int) := by
  rw [List.map_set]
theorem repN (n v : Nat) : (List.replicate n [D.int (v : Int)]).flatten = (List.replicate n v).map fun (k : Nat) => D.int (k : Int) := by
  induction n with
  | zero => rfl
  | succ n ih => rw [List.replicate_succ, List.flatten_cons, ih, List.replicate_succ]; rfl
theorem rep0 (n : Nat) : (List.replicate n [D.int 0]).flatten = (List.replicate n 0).map fun (k : Nat) => D.int (k : Int) := repN n 0
theorem do_mulN {xs : List D} {n : Nat} : Wq (M.opt (binD .mul (.lst xs) (.int (n : Int)))) S QR = ((xs.length * n ≤ lim ∧ n < 2 ^ 62) ∧ QR (.fr (List.replicate n xs).flatten) S) := by
  rw [Wd_eq]
  show W (M.opt (binD .mul (.lst xs) (.int (n : Int))) S) QR = _
  rw [o_mulL, Int.toNat_natCast]
  congr 1
  refine propext ⟨fun h => ⟨h.1, by omega⟩, fun h => ⟨h.1, by omega, by omega⟩⟩
theorem d_item {l : List Nat} {j : Nat} (h : j < l.length) : Wq (M.opt (itemD (.lst (l.map fun (k : Nat) => D.int (k : Int))) (.int (j : Int)))) S QR = QR (.val (.int ((l.getD j 0 : Nat) : Int))) S := by
  rw [do_item, atN h]
theorem d_itemT {l : List Nat} {j : Nat} (h : j < l.length) : Wq (M.opt (itemD (.tup (l.map fun (k : Nat) => D.int (k : Int))) (.int (j : Int)))) S QR = QR (.val (.int ((l.getD j 0 : Nat) : Int))) S := by
  rw [do_itemT, atN h]
theorem at0N {l : List Nat} (h : 0 < l.length) : atD (l.map fun (k : Nat) => D.int (k : Int)) 0 = some (.int ((l.getD 0 0 : Nat) : Int)) := atN (j := 0) h
theorem d_item0 {l : List Nat} (h : 0 < l.length) : Wq (M.opt (itemD (.lst (l.map fun (k : Nat) => D.int (k : Int))) (.int 0))) S QR = QR (.val (.int ((l.getD 0 0 : Nat) : Int))) S := d_item (j := 0) h
theorem appN {l : List Nat} {v : Nat} : (l.map fun (k : Nat) => D.int (k : Int)) ++ [.int (v : Int)] = (l ++ [v]).map fun (k : Nat) => D.int (k : Int) := by
  rw [List.map_append]; rfl
theorem sum_castf {ι : Type} (f : ι → Nat) : ∀ l : List ι, (l.map fun x => ((f x : Nat) : Int)).sum = (((l.map f).sum : Nat) : Int)
  | [] => rfl
  | a :: l => by rw [List.map_cons, List.sum_cons, List.map_cons, List.sum_cons, sum_castf f l]; omega
theorem d_sumN {ι : Type} (f : ι → Nat) (l : List ι) : Wq (M.opt (bltD .sum [.lst (l.map fun x => D.int ((f x : Nat) : Int))])) S QR = QR (.val (.int (((l.map f).sum : Nat) : Int))) S := by
  rw [db_sum (ints_map (fun x => ((f x : Nat) : Int)) l), sum_castf]
theorem cutFrom {ι : Type} (xs : List ι) (k : Nat) : cutD xs (some (k : Int)) none = xs.drop k := by
  unfold cutD
  rw [HT.sIx_nat, HT.sIx_none]
  by_cases h : k ≤ xs.length
  · rw [Nat.min_eq_left h, List.take_of_length_le (by rw [List.length_drop]; omega)]
  · rw [Nat.min_eq_right (by omega), List.drop_of_length_le (Nat.le_refl _), List.drop_of_length_le (by omega)]; simp
theorem cutTo {ι : Type} (xs : List ι) (k : Nat) : cutD xs none (some (k : Int)) = xs.take k := by
  unfold cutD
  rw [HT.sIx_nat, HT.sIx_none]
  simp only [Nat.sub_zero, List.drop_zero]
  by_cases h : k ≤ xs.length
  · rw [Nat.min_eq_left h]
  · rw [Nat.min_eq_right (by omega), List.take_of_length_le (Nat.le_refl _), List.take_of_length_le (by omega)]
theorem do_from1 {xs : List D} : Wq (M.opt (sliceD (.lst xs) (some 1) none)) S QR = QR (.fr (xs.drop 1)) S := by
  rw [Wd_eq]
  show QR (.fr (cutD xs (some ((1 : Nat) : Int)) none)) S = _
  rw [cutFrom]
theorem do_to {xs : List D} {k : Nat} : Wq (M.opt (sliceD (.lst xs) none (some (k : Int)))) S QR = QR (.fr (xs.take k)) S := by
  rw [Wd_eq]
  show QR (.fr (cutD xs none (some (k : Int)))) S = _
  rw [cutTo]
theorem do_to1 {xs : List D} : Wq (M.opt (sliceD (.lst xs) none (some 1))) S QR = QR (.fr (xs.take 1)) S := do_to (k := 1)
theorem do_part {x : Int} {Q : Int → Sl → Prop} : Wq (M.opt (partD (.int x))) S Q = Q x S := by rw [Wd_eq]; rfl
theorem atM1 {l : List Nat} (h : 0 < l.length) : atD (l.map fun (k : Nat) => D.int (k : Int)) (-1) = some (.int ((l.getD (l.length - 1) 0 : Nat) : Int)) := by
  have e : ixD (l.map fun (k : Nat) => D.int (k : Int)).length (-1) = some (l.length - 1) := by
    rw [List.length_map]
    unfold ixD L2.ixN
    rw [if_neg (by omega), if_pos (by omega)]
    congr 1; omega
  unfold atD
  rw [e]
  show (l.map fun (k : Nat) => D.int (k : Int))[l.length - 1]? = _
  rw [List.getElem?_map, List.getD_eq_getElem?_getD, List.getElem?_eq_getElem (by omega)]; rfl
theorem min2N {a b : Nat} : (if (b : Int) < (a : Int) then (b : Int) else (a : Int)) = ((min a b : Nat) : Int) := by
  split <;> omega
theorem subN {a b : Nat} (h : b ≤ a) : (a : Int) - (b : Int) = ((a - b : Nat) : Int) := by omega
theorem sub1N {a : Nat} (h : 1 ≤ a) : (a : Int) - 1 = ((a - 1 : Nat) : Int) := by omega
end
end Pl
set_option Elab.async false
set_option linter.all false
namespace Pl
open PySem
/-! Which kind a datum is of, by equations -/
section
variable {S : Sl} {Q : Bool → Sl → Prop}
theorem di_int_bool {i : Int} : Wq (M.opt (isTgs (.int i) [.bool])) S Q = Q false S := by rw [Wd_eq]; rfl
theorem di_int_int {i : Int} : Wq (M.opt (isTgs (.int i) [.int])) S Q = Q true S := by rw [Wd_eq]; rfl
theorem di_int_str {i : Int} : Wq (M.opt (isTgs (.int i) [.str])) S Q = Q false S := by rw [Wd_eq]; rfl
theorem di_int_tuple {i : Int} : Wq (M.opt (isTgs (.int i) [.tuple])) S Q = Q false S := by rw [Wd_eq]; rfl
theorem di_int_list {i : Int} : Wq (M.opt (isTgs (.int i) [.list])) S Q = Q false S := by rw [Wd_eq]; rfl
theorem dn_int_non {i : Int} : Wq (M.opt (cmpD .is (.int i) .non)) S Q = Q false S := by rw [Wd_eq]; rfl
theorem di_tup_bool {i : List D} : Wq (M.opt (isTgs (.tup i) [.bool])) S Q = Q false S := by rw [Wd_eq]; rfl
theorem di_tup_int {i : List D} : Wq (M.opt (isTgs (.tup i) [.int])) S Q = Q false S := by rw [Wd_eq]; rfl
theorem di_tup_str {i : List D} : Wq (M.opt (isTgs (.tup i) [.str])) S Q = Q false S := by rw [Wd_eq]; rfl
theorem di_tup_tuple {i : List D} : Wq (M.opt (isTgs (.tup i) [.tuple])) S Q = Q true S := by rw [Wd_eq]; rfl
theorem di_tup_list {i : List D} : Wq (M.opt (isTgs (.tup i) [.list])) S Q = Q false S := by rw [Wd_eq]; rfl
theorem dn_tup_non {i : List D} : Wq (M.opt (cmpD .is (.tup i) .non)) S Q = Q false S := by rw [Wd_eq]; rfl
theorem di_lst_bool {i : List D} : Wq (M.opt (isTgs (.lst i) [.bool])) S Q = Q false S := by rw [Wd_eq]; rfl
theorem di_lst_int {i : List D} : Wq (M.opt (isTgs (.lst i) [.int])) S Q = Q false S := by rw [Wd_eq]; rfl
theorem di_lst_str {i : List D} : Wq (M.opt (isTgs (.lst i) [.str])) S Q = Q false S := by rw [Wd_eq]; rfl
theorem di_lst_tuple {i : List D} : Wq (M.opt (isTgs (.lst i) [.tuple])) S Q = Q false S := by rw [Wd_eq]; rfl
theorem di_lst_list {i : List D} : Wq (M.opt (isTgs (.lst i) [.list])) S Q = Q true S := by rw [Wd_eq]; rfl
theorem dn_lst_non {i : List D} : Wq (M.opt (cmpD .is (.lst i) .non)) S Q = Q false S := by rw [Wd_eq]; rfl
theorem di_bl_bool {i : Bool} : Wq (M.opt (isTgs (.bl i) [.bool])) S Q = Q true S := by rw [Wd_eq]; rfl
theorem di_bl_int {i : Bool} : Wq (M.opt (isTgs (.bl i) [.int])) S Q = Q true S := by rw [Wd_eq]; rfl
theorem di_bl_str {i : Bool} : Wq (M.opt (isTgs (.bl i) [.str])) S Q = Q false S := by rw [Wd_eq]; rfl
theorem di_bl_tuple {i : Bool} : Wq (M.opt (isTgs (.bl i) [.tuple])) S Q = Q false S := by rw [Wd_eq]; rfl
theorem di_bl_list {i : Bool} : Wq (M.opt (isTgs (.bl i) [.list])) S Q = Q false S := by rw [Wd_eq]; rfl
theorem dn_bl_non {i : Bool} : Wq (M.opt (cmpD .is (.bl i) .non)) S Q = Q false S := by rw [Wd_eq]; rfl
theorem di_str_bool {i : Str} : Wq (M.opt (isTgs (.str i) [.bool])) S Q = Q false S := by rw [Wd_eq]; rfl
theorem di_str_int {i : Str} : Wq (M.opt (isTgs (.str i) [.int])) S Q = Q false S := by rw [Wd_eq]; rfl
theorem di_str_str {i : Str} : Wq (M.opt (isTgs (.str i) [.str])) S Q = Q true S := by rw [Wd_eq]; rfl
theorem di_str_tuple {i : Str} : Wq (M.opt (isTgs (.str i) [.tuple])) S Q = Q false S := by rw [Wd_eq]; rfl
theorem di_str_list {i : Str} : Wq (M.opt (isTgs (.str i) [.list])) S Q = Q false S := by rw [Wd_eq]; rfl
theorem dn_str_non {i : Str} : Wq (M.opt (cmpD .is (.str i) .non)) S Q = Q false S := by rw [Wd_eq]; rfl
theorem di_obj_bool {c : Nat} {ks : List Nat} {i : List D} : Wq (M.opt (isTgs (.obj c ks i) [.bool])) S Q = Q false S := by rw [Wd_eq]; rfl
theorem di_obj_int {c : Nat} {ks : List Nat} {i : List D} : Wq (M.opt (isTgs (.obj c ks i) [.int])) S Q = Q false S := by rw [Wd_eq]; rfl
theorem di_obj_str {c : Nat} {ks : List Nat} {i : List D} : Wq (M.opt (isTgs (.obj c ks i) [.str])) S Q = Q false S := by rw [Wd_eq]; rfl
theorem di_obj_tuple {c : Nat} {ks : List Nat} {i : List D} : Wq (M.opt (isTgs (.obj c ks i) [.tuple])) S Q = Q false S := by rw [Wd_eq]; rfl
theorem di_obj_list {c : Nat} {ks : List Nat} {i : List D} : Wq (M.opt (isTgs (.obj c ks i) [.list])) S Q = Q false S := by rw [Wd_eq]; rfl
theorem dn_ne_bl {a b : Bool} : Wq (M.opt (cmpD .ne (.bl a) (.bl b))) S Q = Q (a != b) S := by rw [Wd_eq]; cases a <;> cases b <;> rfl
theorem dn_eq_bl {a b : Bool} : Wq (M.opt (cmpD .eq (.bl a) (.bl b))) S Q = Q (a == b) S := by rw [Wd_eq]; cases a <;> cases b <;> rfl
theorem dn_obj {c : Nat} {ks : List Nat} {xs : List D} {k : Nat} : Wq (M.opt (isTgs (.obj k ks xs) [.cls c])) S Q = Q (decide (c = k)) S := by rw [Wd_eq]; rfl
end
section
variable {S : Sl} {QR : RV → Sl → Prop}
theorem dz_to1 {ns : List Int} : Wq (M.opt (sliceD (.scr ns) none (some 1))) S QR = QR (.fr ((ns.take 1).map D.int)) S := by
  rw [Wd_eq]
  show QR (.fr ((cutD ns none (some ((1 : Nat) : Int))).map D.int)) S = _
  rw [cutTo]
theorem dz_sum {ns : List Int} : Wq (M.opt (bltD .sum [.lst (ns.map D.int)])) S QR = QR (.val (.int ns.sum)) S := by
  rw [Wd_eq]
  show W (M.opt ((intsD (ns.map D.int)).bind fun ns => vi (sumI ns)) S) QR = _
  rw [show ns.map D.int = ns.map (fun x => D.int ((fun i => i) x)) from rfl, ints_map, List.map_id']
  rfl
end
end Pl
set_option Elab.async false
set_option linter.all false
namespace Pl
open PySem
/-! Making an object, comprehensions with two clauses -/
section
variable {G : Gam} {S : Sl} {QR : RV → Sl → Prop} {e : Ex}
theorem de_lc2 {vs vs1 : List Nat} {k k1 : Ik} {it fs it1 fs1 : List Ex} {g g1 : Tgt} : Wq (evE G (.lc2 vs vs1 k it g fs k1 it1 g1 fs1 e)) S QR = Wq (evEs G it) S (fun ds S1 => Wq (M.opt (walkD k ds)) S1 fun xs S2 =>
    Wq (blockM vs (compM vs g (fun acc => (evTs G fs).bind fun b => if b then (evEs G it1).bind fun ds1 => (M.opt (walkD k1 ds1)).bind fun ys =>
        innerM vs1 (compM vs1 g1 (fun acc => (evTs G fs1).bind fun b => if b then (evE G e).toD.bind fun y => keepM acc y else M.pure acc) ys acc) else M.pure acc) xs [])) S2 QR) := by
  simp only [Wd_eq]
  simp only [evE]; simp only [W_bind]
theorem k_innerM {vs : List Nat} {g : Tgt} {f : List D → M (List D)} {ι : Type} {xs : List ι} {Q : List D → Sl → Prop} {acc0 : List D} (h : ι → D) (e : ι → List D) (hl : acc0.length + (xs.flatMap e).length < lim)
    (hs : ∀ x, x ∈ xs → ∀ acc, acc.length + (e x).length < lim → ∃ S1, tgtS g (h x) (wipeS S vs) = some S1 ∧ Wq (f acc) S1 fun acc1 S2 => acc1 = acc ++ e x ∧ wipeS S2 vs = wipeS S vs)
    (hq : Q (acc0 ++ xs.flatMap e) S) : Wq (innerM vs (compM vs g f (xs.map h) acc0)) S Q := by
  refine ⟨?_⟩
  have key := W_compM (f := f) (g := g) (vs := vs) (Q := fun acc S1 => Q acc (backAll S vs S1)) h e xs (acc := acc0) (S := S) rfl hl (fun x hx acc ha => by
    obtain ⟨S1, e1, e2⟩ := hs x hx acc ha; exact ⟨S1, e1, e2.out⟩) (fun S1 h1 => by show Q _ (backAll S vs S1); rw [back_same h1]; exact hq)
  unfold innerM
  cases e : compM vs g f (xs.map h) acc0 S <;> rw [e] at key <;> first | exact key | exact key.elim
theorem k_ini {P : Pr} {n c : Nat} {fn : Fn} {xs : List D} {Q : RV → Option (List D) → Prop} (hf : P.ini c = some fn) (hs : startS fn (.non :: xs) none = some S)
    (h : Wq (exSs (gam P n) fn.body) (S.set 0 (.slf c [] [])) fun ct S1 => ct = .nx ∧ ∃ ks ys, getS S1 0 = .slf c ks ys ∧ Q (.val (.obj c ks ys)) none) : Wk (makeG P (gam P n) c xs) Q := by
  refine ⟨?_⟩
  unfold makeG
  rw [hf]
  show Wc (runIni (gam P n) c fn xs) Q
  unfold runIni
  rw [hs]
  have h := h.out
  show Wc (endI c (exSs (gam P n) fn.body (S.set 0 (.slf c [] [])))) Q
  cases e : exSs (gam P n) fn.body (S.set 0 (.slf c [] [])) with
  | ok ct S1 =>
    rw [e] at h
    obtain ⟨rfl, ks, ys, h1, h2⟩ := h
    unfold endI
    simp only [h1, if_true]
    exact h2
  | ex k d S1 => rw [e] at h; exact h.elim
  | bad => rw [e] at h; exact h.elim
theorem k_make {P : Pr} {n c : Nat} {xs : List D} (h : Wk (makeG P (gam P n) c xs) fun r o => o = none ∧ QR r S) : Wq (makeM (gam P (n + 2)).make c xs) S QR := by
  refine ⟨?_⟩
  have h := h.out
  rw [gam_make]
  unfold makeM
  cases e : makeG P (gam P n) c xs with
  | ok r o =>
    rw [e] at h
    obtain ⟨rfl, h⟩ := h
    exact h
  | _ => rw [e] at h; exact h.elim
end
section
variable {S : Sl} {QR : RV → Sl → Prop} {c : Nat} {a0 a1 a2 a3 : D}
theorem df_0 : Wq (M.opt (fldD 0 (.obj c [0, 1, 2, 3] [a0, a1, a2, a3]))) S QR = QR (.val a0) S := by rw [Wd_eq]; rfl
theorem df_1 : Wq (M.opt (fldD 1 (.obj c [0, 1, 2, 3] [a0, a1, a2, a3]))) S QR = QR (.val a1) S := by rw [Wd_eq]; rfl
theorem df_2 : Wq (M.opt (fldD 2 (.obj c [0, 1, 2, 3] [a0, a1, a2, a3]))) S QR = QR (.val a2) S := by rw [Wd_eq]; rfl
theorem df_3 : Wq (M.opt (fldD 3 (.obj c [0, 1, 2, 3] [a0, a1, a2, a3]))) S QR = QR (.val a3) S := by rw [Wd_eq]; rfl
theorem df_i : Wq (M.opt (fldD 0 (.obj c [0, 1] [a0, a1]))) S QR = QR (.val a0) S := by rw [Wd_eq]; rfl
end
end Pl
set_option Elab.async false
set_option linter.all false
set_option maxRecDepth 100000
/-! The defs of the law, as the evaluator runs them (printed by gen2.py). -/
namespace Pl.k09
open PySem Pl

/-- _wall ['k'] -/
def b0 : List Sm := [(.wh (.c (.bl true)) [.pass])]
def f0 : Fn := ⟨1, none, 1, b0⟩
/-- is_integer ['value'] -/
def b1 : List Sm := [(.ret (.and (.isi (.v 0) [.int]) (.not (.isi (.v 0) [.bool]))))]
def f1 : Fn := ⟨1, none, 1, b1⟩
/-- is_between ['value', 'least', 'most'] -/
def b2 : List Sm := [(.ret (.and (.call 1 [(.v 0)] [] [.at 0]) (.chain .le .le (.v 1) (.v 0) (.v 2))))]
def f2 : Fn := ⟨3, none, 3, b2⟩
/-- is_tuple_of ['value', 'many'] -/
def b3 : List Sm := [(.ret (.and (.isi (.v 0) [.tuple]) (.cmp .eq (.blt .len [(.v 0)]) (.v 1))))]
def f3 : Fn := ⟨2, none, 2, b3⟩
/-- are_between ['values', 'least', 'most', 'value'] -/
def b4 : List Sm := [(.ret (.blt .all [(.lc1 [3] .seq [(.v 0)] (.nm 3) [] (.call 2 [(.v 3), (.v 1), (.v 2)] [] [.at 0, .at 1, .at 2]))]))]
def f4 : Fn := ⟨3, none, 4, b4⟩
/-- is_row ['value', 'many', 'least', 'most'] -/
def b5 : List Sm := [(.ret (.and (.call 3 [(.v 0), (.v 1)] [] [.at 0, .at 1]) (.call 4 [(.v 0), (.v 2), (.v 3)] [] [.at 0, .at 1, .at 2])))]
def f5 : Fn := ⟨4, none, 4, b5⟩
/-- mask_of ['subset', 'vertex'] -/
def b6 : List Sm := [(.ret (.blt .sum [(.lc1 [1] .seq [(.v 0)] (.nm 1) [] (.bin .shl (.c (.int (1))) (.v 1)))]))]
def f6 : Fn := ⟨1, none, 2, b6⟩
/-- subset_of ['mask', 'vertex'] -/
def b7 : List Sm := [(.ret (.blt .tuple [(.lc1 [1] .rng1 [(.c (.int (8)))] (.nm 1) [(.bin .and (.bin .shr (.v 0) (.v 1)) (.c (.int (1))))] (.v 1))]))]
def f7 : Fn := ⟨1, none, 2, b7⟩
/-- many_in ['mask'] -/
def b8 : List Sm := [(.ret (.blt .len [(.call 7 [(.v 0)] [] [.at 0])]))]
def f8 : Fn := ⟨1, none, 1, b8⟩
/-- first_in ['mask'] -/
def b9 : List Sm := [(.ret (.ix (.call 7 [(.v 0)] [] [.at 0]) (.c (.int (0)))))]
def f9 : Fn := ⟨1, none, 1, b9⟩
/-- beside ['near', 'mask', 'found', 'vertex'] -/
def b10 : List Sm := [(.asg (.nm 2 false) (.c (.int (0)))), (.for .seq [(.call 7 [(.v 1)] [] [.at 0])] (.nm 3) [(.asg (.nm 2 false) (.bin .or (.v 2) (.ix (.v 0) (.v 3))))]), (.ret (.v 2))]
def f10 : Fn := ⟨2, none, 4, b10⟩
/-- reached ['near', 'inside', 'start', 'found', 'more'] -/
def b11 : List Sm := [(.par [(.nm 3 false), (.nm 4 false)] [(.c (.int (0))), (.bin .shl (.c (.int (1))) (.v 2))]), (.wh (.cmp .ne (.v 4) (.v 3)) [(.asg (.nm 3 false) (.v 4)), (.asg (.nm 4 false) (.bin .or (.v 3) (.bin .and (.call 10 [(.v 0), (.v 3)] [] [.at 0, .at 1]) (.v 1))))]), (.ret (.v 3))]
def f11 : Fn := ⟨3, none, 5, b11⟩
/-- parts_in ['near', 'inside', 'found', 'left', 'part'] -/
def b12 : List Sm := [(.par [(.nm 2 true), (.nm 3 false)] [(.lst []), (.v 1)]), (.wh (.cmp .ne (.v 3) (.c (.int (0)))) [(.asg (.nm 4 false) (.call 11 [(.v 0), (.v 1), (.call 9 [(.v 3)] [] [.at 0])] [] [.at 0, .at 1, .at 2])), (.expr (.mut 2 .app [(.v 4)])), (.asg (.nm 3 false) (.bin .and (.v 3) (.un .inv (.v 4))))]), (.ret (.v 2))]
def f12 : Fn := ⟨2, none, 5, b12⟩
/-- check_size ['size', 'least', 'most'] -/
def b13 : List Sm := [(.iff (.not (.call 2 [(.v 0), (.v 1), (.v 2)] [] [.at 0, .at 1, .at 2])) [.nev] [])]
def f13 : Fn := ⟨3, none, 3, b13⟩
/-- is_pair ['size', 'value'] -/
def b14 : List Sm := [(.ret (.and (.call 5 [(.v 1), (.c (.int (2))), (.c (.int (0))), (.bin .sub (.v 0) (.c (.int (1))))] [] [.at 0, .at 1, .at 2, .at 3]) (.cmp .ne (.ix (.v 1) (.c (.int (0)))) (.ix (.v 1) (.c (.int (1)))))))]
def f14 : Fn := ⟨2, none, 2, b14⟩
/-- are_pairs ['size', 'value', 'item'] -/
def b15 : List Sm := [(.iff (.or (.not (.isi (.v 1) [.tuple])) (.cmp .gt (.blt .len [(.v 1)]) (.c (.int (60))))) [(.ret (.c (.bl false)))] []), (.ret (.blt .all [(.lc1 [2] .seq [(.v 1)] (.nm 2) [] (.call 14 [(.v 0), (.v 2)] [] [.at 0, .at 1]))]))]
def f15 : Fn := ⟨2, none, 3, b15⟩
/-- near_of ['size', 'edges', 'near', 'one', 'other'] -/
def b16 : List Sm := [(.asg (.nm 2 true) (.bin .mul (.lst [(.c (.int (0)))]) (.v 0))), (.for .seq [(.v 1)] (.tp [3, 4]) [(.asg (.sub 2 (.v 3)) (.bin .or (.ix (.v 2) (.v 3)) (.bin .shl (.c (.int (1))) (.v 4)))), (.asg (.sub 2 (.v 4)) (.bin .or (.ix (.v 2) (.v 4)) (.bin .shl (.c (.int (1))) (.v 3))))]), (.ret (.v 2))]
def f16 : Fn := ⟨2, none, 5, b16⟩
/-- edges_of ['near', 'pairs', 'one', 'other'] -/
def b17 : List Sm := [(.asg (.nm 1 false) (.lc2 [2, 3] [3] .rng1 [(.blt .len [(.v 0)])] (.nm 2) [] .rng2 [(.bin .add (.v 2) (.c (.int (1)))), (.blt .len [(.v 0)])] (.nm 3) [] (.tup [(.v 2), (.v 3)]))), (.ret (.blt .tuple [(.lc1 [2, 3] .seq [(.v 1)] (.tp [2, 3]) [(.bin .and (.bin .shr (.ix (.v 0) (.v 2)) (.v 3)) (.c (.int (1))))] (.tup [(.v 2), (.v 3)]))]))]
def f17 : Fn := ⟨1, none, 4, b17⟩
/-- connectivity ['graph', 'counts', 'rest', 'near', 'full'] -/
def b18 : List Sm := [(.par [(.nm 3 false), (.nm 4 false)] [(.meth (.v 0) 7 [] [] [.at 0]), (.call 6 [(.fld (.v 0) 3)] [] [.at 0])]), (.asg (.nm 1 true) (.lst [])), (.for .rng1 [(.bin .add (.v 4) (.c (.int (1))))] (.nm 2) [(.iff (.or (.cmp .eq (.call 8 [(.v 2)] [] [.at 0]) (.c (.int (1)))) (.cmp .gt (.blt .len [(.call 12 [(.v 3), (.v 2)] [] [.at 0, .at 1])]) (.c (.int (1))))) [(.expr (.mut 1 .app [(.bin .sub (.fld (.v 0) 1) (.call 8 [(.v 2)] [] [.at 0]))]))] [])]), (.ret (.ite (.cmp .eq (.v 1) (.lst [])) (.c (.int (0))) (.blt .minl [(.v 1)])))]
def f18 : Fn := ⟨1, none, 5, b18⟩
/-- smallest_cut ['graph', 'cuts', 'side', 'edge'] -/
def b19 : List Sm := [(.asg (.nm 1 true) (.ite (.cmp .lt (.fld (.v 0) 1) (.c (.int (2)))) (.lst [(.tup [])]) (.lst []))), (.for .rng2 [(.c (.int (1))), (.call 6 [(.fld (.v 0) 3)] [] [.at 0])] (.nm 2) [(.expr (.mut 1 .app [(.blt .tuple [(.lc1 [3] .seq [(.fld (.v 0) 2)] (.nm 3) [(.cmp .ne (.bin .and (.bin .shr (.v 2) (.ix (.v 3) (.c (.int (0))))) (.c (.int (1)))) (.bin .and (.bin .shr (.v 2) (.ix (.v 3) (.c (.int (1))))) (.c (.int (1)))))] (.v 3))])]))]), (.ret (.blt .minlen [(.v 1)]))]
def f19 : Fn := ⟨1, none, 4, b19⟩
/-- edge_connectivity ['graph'] -/
def b20 : List Sm := [(.ret (.blt .len [(.call 19 [(.v 0)] [] [.at 0])]))]
def f20 : Fn := ⟨1, none, 1, b20⟩
/-- _law_cell ['script', 'k'] -/
def b21 : List Sm := [(.ret (.ite (.cmp .lt (.v 1) (.blt .len [(.v 0)])) (.ix (.v 0) (.v 1)) (.bin .add (.bin .mul (.c (.int (6007))) (.v 1)) (.bin .mod (.blt .int [(.blt .sum [(.sl (.v 0) .nil (.c (.int (1))))])]) (.c (.int (1000033)))))))]
def f21 : Fn := ⟨2, none, 2, b21⟩
/-- _law_box ['great'] -/
def b22 : List Sm := [(.ret (.lst [(.blt .abs [(.v 0)]), (.cmp .ge (.blt .abs [(.v 0)]) (.bin .pow (.c (.int (10))) (.c (.int (18))))), (.bin .mod (.blt .int [(.blt .abs [(.v 0)])]) (.c (.int (2147483629)))), (.c (.int (0)))]))]
def f22 : Fn := ⟨1, none, 1, b22⟩
/-- _law_take ['box', 'many', 'mixed', 'digit'] -/
def b23 : List Sm := [(.iff (.and (.ix (.v 0) (.c (.int (1)))) (.cmp .gt (.ix (.v 0) (.c (.int (0)))) (.c (.int (0))))) [(.asg (.nm 3 false) (.bin .mod (.blt .int [(.ix (.v 0) (.c (.int (0))))]) (.v 1))), (.asg (.sub 0 (.c (.int (0)))) (.bin .fdiv (.ix (.v 0) (.c (.int (0)))) (.v 1))), (.ret (.v 3))] []), (.asg (.sub 0 (.c (.int (3)))) (.bin .add (.ix (.v 0) (.c (.int (3)))) (.c (.int (1))))), (.asg (.nm 2 false) (.bin .mod (.blt .int [(.bin .pow (.bin .add (.bin .add (.ix (.v 0) (.c (.int (2)))) (.bin .mul (.c (.int (15485863))) (.ix (.v 0) (.c (.int (3)))))) (.c (.int (179424673)))) (.c (.int (5))))]) (.c (.int (2147483647))))), (.ret (.bin .mod (.blt .int [(.bin .fdiv (.bin .mod (.blt .int [(.bin .pow (.bin .add (.bin .mul (.v 2) (.c (.int (48271)))) (.bin .mul (.c (.int (104729))) (.ix (.v 0) (.c (.int (3)))))) (.c (.int (3))))]) (.c (.int (2147483587)))) (.c (.int (64))))]) (.v 1)))]
def f23 : Fn := ⟨2, (some 0), 4, b23⟩
/-- _law_same ['told', 'due', 'k'] -/
def b24 : List Sm := [(.iff (.or (.cmp .is (.v 1) (.c .non)) (.isi (.v 1) [.bool])) [(.ret (.ite (.cmp .is (.v 1) (.c .non)) (.cmp .is (.v 0) (.c .non)) (.and (.isi (.v 0) [.bool]) (.cmp .eq (.cmp .is (.v 0) (.c (.bl true))) (.cmp .is (.v 1) (.c (.bl true)))))))] []), (.iff (.isi (.v 1) [.int]) [(.ret (.and (.isi (.v 0) [.int]) (.and (.not (.isi (.v 0) [.bool])) (.cmp .eq (.bin .sub (.blt .int [(.v 0)]) (.v 1)) (.c (.int (0)))))))] []), (.iff (.isi (.v 1) [.str]) [(.ret (.and (.isi (.v 0) [.str]) (.and (.cmp .eq (.blt .len [(.v 0)]) (.blt .len [(.v 1)])) (.cmp .eq (.lc1 [2] .rng1 [(.blt .len [(.v 1)])] (.nm 2) [(.cmp .ne (.sl (.v 0) (.v 2) (.bin .add (.v 2) (.c (.int (1))))) (.ix (.v 1) (.v 2)))] (.v 2)) (.lst [])))))] []), (.iff (.or (.cmp .ne (.isi (.v 0) [.list]) (.isi (.v 1) [.list])) (.cmp .ne (.isi (.v 0) [.tuple]) (.isi (.v 1) [.tuple]))) [(.ret (.c (.bl false)))] []), (.ret (.and (.cmp .eq (.blt .len [(.v 0)]) (.blt .len [(.v 1)])) (.cmp .eq (.lc1 [2] .rng1 [(.blt .len [(.v 1)])] (.nm 2) [(.not (.call 24 [(.ix (.v 0) (.v 2)), (.ix (.v 1) (.v 2))] [] [.at 0, .at 1]))] (.v 2)) (.lst []))))]
def f24 : Fn := ⟨2, none, 3, b24⟩
/-- _law_set ['mask', 'v'] -/
def b25 : List Sm := [(.ret (.blt .tuple [(.lc1 [1] .rng1 [(.c (.int (8)))] (.nm 1) [(.bin .and (.bin .shr (.v 0) (.v 1)) (.c (.int (1))))] (.v 1))]))]
def f25 : Fn := ⟨1, none, 2, b25⟩
/-- _law_mask ['subset', 'v'] -/
def b26 : List Sm := [(.ret (.blt .sum [(.lc1 [1] .seq [(.v 0)] (.nm 1) [] (.bin .shl (.c (.int (1))) (.v 1)))]))]
def f26 : Fn := ⟨1, none, 2, b26⟩
/-- _law_count ['mask', 'v'] -/
def b27 : List Sm := [(.ret (.blt .len [(.lc1 [1] .rng1 [(.c (.int (8)))] (.nm 1) [(.bin .and (.bin .shr (.v 0) (.v 1)) (.c (.int (1))))] (.v 1))]))]
def f27 : Fn := ⟨1, none, 2, b27⟩
/-- _law_mixed ['box', 'many', 'left', 'found'] -/
def b28 : List Sm := [(.par [(.nm 2 true), (.nm 3 true)] [(.blt .lrng1 [(.v 1)]), (.lst [])]), (.wh (.cmp .ne (.v 2) (.lst [])) [(.expr (.mut 3 .app [(.mut 2 .popat [(.call 23 [.io 0, (.blt .len [(.v 2)])] [] [.at 0, .at 1])])]))]), (.ret (.v 3))]
def f28 : Fn := ⟨2, (some 0), 4, b28⟩
/-- _law_couples ['size', 'found', 'a', 'b'] -/
def b29 : List Sm := [(.asg (.nm 1 true) (.lst [])), (.for .rng1 [(.v 0)] (.nm 2) [(.expr (.mut 1 .ext [(.lc1 [3] .rng2 [(.bin .add (.v 2) (.c (.int (1)))), (.v 0)] (.nm 3) [] (.tup [(.v 2), (.v 3)]))]))]), (.ret (.v 1))]
def f29 : Fn := ⟨1, none, 4, b29⟩
/-- _law_near ['size', 'edges', 'found', 'a', 'b'] -/
def b30 : List Sm := [(.asg (.nm 2 true) (.bin .mul (.lst [(.c (.int (0)))]) (.v 0))), (.for .seq [(.v 1)] (.tp [3, 4]) [(.par [(.sub 2 (.v 3)), (.sub 2 (.v 4))] [(.bin .or (.ix (.v 2) (.v 3)) (.bin .shl (.c (.int (1))) (.v 4))), (.bin .or (.ix (.v 2) (.v 4)) (.bin .shl (.c (.int (1))) (.v 3)))])]), (.ret (.v 2))]
def f30 : Fn := ⟨2, none, 5, b30⟩
/-- _law_edges ['size', 'near', 'a', 'b'] -/
def b31 : List Sm := [(.ret (.blt .tuple [(.lc1 [2, 3] .seq [(.call 29 [(.v 0)] [] [.at 0])] (.tp [2, 3]) [(.bin .and (.bin .shr (.ix (.v 1) (.v 2)) (.v 3)) (.c (.int (1))))] (.tup [(.v 2), (.v 3)]))]))]
def f31 : Fn := ⟨2, none, 4, b31⟩
/-- _law_complement ['size', 'near', 'full', 'v'] -/
def b32 : List Sm := [(.asg (.nm 2 false) (.bin .sub (.bin .shl (.c (.int (1))) (.v 0)) (.c (.int (1))))), (.ret (.lc1 [3] .rng1 [(.v 0)] (.nm 3) [] (.bin .and (.bin .and (.v 2) (.un .inv (.ix (.v 1) (.v 3)))) (.un .inv (.bin .shl (.c (.int (1))) (.v 3))))))]
def f32 : Fn := ⟨2, none, 4, b32⟩
/-- _law_reach ['near', 'inside', 'start', 'found', 'more', 'v'] -/
def b33 : List Sm := [(.par [(.nm 3 false), (.nm 4 false)] [(.c (.int (0))), (.bin .shl (.c (.int (1))) (.v 2))]), (.wh (.cmp .ne (.v 4) (.v 3)) [(.asg (.nm 3 false) (.v 4)), (.for .rng1 [(.blt .len [(.v 0)])] (.nm 5) [(.iff (.bin .and (.bin .shr (.v 3) (.v 5)) (.c (.int (1)))) [(.asg (.nm 4 false) (.bin .or (.v 4) (.bin .and (.ix (.v 0) (.v 5)) (.v 1))))] [])])]), (.ret (.v 3))]
def f33 : Fn := ⟨3, none, 6, b33⟩
/-- _law_parts ['near', 'inside', 'found', 'left', 'start', 'part', 'v'] -/
def b34 : List Sm := [(.par [(.nm 2 true), (.nm 3 false)] [(.lst []), (.v 1)]), (.wh (.cmp .ne (.v 3) (.c (.int (0)))) [(.asg (.nm 4 false) (.ix (.lc1 [6] .rng1 [(.blt .len [(.v 0)])] (.nm 6) [(.bin .and (.bin .shr (.v 3) (.v 6)) (.c (.int (1))))] (.v 6)) (.c (.int (0))))), (.asg (.nm 5 false) (.call 33 [(.v 0), (.v 1), (.v 4)] [] [.at 0, .at 1, .at 2])), (.expr (.mut 2 .app [(.v 5)])), (.asg (.nm 3 false) (.bin .and (.v 3) (.un .inv (.v 5))))]), (.ret (.v 2))]
def f34 : Fn := ⟨2, none, 7, b34⟩
/-- _law_renamed ['size', 'near', 'images', 'found', 'v', 'w'] -/
def b35 : List Sm := [(.asg (.nm 3 true) (.bin .mul (.lst [(.c (.int (0)))]) (.v 0))), (.for .rng1 [(.v 0)] (.nm 4) [(.asg (.sub 3 (.ix (.v 2) (.v 4))) (.blt .sum [(.lc1 [5] .rng1 [(.v 0)] (.nm 5) [(.bin .and (.bin .shr (.ix (.v 1) (.v 4)) (.v 5)) (.c (.int (1))))] (.bin .shl (.c (.int (1))) (.ix (.v 2) (.v 5))))]))]), (.ret (.v 3))]
def f35 : Fn := ⟨3, none, 6, b35⟩
/-- _law_glued ['box', 'size', 'near', 'v', 'row', 'many', 'root', 'a', 'b', 'k'] -/
def b36 : List Sm := [(.par [(.nm 2 true), (.nm 3 false)] [(.bin .mul (.lst [(.c (.int (0)))]) (.v 1)), (.c (.int (1)))]), (.wh (.cmp .lt (.v 3) (.v 1)) [(.par [(.nm 5 false), (.nm 6 false)] [(.blt .min2 [(.bin .sub (.v 1) (.v 3)), (.bin .add (.c (.int (1))) (.call 23 [.io 0, (.c (.int (4)))] [] [.at 0, .at 1]))]), (.call 23 [.io 0, (.v 3)] [] [.at 0, .at 1])]), (.asg (.nm 4 false) (.bin .add (.lst [(.v 6)]) (.lc1 [9] .rng1 [(.v 5)] (.nm 9) [] (.bin .add (.v 3) (.v 9))))), (.iff (.cmp .eq (.call 23 [.io 0, (.c (.int (7)))] [] [.at 0, .at 1]) (.c (.int (0)))) [(.asg (.nm 4 false) (.sl (.v 4) (.c (.int (1))) .nil))] []), (.for .seq [(.bin .add (.lc1 [9] .rng1 [(.bin .sub (.blt .len [(.v 4)]) (.c (.int (1))))] (.nm 9) [] (.tup [(.ix (.v 4) (.v 9)), (.ix (.v 4) (.bin .add (.v 9) (.c (.int (1)))))])) (.ite (.and (.cmp .gt (.blt .len [(.v 4)]) (.c (.int (2)))) (.cmp .gt (.call 23 [.io 0, (.c (.int (5)))] [] [.at 0, .at 1]) (.c (.int (0))))) (.lst [(.tup [(.ix (.v 4) (.c (.int (0)))), (.ix (.v 4) (.un .neg (.c (.int (1)))))])]) (.lst [])))] (.tp [7, 8]) [(.par [(.sub 2 (.v 7)), (.sub 2 (.v 8))] [(.bin .or (.ix (.v 2) (.v 7)) (.bin .shl (.c (.int (1))) (.v 8))), (.bin .or (.ix (.v 2) (.v 8)) (.bin .shl (.c (.int (1))) (.v 7)))])]), (.asg (.nm 3 false) (.bin .add (.v 3) (.v 5)))]), (.ret (.v 2))]
def f36 : Fn := ⟨2, (some 0), 10, b36⟩
/-- _law_drawn ['box', 'size', 'way', 'couples', 'odds', 'near', 'left', 'couple', 'v', 'a', 'b', 'edges'] -/
def b37 : List Sm := [(.asg (.nm 2 false) (.call 23 [.io 0, (.c (.int (9)))] [] [.at 0, .at 1])), (.asg (.nm 3 false) (.call 29 [(.v 1)] [] [.at 0])), (.iff (.cmp .lt (.v 2) (.c (.int (3)))) [(.asg (.nm 4 false) (.bin .add (.c (.int (1))) (.call 23 [.io 0, (.c (.int (6)))] [] [.at 0, .at 1]))), (.asg (.nm 5 true) (.call 30 [(.v 1), (.lc1 [7] .seq [(.v 3)] (.nm 7) [(.cmp .lt (.call 23 [.io 0, (.c (.int (7)))] [] [.at 0, .at 1]) (.v 4))] (.v 7))] [] [.at 0, .at 1]))] [(.iff (.cmp .eq (.v 2) (.c (.int (3)))) [(.asg (.nm 6 false) (.lc1 [8] .rng1 [(.v 1)] (.nm 8) [] (.call 23 [.io 0, (.c (.int (2)))] [] [.at 0, .at 1]))), (.asg (.nm 5 true) (.call 30 [(.v 1), (.lc1 [9, 10] .seq [(.v 3)] (.tp [9, 10]) [(.and (.cmp .ne (.ix (.v 6) (.v 9)) (.ix (.v 6) (.v 10))) (.cmp .ne (.call 23 [.io 0, (.c (.int (3)))] [] [.at 0, .at 1]) (.c (.int (0)))))] (.tup [(.v 9), (.v 10)]))] [] [.at 0, .at 1]))] [(.iff (.cmp .lt (.v 2) (.c (.int (6)))) [(.asg (.nm 5 true) (.call 36 [.io 0, (.v 1)] [] [.at 0, .at 1]))] [(.iff (.cmp .eq (.v 2) (.c (.int (6)))) [(.asg (.nm 5 true) (.call 30 [(.v 1), (.lc1 [8] .rng2 [(.c (.int (1))), (.v 1)] (.nm 8) [] (.tup [(.call 23 [.io 0, (.v 8)] [] [.at 0, .at 1]), (.v 8)]))] [] [.at 0, .at 1])), (.for .seq [(.v 3)] (.tp [9, 10]) [(.iff (.cmp .eq (.call 23 [.io 0, (.c (.int (7)))] [] [.at 0, .at 1]) (.c (.int (0)))) [(.par [(.sub 5 (.v 9)), (.sub 5 (.v 10))] [(.bin .or (.ix (.v 5) (.v 9)) (.bin .shl (.c (.int (1))) (.v 10))), (.bin .or (.ix (.v 5) (.v 10)) (.bin .shl (.c (.int (1))) (.v 9)))])] [])])] [(.iff (.cmp .eq (.v 2) (.c (.int (7)))) [(.asg (.nm 11 false) (.bin .add (.lc1 [8] .rng1 [(.bin .sub (.v 1) (.c (.int (1))))] (.nm 8) [] (.tup [(.v 8), (.bin .add (.v 8) (.c (.int (1))))])) (.ite (.cmp .gt (.v 1) (.c (.int (2)))) (.lst [(.tup [(.c (.int (0))), (.bin .sub (.v 1) (.c (.int (1))))])]) (.lst [])))), (.asg (.nm 5 true) (.call 30 [(.v 1), (.bin .add (.v 11) (.lc1 [7] .seq [(.v 3)] (.nm 7) [(.cmp .eq (.call 23 [.io 0, (.c (.int (6)))] [] [.at 0, .at 1]) (.c (.int (0))))] (.v 7)))] [] [.at 0, .at 1]))] [(.asg (.nm 5 true) (.call 32 [(.v 1), (.call 36 [.io 0, (.v 1)] [] [.at 0, .at 1])] [] [.at 0, .at 1]))])])])])]), (.ret (.call 35 [(.v 1), (.v 5), (.call 28 [.io 0, (.v 1)] [] [.at 0, .at 1])] [] [.at 0, .at 1, .at 2]))]
def f37 : Fn := ⟨2, (some 0), 12, b37⟩
/-- _law_size ['box'] -/
def b38 : List Sm := [(.ret (.ix (.lst [(.c (.int (4))), (.c (.int (5))), (.c (.int (6))), (.c (.int (3))), (.c (.int (5))), (.c (.int (6))), (.ix (.lst [(.c (.int (0))), (.c (.int (1))), (.c (.int (2)))]) (.call 23 [.io 0, (.c (.int (3)))] [] [.at 0, .at 1])), (.bin .add (.c (.int (7))) (.call 23 [.io 0, (.c (.int (2)))] [] [.at 0, .at 1]))]) (.call 23 [.io 0, (.c (.int (8)))] [] [.at 0, .at 1])))]
def f38 : Fn := ⟨1, (some 0), 1, b38⟩
/-- _law_connectivity ['size', 'near', 'found', 'mask'] -/
def b39 : List Sm := [(.asg (.nm 2 false) (.lc1 [3] .rng2 [(.c (.int (1))), (.bin .shl (.c (.int (1))) (.v 0))] (.nm 3) [(.or (.cmp .eq (.call 27 [(.v 3)] [] [.at 0]) (.c (.int (1)))) (.cmp .gt (.blt .len [(.call 34 [(.v 1), (.v 3)] [] [.at 0, .at 1])]) (.c (.int (1)))))] (.bin .sub (.v 0) (.call 27 [(.v 3)] [] [.at 0])))), (.ret (.ite (.cmp .ne (.v 2) (.lst [])) (.blt .minl [(.v 2)]) (.c (.int (0)))))]
def f39 : Fn := ⟨2, none, 4, b39⟩
/-- _law_out ['size', 'near', 'mask', 'a', 'b'] -/
def b40 : List Sm := [(.ret (.blt .tuple [(.lc1 [3, 4] .seq [(.call 31 [(.v 0), (.v 1)] [] [.at 0, .at 1])] (.tp [3, 4]) [(.bin .and (.bin .xor (.bin .shr (.v 2) (.v 3)) (.bin .shr (.v 2) (.v 4))) (.c (.int (1))))] (.tup [(.v 3), (.v 4)]))]))]
def f40 : Fn := ⟨3, none, 5, b40⟩
/-- _law_cuts ['size', 'near', 'mask'] -/
def b41 : List Sm := [(.ret (.lc1 [2] .rng2 [(.c (.int (1))), (.bin .shl (.c (.int (1))) (.blt .max2 [(.c (.int (0))), (.bin .sub (.v 0) (.c (.int (1))))]))] (.nm 2) [] (.call 40 [(.v 0), (.v 1), (.v 2)] [] [.at 0, .at 1, .at 2])))]
def f41 : Fn := ⟨2, none, 3, b41⟩
/-- _law_close ['box', 'size', 'couples', 'gone', 'k', 'couple'] -/
def b42 : List Sm := [(.asg (.nm 2 false) (.call 29 [(.v 1)] [] [.at 0])), (.asg (.nm 3 false) (.lc1 [4] .seq [(.sl (.call 28 [.io 0, (.blt .len [(.v 2)])] [] [.at 0, .at 1]) .nil (.call 23 [.io 0, (.c (.int (4)))] [] [.at 0, .at 1]))] (.nm 4) [] (.ix (.v 2) (.v 4)))), (.ret (.call 30 [(.v 1), (.lc1 [5] .seq [(.v 2)] (.nm 5) [(.cmp .notin (.v 5) (.v 3))] (.v 5))] [] [.at 0, .at 1]))]
def f42 : Fn := ⟨2, (some 0), 6, b42⟩
/-- _law_asked ['word', 'graph', 'named'] -/
def b43 : List Sm := [(.iff (.cmp .eq (.v 0) (.c (.str "vertices"))) [(.ret (.ite (.v 2) (.call 18 [] [(.v 1)] [.at 0]) (.call 18 [(.v 1)] [] [.at 0])))] []), (.iff (.cmp .eq (.v 0) (.c (.str "edges"))) [(.ret (.ite (.v 2) (.call 20 [] [(.v 1)] [.at 0]) (.call 20 [(.v 1)] [] [.at 0])))] []), (.ret (.ite (.v 2) (.call 19 [] [(.v 1)] [.at 0]) (.call 19 [(.v 1)] [] [.at 0])))]
def f43 : Fn := ⟨3, none, 3, b43⟩
/-- _law_right ['box', 'size', 'near', 'named', 'least', 'turn', 'graph', 'cuts', 'k', 'told', 'cut'] -/
def b44 : List Sm := [(.par [(.nm 6 false), (.nm 7 false)] [(.make 0 [(.v 1), (.call 31 [(.v 1), (.v 2)] [] [.at 0, .at 1])] [] [.at 0, .at 1]), (.call 41 [(.v 1), (.v 2)] [] [.at 0, .at 1])]), (.asg (.nm 4 false) (.ite (.cmp .gt (.v 1) (.c (.int (1)))) (.blt .minl [(.lc1 [10] .seq [(.v 7)] (.nm 10) [] (.blt .len [(.v 10)]))]) (.c (.int (0))))), (.for .seq [(.lst [(.v 3), (.not (.v 3))])] (.nm 5) [(.for .seq [(.call 28 [.io 0, (.c (.int (3)))] [] [.at 0, .at 1])] (.nm 8) [(.asg (.nm 9 false) (.call 43 [(.ix (.lst [(.c (.str "vertices")), (.c (.str "edges")), (.c (.str "cut"))]) (.v 8)), (.v 6), (.v 5)] [] [.at 0, .at 1, .at 2])), (.iff (.and (.cmp .lt (.v 8) (.c (.int (2)))) (.not (.call 24 [(.v 9), (.ix (.lst [(.call 39 [(.v 1), (.v 2)] [] [.at 0, .at 1]), (.v 4)]) (.v 8))] [] [.at 0, .at 1]))) [(.ret (.c (.bl false)))] []), (.iff (.and (.cmp .eq (.v 8) (.c (.int (2)))) (.and (.cmp .lt (.v 1) (.c (.int (2)))) (.not (.call 24 [(.v 9), (.tup [])] [] [.at 0, .at 1])))) [(.ret (.c (.bl false)))] []), (.iff (.and (.cmp .eq (.v 8) (.c (.int (2)))) (.and (.cmp .gt (.v 1) (.c (.int (1)))) (.cmp .eq (.lc1 [10] .seq [(.v 7)] (.nm 10) [(.and (.cmp .eq (.blt .len [(.v 10)]) (.v 4)) (.call 24 [(.v 9), (.v 10)] [] [.at 0, .at 1]))] (.v 10)) (.lst [])))) [(.ret (.c (.bl false)))] [])])]), (.ret (.c (.bl true)))]
def f44 : Fn := ⟨4, (some 0), 11, b44⟩
/-- law ['script', 'k', 'box', 'turn', 'rows', 'named', 'size', 'near'] -/
def b45 : List Sm := [(.for .rng1 [(.blt .max2 [(.c (.int (2))), (.blt .min2 [(.c (.int (4))), (.blt .len [(.v 0)])])])] (.nm 1) [(.asg (.nm 2 true) (.call 22 [(.call 21 [(.v 0), (.v 1)] [] [.at 0, .at 1])] [] [.at 0])), (.par [(.nm 4 true), (.nm 5 false)] [(.lst []), (.cmp .eq (.call 23 [.io 2, (.c (.int (2)))] [] [.at 0, .at 1]) (.c (.int (0))))]), (.for .rng1 [(.c (.int (3)))] (.nm 3) [(.asg (.nm 6 false) (.call 38 [.io 2] [] [.at 0])), (.expr (.mut 4 .app [(.lst [(.v 6), (.ite (.cmp .eq (.call 23 [.io 2, (.c (.int (5)))] [] [.at 0, .at 1]) (.c (.int (0)))) (.call 42 [.io 2, (.v 6)] [] [.at 0, .at 1]) (.call 37 [.io 2, (.v 6)] [] [.at 0, .at 1]))])]))]), (.for .seq [(.bin .add (.v 4) (.sl (.v 4) .nil (.c (.int (1)))))] (.tp [6, 7]) [(.iff (.not (.call 44 [.io 2, (.v 6), (.v 7), (.v 5)] [] [.at 0, .at 1, .at 2, .at 3])) [(.ret (.c (.bl false)))] []), (.asg (.nm 5 false) (.not (.v 5)))])]), (.ret (.c (.bl true)))]
def f45 : Fn := ⟨1, none, 8, b45⟩
/-- Graph.check ['self', 'vertex'] -/
def b46 : List Sm := [(.iff (.not (.call 2 [(.v 1), (.c (.int (0))), (.bin .sub (.fld (.v 0) 1) (.c (.int (1))))] [] [.at 0, .at 1, .at 2])) [.nev] [])]
def f46 : Fn := ⟨2, none, 2, b46⟩
/-- Graph.is_edge ['self', 'one', 'other'] -/
def b47 : List Sm := [(.expr (.call 0 [(.c (.int (0)))] [] [.at 0]))]
def f47 : Fn := ⟨3, none, 3, b47⟩
/-- Graph.near_at ['self', 'vertex'] -/
def b48 : List Sm := [(.expr (.call 0 [(.c (.int (1)))] [] [.at 0]))]
def f48 : Fn := ⟨2, none, 2, b48⟩
/-- Graph.near ['self'] -/
def b49 : List Sm := [(.ret (.blt .list [(.fld (.v 0) 0)]))]
def f49 : Fn := ⟨1, none, 1, b49⟩
/-- Graph.neighbors ['self', 'vertex'] -/
def b50 : List Sm := [(.expr (.meth (.v 0) 4 [(.v 1)] [] [.at 0, .at 1])), (.ret (.call 7 [(.ix (.fld (.v 0) 0) (.v 1))] [] [.at 0]))]
def f50 : Fn := ⟨2, none, 2, b50⟩
/-- Graph.degree ['self', 'vertex'] -/
def b51 : List Sm := [(.expr (.call 0 [(.c (.int (2)))] [] [.at 0]))]
def f51 : Fn := ⟨2, none, 2, b51⟩
/-- Graph.degrees ['self'] -/
def b52 : List Sm := [(.expr (.call 0 [(.c (.int (3)))] [] [.at 0]))]
def f52 : Fn := ⟨1, none, 1, b52⟩
/-- Graph.__init__ ['self', 'size', 'edges'] -/
def b53 : List Sm := [(.expr (.call 13 [(.v 1)] [] [.at 0, .df (.int (0)), .df (.int (8))])), (.iff (.not (.call 15 [(.v 1), (.v 2)] [] [.at 0, .at 1])) [.nev] []), (.asg (.fld 0) (.blt .tuple [(.call 16 [(.v 1), (.v 2)] [] [.at 0, .at 1])])), (.asg (.fld 1) (.v 1)), (.asg (.fld 2) (.call 17 [(.sfld 0)] [] [.at 0])), (.asg (.fld 3) (.blt .trng1 [(.v 1)]))]
def f53 : Fn := ⟨3, none, 3, b53⟩
def fns : List Fn := [f0, f1, f2, f3, f4, f5, f6, f7, f8, f9, f10, f11, f12, f13, f14, f15, f16, f17, f18, f19, f20, f21, f22, f23, f24, f25, f26, f27, f28, f29, f30, f31, f32, f33, f34, f35, f36, f37, f38, f39, f40, f41, f42, f43, f44, f45, f46, f47, f48, f49, f50, f51, f52]
def cls : List Fn := [f53]
def mth : List (Nat × Nat × Nat) := [(0, 4, 46), (0, 5, 47), (0, 6, 48), (0, 7, 49), (0, 8, 50), (0, 9, 51), (0, 10, 52)]
def pr : Pr := ⟨fun f => fns[f]?, fun c => cls[c]?, fun c m => (mth.find? fun q => q.1 == c && q.2.1 == m).map (·.2.2)⟩
theorem fn0 : pr.fn 0 = some f0 := rfl
theorem fn1 : pr.fn 1 = some f1 := rfl
theorem fn2 : pr.fn 2 = some f2 := rfl
theorem fn3 : pr.fn 3 = some f3 := rfl
theorem fn4 : pr.fn 4 = some f4 := rfl
theorem fn5 : pr.fn 5 = some f5 := rfl
theorem fn6 : pr.fn 6 = some f6 := rfl
theorem fn7 : pr.fn 7 = some f7 := rfl
theorem fn8 : pr.fn 8 = some f8 := rfl
theorem fn9 : pr.fn 9 = some f9 := rfl
theorem fn10 : pr.fn 10 = some f10 := rfl
theorem fn11 : pr.fn 11 = some f11 := rfl
theorem fn12 : pr.fn 12 = some f12 := rfl
theorem fn13 : pr.fn 13 = some f13 := rfl
theorem fn14 : pr.fn 14 = some f14 := rfl
theorem fn15 : pr.fn 15 = some f15 := rfl
theorem fn16 : pr.fn 16 = some f16 := rfl
theorem fn17 : pr.fn 17 = some f17 := rfl
theorem fn18 : pr.fn 18 = some f18 := rfl
theorem fn19 : pr.fn 19 = some f19 := rfl
theorem fn20 : pr.fn 20 = some f20 := rfl
theorem fn21 : pr.fn 21 = some f21 := rfl
theorem fn22 : pr.fn 22 = some f22 := rfl
theorem fn23 : pr.fn 23 = some f23 := rfl
theorem fn24 : pr.fn 24 = some f24 := rfl
theorem fn25 : pr.fn 25 = some f25 := rfl
theorem fn26 : pr.fn 26 = some f26 := rfl
theorem fn27 : pr.fn 27 = some f27 := rfl
theorem fn28 : pr.fn 28 = some f28 := rfl
theorem fn29 : pr.fn 29 = some f29 := rfl
theorem fn30 : pr.fn 30 = some f30 := rfl
theorem fn31 : pr.fn 31 = some f31 := rfl
theorem fn32 : pr.fn 32 = some f32 := rfl
theorem fn33 : pr.fn 33 = some f33 := rfl
theorem fn34 : pr.fn 34 = some f34 := rfl
theorem fn35 : pr.fn 35 = some f35 := rfl
theorem fn36 : pr.fn 36 = some f36 := rfl
theorem fn37 : pr.fn 37 = some f37 := rfl
theorem fn38 : pr.fn 38 = some f38 := rfl
theorem fn39 : pr.fn 39 = some f39 := rfl
theorem fn40 : pr.fn 40 = some f40 := rfl
theorem fn41 : pr.fn 41 = some f41 := rfl
theorem fn42 : pr.fn 42 = some f42 := rfl
theorem fn43 : pr.fn 43 = some f43 := rfl
theorem fn44 : pr.fn 44 = some f44 := rfl
theorem fn45 : pr.fn 45 = some f45 := rfl
theorem fn46 : pr.fn 46 = some f46 := rfl
theorem fn47 : pr.fn 47 = some f47 := rfl
theorem fn48 : pr.fn 48 = some f48 := rfl
theorem fn49 : pr.fn 49 = some f49 := rfl
theorem fn50 : pr.fn 50 = some f50 := rfl
theorem fn51 : pr.fn 51 = some f51 := rfl
theorem fn52 : pr.fn 52 = some f52 := rfl
end Pl.k09
set_option Elab.async false
set_option linter.all false
set_option maxRecDepth 100000
set_option maxHeartbeats 2000000
/-! The text of the law, as the layer Pl has it (printed by gen2.py). -/
namespace Pl.k09
open PySem L2 Pl

abbrev P : Program := PySem.Challenge.pw_graphbench_k09_connectivity
def T : Tab := ⟨[((Str.ofString "_wall"), 1, none),
  ((Str.ofString "is_integer"), 1, none),
  ((Str.ofString "is_between"), 3, none),
  ((Str.ofString "is_tuple_of"), 2, none),
  ((Str.ofString "are_between"), 3, none),
  ((Str.ofString "is_row"), 4, none),
  ((Str.ofString "mask_of"), 1, none),
  ((Str.ofString "subset_of"), 1, none),
  ((Str.ofString "many_in"), 1, none),
  ((Str.ofString "first_in"), 1, none),
  ((Str.ofString "beside"), 2, none),
  ((Str.ofString "reached"), 3, none),
  ((Str.ofString "parts_in"), 2, none),
  ((Str.ofString "check_size"), 3, none),
  ((Str.ofString "is_pair"), 2, none),
  ((Str.ofString "are_pairs"), 2, none),
  ((Str.ofString "near_of"), 2, none),
  ((Str.ofString "edges_of"), 1, none),
  ((Str.ofString "connectivity"), 1, none),
  ((Str.ofString "smallest_cut"), 1, none),
  ((Str.ofString "edge_connectivity"), 1, none),
  ((Str.ofString "_law_cell"), 2, none),
  ((Str.ofString "_law_box"), 1, none),
  ((Str.ofString "_law_take"), 2, (some 0)),
  ((Str.ofString "_law_same"), 2, none),
  ((Str.ofString "_law_set"), 1, none),
  ((Str.ofString "_law_mask"), 1, none),
  ((Str.ofString "_law_count"), 1, none),
  ((Str.ofString "_law_mixed"), 2, (some 0)),
  ((Str.ofString "_law_couples"), 1, none),
  ((Str.ofString "_law_near"), 2, none),
  ((Str.ofString "_law_edges"), 2, none),
  ((Str.ofString "_law_complement"), 2, none),
  ((Str.ofString "_law_reach"), 3, none),
  ((Str.ofString "_law_parts"), 2, none),
  ((Str.ofString "_law_renamed"), 3, none),
  ((Str.ofString "_law_glued"), 2, (some 0)),
  ((Str.ofString "_law_drawn"), 2, (some 0)),
  ((Str.ofString "_law_size"), 1, (some 0)),
  ((Str.ofString "_law_connectivity"), 2, none),
  ((Str.ofString "_law_out"), 3, none),
  ((Str.ofString "_law_cuts"), 2, none),
  ((Str.ofString "_law_close"), 2, (some 0)),
  ((Str.ofString "_law_asked"), 3, none),
  ((Str.ofString "_law_right"), 4, (some 0)),
  ((Str.ofString "law"), 1, none)],
  [((Str.ofString "Graph"), 2)],
  [(Str.ofString "_near"), (Str.ofString "size"), (Str.ofString "edges"), (Str.ofString "full"), (Str.ofString "check"), (Str.ofString "is_edge"), (Str.ofString "near_at"), (Str.ofString "near"), (Str.ofString "neighbors"), (Str.ofString "degree"), (Str.ofString "degrees")],
  [(Str.ofString "_near"), (Str.ofString "size"), (Str.ofString "edges"), (Str.ofString "full")],
  [(0, 1, [], [Pm.at 0]),
  (1, 1, [], [Pm.at 0]),
  (2, 3, [], [Pm.at 0, Pm.at 1, Pm.at 2]),
  (3, 2, [], [Pm.at 0, Pm.at 1]),
  (4, 3, [], [Pm.at 0, Pm.at 1, Pm.at 2]),
  (5, 4, [], [Pm.at 0, Pm.at 1, Pm.at 2, Pm.at 3]),
  (6, 1, [], [Pm.at 0]),
  (7, 1, [], [Pm.at 0]),
  (8, 1, [], [Pm.at 0]),
  (9, 1, [], [Pm.at 0]),
  (10, 2, [], [Pm.at 0, Pm.at 1]),
  (11, 3, [], [Pm.at 0, Pm.at 1, Pm.at 2]),
  (12, 2, [], [Pm.at 0, Pm.at 1]),
  (13, 1, [], [Pm.at 0, Pm.df (.int (0)), Pm.df (.int (8))]),
  (14, 2, [], [Pm.at 0, Pm.at 1]),
  (15, 2, [], [Pm.at 0, Pm.at 1]),
  (16, 2, [], [Pm.at 0, Pm.at 1]),
  (17, 1, [], [Pm.at 0]),
  (18, 0, [(Str.ofString "graph")], [Pm.at 0]),
  (18, 1, [], [Pm.at 0]),
  (19, 0, [(Str.ofString "graph")], [Pm.at 0]),
  (19, 1, [], [Pm.at 0]),
  (20, 0, [(Str.ofString "graph")], [Pm.at 0]),
  (20, 1, [], [Pm.at 0]),
  (21, 2, [], [Pm.at 0, Pm.at 1]),
  (22, 1, [], [Pm.at 0]),
  (23, 2, [], [Pm.at 0, Pm.at 1]),
  (24, 2, [], [Pm.at 0, Pm.at 1]),
  (27, 1, [], [Pm.at 0]),
  (28, 2, [], [Pm.at 0, Pm.at 1]),
  (29, 1, [], [Pm.at 0]),
  (30, 2, [], [Pm.at 0, Pm.at 1]),
  (31, 2, [], [Pm.at 0, Pm.at 1]),
  (32, 2, [], [Pm.at 0, Pm.at 1]),
  (33, 3, [], [Pm.at 0, Pm.at 1, Pm.at 2]),
  (34, 2, [], [Pm.at 0, Pm.at 1]),
  (35, 3, [], [Pm.at 0, Pm.at 1, Pm.at 2]),
  (36, 2, [], [Pm.at 0, Pm.at 1]),
  (37, 2, [], [Pm.at 0, Pm.at 1]),
  (38, 1, [], [Pm.at 0]),
  (39, 2, [], [Pm.at 0, Pm.at 1]),
  (40, 3, [], [Pm.at 0, Pm.at 1, Pm.at 2]),
  (41, 2, [], [Pm.at 0, Pm.at 1]),
  (42, 2, [], [Pm.at 0, Pm.at 1]),
  (43, 3, [], [Pm.at 0, Pm.at 1, Pm.at 2]),
  (44, 4, [], [Pm.at 0, Pm.at 1, Pm.at 2, Pm.at 3])],
  [(0, 2, [], [Pm.at 0, Pm.at 1])],
  [(4, 1, [], [Pm.at 0, Pm.at 1]),
  (7, 0, [], [Pm.at 0])],
  [((Str.ofString "MOST_VERTICES"), (.int (8))), ((Str.ofString "MOST_PAIRS"), (.int (60)))]⟩
def r0 : Row := ⟨(0, none), ((Str.ofString "_wall"), none), (Str.ofString "_wall"), (Str.ofString "_wall"), [(Str.ofString "k")], [(Str.ofString "k")], [], f0⟩
def r1 : Row := ⟨(2, none), ((Str.ofString "is_integer"), none), (Str.ofString "is_integer"), (Str.ofString "is_integer"), [(Str.ofString "value")], [(Str.ofString "value")], [], f1⟩
def r2 : Row := ⟨(3, none), ((Str.ofString "is_between"), none), (Str.ofString "is_between"), (Str.ofString "is_between"), [(Str.ofString "value"), (Str.ofString "least"), (Str.ofString "most")], [(Str.ofString "value"), (Str.ofString "least"), (Str.ofString "most")], [], f2⟩
def r3 : Row := ⟨(4, none), ((Str.ofString "is_tuple_of"), none), (Str.ofString "is_tuple_of"), (Str.ofString "is_tuple_of"), [(Str.ofString "value"), (Str.ofString "many")], [(Str.ofString "value"), (Str.ofString "many")], [], f3⟩
def r4 : Row := ⟨(5, none), ((Str.ofString "are_between"), none), (Str.ofString "are_between"), (Str.ofString "are_between"), [(Str.ofString "values"), (Str.ofString "least"), (Str.ofString "most"), (Str.ofString "value")], [(Str.ofString "values"), (Str.ofString "least"), (Str.ofString "most")], [], f4⟩
def r5 : Row := ⟨(6, none), ((Str.ofString "is_row"), none), (Str.ofString "is_row"), (Str.ofString "is_row"), [(Str.ofString "value"), (Str.ofString "many"), (Str.ofString "least"), (Str.ofString "most")], [(Str.ofString "value"), (Str.ofString "many"), (Str.ofString "least"), (Str.ofString "most")], [], f5⟩
def r6 : Row := ⟨(9, none), ((Str.ofString "mask_of"), none), (Str.ofString "mask_of"), (Str.ofString "mask_of"), [(Str.ofString "subset"), (Str.ofString "vertex")], [(Str.ofString "subset")], [], f6⟩
def r7 : Row := ⟨(10, none), ((Str.ofString "subset_of"), none), (Str.ofString "subset_of"), (Str.ofString "subset_of"), [(Str.ofString "mask"), (Str.ofString "vertex")], [(Str.ofString "mask")], [], f7⟩
def r8 : Row := ⟨(11, none), ((Str.ofString "many_in"), none), (Str.ofString "many_in"), (Str.ofString "many_in"), [(Str.ofString "mask")], [(Str.ofString "mask")], [], f8⟩
def r9 : Row := ⟨(12, none), ((Str.ofString "first_in"), none), (Str.ofString "first_in"), (Str.ofString "first_in"), [(Str.ofString "mask")], [(Str.ofString "mask")], [], f9⟩
def r10 : Row := ⟨(14, none), ((Str.ofString "beside"), none), (Str.ofString "beside"), (Str.ofString "beside"), [(Str.ofString "near"), (Str.ofString "mask"), (Str.ofString "found"), (Str.ofString "vertex")], [(Str.ofString "near"), (Str.ofString "mask")], [], f10⟩
def r11 : Row := ⟨(15, none), ((Str.ofString "reached"), none), (Str.ofString "reached"), (Str.ofString "reached"), [(Str.ofString "near"), (Str.ofString "inside"), (Str.ofString "start"), (Str.ofString "found"), (Str.ofString "more")], [(Str.ofString "near"), (Str.ofString "inside"), (Str.ofString "start")], [], f11⟩
def r12 : Row := ⟨(16, none), ((Str.ofString "parts_in"), none), (Str.ofString "parts_in"), (Str.ofString "parts_in"), [(Str.ofString "near"), (Str.ofString "inside"), (Str.ofString "found"), (Str.ofString "left"), (Str.ofString "part")], [(Str.ofString "near"), (Str.ofString "inside")], [], f12⟩
def r13 : Row := ⟨(24, none), ((Str.ofString "check_size"), none), (Str.ofString "check_size"), (Str.ofString "check_size"), [(Str.ofString "size"), (Str.ofString "least"), (Str.ofString "most")], [(Str.ofString "size"), (Str.ofString "least"), (Str.ofString "most")], [.int (0), .int (8)], f13⟩
def r14 : Row := ⟨(25, none), ((Str.ofString "is_pair"), none), (Str.ofString "is_pair"), (Str.ofString "is_pair"), [(Str.ofString "size"), (Str.ofString "value")], [(Str.ofString "size"), (Str.ofString "value")], [], f14⟩
def r15 : Row := ⟨(26, none), ((Str.ofString "are_pairs"), none), (Str.ofString "are_pairs"), (Str.ofString "are_pairs"), [(Str.ofString "size"), (Str.ofString "value"), (Str.ofString "item")], [(Str.ofString "size"), (Str.ofString "value")], [], f15⟩
def r16 : Row := ⟨(27, none), ((Str.ofString "near_of"), none), (Str.ofString "near_of"), (Str.ofString "near_of"), [(Str.ofString "size"), (Str.ofString "edges"), (Str.ofString "near"), (Str.ofString "one"), (Str.ofString "other")], [(Str.ofString "size"), (Str.ofString "edges")], [], f16⟩
def r17 : Row := ⟨(28, none), ((Str.ofString "edges_of"), none), (Str.ofString "edges_of"), (Str.ofString "edges_of"), [(Str.ofString "near"), (Str.ofString "pairs"), (Str.ofString "one"), (Str.ofString "other")], [(Str.ofString "near")], [], f17⟩
def r18 : Row := ⟨(31, none), ((Str.ofString "connectivity"), none), (Str.ofString "connectivity"), (Str.ofString "connectivity"), [(Str.ofString "graph"), (Str.ofString "counts"), (Str.ofString "rest"), (Str.ofString "near"), (Str.ofString "full")], [(Str.ofString "graph")], [], f18⟩
def r19 : Row := ⟨(32, none), ((Str.ofString "smallest_cut"), none), (Str.ofString "smallest_cut"), (Str.ofString "smallest_cut"), [(Str.ofString "graph"), (Str.ofString "cuts"), (Str.ofString "side"), (Str.ofString "edge")], [(Str.ofString "graph")], [], f19⟩
def r20 : Row := ⟨(33, none), ((Str.ofString "edge_connectivity"), none), (Str.ofString "edge_connectivity"), (Str.ofString "edge_connectivity"), [(Str.ofString "graph")], [(Str.ofString "graph")], [], f20⟩
def r21 : Row := ⟨(35, none), ((Str.ofString "_law_cell"), none), (Str.ofString "_law_cell"), (Str.ofString "_law_cell"), [(Str.ofString "script"), (Str.ofString "k")], [(Str.ofString "script"), (Str.ofString "k")], [], f21⟩
def r22 : Row := ⟨(36, none), ((Str.ofString "_law_box"), none), (Str.ofString "_law_box"), (Str.ofString "_law_box"), [(Str.ofString "great")], [(Str.ofString "great")], [], f22⟩
def r23 : Row := ⟨(37, none), ((Str.ofString "_law_take"), none), (Str.ofString "_law_take"), (Str.ofString "_law_take"), [(Str.ofString "box"), (Str.ofString "many"), (Str.ofString "mixed"), (Str.ofString "digit")], [(Str.ofString "box"), (Str.ofString "many")], [], f23⟩
def r24 : Row := ⟨(38, none), ((Str.ofString "_law_same"), none), (Str.ofString "_law_same"), (Str.ofString "_law_same"), [(Str.ofString "told"), (Str.ofString "due"), (Str.ofString "k")], [(Str.ofString "told"), (Str.ofString "due")], [], f24⟩
def r25 : Row := ⟨(39, none), ((Str.ofString "_law_set"), none), (Str.ofString "_law_set"), (Str.ofString "_law_set"), [(Str.ofString "mask"), (Str.ofString "v")], [(Str.ofString "mask")], [], f25⟩
def r26 : Row := ⟨(40, none), ((Str.ofString "_law_mask"), none), (Str.ofString "_law_mask"), (Str.ofString "_law_mask"), [(Str.ofString "subset"), (Str.ofString "v")], [(Str.ofString "subset")], [], f26⟩
def r27 : Row := ⟨(41, none), ((Str.ofString "_law_count"), none), (Str.ofString "_law_count"), (Str.ofString "_law_count"), [(Str.ofString "mask"), (Str.ofString "v")], [(Str.ofString "mask")], [], f27⟩
def r28 : Row := ⟨(42, none), ((Str.ofString "_law_mixed"), none), (Str.ofString "_law_mixed"), (Str.ofString "_law_mixed"), [(Str.ofString "box"), (Str.ofString "many"), (Str.ofString "left"), (Str.ofString "found")], [(Str.ofString "box"), (Str.ofString "many")], [], f28⟩
def r29 : Row := ⟨(43, none), ((Str.ofString "_law_couples"), none), (Str.ofString "_law_couples"), (Str.ofString "_law_couples"), [(Str.ofString "size"), (Str.ofString "found"), (Str.ofString "a"), (Str.ofString "b")], [(Str.ofString "size")], [], f29⟩
def r30 : Row := ⟨(44, none), ((Str.ofString "_law_near"), none), (Str.ofString "_law_near"), (Str.ofString "_law_near"), [(Str.ofString "size"), (Str.ofString "edges"), (Str.ofString "found"), (Str.ofString "a"), (Str.ofString "b")], [(Str.ofString "size"), (Str.ofString "edges")], [], f30⟩
def r31 : Row := ⟨(45, none), ((Str.ofString "_law_edges"), none), (Str.ofString "_law_edges"), (Str.ofString "_law_edges"), [(Str.ofString "size"), (Str.ofString "near"), (Str.ofString "a"), (Str.ofString "b")], [(Str.ofString "size"), (Str.ofString "near")], [], f31⟩
def r32 : Row := ⟨(46, none), ((Str.ofString "_law_complement"), none), (Str.ofString "_law_complement"), (Str.ofString "_law_complement"), [(Str.ofString "size"), (Str.ofString "near"), (Str.ofString "full"), (Str.ofString "v")], [(Str.ofString "size"), (Str.ofString "near")], [], f32⟩
def r33 : Row := ⟨(47, none), ((Str.ofString "_law_reach"), none), (Str.ofString "_law_reach"), (Str.ofString "_law_reach"), [(Str.ofString "near"), (Str.ofString "inside"), (Str.ofString "start"), (Str.ofString "found"), (Str.ofString "more"), (Str.ofString "v")], [(Str.ofString "near"), (Str.ofString "inside"), (Str.ofString "start")], [], f33⟩
def r34 : Row := ⟨(48, none), ((Str.ofString "_law_parts"), none), (Str.ofString "_law_parts"), (Str.ofString "_law_parts"), [(Str.ofString "near"), (Str.ofString "inside"), (Str.ofString "found"), (Str.ofString "left"), (Str.ofString "start"), (Str.ofString "part"), (Str.ofString "v")], [(Str.ofString "near"), (Str.ofString "inside")], [], f34⟩
def r35 : Row := ⟨(49, none), ((Str.ofString "_law_renamed"), none), (Str.ofString "_law_renamed"), (Str.ofString "_law_renamed"), [(Str.ofString "size"), (Str.ofString "near"), (Str.ofString "images"), (Str.ofString "found"), (Str.ofString "v"), (Str.ofString "w")], [(Str.ofString "size"), (Str.ofString "near"), (Str.ofString "images")], [], f35⟩
def r36 : Row := ⟨(50, none), ((Str.ofString "_law_glued"), none), (Str.ofString "_law_glued"), (Str.ofString "_law_glued"), [(Str.ofString "box"), (Str.ofString "size"), (Str.ofString "near"), (Str.ofString "v"), (Str.ofString "row"), (Str.ofString "many"), (Str.ofString "root"), (Str.ofString "a"), (Str.ofString "b"), (Str.ofString "k")], [(Str.ofString "box"), (Str.ofString "size")], [], f36⟩
def r37 : Row := ⟨(51, none), ((Str.ofString "_law_drawn"), none), (Str.ofString "_law_drawn"), (Str.ofString "_law_drawn"), [(Str.ofString "box"), (Str.ofString "size"), (Str.ofString "way"), (Str.ofString "couples"), (Str.ofString "odds"), (Str.ofString "near"), (Str.ofString "left"), (Str.ofString "couple"), (Str.ofString "v"), (Str.ofString "a"), (Str.ofString "b"), (Str.ofString "edges")], [(Str.ofString "box"), (Str.ofString "size")], [], f37⟩
def r38 : Row := ⟨(52, none), ((Str.ofString "_law_size"), none), (Str.ofString "_law_size"), (Str.ofString "_law_size"), [(Str.ofString "box")], [(Str.ofString "box")], [], f38⟩
def r39 : Row := ⟨(53, none), ((Str.ofString "_law_connectivity"), none), (Str.ofString "_law_connectivity"), (Str.ofString "_law_connectivity"), [(Str.ofString "size"), (Str.ofString "near"), (Str.ofString "found"), (Str.ofString "mask")], [(Str.ofString "size"), (Str.ofString "near")], [], f39⟩
def r40 : Row := ⟨(54, none), ((Str.ofString "_law_out"), none), (Str.ofString "_law_out"), (Str.ofString "_law_out"), [(Str.ofString "size"), (Str.ofString "near"), (Str.ofString "mask"), (Str.ofString "a"), (Str.ofString "b")], [(Str.ofString "size"), (Str.ofString "near"), (Str.ofString "mask")], [], f40⟩
def r41 : Row := ⟨(55, none), ((Str.ofString "_law_cuts"), none), (Str.ofString "_law_cuts"), (Str.ofString "_law_cuts"), [(Str.ofString "size"), (Str.ofString "near"), (Str.ofString "mask")], [(Str.ofString "size"), (Str.ofString "near")], [], f41⟩
def r42 : Row := ⟨(56, none), ((Str.ofString "_law_close"), none), (Str.ofString "_law_close"), (Str.ofString "_law_close"), [(Str.ofString "box"), (Str.ofString "size"), (Str.ofString "couples"), (Str.ofString "gone"), (Str.ofString "k"), (Str.ofString "couple")], [(Str.ofString "box"), (Str.ofString "size")], [], f42⟩
def r43 : Row := ⟨(57, none), ((Str.ofString "_law_asked"), none), (Str.ofString "_law_asked"), (Str.ofString "_law_asked"), [(Str.ofString "word"), (Str.ofString "graph"), (Str.ofString "named")], [(Str.ofString "word"), (Str.ofString "graph"), (Str.ofString "named")], [], f43⟩
def r44 : Row := ⟨(58, none), ((Str.ofString "_law_right"), none), (Str.ofString "_law_right"), (Str.ofString "_law_right"), [(Str.ofString "box"), (Str.ofString "size"), (Str.ofString "near"), (Str.ofString "named"), (Str.ofString "least"), (Str.ofString "turn"), (Str.ofString "graph"), (Str.ofString "cuts"), (Str.ofString "k"), (Str.ofString "told"), (Str.ofString "cut")], [(Str.ofString "box"), (Str.ofString "size"), (Str.ofString "near"), (Str.ofString "named")], [], f44⟩
def r45 : Row := ⟨(59, none), ((Str.ofString "law"), none), (Str.ofString "law"), (Str.ofString "law"), [(Str.ofString "script"), (Str.ofString "k"), (Str.ofString "box"), (Str.ofString "turn"), (Str.ofString "rows"), (Str.ofString "named"), (Str.ofString "size"), (Str.ofString "near")], [(Str.ofString "script")], [], f45⟩
def r46 : Row := ⟨(29, some 2), ((Str.ofString "Graph"), some (Str.ofString "check")), (Str.ofString "check"), (Str.ofString "Graph.check"), [(Str.ofString "self"), (Str.ofString "vertex")], [(Str.ofString "self"), (Str.ofString "vertex")], [], f46⟩
def r47 : Row := ⟨(29, some 3), ((Str.ofString "Graph"), some (Str.ofString "is_edge")), (Str.ofString "is_edge"), (Str.ofString "Graph.is_edge"), [(Str.ofString "self"), (Str.ofString "one"), (Str.ofString "other")], [(Str.ofString "self"), (Str.ofString "one"), (Str.ofString "other")], [], f47⟩
def r48 : Row := ⟨(29, some 4), ((Str.ofString "Graph"), some (Str.ofString "near_at")), (Str.ofString "near_at"), (Str.ofString "Graph.near_at"), [(Str.ofString "self"), (Str.ofString "vertex")], [(Str.ofString "self"), (Str.ofString "vertex")], [], f48⟩
def r49 : Row := ⟨(29, some 5), ((Str.ofString "Graph"), some (Str.ofString "near")), (Str.ofString "near"), (Str.ofString "Graph.near"), [(Str.ofString "self")], [(Str.ofString "self")], [], f49⟩
def r50 : Row := ⟨(29, some 6), ((Str.ofString "Graph"), some (Str.ofString "neighbors")), (Str.ofString "neighbors"), (Str.ofString "Graph.neighbors"), [(Str.ofString "self"), (Str.ofString "vertex")], [(Str.ofString "self"), (Str.ofString "vertex")], [], f50⟩
def r51 : Row := ⟨(29, some 7), ((Str.ofString "Graph"), some (Str.ofString "degree")), (Str.ofString "degree"), (Str.ofString "Graph.degree"), [(Str.ofString "self"), (Str.ofString "vertex")], [(Str.ofString "self"), (Str.ofString "vertex")], [], f51⟩
def r52 : Row := ⟨(29, some 8), ((Str.ofString "Graph"), some (Str.ofString "degrees")), (Str.ofString "degrees"), (Str.ofString "Graph.degrees"), [(Str.ofString "self")], [(Str.ofString "self")], [], f52⟩
def r53 : Row := ⟨(29, some 0), ((Str.ofString "Graph"), some (Str.ofString "__init__")), (Str.ofString "__init__"), (Str.ofString "Graph.__init__"), [(Str.ofString "self"), (Str.ofString "size"), (Str.ofString "edges")], [(Str.ofString "self"), (Str.ofString "size"), (Str.ofString "edges")], [], f53⟩
def L : Text := ⟨P, T, [r0, r1, r2, r3, r4, r5, r6, r7, r8, r9, r10, r11, r12, r13, r14, r15, r16, r17, r18, r19, r20, r21, r22, r23, r24, r25, r26, r27, r28, r29, r30, r31, r32, r33, r34, r35, r36, r37, r38, r39, r40, r41, r42, r43, r44, r45, r46, r47, r48, r49, r50, r51, r52], 46, [r53], mth⟩
theorem k0 : L.rowOk r0 = true := by decide +kernel
theorem k1 : L.rowOk r1 = true := by decide +kernel
theorem k2 : L.rowOk r2 = true := by decide +kernel
theorem k3 : L.rowOk r3 = true := by decide +kernel
theorem k4 : L.rowOk r4 = true := by decide +kernel
theorem k5 : L.rowOk r5 = true := by decide +kernel
theorem k6 : L.rowOk r6 = true := by decide +kernel
theorem k7 : L.rowOk r7 = true := by decide +kernel
theorem k8 : L.rowOk r8 = true := by decide +kernel
theorem k9 : L.rowOk r9 = true := by decide +kernel
theorem k10 : L.rowOk r10 = true := by decide +kernel
theorem k11 : L.rowOk r11 = true := by decide +kernel
theorem k12 : L.rowOk r12 = true := by decide +kernel
theorem k13 : L.rowOk r13 = true := by decide +kernel
theorem k14 : L.rowOk r14 = true := by decide +kernel
theorem k15 : L.rowOk r15 = true := by decide +kernel
theorem k16 : L.rowOk r16 = true := by decide +kernel
theorem k17 : L.rowOk r17 = true := by decide +kernel
theorem k18 : L.rowOk r18 = true := by decide +kernel
theorem k19 : L.rowOk r19 = true := by decide +kernel
theorem k20 : L.rowOk r20 = true := by decide +kernel
theorem k21 : L.rowOk r21 = true := by decide +kernel
theorem k22 : L.rowOk r22 = true := by decide +kernel
theorem k23 : L.rowOk r23 = true := by decide +kernel
theorem k24 : L.rowOk r24 = true := by decide +kernel
theorem k25 : L.rowOk r25 = true := by decide +kernel
theorem k26 : L.rowOk r26 = true := by decide +kernel
theorem k27 : L.rowOk r27 = true := by decide +kernel
theorem k28 : L.rowOk r28 = true := by decide +kernel
theorem k29 : L.rowOk r29 = true := by decide +kernel
theorem k30 : L.rowOk r30 = true := by decide +kernel
theorem k31 : L.rowOk r31 = true := by decide +kernel
theorem k32 : L.rowOk r32 = true := by decide +kernel
theorem k33 : L.rowOk r33 = true := by decide +kernel
theorem k34 : L.rowOk r34 = true := by decide +kernel
theorem k35 : L.rowOk r35 = true := by decide +kernel
theorem k36 : L.rowOk r36 = true := by decide +kernel
theorem k37 : L.rowOk r37 = true := by decide +kernel
theorem k38 : L.rowOk r38 = true := by decide +kernel
theorem k39 : L.rowOk r39 = true := by decide +kernel
theorem k40 : L.rowOk r40 = true := by decide +kernel
theorem k41 : L.rowOk r41 = true := by decide +kernel
theorem k42 : L.rowOk r42 = true := by decide +kernel
theorem k43 : L.rowOk r43 = true := by decide +kernel
theorem k44 : L.rowOk r44 = true := by decide +kernel
theorem k45 : L.rowOk r45 = true := by decide +kernel
theorem k46 : L.rowOk r46 = true := by decide +kernel
theorem k47 : L.rowOk r47 = true := by decide +kernel
theorem k48 : L.rowOk r48 = true := by decide +kernel
theorem k49 : L.rowOk r49 = true := by decide +kernel
theorem k50 : L.rowOk r50 = true := by decide +kernel
theorem k51 : L.rowOk r51 = true := by decide +kernel
theorem k52 : L.rowOk r52 = true := by decide +kernel
theorem k53 : L.rowOk r53 = true := by decide +kernel
theorem ok : L.Ok where
  rows := by
    show List.all [r0, r1, r2, r3, r4, r5, r6, r7, r8, r9, r10, r11, r12, r13, r14, r15, r16, r17, r18, r19, r20, r21, r22, r23, r24, r25, r26, r27, r28, r29, r30, r31, r32, r33, r34, r35, r36, r37, r38, r39, r40, r41, r42, r43, r44, r45, r46, r47, r48, r49, r50, r51, r52] L.rowOk = true
    simp only [List.all_cons, List.all_nil, k0, k1, k2, k3, k4, k5, k6, k7, k8, k9, k10, k11, k12, k13, k14, k15, k16, k17, k18, k19, k20, k21, k22, k23, k24, k25, k26, k27, k28, k29, k30, k31, k32, k33, k34, k35, k36, k37, k38, k39, k40, k41, k42, k43, k44, k45, k46, k47, k48, k49, k50, k51, k52, Bool.and_self]
  inis := by
    show List.all [r53] L.rowOk = true
    simp only [List.all_cons, List.all_nil, k53, Bool.and_self]
  fns := by decide +kernel
  glo := by decide +kernel
  cls := by decide +kernel
  ini := by decide +kernel
  cnd := by decide +kernel
  flds := by decide +kernel
  nd := by decide +kernel
  short := by decide +kernel
  mth := by decide +kernel
  vals := by decide +kernel
theorem pr_eq : L.pr = pr := by
  have h1 : L.pr.fn = pr.fn := by
    funext f
    show (L.rows[f]?).map (·.fn) = fns[f]?
    rw [← List.getElem?_map]; rfl
  have h2 : L.pr.ini = pr.ini := by
    funext f
    show (L.inis[f]?).map (·.fn) = cls[f]?
    rw [← List.getElem?_map]; rfl
  show Pr.mk L.pr.fn L.pr.ini L.pr.meth = pr
  rw [h1, h2]; rfl
theorem sF0 {K : PySem.W.Frag} {f : Addr} {fd : FuncData} (F : FunD K r0.name r0.qual (defArgs (stAt P r0.pl)) (defBody (stAt P r0.pl)) (defScope (stAt P r0.pl)) (r0.dfl.map (He.Dv.v K)) [] f fd) : BF K fd r0.ps 1 [] [Pm.at 0] :=
  bf0 F rfl fun _ _ _ _ _ _ us ws hu hw => match us, ws, hu, hw with | [_], [], _, _ => rfl
theorem sF1 {K : PySem.W.Frag} {f : Addr} {fd : FuncData} (F : FunD K r1.name r1.qual (defArgs (stAt P r1.pl)) (defBody (stAt P r1.pl)) (defScope (stAt P r1.pl)) (r1.dfl.map (He.Dv.v K)) [] f fd) : BF K fd r1.ps 1 [] [Pm.at 0] :=
  bf0 F rfl fun _ _ _ _ _ _ us ws hu hw => match us, ws, hu, hw with | [_], [], _, _ => rfl
theorem sF2 {K : PySem.W.Frag} {f : Addr} {fd : FuncData} (F : FunD K r2.name r2.qual (defArgs (stAt P r2.pl)) (defBody (stAt P r2.pl)) (defScope (stAt P r2.pl)) (r2.dfl.map (He.Dv.v K)) [] f fd) : BF K fd r2.ps 3 [] [Pm.at 0, Pm.at 1, Pm.at 2] :=
  bf0 F rfl fun _ _ _ _ _ _ us ws hu hw => match us, ws, hu, hw with | [_, _, _], [], _, _ => rfl
theorem sF3 {K : PySem.W.Frag} {f : Addr} {fd : FuncData} (F : FunD K r3.name r3.qual (defArgs (stAt P r3.pl)) (defBody (stAt P r3.pl)) (defScope (stAt P r3.pl)) (r3.dfl.map (He.Dv.v K)) [] f fd) : BF K fd r3.ps 2 [] [Pm.at 0, Pm.at 1] :=
  bf0 F rfl fun _ _ _ _ _ _ us ws hu hw => match us, ws, hu, hw with | [_, _], [], _, _ => rfl
theorem sF4 {K : PySem.W.Frag} {f : Addr} {fd : FuncData} (F : FunD K r4.name r4.qual (defArgs (stAt P r4.pl)) (defBody (stAt P r4.pl)) (defScope (stAt P r4.pl)) (r4.dfl.map (He.Dv.v K)) [] f fd) : BF K fd r4.ps 3 [] [Pm.at 0, Pm.at 1, Pm.at 2] :=
  bf0 F rfl fun _ _ _ _ _ _ us ws hu hw => match us, ws, hu, hw with | [_, _, _], [], _, _ => rfl
theorem sF5 {K : PySem.W.Frag} {f : Addr} {fd : FuncData} (F : FunD K r5.name r5.qual (defArgs (stAt P r5.pl)) (defBody (stAt P r5.pl)) (defScope (stAt P r5.pl)) (r5.dfl.map (He.Dv.v K)) [] f fd) : BF K fd r5.ps 4 [] [Pm.at 0, Pm.at 1, Pm.at 2, Pm.at 3] :=
  bf0 F rfl fun _ _ _ _ _ _ us ws hu hw => match us, ws, hu, hw with | [_, _, _, _], [], _, _ => rfl
theorem sF6 {K : PySem.W.Frag} {f : Addr} {fd : FuncData} (F : FunD K r6.name r6.qual (defArgs (stAt P r6.pl)) (defBody (stAt P r6.pl)) (defScope (stAt P r6.pl)) (r6.dfl.map (He.Dv.v K)) [] f fd) : BF K fd r6.ps 1 [] [Pm.at 0] :=
  bf0 F rfl fun _ _ _ _ _ _ us ws hu hw => match us, ws, hu, hw with | [_], [], _, _ => rfl
theorem sF7 {K : PySem.W.Frag} {f : Addr} {fd : FuncData} (F : FunD K r7.name r7.qual (defArgs (stAt P r7.pl)) (defBody (stAt P r7.pl)) (defScope (stAt P r7.pl)) (r7.dfl.map (He.Dv.v K)) [] f fd) : BF K fd r7.ps 1 [] [Pm.at 0] :=
  bf0 F rfl fun _ _ _ _ _ _ us ws hu hw => match us, ws, hu, hw with | [_], [], _, _ => rfl
theorem sF8 {K : PySem.W.Frag} {f : Addr} {fd : FuncData} (F : FunD K r8.name r8.qual (defArgs (stAt P r8.pl)) (defBody (stAt P r8.pl)) (defScope (stAt P r8.pl)) (r8.dfl.map (He.Dv.v K)) [] f fd) : BF K fd r8.ps 1 [] [Pm.at 0] :=
  bf0 F rfl fun _ _ _ _ _ _ us ws hu hw => match us, ws, hu, hw with | [_], [], _, _ => rfl
theorem sF9 {K : PySem.W.Frag} {f : Addr} {fd : FuncData} (F : FunD K r9.name r9.qual (defArgs (stAt P r9.pl)) (defBody (stAt P r9.pl)) (defScope (stAt P r9.pl)) (r9.dfl.map (He.Dv.v K)) [] f fd) : BF K fd r9.ps 1 [] [Pm.at 0] :=
  bf0 F rfl fun _ _ _ _ _ _ us ws hu hw => match us, ws, hu, hw with | [_], [], _, _ => rfl
theorem sF10 {K : PySem.W.Frag} {f : Addr} {fd : FuncData} (F : FunD K r10.name r10.qual (defArgs (stAt P r10.pl)) (defBody (stAt P r10.pl)) (defScope (stAt P r10.pl)) (r10.dfl.map (He.Dv.v K)) [] f fd) : BF K fd r10.ps 2 [] [Pm.at 0, Pm.at 1] :=
  bf0 F rfl fun _ _ _ _ _ _ us ws hu hw => match us, ws, hu, hw with | [_, _], [], _, _ => rfl
theorem sF11 {K : PySem.W.Frag} {f : Addr} {fd : FuncData} (F : FunD K r11.name r11.qual (defArgs (stAt P r11.pl)) (defBody (stAt P r11.pl)) (defScope (stAt P r11.pl)) (r11.dfl.map (He.Dv.v K)) [] f fd) : BF K fd r11.ps 3 [] [Pm.at 0, Pm.at 1, Pm.at 2] :=
  bf0 F rfl fun _ _ _ _ _ _ us ws hu hw => match us, ws, hu, hw with | [_, _, _], [], _, _ => rfl
theorem sF12 {K : PySem.W.Frag} {f : Addr} {fd : FuncData} (F : FunD K r12.name r12.qual (defArgs (stAt P r12.pl)) (defBody (stAt P r12.pl)) (defScope (stAt P r12.pl)) (r12.dfl.map (He.Dv.v K)) [] f fd) : BF K fd r12.ps 2 [] [Pm.at 0, Pm.at 1] :=
  bf0 F rfl fun _ _ _ _ _ _ us ws hu hw => match us, ws, hu, hw with | [_, _], [], _, _ => rfl
theorem sF13 {K : PySem.W.Frag} {f : Addr} {fd : FuncData} (F : FunD K r13.name r13.qual (defArgs (stAt P r13.pl)) (defBody (stAt P r13.pl)) (defScope (stAt P r13.pl)) (r13.dfl.map (He.Dv.v K)) [] f fd) : BF K fd r13.ps 1 [] [Pm.at 0, Pm.df (.int (0)), Pm.df (.int (8))] :=
  bf1 [0, 1] F (fun h => nomatch h) rfl rfl fun _ _ _ _ _ _ _ us ws its hu hw hi => match us, ws, its, hu, hw, hi with | [_], [], [_, _], _, _, _ => ⟨_, rfl, rfl⟩
theorem sF14 {K : PySem.W.Frag} {f : Addr} {fd : FuncData} (F : FunD K r14.name r14.qual (defArgs (stAt P r14.pl)) (defBody (stAt P r14.pl)) (defScope (stAt P r14.pl)) (r14.dfl.map (He.Dv.v K)) [] f fd) : BF K fd r14.ps 2 [] [Pm.at 0, Pm.at 1] :=
  bf0 F rfl fun _ _ _ _ _ _ us ws hu hw => match us, ws, hu, hw with | [_, _], [], _, _ => rfl
theorem sF15 {K : PySem.W.Frag} {f : Addr} {fd : FuncData} (F : FunD K r15.name r15.qual (defArgs (stAt P r15.pl)) (defBody (stAt P r15.pl)) (defScope (stAt P r15.pl)) (r15.dfl.map (He.Dv.v K)) [] f fd) : BF K fd r15.ps 2 [] [Pm.at 0, Pm.at 1] :=
  bf0 F rfl fun _ _ _ _ _ _ us ws hu hw => match us, ws, hu, hw with | [_, _], [], _, _ => rfl
theorem sF16 {K : PySem.W.Frag} {f : Addr} {fd : FuncData} (F : FunD K r16.name r16.qual (defArgs (stAt P r16.pl)) (defBody (stAt P r16.pl)) (defScope (stAt P r16.pl)) (r16.dfl.map (He.Dv.v K)) [] f fd) : BF K fd r16.ps 2 [] [Pm.at 0, Pm.at 1] :=
  bf0 F rfl fun _ _ _ _ _ _ us ws hu hw => match us, ws, hu, hw with | [_, _], [], _, _ => rfl
theorem sF17 {K : PySem.W.Frag} {f : Addr} {fd : FuncData} (F : FunD K r17.name r17.qual (defArgs (stAt P r17.pl)) (defBody (stAt P r17.pl)) (defScope (stAt P r17.pl)) (r17.dfl.map (He.Dv.v K)) [] f fd) : BF K fd r17.ps 1 [] [Pm.at 0] :=
  bf0 F rfl fun _ _ _ _ _ _ us ws hu hw => match us, ws, hu, hw with | [_], [], _, _ => rfl
theorem sF18 {K : PySem.W.Frag} {f : Addr} {fd : FuncData} (F : FunD K r18.name r18.qual (defArgs (stAt P r18.pl)) (defBody (stAt P r18.pl)) (defScope (stAt P r18.pl)) (r18.dfl.map (He.Dv.v K)) [] f fd) : BF K fd r18.ps 0 [(Str.ofString "graph")] [Pm.at 0] :=
  bf0 F rfl fun _ _ _ _ _ _ us ws hu hw => match us, ws, hu, hw with | [], [_], _, _ => rfl
theorem sF19 {K : PySem.W.Frag} {f : Addr} {fd : FuncData} (F : FunD K r18.name r18.qual (defArgs (stAt P r18.pl)) (defBody (stAt P r18.pl)) (defScope (stAt P r18.pl)) (r18.dfl.map (He.Dv.v K)) [] f fd) : BF K fd r18.ps 1 [] [Pm.at 0] :=
  bf0 F rfl fun _ _ _ _ _ _ us ws hu hw => match us, ws, hu, hw with | [_], [], _, _ => rfl
theorem sF20 {K : PySem.W.Frag} {f : Addr} {fd : FuncData} (F : FunD K r19.name r19.qual (defArgs (stAt P r19.pl)) (defBody (stAt P r19.pl)) (defScope (stAt P r19.pl)) (r19.dfl.map (He.Dv.v K)) [] f fd) : BF K fd r19.ps 0 [(Str.ofString "graph")] [Pm.at 0] :=
  bf0 F rfl fun _ _ _ _ _ _ us ws hu hw => match us, ws, hu, hw with | [], [_], _, _ => rfl
theorem sF21 {K : PySem.W.Frag} {f : Addr} {fd : FuncData} (F : FunD K r19.name r19.qual (defArgs (stAt P r19.pl)) (defBody (stAt P r19.pl)) (defScope (stAt P r19.pl)) (r19.dfl.map (He.Dv.v K)) [] f fd) : BF K fd r19.ps 1 [] [Pm.at 0] :=
  bf0 F rfl fun _ _ _ _ _ _ us ws hu hw => match us, ws, hu, hw with | [_], [], _, _ => rfl
theorem sF22 {K : PySem.W.Frag} {f : Addr} {fd : FuncData} (F : FunD K r20.name r20.qual (defArgs (stAt P r20.pl)) (defBody (stAt P r20.pl)) (defScope (stAt P r20.pl)) (r20.dfl.map (He.Dv.v K)) [] f fd) : BF K fd r20.ps 0 [(Str.ofString "graph")] [Pm.at 0] :=
  bf0 F rfl fun _ _ _ _ _ _ us ws hu hw => match us, ws, hu, hw with | [], [_], _, _ => rfl
theorem sF23 {K : PySem.W.Frag} {f : Addr} {fd : FuncData} (F : FunD K r20.name r20.qual (defArgs (stAt P r20.pl)) (defBody (stAt P r20.pl)) (defScope (stAt P r20.pl)) (r20.dfl.map (He.Dv.v K)) [] f fd) : BF K fd r20.ps 1 [] [Pm.at 0] :=
  bf0 F rfl fun _ _ _ _ _ _ us ws hu hw => match us, ws, hu, hw with | [_], [], _, _ => rfl
theorem sF24 {K : PySem.W.Frag} {f : Addr} {fd : FuncData} (F : FunD K r21.name r21.qual (defArgs (stAt P r21.pl)) (defBody (stAt P r21.pl)) (defScope (stAt P r21.pl)) (r21.dfl.map (He.Dv.v K)) [] f fd) : BF K fd r21.ps 2 [] [Pm.at 0, Pm.at 1] :=
  bf0 F rfl fun _ _ _ _ _ _ us ws hu hw => match us, ws, hu, hw with | [_, _], [], _, _ => rfl
theorem sF25 {K : PySem.W.Frag} {f : Addr} {fd : FuncData} (F : FunD K r22.name r22.qual (defArgs (stAt P r22.pl)) (defBody (stAt P r22.pl)) (defScope (stAt P r22.pl)) (r22.dfl.map (He.Dv.v K)) [] f fd) : BF K fd r22.ps 1 [] [Pm.at 0] :=
  bf0 F rfl fun _ _ _ _ _ _ us ws hu hw => match us, ws, hu, hw with | [_], [], _, _ => rfl
theorem sF26 {K : PySem.W.Frag} {f : Addr} {fd : FuncData} (F : FunD K r23.name r23.qual (defArgs (stAt P r23.pl)) (defBody (stAt P r23.pl)) (defScope (stAt P r23.pl)) (r23.dfl.map (He.Dv.v K)) [] f fd) : BF K fd r23.ps 2 [] [Pm.at 0, Pm.at 1] :=
  bf0 F rfl fun _ _ _ _ _ _ us ws hu hw => match us, ws, hu, hw with | [_, _], [], _, _ => rfl
theorem sF27 {K : PySem.W.Frag} {f : Addr} {fd : FuncData} (F : FunD K r24.name r24.qual (defArgs (stAt P r24.pl)) (defBody (stAt P r24.pl)) (defScope (stAt P r24.pl)) (r24.dfl.map (He.Dv.v K)) [] f fd) : BF K fd r24.ps 2 [] [Pm.at 0, Pm.at 1] :=
  bf0 F rfl fun _ _ _ _ _ _ us ws hu hw => match us, ws, hu, hw with | [_, _], [], _, _ => rfl
theorem sF28 {K : PySem.W.Frag} {f : Addr} {fd : FuncData} (F : FunD K r27.name r27.qual (defArgs (stAt P r27.pl)) (defBody (stAt P r27.pl)) (defScope (stAt P r27.pl)) (r27.dfl.map (He.Dv.v K)) [] f fd) : BF K fd r27.ps 1 [] [Pm.at 0] :=
  bf0 F rfl fun _ _ _ _ _ _ us ws hu hw => match us, ws, hu, hw with | [_], [], _, _ => rfl
theorem sF29 {K : PySem.W.Frag} {f : Addr} {fd : FuncData} (F : FunD K r28.name r28.qual (defArgs (stAt P r28.pl)) (defBody (stAt P r28.pl)) (defScope (stAt P r28.pl)) (r28.dfl.map (He.Dv.v K)) [] f fd) : BF K fd r28.ps 2 [] [Pm.at 0, Pm.at 1] :=
  bf0 F rfl fun _ _ _ _ _ _ us ws hu hw => match us, ws, hu, hw with | [_, _], [], _, _ => rfl
theorem sF30 {K : PySem.W.Frag} {f : Addr} {fd : FuncData} (F : FunD K r29.name r29.qual (defArgs (stAt P r29.pl)) (defBody (stAt P r29.pl)) (defScope (stAt P r29.pl)) (r29.dfl.map (He.Dv.v K)) [] f fd) : BF K fd r29.ps 1 [] [Pm.at 0] :=
  bf0 F rfl fun _ _ _ _ _ _ us ws hu hw => match us, ws, hu, hw with | [_], [], _, _ => rfl
theorem sF31 {K : PySem.W.Frag} {f : Addr} {fd : FuncData} (F : FunD K r30.name r30.qual (defArgs (stAt P r30.pl)) (defBody (stAt P r30.pl)) (defScope (stAt P r30.pl)) (r30.dfl.map (He.Dv.v K)) [] f fd) : BF K fd r30.ps 2 [] [Pm.at 0, Pm.at 1] :=
  bf0 F rfl fun _ _ _ _ _ _ us ws hu hw => match us, ws, hu, hw with | [_, _], [], _, _ => rfl
theorem sF32 {K : PySem.W.Frag} {f : Addr} {fd : FuncData} (F : FunD K r31.name r31.qual (defArgs (stAt P r31.pl)) (defBody (stAt P r31.pl)) (defScope (stAt P r31.pl)) (r31.dfl.map (He.Dv.v K)) [] f fd) : BF K fd r31.ps 2 [] [Pm.at 0, Pm.at 1] :=
  bf0 F rfl fun _ _ _ _ _ _ us ws hu hw => match us, ws, hu, hw with | [_, _], [], _, _ => rfl
theorem sF33 {K : PySem.W.Frag} {f : Addr} {fd : FuncData} (F : FunD K r32.name r32.qual (defArgs (stAt P r32.pl)) (defBody (stAt P r32.pl)) (defScope (stAt P r32.pl)) (r32.dfl.map (He.Dv.v K)) [] f fd) : BF K fd r32.ps 2 [] [Pm.at 0, Pm.at 1] :=
  bf0 F rfl fun _ _ _ _ _ _ us ws hu hw => match us, ws, hu, hw with | [_, _], [], _, _ => rfl
theorem sF34 {K : PySem.W.Frag} {f : Addr} {fd : FuncData} (F : FunD K r33.name r33.qual (defArgs (stAt P r33.pl)) (defBody (stAt P r33.pl)) (defScope (stAt P r33.pl)) (r33.dfl.map (He.Dv.v K)) [] f fd) : BF K fd r33.ps 3 [] [Pm.at 0, Pm.at 1, Pm.at 2] :=
  bf0 F rfl fun _ _ _ _ _ _ us ws hu hw => match us, ws, hu, hw with | [_, _, _], [], _, _ => rfl
theorem sF35 {K : PySem.W.Frag} {f : Addr} {fd : FuncData} (F : FunD K r34.name r34.qual (defArgs (stAt P r34.pl)) (defBody (stAt P r34.pl)) (defScope (stAt P r34.pl)) (r34.dfl.map (He.Dv.v K)) [] f fd) : BF K fd r34.ps 2 [] [Pm.at 0, Pm.at 1] :=
  bf0 F rfl fun _ _ _ _ _ _ us ws hu hw => match us, ws, hu, hw with | [_, _], [], _, _ => rfl
theorem sF36 {K : PySem.W.Frag} {f : Addr} {fd : FuncData} (F : FunD K r35.name r35.qual (defArgs (stAt P r35.pl)) (defBody (stAt P r35.pl)) (defScope (stAt P r35.pl)) (r35.dfl.map (He.Dv.v K)) [] f fd) : BF K fd r35.ps 3 [] [Pm.at 0, Pm.at 1, Pm.at 2] :=
  bf0 F rfl fun _ _ _ _ _ _ us ws hu hw => match us, ws, hu, hw with | [_, _, _], [], _, _ => rfl
theorem sF37 {K : PySem.W.Frag} {f : Addr} {fd : FuncData} (F : FunD K r36.name r36.qual (defArgs (stAt P r36.pl)) (defBody (stAt P r36.pl)) (defScope (stAt P r36.pl)) (r36.dfl.map (He.Dv.v K)) [] f fd) : BF K fd r36.ps 2 [] [Pm.at 0, Pm.at 1] :=
  bf0 F rfl fun _ _ _ _ _ _ us ws hu hw => match us, ws, hu, hw with | [_, _], [], _, _ => rfl
theorem sF38 {K : PySem.W.Frag} {f : Addr} {fd : FuncData} (F : FunD K r37.name r37.qual (defArgs (stAt P r37.pl)) (defBody (stAt P r37.pl)) (defScope (stAt P r37.pl)) (r37.dfl.map (He.Dv.v K)) [] f fd) : BF K fd r37.ps 2 [] [Pm.at 0, Pm.at 1] :=
  bf0 F rfl fun _ _ _ _ _ _ us ws hu hw => match us, ws, hu, hw with | [_, _], [], _, _ => rfl
theorem sF39 {K : PySem.W.Frag} {f : Addr} {fd : FuncData} (F : FunD K r38.name r38.qual (defArgs (stAt P r38.pl)) (defBody (stAt P r38.pl)) (defScope (stAt P r38.pl)) (r38.dfl.map (He.Dv.v K)) [] f fd) : BF K fd r38.ps 1 [] [Pm.at 0] :=
  bf0 F rfl fun _ _ _ _ _ _ us ws hu hw => match us, ws, hu, hw with | [_], [], _, _ => rfl
theorem sF40 {K : PySem.W.Frag} {f : Addr} {fd : FuncData} (F : FunD K r39.name r39.qual (defArgs (stAt P r39.pl)) (defBody (stAt P r39.pl)) (defScope (stAt P r39.pl)) (r39.dfl.map (He.Dv.v K)) [] f fd) : BF K fd r39.ps 2 [] [Pm.at 0, Pm.at 1] :=
  bf0 F rfl fun _ _ _ _ _ _ us ws hu hw => match us, ws, hu, hw with | [_, _], [], _, _ => rfl
theorem sF41 {K : PySem.W.Frag} {f : Addr} {fd : FuncData} (F : FunD K r40.name r40.qual (defArgs (stAt P r40.pl)) (defBody (stAt P r40.pl)) (defScope (stAt P r40.pl)) (r40.dfl.map (He.Dv.v K)) [] f fd) : BF K fd r40.ps 3 [] [Pm.at 0, Pm.at 1, Pm.at 2] :=
  bf0 F rfl fun _ _ _ _ _ _ us ws hu hw => match us, ws, hu, hw with | [_, _, _], [], _, _ => rfl
theorem sF42 {K : PySem.W.Frag} {f : Addr} {fd : FuncData} (F : FunD K r41.name r41.qual (defArgs (stAt P r41.pl)) (defBody (stAt P r41.pl)) (defScope (stAt P r41.pl)) (r41.dfl.map (He.Dv.v K)) [] f fd) : BF K fd r41.ps 2 [] [Pm.at 0, Pm.at 1] :=
  bf0 F rfl fun _ _ _ _ _ _ us ws hu hw => match us, ws, hu, hw with | [_, _], [], _, _ => rfl
theorem sF43 {K : PySem.W.Frag} {f : Addr} {fd : FuncData} (F : FunD K r42.name r42.qual (defArgs (stAt P r42.pl)) (defBody (stAt P r42.pl)) (defScope (stAt P r42.pl)) (r42.dfl.map (He.Dv.v K)) [] f fd) : BF K fd r42.ps 2 [] [Pm.at 0, Pm.at 1] :=
  bf0 F rfl fun _ _ _ _ _ _ us ws hu hw => match us, ws, hu, hw with | [_, _], [], _, _ => rfl
theorem sF44 {K : PySem.W.Frag} {f : Addr} {fd : FuncData} (F : FunD K r43.name r43.qual (defArgs (stAt P r43.pl)) (defBody (stAt P r43.pl)) (defScope (stAt P r43.pl)) (r43.dfl.map (He.Dv.v K)) [] f fd) : BF K fd r43.ps 3 [] [Pm.at 0, Pm.at 1, Pm.at 2] :=
  bf0 F rfl fun _ _ _ _ _ _ us ws hu hw => match us, ws, hu, hw with | [_, _, _], [], _, _ => rfl
theorem sF45 {K : PySem.W.Frag} {f : Addr} {fd : FuncData} (F : FunD K r44.name r44.qual (defArgs (stAt P r44.pl)) (defBody (stAt P r44.pl)) (defScope (stAt P r44.pl)) (r44.dfl.map (He.Dv.v K)) [] f fd) : BF K fd r44.ps 4 [] [Pm.at 0, Pm.at 1, Pm.at 2, Pm.at 3] :=
  bf0 F rfl fun _ _ _ _ _ _ us ws hu hw => match us, ws, hu, hw with | [_, _, _, _], [], _, _ => rfl
theorem sC0 {K : PySem.W.Frag} {f : Addr} {fd : FuncData} (F : FunD K r53.name r53.qual (defArgs (stAt P r53.pl)) (defBody (stAt P r53.pl)) (defScope (stAt P r53.pl)) (r53.dfl.map (He.Dv.v K)) [] f fd) : BI K fd r53.ps 2 [] [Pm.at 0, Pm.at 1] :=
  bi0 F rfl fun _ _ _ _ _ _ _ us ws hu hw => match us, ws, hu, hw with | [_, _], [], _, _ => rfl
theorem sM0_46 {K : PySem.W.Frag} {f : Addr} {fd : FuncData} (F : FunD K r46.name r46.qual (defArgs (stAt P r46.pl)) (defBody (stAt P r46.pl)) (defScope (stAt P r46.pl)) (r46.dfl.map (He.Dv.v K)) [] f fd) : BF K fd r46.ps 2 [] [Pm.at 0, Pm.at 1] :=
  bf0 F rfl fun _ _ _ _ _ _ us ws hu hw => match us, ws, hu, hw with | [_, _], [], _, _ => rfl
theorem sM1_49 {K : PySem.W.Frag} {f : Addr} {fd : FuncData} (F : FunD K r49.name r49.qual (defArgs (stAt P r49.pl)) (defBody (stAt P r49.pl)) (defScope (stAt P r49.pl)) (r49.dfl.map (He.Dv.v K)) [] f fd) : BF K fd r49.ps 1 [] [Pm.at 0] :=
  bf0 F rfl fun _ _ _ _ _ _ us ws hu hw => match us, ws, hu, hw with | [_], [], _, _ => rfl
theorem sh : L.Shapes where
  F := show ∀ q ∈ T.shF, L.okF q from
    fa_cons (fun r hr K f fd F => by have e : r0 = r := Option.some.inj hr; subst e; exact sF0 F) <|
    fa_cons (fun r hr K f fd F => by have e : r1 = r := Option.some.inj hr; subst e; exact sF1 F) <|
    fa_cons (fun r hr K f fd F => by have e : r2 = r := Option.some.inj hr; subst e; exact sF2 F) <|
    fa_cons (fun r hr K f fd F => by have e : r3 = r := Option.some.inj hr; subst e; exact sF3 F) <|
    fa_cons (fun r hr K f fd F => by have e : r4 = r := Option.some.inj hr; subst e; exact sF4 F) <|
    fa_cons (fun r hr K f fd F => by have e : r5 = r := Option.some.inj hr; subst e; exact sF5 F) <|
    fa_cons (fun r hr K f fd F => by have e : r6 = r := Option.some.inj hr; subst e; exact sF6 F) <|
    fa_cons (fun r hr K f fd F => by have e : r7 = r := Option.some.inj hr; subst e; exact sF7 F) <|
    fa_cons (fun r hr K f fd F => by have e : r8 = r := Option.some.inj hr; subst e; exact sF8 F) <|
    fa_cons (fun r hr K f fd F => by have e : r9 = r := Option.some.inj hr; subst e; exact sF9 F) <|
    fa_cons (fun r hr K f fd F => by have e : r10 = r := Option.some.inj hr; subst e; exact sF10 F) <|
    fa_cons (fun r hr K f fd F => by have e : r11 = r := Option.some.inj hr; subst e; exact sF11 F) <|
    fa_cons (fun r hr K f fd F => by have e : r12 = r := Option.some.inj hr; subst e; exact sF12 F) <|
    fa_cons (fun r hr K f fd F => by have e : r13 = r := Option.some.inj hr; subst e; exact sF13 F) <|
    fa_cons (fun r hr K f fd F => by have e : r14 = r := Option.some.inj hr; subst e; exact sF14 F) <|
    fa_cons (fun r hr K f fd F => by have e : r15 = r := Option.some.inj hr; subst e; exact sF15 F) <|
    fa_cons (fun r hr K f fd F => by have e : r16 = r := Option.some.inj hr; subst e; exact sF16 F) <|
    fa_cons (fun r hr K f fd F => by have e : r17 = r := Option.some.inj hr; subst e; exact sF17 F) <|
    fa_cons (fun r hr K f fd F => by have e : r18 = r := Option.some.inj hr; subst e; exact sF18 F) <|
    fa_cons (fun r hr K f fd F => by have e : r18 = r := Option.some.inj hr; subst e; exact sF19 F) <|
    fa_cons (fun r hr K f fd F => by have e : r19 = r := Option.some.inj hr; subst e; exact sF20 F) <|
    fa_cons (fun r hr K f fd F => by have e : r19 = r := Option.some.inj hr; subst e; exact sF21 F) <|
    fa_cons (fun r hr K f fd F => by have e : r20 = r := Option.some.inj hr; subst e; exact sF22 F) <|
    fa_cons (fun r hr K f fd F => by have e : r20 = r := Option.some.inj hr; subst e; exact sF23 F) <|
    fa_cons (fun r hr K f fd F => by have e : r21 = r := Option.some.inj hr; subst e; exact sF24 F) <|
    fa_cons (fun r hr K f fd F => by have e : r22 = r := Option.some.inj hr; subst e; exact sF25 F) <|
    fa_cons (fun r hr K f fd F => by have e : r23 = r := Option.some.inj hr; subst e; exact sF26 F) <|
    fa_cons (fun r hr K f fd F => by have e : r24 = r := Option.some.inj hr; subst e; exact sF27 F) <|
    fa_cons (fun r hr K f fd F => by have e : r27 = r := Option.some.inj hr; subst e; exact sF28 F) <|
    fa_cons (fun r hr K f fd F => by have e : r28 = r := Option.some.inj hr; subst e; exact sF29 F) <|
    fa_cons (fun r hr K f fd F => by have e : r29 = r := Option.some.inj hr; subst e; exact sF30 F) <|
    fa_cons (fun r hr K f fd F => by have e : r30 = r := Option.some.inj hr; subst e; exact sF31 F) <|
    fa_cons (fun r hr K f fd F => by have e : r31 = r := Option.some.inj hr; subst e; exact sF32 F) <|
    fa_cons (fun r hr K f fd F => by have e : r32 = r := Option.some.inj hr; subst e; exact sF33 F) <|
    fa_cons (fun r hr K f fd F => by have e : r33 = r := Option.some.inj hr; subst e; exact sF34 F) <|
    fa_cons (fun r hr K f fd F => by have e : r34 = r := Option.some.inj hr; subst e; exact sF35 F) <|
    fa_cons (fun r hr K f fd F => by have e : r35 = r := Option.some.inj hr; subst e; exact sF36 F) <|
    fa_cons (fun r hr K f fd F => by have e : r36 = r := Option.some.inj hr; subst e; exact sF37 F) <|
    fa_cons (fun r hr K f fd F => by have e : r37 = r := Option.some.inj hr; subst e; exact sF38 F) <|
    fa_cons (fun r hr K f fd F => by have e : r38 = r := Option.some.inj hr; subst e; exact sF39 F) <|
    fa_cons (fun r hr K f fd F => by have e : r39 = r := Option.some.inj hr; subst e; exact sF40 F) <|
    fa_cons (fun r hr K f fd F => by have e : r40 = r := Option.some.inj hr; subst e; exact sF41 F) <|
    fa_cons (fun r hr K f fd F => by have e : r41 = r := Option.some.inj hr; subst e; exact sF42 F) <|
    fa_cons (fun r hr K f fd F => by have e : r42 = r := Option.some.inj hr; subst e; exact sF43 F) <|
    fa_cons (fun r hr K f fd F => by have e : r43 = r := Option.some.inj hr; subst e; exact sF44 F) <|
    fa_cons (fun r hr K f fd F => by have e : r44 = r := Option.some.inj hr; subst e; exact sF45 F) <|
    fa_nil
  C := show ∀ q ∈ T.shC, L.okC q from
    fa_cons (fun r hr K f fd F => by have e : r53 = r := Option.some.inj hr; subst e; exact sC0 F) <|
    fa_nil
  M := show ∀ q ∈ T.shM, L.okM q from
    fa_cons (show ∀ p ∈ L.mth, L.okMp (4, 1, [], [Pm.at 0, Pm.at 1]) p from
      fa_cons (fun _ r hr K f fd F => by have e : r46 = r := Option.some.inj hr; subst e; exact sM0_46 F) <|
      fa_cons (fun e => absurd e (by decide)) <|
      fa_cons (fun e => absurd e (by decide)) <|
      fa_cons (fun e => absurd e (by decide)) <|
      fa_cons (fun e => absurd e (by decide)) <|
      fa_cons (fun e => absurd e (by decide)) <|
      fa_cons (fun e => absurd e (by decide)) <|
      fa_nil) <|
    fa_cons (show ∀ p ∈ L.mth, L.okMp (7, 0, [], [Pm.at 0]) p from
      fa_cons (fun e => absurd e (by decide)) <|
      fa_cons (fun e => absurd e (by decide)) <|
      fa_cons (fun e => absurd e (by decide)) <|
      fa_cons (fun _ r hr K f fd F => by have e : r49 = r := Option.some.inj hr; subst e; exact sM1_49 F) <|
      fa_cons (fun e => absurd e (by decide)) <|
      fa_cons (fun e => absurd e (by decide)) <|
      fa_cons (fun e => absurd e (by decide)) <|
      fa_nil) <|
    fa_nil
def loose : List Str := ([(Str.ofString "_wall"), (Str.ofString "__name__"), (Str.ofString "is_integer"), (Str.ofString "is_between"), (Str.ofString "is_tuple_of"), (Str.ofString "are_between"), (Str.ofString "is_row"), (Str.ofString "MOST_VERTICES"), (Str.ofString "mask_of"), (Str.ofString "subset_of"), (Str.ofString "many_in"), (Str.ofString "first_in"), (Str.ofString "beside"), (Str.ofString "reached"), (Str.ofString "parts_in"), (Str.ofString "GraphError"), (Str.ofString "InvalidEdges"), (Str.ofString "InvalidSize"), (Str.ofString "InvalidVertex"), (Str.ofString "MOST_PAIRS"), (Str.ofString "check_size"), (Str.ofString "is_pair"), (Str.ofString "are_pairs"), (Str.ofString "near_of"), (Str.ofString "edges_of"), (Str.ofString "Graph"), (Str.ofString "connectivity"), (Str.ofString "smallest_cut"), (Str.ofString "edge_connectivity"), (Str.ofString "_law_cell")] : List Str) ++ ([(Str.ofString "_law_box"), (Str.ofString "_law_take"), (Str.ofString "_law_same"), (Str.ofString "_law_set"), (Str.ofString "_law_mask"), (Str.ofString "_law_count"), (Str.ofString "_law_mixed"), (Str.ofString "_law_couples"), (Str.ofString "_law_near"), (Str.ofString "_law_edges"), (Str.ofString "_law_complement"), (Str.ofString "_law_reach"), (Str.ofString "_law_parts"), (Str.ofString "_law_renamed"), (Str.ofString "_law_glued"), (Str.ofString "_law_drawn"), (Str.ofString "_law_size"), (Str.ofString "_law_connectivity"), (Str.ofString "_law_out"), (Str.ofString "_law_cuts"), (Str.ofString "_law_close"), (Str.ofString "_law_asked"), (Str.ofString "_law_right")] : List Str)
abbrev R : PySem.W.OpenRow := PySem.W.OpenLaw.row PySem.Challenge.rw_graphbench_k09_connectivity
abbrev hk : PySem.W.Hook := hookP 5 L
def ob (s : PySem.W.SharedT) : AlP := obsP 5 L (HandSHeadRun.getT s)
theorem ob_eq (s : PySem.W.SharedT) : ob s = hk.obs s.abs := obsP_eq (HandSHeadRun.getT_eq s)
set_option maxHeartbeats 0 in
theorem run (w : World) : HandSHeadRun.RunEq R (PySem.W.view R.prog [59]) hk ob 15000 loose w := by
  intro os
  kernel_rfl
open PySem.W PySem.Calls PyProof.Rows in
set_option maxHeartbeats 0 in
theorem holds_of {n : Nat} (hr : Room (n + 2) callerA) (pl : Plain L n 45) : PySem.Challenge.rw_graphbench_k09_connectivity.Holds := by
  w_on; o_law
  refine HandSHeadRun.head_any (r := R) (q := view R.prog [59]) (H := hk) (ob := ob) (M := 15000) (loose := loose) (d := HandSHeadRun.topDef R.prog 59) (kwd := []) ob_eq
    (by kernel_rfl) (fun s => by kernel_rfl) run (by kernel_rfl) (by kernel_rfl) (by kernel_rfl) (by rfl) (by first | assumption | decide +kernel) (by decide +kernel) ⟨rfl, rfl, rfl, rfl, rfl, by decide +kernel⟩ ?hw ?hc
  case hw => w_witness2
  case hc => exact walk_law (r := r45) (x := "script") ok sh rfl (by kernel_rfl) hr rfl (by kernel_rfl) rfl rfl rfl (fun _ _ _ _ _ _ _ => rfl) pl
end Pl.k09
set_option Elab.async false
set_option linter.all false
set_option maxRecDepth 100000
namespace Pl.k09
open PySem Pl
local macro_rules | `(tactic| walk_at "pl0") => `(tactic| try simp only [↓dW_bind, ↓dW_pure, ↓dW_some, ↓dW_vi, ↓dW_vb, ↓dW_toD, ↓dW_rd, ↓dW_mv, ↓dW_op, ↓dW_own, ↓dW_get_dat, ↓dW_get_at, ↓dW_gets_nil, ↓dW_gets_cons, ↓dW_put, ↓dW_val, ↓dW_bool, ↓dW_tru, ↓dW_nx, ↓dW_ite, ↓dW_keep, ↓de_opv, ↓de_c, ↓de_v, ↓de_io, ↓de_bin, ↓de_un, ↓de_cmp, ↓de_chain, ↓de_and, ↓de_or, ↓de_not, ↓de_ite, ↓de_tup, ↓de_lst, ↓de_ix, ↓de_sl, ↓de_pnil, ↓de_rev, ↓de_fld, ↓de_sfld, ↓de_call, ↓de_make, ↓de_meth, ↓de_blt, ↓de_isi, ↓de_mut, ↓de_lc1, ↓de_es0, ↓de_star, ↓de_ps0, ↓de_ps, ↓de_ts0, ↓de_ts, ↓de_rs0, ↓de_rs, ↓ds_nil, ↓ds_cons, ↓ds_asgn, ↓ds_sto, ↓ds_sub, ↓ds_subX, ↓ds_asgs, ↓ds_asgf, ↓ds_fld, ↓ds_par, ↓ds_stoX0, ↓ds_stoXn, ↓ds_stoXs, ↓ds_unp, ↓ds_unpT, ↓ds_aug, ↓ds_expr, ↓ds_retv, ↓ds_iff, ↓ds_for, ↓ds_wh, ↓ds_pass, ↓ds_brk, ↓ds_cont, ↓do_add, ↓do_sub, ↓do_and, ↓do_or, ↓do_xor, ↓do_mul, ↓do_fdiv, ↓do_mod, ↓do_pow, ↓do_shl, ↓do_shr, ↓do_addL, ↓do_addT, ↓do_inv, ↓do_neg, ↓do_lt, ↓do_le, ↓do_gt, ↓do_ge, ↓do_eq, ↓do_ne, ↓do_item, ↓do_itemT, ↓dt_int, ↓dt_bl, ↓dt_non, ↓dt_lst, ↓dr_seq, ↓dr_seqt, ↓db_len, ↓db_lent, ↓db_lens, ↓db_abs, ↓db_max2, ↓db_min2, ↓db_int, ↓db_tuple, ↓db_tuplet, ↓db_list, ↓db_listt, ↓de_op_c, ↓ds_ret_c, ↓de_es_c, ↓de_pt_c, ↓de_es_v, ↓de_pt_v, ↓de_op_io, ↓ds_ret_io, ↓de_es_io, ↓de_pt_io, ↓de_op_bin, ↓ds_ret_bin, ↓de_es_bin, ↓de_pt_bin, ↓de_op_un, ↓ds_ret_un, ↓de_es_un, ↓de_pt_un, ↓de_op_cmp, ↓ds_ret_cmp, ↓de_es_cmp, ↓de_pt_cmp, ↓de_op_chain, ↓ds_ret_chain, ↓de_es_chain, ↓de_pt_chain, ↓de_op_and, ↓ds_ret_and, ↓de_es_and, ↓de_pt_and, ↓de_op_or, ↓ds_ret_or, ↓de_es_or, ↓de_pt_or, ↓de_op_not, ↓ds_ret_not, ↓de_es_not, ↓de_pt_not, ↓de_op_ite, ↓ds_ret_ite, ↓de_es_ite, ↓de_pt_ite, ↓de_op_tup, ↓ds_ret_tup, ↓de_es_tup, ↓de_pt_tup, ↓de_op_lst, ↓ds_ret_lst, ↓de_es_lst, ↓de_pt_lst, ↓de_op_ix, ↓ds_ret_ix, ↓de_es_ix, ↓de_pt_ix, ↓de_op_sl, ↓ds_ret_sl, ↓de_es_sl, ↓de_pt_sl, ↓de_op_rev, ↓ds_ret_rev, ↓de_es_rev, ↓de_pt_rev, ↓de_op_fld, ↓ds_ret_fld, ↓de_es_fld, ↓de_pt_fld, ↓de_op_sfld, ↓ds_ret_sfld, ↓de_es_sfld, ↓de_pt_sfld, ↓de_op_call, ↓ds_ret_call, ↓de_es_call, ↓de_pt_call, ↓de_op_make, ↓ds_ret_make, ↓de_es_make, ↓de_pt_make, ↓de_op_meth, ↓ds_ret_meth, ↓de_es_meth, ↓de_pt_meth, ↓de_op_blt, ↓ds_ret_blt, ↓de_es_blt, ↓de_pt_blt, ↓de_op_bmt, ↓ds_ret_bmt, ↓de_es_bmt, ↓de_pt_bmt, ↓de_op_isi, ↓ds_ret_isi, ↓de_es_isi, ↓de_pt_isi, ↓de_op_mut, ↓ds_ret_mut, ↓de_es_mut, ↓de_pt_mut, ↓de_op_lc1, ↓ds_ret_lc1, ↓de_es_lc1, ↓de_pt_lc1, ↓de_op_lc2, ↓ds_ret_lc2, ↓de_es_lc2, ↓de_pt_lc2, ↓do_mulN, ↓db_lrng1, ↓db_trng1, ↓ds_parL2, ↓ds_parL3, ↓dm_app, ↓dm_ext, ↓dm_rev, ↓d_neints, ↓d_eqints, ↓dr_rng1c, ↓dr_rng2c, ↓dr_rng2o, ↓atD_0, ↓atD_1, ↓atD_2, ↓atD_3, ↓ixD_0, ↓ixD_3, getS_0, getS_s, List.set_cons_zero, List.set_cons_succ, stoV, RV.d, endC, tnC, wipeS, backAll, if_true, if_false, Bool.false_eq_true, pmD, List.getElem?_cons_zero, List.getElem?_cons_succ, List.cons_append, List.nil_append, List.append_nil, Option.map_some, shl1N, shlN, shrN, and1N, andN, orN, xorN, andnN, nandN, tstb, List.length_cons, List.length_nil, List.length_map, List.length_range, Nat.zero_add, Nat.reduceAdd, Nat.reduceLT, Nat.reduceLeDiff, true_and])
local macro_rules | `(tactic| walk_at "pl") => `(tactic| try simp only [↓dW_bind, ↓dW_pure, ↓dW_some, ↓dW_vi, ↓dW_vb, ↓dW_toD, ↓dW_rd, ↓dW_mv, ↓dW_op, ↓dW_own, ↓dW_get_dat, ↓dW_get_at, ↓dW_gets_nil, ↓dW_gets_cons, ↓dW_put, ↓dW_val, ↓dW_bool, ↓dW_tru, ↓dW_nx, ↓dW_ite, ↓dW_keep, ↓de_opv, ↓de_c, ↓de_v, ↓de_io, ↓de_bin, ↓de_un, ↓de_cmp, ↓de_chain, ↓de_and, ↓de_or, ↓de_not, ↓de_ite, ↓de_tup, ↓de_lst, ↓de_ix, ↓de_sl, ↓de_pnil, ↓de_rev, ↓de_fld, ↓de_sfld, ↓de_call, ↓de_make, ↓de_meth, ↓de_blt, ↓de_isi, ↓de_mut, ↓de_lc1, ↓de_es0, ↓de_star, ↓de_ps0, ↓de_ps, ↓de_ts0, ↓de_ts, ↓de_rs0, ↓de_rs, ↓ds_nil, ↓ds_cons, ↓ds_asgn, ↓ds_sto, ↓ds_sub, ↓ds_subX, ↓ds_asgs, ↓ds_asgf, ↓ds_fld, ↓ds_par, ↓ds_stoX0, ↓ds_stoXn, ↓ds_stoXs, ↓ds_unp, ↓ds_unpT, ↓ds_aug, ↓ds_expr, ↓ds_retv, ↓ds_iff, ↓ds_for, ↓ds_wh, ↓ds_pass, ↓ds_brk, ↓ds_cont, ↓do_add, ↓do_sub, ↓do_and, ↓do_or, ↓do_xor, ↓do_mul, ↓do_fdiv, ↓do_mod, ↓do_pow, ↓do_shl, ↓do_shr, ↓do_addL, ↓do_addT, ↓do_inv, ↓do_neg, ↓do_lt, ↓do_le, ↓do_gt, ↓do_ge, ↓do_eq, ↓do_ne, ↓do_item, ↓do_itemT, ↓dt_int, ↓dt_bl, ↓dt_non, ↓dt_lst, ↓dr_seq, ↓dr_seqt, ↓db_len, ↓db_lent, ↓db_lens, ↓db_abs, ↓db_max2, ↓db_min2, ↓db_int, ↓db_tuple, ↓db_tuplet, ↓db_list, ↓db_listt, ↓de_op_c, ↓ds_ret_c, ↓de_es_c, ↓de_pt_c, ↓de_es_v, ↓de_pt_v, ↓de_op_io, ↓ds_ret_io, ↓de_es_io, ↓de_pt_io, ↓de_op_bin, ↓ds_ret_bin, ↓de_es_bin, ↓de_pt_bin, ↓de_op_un, ↓ds_ret_un, ↓de_es_un, ↓de_pt_un, ↓de_op_cmp, ↓ds_ret_cmp, ↓de_es_cmp, ↓de_pt_cmp, ↓de_op_chain, ↓ds_ret_chain, ↓de_es_chain, ↓de_pt_chain, ↓de_op_and, ↓ds_ret_and, ↓de_es_and, ↓de_pt_and, ↓de_op_or, ↓ds_ret_or, ↓de_es_or, ↓de_pt_or, ↓de_op_not, ↓ds_ret_not, ↓de_es_not, ↓de_pt_not, ↓de_op_ite, ↓ds_ret_ite, ↓de_es_ite, ↓de_pt_ite, ↓de_op_tup, ↓ds_ret_tup, ↓de_es_tup, ↓de_pt_tup, ↓de_op_lst, ↓ds_ret_lst, ↓de_es_lst, ↓de_pt_lst, ↓de_op_ix, ↓ds_ret_ix, ↓de_es_ix, ↓de_pt_ix, ↓de_op_sl, ↓ds_ret_sl, ↓de_es_sl, ↓de_pt_sl, ↓de_op_rev, ↓ds_ret_rev, ↓de_es_rev, ↓de_pt_rev, ↓de_op_fld, ↓ds_ret_fld, ↓de_es_fld, ↓de_pt_fld, ↓de_op_sfld, ↓ds_ret_sfld, ↓de_es_sfld, ↓de_pt_sfld, ↓de_op_call, ↓ds_ret_call, ↓de_es_call, ↓de_pt_call, ↓de_op_make, ↓ds_ret_make, ↓de_es_make, ↓de_pt_make, ↓de_op_meth, ↓ds_ret_meth, ↓de_es_meth, ↓de_pt_meth, ↓de_op_blt, ↓ds_ret_blt, ↓de_es_blt, ↓de_pt_blt, ↓de_op_bmt, ↓ds_ret_bmt, ↓de_es_bmt, ↓de_pt_bmt, ↓de_op_isi, ↓ds_ret_isi, ↓de_es_isi, ↓de_pt_isi, ↓de_op_mut, ↓ds_ret_mut, ↓de_es_mut, ↓de_pt_mut, ↓de_op_lc1, ↓ds_ret_lc1, ↓de_es_lc1, ↓de_pt_lc1, ↓de_op_lc2, ↓ds_ret_lc2, ↓de_es_lc2, ↓de_pt_lc2, ↓do_mulN, ↓db_lrng1, ↓db_trng1, ↓ds_parL2, ↓ds_parL3, ↓dm_app, ↓dm_ext, ↓dm_rev, ↓d_neints, ↓d_eqints, ↓dr_rng1c, ↓dr_rng2c, ↓dr_rng2o, ↓atD_0, ↓atD_1, ↓atD_2, ↓atD_3, ↓ixD_0, ↓ixD_3, getS_0, getS_s, List.set_cons_zero, List.set_cons_succ, stoV, RV.d, endC, tnC, wipeS, backAll, if_true, if_false, Bool.false_eq_true, pmD, List.getElem?_cons_zero, List.getElem?_cons_succ, List.cons_append, List.nil_append, List.append_nil, Option.map_some, shl1N, shlN, shrN, and1N, andN, orN, xorN, andnN, nandN, tstb, List.length_cons, List.length_nil, List.length_map, List.length_range, Nat.zero_add, Nat.reduceAdd, Nat.reduceLT, Nat.reduceLeDiff, true_and, List.getElem_range, addN, add1N, oneaN, pow1N, small1, nn0, le1000, and_true])
local macro_rules | `(tactic| walk_at "pa") => `(tactic| (simp only [atN, ixD_nat, setN, List.length_set, List.length_map, *]; walk_at "pl"))

def Box (B : Nat) (xs : List D) : Prop := ∃ (a : Int) (b : Bool) (c d : Nat), xs = [.int a, .bl b, .int (c : Int), .int (d : Int)] ∧ c < 2147483629 ∧ d ≤ B
theorem Box.mono {B B' : Nat} {xs : List D} (h : Box B xs) (k : B ≤ B') : Box B' xs := by
  obtain ⟨a, b, c, d, e, h1, h2⟩ := h
  exact ⟨a, b, c, d, e, h1, by omega⟩
theorem fmodN {a : Int} {m : Nat} (hm : 0 < m) : ∃ k : Nat, a.fmod (m : Int) = (k : Int) ∧ k < m := by
  rw [Int.fmod_eq_emod_of_nonneg a (by omega)]
  have h1 := Int.emod_nonneg a (show (m : Int) ≠ 0 by omega)
  have h2 := Int.emod_lt_of_pos a (show (0 : Int) < m by omega)
  exact ⟨(a % (m : Int)).toNat, by omega, by omega⟩
theorem smallN {i : Int} (h : 0 ≤ i) (h2 : i < 18446744073709551616) : small i = true := by
  unfold small; exact decide_eq_true ⟨by omega, by omega⟩
theorem take_ok (n B : Nat) (box : List D) (many : Nat) (hb : Box B box) (hB : B ≤ 1000000) (hm : 0 < many) (hm2 : many < 1000) :
    Wk ((gam pr (n + 1)).call 23 [.non, .int (many : Int)] (some box)) fun r o => ∃ k : Nat, r = .val (.int (k : Int)) ∧ k < many ∧ ∃ box', o = some box' ∧ Box (B + 1) box' := by
  obtain ⟨a, b, c, d, rfl, hc, hd⟩ := hb
  refine k_call fn23 (k_run1 (i := 0) (S := [.io [.int a, .bl b, .int c, .int d], .val (.int many), .un, .un]) rfl rfl ?_)
  simp only [f23, b23]
  walk_at "pl0"
  have rest : (small 15485863 || small ((d : Int) + 1)) = true ∧ (0 ≤ (5 : Int) ∧ (5 : Int) ≤ 1000 ∧ small ((c : Int) + 15485863 * ((d : Int) + 1) + 179424673) = true) ∧ (2147483647 : Int) ≠ 0 ∧
      (small ((((c : Int) + 15485863 * ((d : Int) + 1) + 179424673) ^ Int.toNat 5).fmod 2147483647) || small 48271) = true ∧ (small 104729 || small ((d : Int) + 1)) = true ∧
      (0 ≤ (3 : Int) ∧ (3 : Int) ≤ 1000 ∧ small ((((c : Int) + 15485863 * ((d : Int) + 1) + 179424673) ^ Int.toNat 5).fmod 2147483647 * 48271 + 104729 * ((d : Int) + 1)) = true) ∧ (2147483587 : Int) ≠ 0 ∧ ((64 : Int) ≠ 0 ∧ Int.natAbs 64 < 1073741824) ∧ (many : Int) ≠ 0 := by
    obtain ⟨k, e, hk⟩ := fmodN (a := ((c : Int) + 15485863 * ((d : Int) + 1) + 179424673) ^ Int.toNat 5) (m := 2147483647) (by omega)
    have e : (((c : Int) + 15485863 * ((d : Int) + 1) + 179424673) ^ Int.toNat 5).fmod 2147483647 = (k : Int) := e
    rw [e]
    refine ⟨by rw [smallN (i := 15485863) (by omega) (by omega)]; rfl, ⟨by omega, by omega, smallN (by omega) (by omega)⟩, by omega, by rw [smallN (i := 48271) (by omega) (by omega), Bool.or_true], by rw [smallN (i := 104729) (by omega) (by omega)]; rfl, ⟨by omega, by omega, smallN (by omega) (by omega)⟩, by omega, ⟨by omega, by decide⟩, by omega⟩
  have fin : ∀ (x : Int) b, ∃ k : Nat, RV.val (D.int (x.fmod many)) = .val (.int (k : Int)) ∧ k < many ∧ ∃ box', some [D.int a, D.bl b, D.int c, D.int ((d : Int) + 1)] = some box' ∧ Box (B + 1) box' := fun x b => by
    obtain ⟨k, e, hk⟩ := fmodN (a := x) hm
    exact ⟨k, by rw [e], hk, _, rfl, a, b, c, d + 1, by simp, hc, by omega⟩
  obtain ⟨x1, x2, x3, x5, x6, x7, x8, x9, x10⟩ := rest
  have one : (many : Int) ≠ 0 ∧ ((many : Int) ≠ 0 ∧ (many : Int).natAbs < 1073741824) ∧
      ∃ k : Nat, RV.val (D.int (a.fmod many)) = RV.val (D.int k) ∧ k < many ∧ ∃ box', some [D.int (a.fdiv many), D.bl b, D.int c, D.int d] = some box' ∧ Box (B + 1) box' := by
    obtain ⟨k, e, hk⟩ := fmodN (a := a) hm
    exact ⟨by omega, ⟨by omega, by omega⟩, k, by rw [e], hk, _, rfl, _, b, c, d, rfl, hc, by omega⟩
  split
  · split
    · exact one
    · exact ⟨x1, x2, x3, x5, x6, x7, x8, x9, x10, fin _ _⟩
  · exact ⟨x1, x2, x3, x5, x6, x7, x8, x9, x10, fin _ _⟩

/-- a list that holds each number below many once -/
def Perm (many : Nat) (l : List Nat) : Prop := l.Nodup ∧ l.length = many ∧ ∀ x ∈ l, x < many
theorem mixed_ok (n B : Nat) (box : List D) (many : Nat) (hb : Box B box) (hB : B + many ≤ 1000000) (hm2 : many < 1000) :
    Wk ((gam pr (n + 2)).call 28 [.non, .int (many : Int)] (some box)) fun r o => ∃ l, r = .fr (l.map fun (x : Nat) => D.int (x : Int)) ∧ Perm many l ∧ ∃ box', o = some box' ∧ Box (B + many) box' := by
  refine k_call fn28 (k_run1 (i := 0) (S := [.io box, .val (.int many), .un, .un]) rfl rfl ?_)
  simp only [f28, b28]
  walk_at "pl"
  refine ⟨by have : lim = 100000 := rfl; omega, by decide, ?_⟩
  refine (k_wh (fun k S => ∃ (left found : List Nat) (box' : List D), S = [.io box', .val (.int many), .own (left.map fun (k : Nat) => D.int (k : Int)), .own (found.map fun (k : Nat) => D.int (k : Int))] ∧ left.length = k ∧ found.length + k = many ∧ (found ++ left).Nodup ∧ (∀ x ∈ found ++ left, x < many) ∧ Box (B + found.length) box') (k := many) (by unfold wlim; omega) ?_ ?_)
  · exact ⟨List.range many, [], box, rfl, List.length_range, by simp, List.nodup_range, fun x hx => by simpa using hx, hb⟩
  · rintro k S ⟨left, found, box', rfl, h1, h2, h3, h4, h5⟩
    walk_at "pl"
    cases left with
    | nil =>
      rw [if_neg (by simp)]
      simp only [List.length_nil] at h1
      subst h1
      exact ⟨Nat.zero_le _, found, rfl, ⟨by simpa using h3, by omega, fun x hx => h4 x (by simpa using hx)⟩, box', rfl, h5.mono (by omega)⟩
    | cons y ys =>
      rw [if_pos (by simp)]
      refine ⟨Nat.zero_le _, ?_⟩
      walk_at "pl"
      refine (k_call2 (i := 0) rfl ((take_ok n (B + found.length) box' (ys.length + 1) h5 (by simp only [List.length_cons] at h1; omega) (by omega) (by simp only [List.length_cons] at h1; omega)).mono ?_))
      rintro r o ⟨j, rfl, hj, box2, rfl, hb2⟩
      refine ⟨_, rfl, ?_⟩
      walk_at "pl"
      rw [dm_popat (l := y :: ys) (j := j) (by simpa using hj)]
      walk_at "pl"
      have hj2 : j < (y :: ys).length := by simpa using hj
      have hp : (found ++ [(y :: ys)[j]] ++ (y :: ys).eraseIdx j).Perm (found ++ y :: ys) := by
        rw [List.append_assoc]
        exact (erase_perm _ _ hj2).append_left found
      refine ⟨by have : lim = 100000 := rfl; omega, _, ?_, (y :: ys).eraseIdx j, found ++ [(y :: ys)[j]], box2, by simp, rfl, ?_, hp.nodup_iff.mpr h3, fun x hx => h4 x (hp.mem_iff.mp hx), ?_⟩
      · rw [List.length_eraseIdx_of_lt hj2]; omega
      · rw [List.length_eraseIdx_of_lt hj2, List.length_append]; simp only [List.length_cons, List.length_nil] at h1 ⊢; omega
      · rw [List.length_append]; exact hb2.mono (by simp only [List.length_cons, List.length_nil]; omega)
/-- the pairs of numbers below n -/
def coupR (n a : Nat) : List (Nat × Nat) := (List.range (n - (a + 1))).map fun k => (a, a + 1 + k)
def coup (n : Nat) : List (Nat × Nat) := (List.range n).flatMap (coupR n)
theorem mem_coup {n : Nat} {p : Nat × Nat} : p ∈ coup n ↔ p.1 < p.2 ∧ p.2 < n := by
  unfold coup coupR
  rw [List.mem_flatMap]
  constructor
  · rintro ⟨a, ha, hp⟩
    obtain ⟨k, hk, rfl⟩ := List.mem_map.mp hp
    rw [List.mem_range] at ha hk
    simp only; omega
  · rintro ⟨h1, h2⟩
    refine ⟨p.1, List.mem_range.mpr (by omega), List.mem_map.mpr ⟨p.2 - (p.1 + 1), List.mem_range.mpr (by omega), ?_⟩⟩
    obtain ⟨a, b⟩ := p
    simp only at h1 h2 ⊢
    congr 1; omega
theorem coup_len {n : Nat} (h : n ≤ 8) : (coup n).length ≤ 28 := by
  have : ∀ n, n ≤ 8 → (coup n).length ≤ 28 := by decide +kernel
  exact this n h
theorem couples_ok (n m : Nat) (hm : m ≤ 8) : Wk ((gam pr (n + 1)).call 29 [.int (m : Int)] none) fun r o => r = .fr ((coup m).map pD) ∧ o = none := by
  refine k_call fn29 (k_run0 (S := [.val (.int m), .un, .un, .un]) rfl rfl ?_)
  simp only [f29, b29]
  walk_at "pl"
  refine ⟨Nat.zero_le _, by omega, ?_⟩
  refine (k_forM _ (fun k S => ∃ x, S = [.val (.int m), .own (((List.range k).flatMap (coupR m)).map pD), x, .un]) ⟨_, rfl⟩ ?_ ?_)
  · rintro k hk S ⟨x, rfl⟩
    refine ⟨_, rfl, ?_⟩
    walk_at "pl"
    have hk2 : k < m := by simpa using hk
    refine ⟨⟨by omega, by omega⟩, ?_⟩
    refine k_blockM _ (fun j => [pD (k, k + 1 + j)]) ?_ ?_ ?_
    · rw [flat_one, List.length_map, List.length_range]; have : lim = 100000 := rfl; omega
    · intro j hj acc ha
      refine ⟨_, rfl, ?_⟩
      walk_at "pl"
      have : lim = 100000 := rfl
      simp only [List.length_cons, List.length_nil] at ha
      exact ⟨by omega, by omega, rfl⟩
    · walk_at "pl"
      have hl : ((List.range (k + 1)).flatMap (coupR m)) = (List.range k).flatMap (coupR m) ++ coupR m k := by
        rw [List.range_succ, List.flatMap_append]; simp
      refine ⟨?_, .val (.int k), ?_⟩
      · have h2 : (List.flatMap (coupR m) (List.range k)).length ≤ k * m := by
          clear hk hk2 hl
          induction k with
          | zero => simp
          | succ k ih =>
            rw [List.range_succ, List.flatMap_append, List.length_append]
            simp only [List.flatMap_cons, List.flatMap_nil, List.append_nil]
            have : (coupR m k).length ≤ m := by unfold coupR; simp
            rw [Nat.add_mul, Nat.one_mul]; omega
        have h3 : k * m ≤ 8 * 8 := Nat.mul_le_mul (by omega) hm
        rw [flat_one, List.length_map, List.length_range]; have : lim = 100000 := rfl; omega
      · rw [hl, List.map_append, flat_one]
        unfold coupR
        rw [List.map_map]; rfl
  · rintro S ⟨x, rfl⟩
    walk_at "pl"
    first | rfl | trivial | exact ⟨rfl, trivial⟩
/-! ### near masks -/
def addE (near : List Nat) (p : Nat × Nat) : List Nat := (near.set p.1 (near.getD p.1 0 ||| 2 ^ p.2)).set p.2 (near.getD p.2 0 ||| 2 ^ p.1)
def nearF (n : Nat) (es : List (Nat × Nat)) : List Nat := es.foldl addE (List.replicate n 0)
theorem addE_len (near : List Nat) (p : Nat × Nat) : (addE near p).length = near.length := by unfold addE; simp
theorem fold_len : ∀ (es : List (Nat × Nat)) (l : List Nat), (es.foldl addE l).length = l.length
  | [], _ => rfl
  | p :: es, l => by rw [List.foldl_cons, fold_len es, addE_len]
theorem nearF_len (n : Nat) (es : List (Nat × Nat)) : (nearF n es).length = n := by unfold nearF; rw [fold_len]; simp
theorem near_ok (n m : Nat) (es : List (Nat × Nat)) (hm : m ≤ 8) (he : ∀ p ∈ es, p.1 < m ∧ p.2 < m) : Wk ((gam pr (n + 1)).call 30 [.int (m : Int), .lst (es.map pD)] none) fun r o => r = .fr ((nearF m es).map fun (k : Nat) => D.int (k : Int)) ∧ o = none := by
  refine k_call fn30 (k_run0 (S := [.val (.int m), .val (.lst (es.map pD)), .un, .un, .un]) rfl rfl ?_)
  simp only [f30, b30]
  walk_at "pl"
  have l : lim = 100000 := rfl
  refine ⟨by omega, ⟨by omega, by omega⟩, ?_⟩
  rw [rep0]
  refine k_forM pD (fun k S => ∃ x y, S = [.val (.int m), .val (.lst (es.map pD)), .own (((es.take k).foldl addE (List.replicate m 0)).map fun (k : Nat) => D.int (k : Int)), x, y]) ⟨_, _, rfl⟩ ?_ ?_
  · rintro k hk S ⟨x, y, rfl⟩
    refine ⟨_, rfl, ?_⟩
    have h := he _ (List.getElem_mem hk)
    have hl : ((es.take k).foldl addE (List.replicate m 0)).length = m := by rw [fold_len]; simp
    walk_at "pl"
    walk_at "pa"
    walk_at "pa"
    refine ⟨by omega, by omega, ?_⟩
    walk_at "pa"
    walk_at "pa"
    rw [setN, setN, List.take_succ_eq_append_getElem hk, List.foldl_append]
    exact ⟨_, _, rfl⟩
  · rintro S ⟨x, y, rfl⟩
    walk_at "pl"
    rw [List.take_length]
    first | rfl | trivial | exact ⟨rfl, trivial⟩

def edgesL (n : Nat) (near : List Nat) : List (Nat × Nat) := (coup n).filter fun p => (near.getD p.1 0).testBit p.2
theorem edges_ok (n m : Nat) (near : List Nat) (hm : m ≤ 8) (hn : near.length = m) : Wk ((gam pr (n + 2)).call 31 [.int (m : Int), .lst (near.map fun (k : Nat) => D.int (k : Int))] none) fun r o => r = .val (.tup ((edgesL m near).map pD)) ∧ o = none := by
  refine k_call fn31 (k_run0 (S := [.val (.int m), .val (.lst (near.map fun (k : Nat) => D.int (k : Int))), .un, .un]) rfl rfl ?_)
  simp only [f31, b31]
  walk_at "pl"
  refine k_call0 ((couples_ok n m hm).mono ?_)
  rintro r o ⟨rfl, rfl⟩
  refine ⟨rfl, ?_⟩
  walk_at "pl"
  refine k_blockM pD (fun p => if (near.getD p.1 0).testBit p.2 = true then [pD p] else []) ?_ ?_ ?_
  · have h1 := coup_len hm
    have h2 := List.length_filter_le (fun p : Nat × Nat => (near.getD p.1 0).testBit p.2) (coup m)
    rw [flat_if, List.length_map]
    have : lim = 100000 := rfl
    omega
  · intro p hp acc ha
    obtain ⟨h1, h2⟩ := mem_coup.mp hp
    have h3 : p.1 < m := by omega
    refine ⟨_, rfl, ?_⟩
    walk_at "pl"
    walk_at "pa"
    exact cf2 two_lim ha
  · walk_at "pl"
    rw [flat_if]
    rfl
/-- the complement -/
def complF (n : Nat) (near : List Nat) : List Nat := (List.range n).map fun v => dif (dif (2 ^ n - 1) (near.getD v 0)) (2 ^ v)
theorem compl_ok (n m : Nat) (near : List Nat) (hm : m ≤ 8) (hn : near.length = m) : Wk ((gam pr (n + 1)).call 32 [.int (m : Int), .lst (near.map fun (k : Nat) => D.int (k : Int))] none) fun r o => r = .fr ((complF m near).map fun (k : Nat) => D.int (k : Int)) ∧ o = none := by
  refine k_call fn32 (k_run0 (S := [.val (.int m), .val (.lst (near.map fun (k : Nat) => D.int (k : Int))), .un, .un]) rfl rfl ?_)
  simp only [f32, b32]
  walk_at "pl"
  refine ⟨by omega, by omega, ?_⟩
  refine k_blockM _ (fun v => [D.int ((dif (dif (2 ^ m - 1) (near.getD v 0)) (2 ^ v) : Nat) : Int)]) ?_ ?_ ?_
  · rw [flat_one, List.length_map, List.length_range, lim_eq]; omega
  · intro v hv acc ha
    have h1 : v < m := List.mem_range.mp hv
    refine ⟨_, rfl, ?_⟩
    walk_at "pl"
    walk_at "pa"
    simp only [List.length_cons, List.length_nil] at ha
    exact ⟨by omega, by omega⟩
  · walk_at "pl"
    rw [flat_one]
    unfold complF
    rw [List.map_map]; rfl
/-! ### reached masks -/
/-- what the masks of the bits of a give -/
def orF (near : List Nat) (a : Nat) (l : List Nat) (z : Nat) : Nat := l.foldl (fun m v => if a.testBit v = true then m ||| near.getD v 0 else m) z
def loopR (st : Nat → Nat) : Nat → Nat → Nat → Nat
  | 0, f, _ => f
  | k + 1, f, m => if m = f then f else loopR st k m (st m)
/-- the law's own step -/
def stepL (near : List Nat) (inside a : Nat) : Nat := (List.range near.length).foldl (fun m v => if a.testBit v = true then m ||| (near.getD v 0 &&& inside) else m) a
def reachL (near : List Nat) (inside start : Nat) : Nat := loopR (stepL near inside) 300 0 (2 ^ start)
theorem foldl_or_ge (near : List Nat) (inside a : Nat) : ∀ (l : List Nat) (z : Nat), z ≤ l.foldl (fun m v => if a.testBit v = true then m ||| (near.getD v 0 &&& inside) else m) z
  | [], z => Nat.le_refl _
  | v :: l, z => by
    rw [List.foldl_cons]
    refine Nat.le_trans ?_ (foldl_or_ge near inside a l _)
    split
    · exact Nat.left_le_or
    · exact Nat.le_refl _
theorem foldl_or_lt {n : Nat} (near : List Nat) (inside a : Nat) (hi : inside < 2 ^ n) : ∀ (l : List Nat) (z : Nat), z < 2 ^ n → l.foldl (fun m v => if a.testBit v = true then m ||| (near.getD v 0 &&& inside) else m) z < 2 ^ n
  | [], z, h => h
  | v :: l, z, h => by
    rw [List.foldl_cons]
    refine foldl_or_lt near inside a hi l _ ?_
    split
    · exact or_lt h (Nat.lt_of_le_of_lt Nat.and_le_right hi)
    · exact h
theorem reach_ok (n m : Nat) (near : List Nat) (inside start : Nat) (hm : m ≤ 8) (hn : near.length = m) (hi : inside < 2 ^ m) (hs : start < m) : Wk ((gam pr (n + 1)).call 33 [.lst (near.map fun (k : Nat) => D.int (k : Int)), .int (inside : Int), .int (start : Int)] none) fun r o => r = .val (.int ((reachL near inside start : Nat) : Int)) ∧ o = none := by
  subst hn
  refine k_call fn33 (k_run0 (S := [.val (.lst (near.map fun (k : Nat) => D.int (k : Int))), .val (.int inside), .val (.int start), .un, .un, .un]) rfl rfl ?_)
  simp only [f33, b33]
  walk_at "pl"
  refine ⟨by omega, ?_⟩
  refine k_wh (fun k S => ∃ f mr fuel x, S = [.val (.lst (near.map fun (k : Nat) => D.int (k : Int))), .val (.int inside), .val (.int start), .val (.int (f : Nat)), .val (.int (mr : Nat)), x] ∧ f ≤ mr ∧ mr < 2 ^ near.length ∧ k = 2 ^ near.length - f ∧ loopR (stepL near inside) fuel f mr = reachL near inside start ∧ 2 ^ near.length - f < fuel) (k := 2 ^ near.length) ?_ ?_ ?_
  · have : (2 : Nat) ^ near.length ≤ 2 ^ 8 := Nat.pow_le_pow_right (by omega) hm
    unfold wlim; omega
  · have : (2 : Nat) ^ near.length ≤ 2 ^ 8 := Nat.pow_le_pow_right (by omega) hm
    exact ⟨0, 2 ^ start, 300, .un, rfl, Nat.zero_le _, Nat.pow_lt_pow_right (by omega) hs, by omega, rfl, by omega⟩
  · rintro k S ⟨f, mr, fuel, x, rfl, h1, h2, rfl, h4, h5⟩
    walk_at "pl"
    obtain ⟨fuel, rfl⟩ : ∃ q, fuel = q + 1 := ⟨fuel - 1, by omega⟩
    by_cases e : mr = f
    · subst e
      rw [if_neg (by simp)]
      unfold loopR at h4
      rw [if_pos rfl] at h4
      rw [h4]
    · rw [if_pos (by simp; omega)]
      refine ⟨by omega, ?_⟩
      refine k_forM _ (fun k S => ∃ x, S = [.val (.lst (near.map fun (k : Nat) => D.int (k : Int))), .val (.int inside), .val (.int start), .val (.int (mr : Nat)), .val (.int (((List.range near.length).take k).foldl (fun m v => if mr.testBit v = true then m ||| (near.getD v 0 &&& inside) else m) mr : Nat)), x]) ⟨_, rfl⟩ ?_ ?_
      · rintro k hk S ⟨x, rfl⟩
        have hk2 : k < near.length := by simpa using hk
        refine ⟨_, rfl, ?_⟩
        rw [List.take_succ_eq_append_getElem hk, List.foldl_append]
        simp only [List.getElem_range, List.foldl_cons, List.foldl_nil]
        walk_at "pl"
        by_cases htb : mr.testBit k = true
        · rw [if_pos htb, atN hk2]
          walk_at "pl"
          rw [if_pos htb]
          exact ⟨_, rfl⟩
        · rw [if_neg htb]
          walk_at "pl"
          rw [if_neg htb]
          exact ⟨_, rfl⟩
      · rintro S ⟨x, rfl⟩
        walk_at "pl"
        rw [List.take_of_length_le (by simp)]
        unfold loopR at h4
        rw [if_neg e] at h4
        exact ⟨_, by omega, mr, stepL near inside mr, fuel, _, rfl, foldl_or_ge .., foldl_or_lt near inside mr hi _ _ h2, rfl, h4, by omega⟩

theorem fold_bit (near : List Nat) (inside a i : Nat) : ∀ (l : List Nat) (z : Nat), (l.foldl (fun m v => if a.testBit v = true then m ||| (near.getD v 0 &&& inside) else m) z).testBit i = (z.testBit i || l.any fun v => a.testBit v && ((near.getD v 0).testBit i && inside.testBit i))
  | [], z => by simp
  | v :: l, z => by
    rw [List.foldl_cons, fold_bit near inside a i l, List.any_cons]
    by_cases h : a.testBit v = true
    · rw [if_pos h, h, Nat.testBit_or, Nat.testBit_and, Bool.true_and, Bool.or_assoc]
    · have h2 : a.testBit v = false := by simpa using h
      rw [if_neg h, h2, Bool.false_and, Bool.false_or]
theorem loopR_bit {st : Nat → Nat} {s : Nat} (hst : ∀ m, m.testBit s = true → (st m).testBit s = true) : ∀ (k f m : Nat), f.testBit s = true → m.testBit s = true → (loopR st k f m).testBit s = true
  | 0, f, m, h, _ => h
  | k + 1, f, m, h, h2 => by
    unfold loopR
    split
    · exact h
    · exact loopR_bit hst k m (st m) h2 (hst m h2)
theorem loopR_lt {st : Nat → Nat} {n : Nat} (hst : ∀ m, m < n → st m < n) : ∀ (k f m : Nat), f < n → m < n → loopR st k f m < n
  | 0, f, m, h, _ => h
  | k + 1, f, m, h, h2 => by
    unfold loopR
    split
    · exact h
    · exact loopR_lt hst k m (st m) h2 (hst m h2)
theorem stepL_bit {near : List Nat} {inside a s : Nat} (h : a.testBit s = true) : (stepL near inside a).testBit s = true := by
  unfold stepL; rw [fold_bit, h]; rfl
theorem reachL_bit (near : List Nat) (inside s : Nat) : (reachL near inside s).testBit s = true := by
  unfold reachL
  have hp := Nat.two_pow_pos s
  have hb : (2 ^ s).testBit s = true := by rw [testBit_pow]; simp
  rw [show (300 : Nat) = 299 + 1 from rfl]
  unfold loopR
  rw [if_neg (by omega)]
  exact loopR_bit (fun m h => stepL_bit h) 299 _ _ hb (stepL_bit hb)
theorem reachL_lt {near : List Nat} {inside s n : Nat} (hi : inside < 2 ^ n) (hs : s < n) : reachL near inside s < 2 ^ n := by
  unfold reachL
  exact loopR_lt (fun m h => foldl_or_lt near inside m hi _ _ h) 300 _ _ (Nat.two_pow_pos n) (Nat.pow_lt_pow_right (by omega) hs)
/-- the list of the parts -/
def partsG (rc : Nat → Nat) (first : Nat → Nat) : Nat → Nat → List Nat
  | 0, _ => []
  | k + 1, left => if left = 0 then [] else rc (first left) :: partsG rc first k (dif left (rc (first left)))
def bitsB (n a : Nat) : List Nat := (List.range n).filter a.testBit
def firstL (n a : Nat) : Nat := (bitsB n a).getD 0 0
def partsL (near : List Nat) (inside : Nat) : List Nat := partsG (reachL near inside) (firstL near.length) 300 inside
theorem bits_ne {n a : Nat} (h : a < 2 ^ n) (h0 : a ≠ 0) : 0 < (bitsB n a).length ∧ firstL n a < n ∧ a.testBit (firstL n a) = true := by
  obtain ⟨i, hi⟩ := Nat.exists_testBit_of_ne_zero h0
  have hm : i ∈ bitsB n a := List.mem_filter.mpr ⟨List.mem_range.mpr (bit_lt h hi), hi⟩
  have hp : 0 < (bitsB n a).length := List.length_pos_of_mem hm
  have hf : firstL n a ∈ bitsB n a := by
    unfold firstL
    rw [List.getD_eq_getElem?_getD, List.getElem?_eq_getElem hp]
    exact List.getElem_mem hp
  obtain ⟨h1, h2⟩ := List.mem_filter.mp hf
  exact ⟨hp, List.mem_range.mp h1, h2⟩
theorem dif_lt {a b s : Nat} (h1 : a.testBit s = true) (h2 : b.testBit s = true) : dif a b < a := by
  have hle := dif_le a b
  have : dif a b ≠ a := fun e => by
    have := testBit_dif a b s
    rw [e, h1, h2] at this; cases this
  omega
theorem parts_ok (n : Nat) (near : List Nat) (inside : Nat) (hm : near.length ≤ 8) (hi : inside < 2 ^ near.length) : Wk ((gam pr (n + 2)).call 34 [.lst (near.map fun (k : Nat) => D.int (k : Int)), .int (inside : Int)] none) fun r o => r = .fr ((partsL near inside).map fun (k : Nat) => D.int (k : Int)) ∧ o = none := by
  have hp8 : (2 : Nat) ^ near.length ≤ 2 ^ 8 := Nat.pow_le_pow_right (by omega) hm
  refine k_call fn34 (k_run0 (S := [.val (.lst (near.map fun (k : Nat) => D.int (k : Int))), .val (.int inside), .un, .un, .un, .un, .un]) rfl rfl ?_)
  simp only [f34, b34]
  walk_at "pl"
  refine ⟨Nat.zero_le _, ?_⟩
  refine k_wh (fun k S => ∃ (left fuel : Nat) (found : List Nat) (x y z : Slot), S = [.val (.lst (near.map fun (k : Nat) => D.int (k : Int))), .val (.int inside), .own (found.map fun (k : Nat) => D.int (k : Int)), .val (.int (left : Nat)), x, y, z] ∧ k = left ∧ left < 2 ^ near.length ∧ left < fuel ∧ found.length + left ≤ 256 ∧ found ++ partsG (reachL near inside) (firstL near.length) fuel left = partsL near inside) (k := inside) ?_ ?_ ?_
  · unfold wlim; omega
  · exact ⟨inside, 300, [], .un, .un, .un, rfl, rfl, hi, by omega, by (simp; omega), rfl⟩
  · rintro k S ⟨left, fuel, found, x, y, z, rfl, rfl, h1, h2, h3, h4⟩
    walk_at "pl"
    obtain ⟨fuel, rfl⟩ : ∃ q, fuel = q + 1 := ⟨fuel - 1, by omega⟩
    unfold partsG at h4
    by_cases e : k = 0
    · subst e
      rw [if_neg (by simp)]
      rw [if_pos rfl, List.append_nil] at h4
      rw [h4]
    · obtain ⟨b1, b2, b3⟩ := bits_ne h1 e
      rw [if_pos (by simp; omega)]
      rw [if_neg e] at h4
      have hlt := dif_lt b3 (reachL_bit near inside (firstL near.length k))
      refine ⟨by omega, ?_⟩
      refine k_blockM _ (fun v => if k.testBit v = true then [D.int (v : Int)] else []) ?_ ?_ ?_
      · rw [flat_if, List.length_map]
        have := List.length_filter_le k.testBit (List.range near.length)
        rw [List.length_range] at this
        rw [lim_eq]; omega
      · intro v hv acc ha
        refine ⟨_, rfl, ?_⟩
        walk_at "pl"
        exact cf1 ha
      · rw [flat_if]
        walk_at "pl"
        rw [show List.filter k.testBit (List.range near.length) = bitsB near.length k from rfl, at0N b1]
        walk_at "pl"
        refine k_call0 ((reach_ok n near.length near inside (firstL near.length k) hm rfl hi b2).mono ?_)
        rintro r o ⟨rfl, rfl⟩
        refine ⟨rfl, ?_⟩
        walk_at "pl"
        rw [appN]
        exact ⟨by rw [lim_eq]; omega, _, hlt, _, fuel, found ++ [reachL near inside (firstL near.length k)], _, _, _, rfl, rfl, by omega, by omega, by (simp; omega), by rw [List.append_assoc]; exact h4⟩
/-- the sum over images -/
def renF (n : Nat) (near images : List Nat) : List Nat := (List.range n).foldl (fun l v => l.set (images.getD v 0) (((bitsB n (near.getD v 0)).map fun w => 2 ^ images.getD w 0).sum)) (List.replicate n 0)
theorem renamed_ok (n m : Nat) (near images : List Nat) (hm : m ≤ 8) (hn : near.length = m) (hi : Perm m images) : Wk ((gam pr (n + 1)).call 35 [.int (m : Int), .lst (near.map fun (k : Nat) => D.int (k : Int)), .lst (images.map fun (k : Nat) => D.int (k : Int))] none) fun r o => r = .fr ((renF m near images).map fun (k : Nat) => D.int (k : Int)) ∧ o = none := by
  obtain ⟨i1, i2, i3⟩ := hi
  have him : ∀ v, v < m → images.getD v 0 < m := fun v hv => by
    rw [List.getD_eq_getElem?_getD, List.getElem?_eq_getElem (by omega)]
    exact i3 _ (List.getElem_mem _)
  refine k_call fn35 (k_run0 (S := [.val (.int m), .val (.lst (near.map fun (k : Nat) => D.int (k : Int))), .val (.lst (images.map fun (k : Nat) => D.int (k : Int))), .un, .un, .un]) rfl rfl ?_)
  simp only [f35, b35]
  walk_at "pl"
  refine ⟨by rw [lim_eq]; omega, ⟨by rw [lim_eq]; omega, by omega⟩, by omega, ?_⟩
  rw [rep0]
  refine k_forM _ (fun k S => ∃ x, S = [.val (.int m), .val (.lst (near.map fun (k : Nat) => D.int (k : Int))), .val (.lst (images.map fun (k : Nat) => D.int (k : Int))), .own ((((List.range m).take k).foldl (fun l v => l.set (images.getD v 0) (((bitsB m (near.getD v 0)).map fun w => 2 ^ images.getD w 0).sum)) (List.replicate m 0)).map fun (k : Nat) => D.int (k : Int)), x, .un]) ⟨_, rfl⟩ ?_ ?_
  · rintro k hk S ⟨x, rfl⟩
    have hk2 : k < m := by simpa using hk
    have hkn : k < near.length := by omega
    have hki : k < images.length := by omega
    refine ⟨_, rfl, ?_⟩
    rw [List.take_succ_eq_append_getElem hk, List.foldl_append]
    simp only [List.getElem_range, List.foldl_cons, List.foldl_nil]
    have hl : (((List.range m).take k).foldl (fun l v => l.set (images.getD v 0) (((bitsB m (near.getD v 0)).map fun w => 2 ^ images.getD w 0).sum)) (List.replicate m 0)).length = m := by
      have : ∀ (q : List Nat) (l : List Nat), (q.foldl (fun l v => l.set (images.getD v 0) (((bitsB m (near.getD v 0)).map fun w => 2 ^ images.getD w 0).sum)) l).length = l.length := by
        intro q
        induction q with
        | nil => intro l; rfl
        | cons v q ih => intro l; rw [List.foldl_cons, ih]; simp
      rw [this]; simp
    walk_at "pl"
    refine ⟨by omega, ?_⟩
    refine k_blockM _ (fun w => if (near.getD k 0).testBit w = true then [D.int ((2 ^ images.getD w 0 : Nat) : Int)] else []) ?_ ?_ ?_
    · rw [flat_if, List.length_map]
      have := List.length_filter_le (near.getD k 0).testBit (List.range m)
      rw [List.length_range] at this
      rw [lim_eq]; omega
    · intro w hw acc ha
      have hw2 : w < m := List.mem_range.mp hw
      refine ⟨_, rfl, ?_⟩
      walk_at "pl"
      rw [atN hkn]
      walk_at "pl"
      by_cases hb : (near.getD k 0).testBit w = true
      · rw [if_pos hb, atN (by omega)]
        rw [if_pos hb] at ha
        walk_at "pl"
        have := him w hw2
        simp only [List.length_cons, List.length_nil] at ha
        rw [if_pos hb]
        exact ⟨by omega, by omega, rfl⟩
      · rw [if_neg hb]
        walk_at "pl"
        rw [if_neg hb, List.append_nil]
    · rw [flat_if, show List.filter (near.getD k 0).testBit (List.range m) = bitsB m (near.getD k 0) from rfl]
      walk_at "pl"
      rw [d_sumN]
      walk_at "pl"
      rw [atN hki]
      walk_at "pl"
      rw [ixD_nat (by rw [hl]; exact him k hk2)]
      walk_at "pl"
      rw [setN]
      exact ⟨_, rfl⟩
  · rintro S ⟨x, rfl⟩
    walk_at "pl"
    rw [List.take_of_length_le (by simp)]
    rfl

end Pl.k09
set_option Elab.async false
set_option linter.all false
set_option maxRecDepth 100000
namespace Pl.k09
open PySem Pl
local macro_rules | `(tactic| walk_at "pl0") => `(tactic| try simp only [↓dW_bind, ↓dW_pure, ↓dW_some, ↓dW_vi, ↓dW_vb, ↓dW_toD, ↓dW_rd, ↓dW_mv, ↓dW_op, ↓dW_own, ↓dW_get_dat, ↓dW_get_at, ↓dW_gets_nil, ↓dW_gets_cons, ↓dW_put, ↓dW_val, ↓dW_bool, ↓dW_tru, ↓dW_nx, ↓dW_ite, ↓dW_keep, ↓de_opv, ↓de_c, ↓de_v, ↓de_io, ↓de_bin, ↓de_un, ↓de_cmp, ↓de_chain, ↓de_and, ↓de_or, ↓de_not, ↓de_ite, ↓de_tup, ↓de_lst, ↓de_ix, ↓de_sl, ↓de_pnil, ↓de_rev, ↓de_fld, ↓de_sfld, ↓de_call, ↓de_make, ↓de_meth, ↓de_blt, ↓de_isi, ↓de_mut, ↓de_lc1, ↓de_es0, ↓de_star, ↓de_ps0, ↓de_ps, ↓de_ts0, ↓de_ts, ↓de_rs0, ↓de_rs, ↓ds_nil, ↓ds_cons, ↓ds_asgn, ↓ds_sto, ↓ds_sub, ↓ds_subX, ↓ds_asgs, ↓ds_asgf, ↓ds_fld, ↓ds_par, ↓ds_stoX0, ↓ds_stoXn, ↓ds_stoXs, ↓ds_unp, ↓ds_unpT, ↓ds_aug, ↓ds_expr, ↓ds_retv, ↓ds_iff, ↓ds_for, ↓ds_wh, ↓ds_pass, ↓ds_brk, ↓ds_cont, ↓do_add, ↓do_sub, ↓do_and, ↓do_or, ↓do_xor, ↓do_mul, ↓do_fdiv, ↓do_mod, ↓do_pow, ↓do_shl, ↓do_shr, ↓do_addL, ↓do_addT, ↓do_inv, ↓do_neg, ↓do_lt, ↓do_le, ↓do_gt, ↓do_ge, ↓do_eq, ↓do_ne, ↓do_item, ↓do_itemT, ↓dt_int, ↓dt_bl, ↓dt_non, ↓dt_lst, ↓dr_seq, ↓dr_seqt, ↓db_len, ↓db_lent, ↓db_lens, ↓db_abs, ↓db_max2, ↓db_min2, ↓db_int, ↓db_tuple, ↓db_tuplet, ↓db_list, ↓db_listt, ↓de_op_c, ↓ds_ret_c, ↓de_es_c, ↓de_pt_c, ↓de_es_v, ↓de_pt_v, ↓de_op_io, ↓ds_ret_io, ↓de_es_io, ↓de_pt_io, ↓de_op_bin, ↓ds_ret_bin, ↓de_es_bin, ↓de_pt_bin, ↓de_op_un, ↓ds_ret_un, ↓de_es_un, ↓de_pt_un, ↓de_op_cmp, ↓ds_ret_cmp, ↓de_es_cmp, ↓de_pt_cmp, ↓de_op_chain, ↓ds_ret_chain, ↓de_es_chain, ↓de_pt_chain, ↓de_op_and, ↓ds_ret_and, ↓de_es_and, ↓de_pt_and, ↓de_op_or, ↓ds_ret_or, ↓de_es_or, ↓de_pt_or, ↓de_op_not, ↓ds_ret_not, ↓de_es_not, ↓de_pt_not, ↓de_op_ite, ↓ds_ret_ite, ↓de_es_ite, ↓de_pt_ite, ↓de_op_tup, ↓ds_ret_tup, ↓de_es_tup, ↓de_pt_tup, ↓de_op_lst, ↓ds_ret_lst, ↓de_es_lst, ↓de_pt_lst, ↓de_op_ix, ↓ds_ret_ix, ↓de_es_ix, ↓de_pt_ix, ↓de_op_sl, ↓ds_ret_sl, ↓de_es_sl, ↓de_pt_sl, ↓de_op_rev, ↓ds_ret_rev, ↓de_es_rev, ↓de_pt_rev, ↓de_op_fld, ↓ds_ret_fld, ↓de_es_fld, ↓de_pt_fld, ↓de_op_sfld, ↓ds_ret_sfld, ↓de_es_sfld, ↓de_pt_sfld, ↓de_op_call, ↓ds_ret_call, ↓de_es_call, ↓de_pt_call, ↓de_op_make, ↓ds_ret_make, ↓de_es_make, ↓de_pt_make, ↓de_op_meth, ↓ds_ret_meth, ↓de_es_meth, ↓de_pt_meth, ↓de_op_blt, ↓ds_ret_blt, ↓de_es_blt, ↓de_pt_blt, ↓de_op_bmt, ↓ds_ret_bmt, ↓de_es_bmt, ↓de_pt_bmt, ↓de_op_isi, ↓ds_ret_isi, ↓de_es_isi, ↓de_pt_isi, ↓de_op_mut, ↓ds_ret_mut, ↓de_es_mut, ↓de_pt_mut, ↓de_op_lc1, ↓ds_ret_lc1, ↓de_es_lc1, ↓de_pt_lc1, ↓de_op_lc2, ↓ds_ret_lc2, ↓de_es_lc2, ↓de_pt_lc2, ↓do_mulN, ↓do_from1, ↓do_to, ↓do_to1, ↓do_part, min2N, ↓db_lrng1, ↓db_trng1, ↓ds_parL2, ↓ds_parL3, ↓dm_app, ↓dm_ext, ↓dm_rev, ↓d_neints, ↓d_eqints, ↓dr_rng1c, ↓dr_rng2c, ↓dr_rng2o, ↓atD_0, ↓atD_1, ↓atD_2, ↓atD_3, ↓ixD_0, ↓ixD_3, getS_0, getS_s, List.set_cons_zero, List.set_cons_succ, stoV, RV.d, endC, tnC, wipeS, backAll, if_true, if_false, Bool.false_eq_true, pmD, List.getElem?_cons_zero, List.getElem?_cons_succ, List.cons_append, List.nil_append, List.append_nil, Option.map_some, shl1N, shlN, shrN, and1N, andN, orN, xorN, andnN, nandN, tstb, List.length_cons, List.length_nil, List.length_map, List.length_range, Nat.zero_add, Nat.reduceAdd, Nat.reduceLT, Nat.reduceLeDiff, true_and])
local macro_rules | `(tactic| walk_at "pl") => `(tactic| try simp only [↓dW_bind, ↓dW_pure, ↓dW_some, ↓dW_vi, ↓dW_vb, ↓dW_toD, ↓dW_rd, ↓dW_mv, ↓dW_op, ↓dW_own, ↓dW_get_dat, ↓dW_get_at, ↓dW_gets_nil, ↓dW_gets_cons, ↓dW_put, ↓dW_val, ↓dW_bool, ↓dW_tru, ↓dW_nx, ↓dW_ite, ↓dW_keep, ↓de_opv, ↓de_c, ↓de_v, ↓de_io, ↓de_bin, ↓de_un, ↓de_cmp, ↓de_chain, ↓de_and, ↓de_or, ↓de_not, ↓de_ite, ↓de_tup, ↓de_lst, ↓de_ix, ↓de_sl, ↓de_pnil, ↓de_rev, ↓de_fld, ↓de_sfld, ↓de_call, ↓de_make, ↓de_meth, ↓de_blt, ↓de_isi, ↓de_mut, ↓de_lc1, ↓de_es0, ↓de_star, ↓de_ps0, ↓de_ps, ↓de_ts0, ↓de_ts, ↓de_rs0, ↓de_rs, ↓ds_nil, ↓ds_cons, ↓ds_asgn, ↓ds_sto, ↓ds_sub, ↓ds_subX, ↓ds_asgs, ↓ds_asgf, ↓ds_fld, ↓ds_par, ↓ds_stoX0, ↓ds_stoXn, ↓ds_stoXs, ↓ds_unp, ↓ds_unpT, ↓ds_aug, ↓ds_expr, ↓ds_retv, ↓ds_iff, ↓ds_for, ↓ds_wh, ↓ds_pass, ↓ds_brk, ↓ds_cont, ↓do_add, ↓do_sub, ↓do_and, ↓do_or, ↓do_xor, ↓do_mul, ↓do_fdiv, ↓do_mod, ↓do_pow, ↓do_shl, ↓do_shr, ↓do_addL, ↓do_addT, ↓do_inv, ↓do_neg, ↓do_lt, ↓do_le, ↓do_gt, ↓do_ge, ↓do_eq, ↓do_ne, ↓do_item, ↓do_itemT, ↓dt_int, ↓dt_bl, ↓dt_non, ↓dt_lst, ↓dr_seq, ↓dr_seqt, ↓db_len, ↓db_lent, ↓db_lens, ↓db_abs, ↓db_max2, ↓db_min2, ↓db_int, ↓db_tuple, ↓db_tuplet, ↓db_list, ↓db_listt, ↓de_op_c, ↓ds_ret_c, ↓de_es_c, ↓de_pt_c, ↓de_es_v, ↓de_pt_v, ↓de_op_io, ↓ds_ret_io, ↓de_es_io, ↓de_pt_io, ↓de_op_bin, ↓ds_ret_bin, ↓de_es_bin, ↓de_pt_bin, ↓de_op_un, ↓ds_ret_un, ↓de_es_un, ↓de_pt_un, ↓de_op_cmp, ↓ds_ret_cmp, ↓de_es_cmp, ↓de_pt_cmp, ↓de_op_chain, ↓ds_ret_chain, ↓de_es_chain, ↓de_pt_chain, ↓de_op_and, ↓ds_ret_and, ↓de_es_and, ↓de_pt_and, ↓de_op_or, ↓ds_ret_or, ↓de_es_or, ↓de_pt_or, ↓de_op_not, ↓ds_ret_not, ↓de_es_not, ↓de_pt_not, ↓de_op_ite, ↓ds_ret_ite, ↓de_es_ite, ↓de_pt_ite, ↓de_op_tup, ↓ds_ret_tup, ↓de_es_tup, ↓de_pt_tup, ↓de_op_lst, ↓ds_ret_lst, ↓de_es_lst, ↓de_pt_lst, ↓de_op_ix, ↓ds_ret_ix, ↓de_es_ix, ↓de_pt_ix, ↓de_op_sl, ↓ds_ret_sl, ↓de_es_sl, ↓de_pt_sl, ↓de_op_rev, ↓ds_ret_rev, ↓de_es_rev, ↓de_pt_rev, ↓de_op_fld, ↓ds_ret_fld, ↓de_es_fld, ↓de_pt_fld, ↓de_op_sfld, ↓ds_ret_sfld, ↓de_es_sfld, ↓de_pt_sfld, ↓de_op_call, ↓ds_ret_call, ↓de_es_call, ↓de_pt_call, ↓de_op_make, ↓ds_ret_make, ↓de_es_make, ↓de_pt_make, ↓de_op_meth, ↓ds_ret_meth, ↓de_es_meth, ↓de_pt_meth, ↓de_op_blt, ↓ds_ret_blt, ↓de_es_blt, ↓de_pt_blt, ↓de_op_bmt, ↓ds_ret_bmt, ↓de_es_bmt, ↓de_pt_bmt, ↓de_op_isi, ↓ds_ret_isi, ↓de_es_isi, ↓de_pt_isi, ↓de_op_mut, ↓ds_ret_mut, ↓de_es_mut, ↓de_pt_mut, ↓de_op_lc1, ↓ds_ret_lc1, ↓de_es_lc1, ↓de_pt_lc1, ↓de_op_lc2, ↓ds_ret_lc2, ↓de_es_lc2, ↓de_pt_lc2, ↓do_mulN, ↓do_from1, ↓do_to, ↓do_to1, ↓do_part, min2N, ↓db_lrng1, ↓db_trng1, ↓ds_parL2, ↓ds_parL3, ↓dm_app, ↓dm_ext, ↓dm_rev, ↓d_neints, ↓d_eqints, ↓dr_rng1c, ↓dr_rng2c, ↓dr_rng2o, ↓atD_0, ↓atD_1, ↓atD_2, ↓atD_3, ↓ixD_0, ↓ixD_3, getS_0, getS_s, List.set_cons_zero, List.set_cons_succ, stoV, RV.d, endC, tnC, wipeS, backAll, if_true, if_false, Bool.false_eq_true, pmD, List.getElem?_cons_zero, List.getElem?_cons_succ, List.cons_append, List.nil_append, List.append_nil, Option.map_some, shl1N, shlN, shrN, and1N, andN, orN, xorN, andnN, nandN, tstb, List.length_cons, List.length_nil, List.length_map, List.length_range, Nat.zero_add, Nat.reduceAdd, Nat.reduceLT, Nat.reduceLeDiff, true_and, List.getElem_range, addN, add1N, oneaN, pow1N, small1, nn0, le1000, and_true])
local macro_rules | `(tactic| walk_at "pa") => `(tactic| (simp only [atN, ixD_nat, setN, List.length_set, List.length_map, *]; walk_at "pl"))

/-- near masks of a graph on the vertices below n -/
structure NK (n : Nat) (l : List Nat) : Prop where
  len : l.length = n
  bit : ∀ v w, (l.getD v 0).testBit w = true → v < n ∧ w < n ∧ w ≠ v ∧ (l.getD w 0).testBit v = true
theorem getD_set {l : List Nat} {i j x : Nat} (hi : i < l.length) : (l.set i x).getD j 0 = if i = j then x else l.getD j 0 := by
  rw [List.getD_eq_getElem?_getD, List.getD_eq_getElem?_getD, List.getElem?_set]
  by_cases h : i = j
  · rw [if_pos h, if_pos hi, if_pos h]; rfl
  · rw [if_neg h, if_neg h]
theorem NK_zero (n : Nat) : NK n (List.replicate n 0) := by
  refine ⟨by simp, fun v w h => ?_⟩
  have : (List.replicate n 0).getD v 0 = 0 := by
    rw [List.getD_eq_getElem?_getD, List.getElem?_replicate]; split <;> rfl
  rw [this, Nat.zero_testBit] at h; cases h
theorem addE_get {l : List Nat} {a b : Nat} (ha : a < l.length) (hb : b < l.length) (hab : a ≠ b) (v : Nat) : (addE l (a, b)).getD v 0 = if v = a then l.getD a 0 ||| 2 ^ b else if v = b then l.getD b 0 ||| 2 ^ a else l.getD v 0 := by
  unfold addE
  simp only
  rw [getD_set (by rw [List.length_set]; exact hb), getD_set ha]
  by_cases h1 : v = a
  · subst h1
    rw [if_neg (fun e => hab e.symm), if_pos rfl, if_pos rfl]
  · rw [if_neg h1]
    by_cases h2 : v = b
    · subst h2; rw [if_pos rfl, if_pos rfl]
    · rw [if_neg (fun e => h2 e.symm), if_neg (fun e => h1 e.symm), if_neg h2]
theorem NK_addE {n : Nat} {l : List Nat} (h : NK n l) {p : Nat × Nat} (ha : p.1 < n) (hb : p.2 < n) (hab : p.1 ≠ p.2) : NK n (addE l p) := by
  obtain ⟨a, b⟩ := p
  simp only at ha hb hab
  have hl := h.len
  refine ⟨by rw [addE_len]; exact hl, fun v w hv => ?_⟩
  rw [addE_get (by omega) (by omega) hab] at hv ⊢
  by_cases h1 : v = a
  · subst h1
    rw [if_pos rfl, Nat.testBit_or, testBit_pow] at hv
    by_cases h2 : w = b
    · subst h2
      refine ⟨ha, hb, fun e => hab e.symm, ?_⟩
      rw [if_neg (fun e => hab e.symm), if_pos rfl, Nat.testBit_or, testBit_pow]; simp
    · have hb2 : (l.getD v 0).testBit w = true := by
        rw [Bool.or_eq_true] at hv
        rcases hv with hv | hv
        · exact hv
        · exact absurd (of_decide_eq_true hv).symm h2
      obtain ⟨q1, q2, q3, q4⟩ := h.bit v w hb2
      refine ⟨q1, q2, q3, ?_⟩
      rw [if_neg q3, if_neg h2]; exact q4
  · rw [if_neg h1] at hv
    by_cases h2 : v = b
    · subst h2
      rw [if_pos rfl, Nat.testBit_or, testBit_pow] at hv
      by_cases h3 : w = a
      · subst h3
        refine ⟨hb, ha, hab, ?_⟩
        rw [if_pos rfl, Nat.testBit_or, testBit_pow]; simp
      · have hb2 : (l.getD v 0).testBit w = true := by
          rw [Bool.or_eq_true] at hv
          rcases hv with hv | hv
          · exact hv
          · exact absurd (of_decide_eq_true hv).symm h3
        obtain ⟨q1, q2, q3, q4⟩ := h.bit v w hb2
        refine ⟨q1, q2, q3, ?_⟩
        rw [if_neg h3, if_neg q3]; exact q4
    · rw [if_neg h2] at hv
      obtain ⟨q1, q2, q3, q4⟩ := h.bit v w hv
      refine ⟨q1, q2, q3, ?_⟩
      by_cases h3 : w = a
      · subst h3; rw [if_pos rfl, Nat.testBit_or, q4]; rfl
      · rw [if_neg h3]
        by_cases h4 : w = b
        · subst h4; rw [if_pos rfl, Nat.testBit_or, q4]; rfl
        · rw [if_neg h4]; exact q4
theorem NK_fold {n : Nat} : ∀ (es : List (Nat × Nat)) {l : List Nat}, NK n l → (∀ p ∈ es, p.1 < n ∧ p.2 < n ∧ p.1 ≠ p.2) → NK n (es.foldl addE l)
  | [], _, h, _ => h
  | p :: es, l, h, he => by
    obtain ⟨h1, h2, h3⟩ := he p (List.mem_cons_self ..)
    rw [List.foldl_cons]
    exact NK_fold es (NK_addE h h1 h2 h3) fun q hq => he q (List.mem_cons_of_mem _ hq)
theorem NK_nearF {n : Nat} {es : List (Nat × Nat)} (he : ∀ p ∈ es, p.1 < n ∧ p.2 < n ∧ p.1 ≠ p.2) : NK n (nearF n es) := NK_fold es (NK_zero n) he
theorem compl_get {n : Nat} {l : List Nat} {v : Nat} : (complF n l).getD v 0 = if v < n then dif (dif (2 ^ n - 1) (l.getD v 0)) (2 ^ v) else 0 := by
  unfold complF
  rw [List.getD_eq_getElem?_getD, List.getElem?_map]
  by_cases h : v < n
  · rw [if_pos h, List.getElem?_range h]; rfl
  · rw [if_neg h, List.getElem?_eq_none (by simp; omega)]; rfl
theorem full_bit (n i : Nat) : (2 ^ n - 1).testBit i = decide (i < n) := Nat.testBit_two_pow_sub_one ..
theorem NK_compl {n : Nat} {l : List Nat} (h : NK n l) : NK n (complF n l) := by
  refine ⟨by unfold complF; simp, fun v w hv => ?_⟩
  rw [compl_get] at hv
  by_cases hn : v < n
  · rw [if_pos hn, testBit_dif, testBit_dif, full_bit, testBit_pow] at hv
    simp only [Bool.and_eq_true, decide_eq_true_eq, Bool.not_eq_true', decide_eq_false_iff_not] at hv
    obtain ⟨⟨h1, h2⟩, h3⟩ := hv
    refine ⟨hn, h1, fun e => h3 e.symm, ?_⟩
    rw [compl_get, if_pos h1, testBit_dif, testBit_dif, full_bit, testBit_pow]
    have : (l.getD w 0).testBit v = false := by
      cases e : (l.getD w 0).testBit v with
      | false => rfl
      | true => rw [(h.bit w v e).2.2.2] at h2; cases h2
    rw [this]
    simp [hn]
    exact fun e => h3 e.symm
  · rw [if_neg hn, Nat.zero_testBit] at hv; cases hv
theorem foldset {im F : Nat → Nat} : ∀ (q : List Nat) (l : List Nat), (q.map im).Nodup → (∀ v ∈ q, im v < l.length) →
    (∀ v ∈ q, (q.foldl (fun l v => l.set (im v) (F v)) l).getD (im v) 0 = F v) ∧ (∀ j, j ∉ q.map im → (q.foldl (fun l v => l.set (im v) (F v)) l).getD j 0 = l.getD j 0)
  | [], l, _, _ => ⟨fun _ h => (nomatch h), fun _ _ => rfl⟩
  | v :: q, l, hd, hl => by
    rw [List.map_cons, List.nodup_cons] at hd
    obtain ⟨k1, k2⟩ := foldset q (l.set (im v) (F v)) hd.2 fun w hw => by rw [List.length_set]; exact hl w (List.mem_cons_of_mem _ hw)
    have hv := hl v (List.mem_cons_self ..)
    refine ⟨fun w hw => ?_, fun j hj => ?_⟩
    · rw [List.foldl_cons]
      rcases List.mem_cons.mp hw with rfl | hw
      · rw [k2 _ hd.1, getD_set hv, if_pos rfl]
      · exact k1 w hw
    · rw [List.map_cons, List.mem_cons, not_or] at hj
      rw [List.foldl_cons, k2 j hj.2, getD_set hv, if_neg (fun e => hj.1 e.symm)]
theorem range_getD {l : List Nat} : (List.range l.length).map (fun v => l.getD v 0) = l := by
  apply List.ext_getElem
  · simp
  · intro i h1 h2
    rw [List.getElem_map, List.getElem_range, List.getD_eq_getElem?_getD, List.getElem?_eq_getElem h2]; rfl
theorem nodup_map_on {f : Nat → Nat} : ∀ {l : List Nat}, l.Nodup → (∀ a ∈ l, ∀ b ∈ l, f a = f b → a = b) → (l.map f).Nodup
  | [], _, _ => List.nodup_nil
  | a :: l, h, hf => by
    rw [List.nodup_cons] at h
    rw [List.map_cons, List.nodup_cons]
    refine ⟨fun hm => ?_, nodup_map_on h.2 fun x hx y hy => hf x (List.mem_cons_of_mem _ hx) y (List.mem_cons_of_mem _ hy)⟩
    obtain ⟨b, hb, e⟩ := List.mem_map.mp hm
    have := hf b (List.mem_cons_of_mem _ hb) a (List.mem_cons_self ..) e
    subst this
    exact h.1 hb
theorem im_inj {n : Nat} {images : List Nat} (h : Perm n images) {a b : Nat} (ha : a < n) (hb : b < n) (e : images.getD a 0 = images.getD b 0) : a = b := by
  obtain ⟨h1, h2, h3⟩ := h
  rw [List.getD_eq_getElem?_getD, List.getD_eq_getElem?_getD, List.getElem?_eq_getElem (by omega), List.getElem?_eq_getElem (by omega)] at e
  exact (List.getElem_inj h1).mp e
theorem im_lt {n : Nat} {images : List Nat} (h : Perm n images) {a : Nat} (ha : a < n) : images.getD a 0 < n := by
  obtain ⟨h1, h2, h3⟩ := h
  rw [List.getD_eq_getElem?_getD, List.getElem?_eq_getElem (by omega)]
  exact h3 _ (List.getElem_mem _)
theorem bitsB_nodup (n a : Nat) : (bitsB n a).Nodup := List.Pairwise.filter _ List.nodup_range
theorem mem_bitsB {n a i : Nat} : i ∈ bitsB n a ↔ i < n ∧ a.testBit i = true := by
  unfold bitsB; rw [List.mem_filter, List.mem_range]
theorem ren_sum {n : Nat} (hn : n ≤ 8) {images : List Nat} (h : Perm n images) (a i : Nat) : (((bitsB n a).map fun w => 2 ^ images.getD w 0).sum).testBit i = true ↔ ∃ w, w < n ∧ a.testBit w = true ∧ images.getD w 0 = i := by
  have e : ((bitsB n a).map fun w => 2 ^ images.getD w 0) = ((bitsB n a).map fun w => images.getD w 0).map (2 ^ ·) := by rw [List.map_map]; rfl
  have hnd : ((bitsB n a).map fun w => images.getD w 0).Nodup := nodup_map_on (bitsB_nodup n a) fun x hx y hy he => im_inj h (mem_bitsB.mp hx).1 (mem_bitsB.mp hy).1 he
  have := (sum_pow hn _ hnd fun x hx => by
    obtain ⟨w, hw, rfl⟩ := List.mem_map.mp hx
    exact im_lt h (mem_bitsB.mp hw).1).2 i
  rw [e, this, decide_eq_true_eq, List.mem_map]
  constructor
  · rintro ⟨w, hw, rfl⟩
    exact ⟨w, (mem_bitsB.mp hw).1, (mem_bitsB.mp hw).2, rfl⟩
  · rintro ⟨w, h1, h2, rfl⟩
    exact ⟨w, mem_bitsB.mpr ⟨h1, h2⟩, rfl⟩
theorem ren_len (n : Nat) (near images : List Nat) : (renF n near images).length = n := by
  have : ∀ (q : List Nat) (l : List Nat), (q.foldl (fun l v => l.set (images.getD v 0) (((bitsB n (near.getD v 0)).map fun w => 2 ^ images.getD w 0).sum)) l).length = l.length := by
    intro q
    induction q with
    | nil => intro l; rfl
    | cons v q ih => intro l; rw [List.foldl_cons, ih]; simp
  unfold renF; rw [this]; simp
theorem NK_ren {n : Nat} (hn : n ≤ 8) {near images : List Nat} (h : NK n near) (hp : Perm n images) : NK n (renF n near images) := by
  have hm : (List.range n).map (fun v => images.getD v 0) = images := by
    have := range_getD (l := images)
    rw [hp.2.1] at this; exact this
  obtain ⟨k1, k2⟩ := foldset (im := fun v => images.getD v 0) (F := fun v => ((bitsB n (near.getD v 0)).map fun w => 2 ^ images.getD w 0).sum) (List.range n) (List.replicate n 0) (by rw [hm]; exact hp.1) fun v hv => by
    rw [List.length_replicate]; exact im_lt hp (List.mem_range.mp hv)
  have get : ∀ v, v < n → (renF n near images).getD (images.getD v 0) 0 = ((bitsB n (near.getD v 0)).map fun w => 2 ^ images.getD w 0).sum := fun v hv => k1 v (List.mem_range.mpr hv)
  refine ⟨ren_len .., fun v w hv => ?_⟩
  by_cases hin : v ∈ (List.range n).map (fun v => images.getD v 0)
  · obtain ⟨x, hx, rfl⟩ := List.mem_map.mp hin
    have hx := List.mem_range.mp hx
    rw [get x hx] at hv
    obtain ⟨y, hy, hb, rfl⟩ := (ren_sum hn hp _ _).mp hv
    obtain ⟨q1, q2, q3, q4⟩ := h.bit x y hb
    refine ⟨im_lt hp hx, im_lt hp hy, fun e => q3 (im_inj hp hy hx e), ?_⟩
    rw [get y hy]
    exact (ren_sum hn hp _ _).mpr ⟨x, hx, q4, rfl⟩
  · have e := k2 v hin
    have z : (List.replicate n 0).getD v 0 = 0 := by
      rw [List.getD_eq_getElem?_getD, List.getElem?_replicate]; split <;> rfl
    rw [show (renF n near images).getD v 0 = 0 from e.trans z, Nat.zero_testBit] at hv; cases hv

end Pl.k09
set_option Elab.async false
set_option linter.all false
set_option maxRecDepth 100000
namespace Pl.k09
open PySem Pl
local macro_rules | `(tactic| walk_at "pl0") => `(tactic| try simp only [↓dW_bind, ↓dW_pure, ↓dW_some, ↓dW_vi, ↓dW_vb, ↓dW_toD, ↓dW_rd, ↓dW_mv, ↓dW_op, ↓dW_own, ↓dW_get_dat, ↓dW_get_at, ↓dW_gets_nil, ↓dW_gets_cons, ↓dW_put, ↓dW_val, ↓dW_bool, ↓dW_tru, ↓dW_nx, ↓dW_ite, ↓dW_keep, ↓de_opv, ↓de_c, ↓de_v, ↓de_io, ↓de_bin, ↓de_un, ↓de_cmp, ↓de_chain, ↓de_and, ↓de_or, ↓de_not, ↓de_ite, ↓de_tup, ↓de_lst, ↓de_ix, ↓de_sl, ↓de_pnil, ↓de_rev, ↓de_fld, ↓de_sfld, ↓de_call, ↓de_make, ↓de_meth, ↓de_blt, ↓de_isi, ↓de_mut, ↓de_lc1, ↓de_es0, ↓de_star, ↓de_ps0, ↓de_ps, ↓de_ts0, ↓de_ts, ↓de_rs0, ↓de_rs, ↓ds_nil, ↓ds_cons, ↓ds_asgn, ↓ds_sto, ↓ds_sub, ↓ds_subX, ↓ds_asgs, ↓ds_asgf, ↓ds_fld, ↓ds_par, ↓ds_stoX0, ↓ds_stoXn, ↓ds_stoXs, ↓ds_unp, ↓ds_unpT, ↓ds_aug, ↓ds_expr, ↓ds_retv, ↓ds_iff, ↓ds_for, ↓ds_wh, ↓ds_pass, ↓ds_brk, ↓ds_cont, ↓do_add, ↓do_sub, ↓do_and, ↓do_or, ↓do_xor, ↓do_mul, ↓do_fdiv, ↓do_mod, ↓do_pow, ↓do_shl, ↓do_shr, ↓do_addL, ↓do_addT, ↓do_inv, ↓do_neg, ↓do_lt, ↓do_le, ↓do_gt, ↓do_ge, ↓do_eq, ↓do_ne, ↓do_item, ↓do_itemT, ↓dt_int, ↓dt_bl, ↓dt_non, ↓dt_lst, ↓dr_seq, ↓dr_seqt, ↓db_len, ↓db_lent, ↓db_lens, ↓db_abs, ↓db_max2, ↓db_min2, ↓db_int, ↓db_tuple, ↓db_tuplet, ↓db_list, ↓db_listt, ↓de_op_c, ↓ds_ret_c, ↓de_es_c, ↓de_pt_c, ↓de_es_v, ↓de_pt_v, ↓de_op_io, ↓ds_ret_io, ↓de_es_io, ↓de_pt_io, ↓de_op_bin, ↓ds_ret_bin, ↓de_es_bin, ↓de_pt_bin, ↓de_op_un, ↓ds_ret_un, ↓de_es_un, ↓de_pt_un, ↓de_op_cmp, ↓ds_ret_cmp, ↓de_es_cmp, ↓de_pt_cmp, ↓de_op_chain, ↓ds_ret_chain, ↓de_es_chain, ↓de_pt_chain, ↓de_op_and, ↓ds_ret_and, ↓de_es_and, ↓de_pt_and, ↓de_op_or, ↓ds_ret_or, ↓de_es_or, ↓de_pt_or, ↓de_op_not, ↓ds_ret_not, ↓de_es_not, ↓de_pt_not, ↓de_op_ite, ↓ds_ret_ite, ↓de_es_ite, ↓de_pt_ite, ↓de_op_tup, ↓ds_ret_tup, ↓de_es_tup, ↓de_pt_tup, ↓de_op_lst, ↓ds_ret_lst, ↓de_es_lst, ↓de_pt_lst, ↓de_op_ix, ↓ds_ret_ix, ↓de_es_ix, ↓de_pt_ix, ↓de_op_sl, ↓ds_ret_sl, ↓de_es_sl, ↓de_pt_sl, ↓de_op_rev, ↓ds_ret_rev, ↓de_es_rev, ↓de_pt_rev, ↓de_op_fld, ↓ds_ret_fld, ↓de_es_fld, ↓de_pt_fld, ↓de_op_sfld, ↓ds_ret_sfld, ↓de_es_sfld, ↓de_pt_sfld, ↓de_op_call, ↓ds_ret_call, ↓de_es_call, ↓de_pt_call, ↓de_op_make, ↓ds_ret_make, ↓de_es_make, ↓de_pt_make, ↓de_op_meth, ↓ds_ret_meth, ↓de_es_meth, ↓de_pt_meth, ↓de_op_blt, ↓ds_ret_blt, ↓de_es_blt, ↓de_pt_blt, ↓de_op_bmt, ↓ds_ret_bmt, ↓de_es_bmt, ↓de_pt_bmt, ↓de_op_isi, ↓ds_ret_isi, ↓de_es_isi, ↓de_pt_isi, ↓de_op_mut, ↓ds_ret_mut, ↓de_es_mut, ↓de_pt_mut, ↓de_op_lc1, ↓ds_ret_lc1, ↓de_es_lc1, ↓de_pt_lc1, ↓de_op_lc2, ↓ds_ret_lc2, ↓de_es_lc2, ↓de_pt_lc2, ↓do_mulN, ↓do_from1, ↓do_to, ↓do_to1, ↓do_part, min2N, ↓db_lrng1, ↓db_trng1, ↓ds_parL2, ↓ds_parL3, ↓dm_app, ↓dm_ext, ↓dm_rev, ↓d_neints, ↓d_eqints, ↓dr_rng1c, ↓dr_rng2c, ↓dr_rng2o, ↓atD_0, ↓atD_1, ↓atD_2, ↓atD_3, ↓ixD_0, ↓ixD_3, getS_0, getS_s, List.set_cons_zero, List.set_cons_succ, stoV, RV.d, endC, tnC, wipeS, backAll, if_true, if_false, Bool.false_eq_true, pmD, List.getElem?_cons_zero, List.getElem?_cons_succ, List.cons_append, List.nil_append, List.append_nil, Option.map_some, shl1N, shlN, shrN, and1N, andN, orN, xorN, andnN, nandN, tstb, List.length_cons, List.length_nil, List.length_map, List.length_range, Nat.zero_add, Nat.reduceAdd, Nat.reduceLT, Nat.reduceLeDiff, true_and])
local macro_rules | `(tactic| walk_at "pl") => `(tactic| try simp only [↓dW_bind, ↓dW_pure, ↓dW_some, ↓dW_vi, ↓dW_vb, ↓dW_toD, ↓dW_rd, ↓dW_mv, ↓dW_op, ↓dW_own, ↓dW_get_dat, ↓dW_get_at, ↓dW_gets_nil, ↓dW_gets_cons, ↓dW_put, ↓dW_val, ↓dW_bool, ↓dW_tru, ↓dW_nx, ↓dW_ite, ↓dW_keep, ↓de_opv, ↓de_c, ↓de_v, ↓de_io, ↓de_bin, ↓de_un, ↓de_cmp, ↓de_chain, ↓de_and, ↓de_or, ↓de_not, ↓de_ite, ↓de_tup, ↓de_lst, ↓de_ix, ↓de_sl, ↓de_pnil, ↓de_rev, ↓de_fld, ↓de_sfld, ↓de_call, ↓de_make, ↓de_meth, ↓de_blt, ↓de_isi, ↓de_mut, ↓de_lc1, ↓de_es0, ↓de_star, ↓de_ps0, ↓de_ps, ↓de_ts0, ↓de_ts, ↓de_rs0, ↓de_rs, ↓ds_nil, ↓ds_cons, ↓ds_asgn, ↓ds_sto, ↓ds_sub, ↓ds_subX, ↓ds_asgs, ↓ds_asgf, ↓ds_fld, ↓ds_par, ↓ds_stoX0, ↓ds_stoXn, ↓ds_stoXs, ↓ds_unp, ↓ds_unpT, ↓ds_aug, ↓ds_expr, ↓ds_retv, ↓ds_iff, ↓ds_for, ↓ds_wh, ↓ds_pass, ↓ds_brk, ↓ds_cont, ↓do_add, ↓do_sub, ↓do_and, ↓do_or, ↓do_xor, ↓do_mul, ↓do_fdiv, ↓do_mod, ↓do_pow, ↓do_shl, ↓do_shr, ↓do_addL, ↓do_addT, ↓do_inv, ↓do_neg, ↓do_lt, ↓do_le, ↓do_gt, ↓do_ge, ↓do_eq, ↓do_ne, ↓do_item, ↓do_itemT, ↓dt_int, ↓dt_bl, ↓dt_non, ↓dt_lst, ↓dr_seq, ↓dr_seqt, ↓db_len, ↓db_lent, ↓db_lens, ↓db_abs, ↓db_max2, ↓db_min2, ↓db_int, ↓db_tuple, ↓db_tuplet, ↓db_list, ↓db_listt, ↓de_op_c, ↓ds_ret_c, ↓de_es_c, ↓de_pt_c, ↓de_es_v, ↓de_pt_v, ↓de_op_io, ↓ds_ret_io, ↓de_es_io, ↓de_pt_io, ↓de_op_bin, ↓ds_ret_bin, ↓de_es_bin, ↓de_pt_bin, ↓de_op_un, ↓ds_ret_un, ↓de_es_un, ↓de_pt_un, ↓de_op_cmp, ↓ds_ret_cmp, ↓de_es_cmp, ↓de_pt_cmp, ↓de_op_chain, ↓ds_ret_chain, ↓de_es_chain, ↓de_pt_chain, ↓de_op_and, ↓ds_ret_and, ↓de_es_and, ↓de_pt_and, ↓de_op_or, ↓ds_ret_or, ↓de_es_or, ↓de_pt_or, ↓de_op_not, ↓ds_ret_not, ↓de_es_not, ↓de_pt_not, ↓de_op_ite, ↓ds_ret_ite, ↓de_es_ite, ↓de_pt_ite, ↓de_op_tup, ↓ds_ret_tup, ↓de_es_tup, ↓de_pt_tup, ↓de_op_lst, ↓ds_ret_lst, ↓de_es_lst, ↓de_pt_lst, ↓de_op_ix, ↓ds_ret_ix, ↓de_es_ix, ↓de_pt_ix, ↓de_op_sl, ↓ds_ret_sl, ↓de_es_sl, ↓de_pt_sl, ↓de_op_rev, ↓ds_ret_rev, ↓de_es_rev, ↓de_pt_rev, ↓de_op_fld, ↓ds_ret_fld, ↓de_es_fld, ↓de_pt_fld, ↓de_op_sfld, ↓ds_ret_sfld, ↓de_es_sfld, ↓de_pt_sfld, ↓de_op_call, ↓ds_ret_call, ↓de_es_call, ↓de_pt_call, ↓de_op_make, ↓ds_ret_make, ↓de_es_make, ↓de_pt_make, ↓de_op_meth, ↓ds_ret_meth, ↓de_es_meth, ↓de_pt_meth, ↓de_op_blt, ↓ds_ret_blt, ↓de_es_blt, ↓de_pt_blt, ↓de_op_bmt, ↓ds_ret_bmt, ↓de_es_bmt, ↓de_pt_bmt, ↓de_op_isi, ↓ds_ret_isi, ↓de_es_isi, ↓de_pt_isi, ↓de_op_mut, ↓ds_ret_mut, ↓de_es_mut, ↓de_pt_mut, ↓de_op_lc1, ↓ds_ret_lc1, ↓de_es_lc1, ↓de_pt_lc1, ↓de_op_lc2, ↓ds_ret_lc2, ↓de_es_lc2, ↓de_pt_lc2, ↓do_mulN, ↓do_from1, ↓do_to, ↓do_to1, ↓do_part, min2N, ↓db_lrng1, ↓db_trng1, ↓ds_parL2, ↓ds_parL3, ↓dm_app, ↓dm_ext, ↓dm_rev, ↓d_neints, ↓d_eqints, ↓dr_rng1c, ↓dr_rng2c, ↓dr_rng2o, ↓atD_0, ↓atD_1, ↓atD_2, ↓atD_3, ↓ixD_0, ↓ixD_3, getS_0, getS_s, List.set_cons_zero, List.set_cons_succ, stoV, RV.d, endC, tnC, wipeS, backAll, if_true, if_false, Bool.false_eq_true, pmD, List.getElem?_cons_zero, List.getElem?_cons_succ, List.cons_append, List.nil_append, List.append_nil, Option.map_some, shl1N, shlN, shrN, and1N, andN, orN, xorN, andnN, nandN, tstb, List.length_cons, List.length_nil, List.length_map, List.length_range, Nat.zero_add, Nat.reduceAdd, Nat.reduceLT, Nat.reduceLeDiff, true_and, List.getElem_range, addN, add1N, oneaN, pow1N, small1, nn0, le1000, and_true])
local macro_rules | `(tactic| walk_at "pa") => `(tactic| (simp only [atN, ixD_nat, setN, List.length_set, List.length_map, *]; walk_at "pl"))

abbrev iD : Nat → D := fun k => .int (k : Int)
/-- what a drawing def leaves -/
def Drew (m B : Nat) (r : RV) (o : Option (List D)) : Prop := ∃ near, r = .fr (near.map fun (k : Nat) => D.int (k : Int)) ∧ NK m near ∧ ∃ box', o = some box' ∧ Box B box'
/-- the edges of a row, put in -/
def rowE (row : List Nat) : List (Nat × Nat) := (List.range (row.length - 1)).map fun k => (row.getD k 0, row.getD (k + 1) 0)
theorem rowE_ok {m : Nat} {row : List Nat} (w1 : row.Nodup) (w2 : ∀ x ∈ row, x < m) : ∀ p ∈ rowE row, p.1 < m ∧ p.2 < m ∧ p.1 ≠ p.2 := by
  intro p hp
  obtain ⟨k, hk, rfl⟩ := List.mem_map.mp hp
  have hk := List.mem_range.mp hk
  simp only
  rw [List.getD_eq_getElem?_getD, List.getD_eq_getElem?_getD, List.getElem?_eq_getElem (show k < row.length by omega), List.getElem?_eq_getElem (show k + 1 < row.length by omega)]
  refine ⟨w2 _ (List.getElem_mem _), w2 _ (List.getElem_mem _), fun e => ?_⟩
  have := (List.getElem_inj w1).mp e
  omega
theorem ends_ok {m : Nat} {row : List Nat} (w1 : row.Nodup) (w2 : ∀ x ∈ row, x < m) (h : 2 < row.length) : row.getD 0 0 < m ∧ row.getD (row.length - 1) 0 < m ∧ row.getD 0 0 ≠ row.getD (row.length - 1) 0 := by
  rw [List.getD_eq_getElem?_getD, List.getD_eq_getElem?_getD, List.getElem?_eq_getElem (show 0 < row.length by omega), List.getElem?_eq_getElem (show row.length - 1 < row.length by omega)]
  refine ⟨w2 _ (List.getElem_mem _), w2 _ (List.getElem_mem _), fun e => ?_⟩
  have := (List.getElem_inj w1).mp e
  omega
def gl2 : List Sm := match b36 with
  | [_, .wh _ [_, _, _, f, a], _] => [f, a]
  | _ => []
def gl3 : List Sm := match gl2 with
  | [.for _ _ _ b, _] => b
  | _ => []
theorem put_ok (G : Gam) (m : Nat) (near : List Nat) (es : List (Nat × Nat)) (x0 x1 x3 x4 x5 x6 x7 x8 x9 : Slot) {Q : Ctl → Sl → Prop} (hm : m ≤ 8) (h1 : NK m near) (he : ∀ p ∈ es, p.1 < m ∧ p.2 < m ∧ p.1 ≠ p.2)
    (hQ : ∀ near' x7 x8, NK m near' → Q .nx [x0, x1, .own (near'.map fun (k : Nat) => D.int (k : Int)), x3, x4, x5, x6, x7, x8, x9]) :
    Wq (forL (.tp [7, 8]) (exSs G gl3) (es.map pD)) [x0, x1, .own (near.map fun (k : Nat) => D.int (k : Int)), x3, x4, x5, x6, x7, x8, x9] Q := by
  simp only [gl3, gl2, b36]
  refine k_forM pD (fun k S => ∃ x7 x8, S = [x0, x1, .own (((es.take k).foldl addE near).map fun (k : Nat) => D.int (k : Int)), x3, x4, x5, x6, x7, x8, x9]) ⟨_, _, rfl⟩ ?_ ?_
  · rintro k hk S ⟨y7, y8, rfl⟩
    refine ⟨_, rfl, ?_⟩
    obtain ⟨e1, e2, e3⟩ := he _ (List.getElem_mem hk)
    have hl : ((es.take k).foldl addE near).length = m := by rw [fold_len]; exact h1.len
    rw [List.take_succ_eq_append_getElem hk, List.foldl_append]
    generalize (es.take k).foldl addE near = L at hl
    walk_at "pl"
    rw [atN (by omega)]
    walk_at "pl"
    refine ⟨by omega, ?_⟩
    rw [atN (by omega)]
    walk_at "pl"
    refine ⟨by omega, ?_⟩
    rw [ixD_nat (by omega)]
    walk_at "pl"
    rw [setN, ixD_nat (by rw [List.length_map, List.length_set]; omega)]
    walk_at "pl"
    rw [setN]
    exact ⟨_, _, rfl⟩
  · rintro S ⟨y7, y8, rfl⟩
    rw [List.take_length]
    exact hQ _ _ _ (NK_fold es h1 he)
theorem glued_tail (n m B v many : Nat) (near row : List Nat) (box : List D) (x6 x7 x8 : Slot) {Q : Ctl → Sl → Prop} (h1 : NK m near) (hB : B + 4 * v + 4 ≤ 1000000) (hm : m ≤ 8) (w1 : row.Nodup) (w2 : ∀ x ∈ row, x < m) (w3 : 1 ≤ row.length) (w4 : row.length ≤ 10) (hb : Box (B + 4 * v + 3) box)
    (hQ : ∀ near' x7 x8 box', NK m near' → Box (B + 4 * v + 4) box' → Q .nx [.io box', .val (.int m), .own (near'.map fun (k : Nat) => D.int (k : Int)), .val (.int ((v + many : Nat) : Int)), .val (.lst (row.map fun (k : Nat) => D.int (k : Int))), .val (.int (many : Int)), x6, x7, x8, .un]) :
    Wq (exSs (gam pr (n + 1)) gl2) [.io box, .val (.int m), .own (near.map fun (k : Nat) => D.int (k : Int)), .val (.int (v : Int)), .val (.lst (row.map fun (k : Nat) => D.int (k : Int))), .val (.int (many : Int)), x6, x7, x8, .un] Q := by
  simp only [gl2, b36]
  walk_at "pl"
  rw [sub1N w3]
  walk_at "pl"
  refine ⟨by omega, ?_⟩
  refine k_blockM _ (fun k => [pD (row.getD k 0, row.getD (k + 1) 0)]) ?_ ?_ ?_
  · rw [flat_one, List.length_map, List.length_range, lim_eq]; omega
  · intro k hk acc ha
    have hk := List.mem_range.mp hk
    refine ⟨_, rfl, ?_⟩
    walk_at "pl"
    rw [atN (by omega)]
    walk_at "pl"
    rw [atN (by omega)]
    walk_at "pl"
    simp only [List.length_cons, List.length_nil] at ha
    exact ⟨two_lim, by omega, rfl⟩
  · rw [flat_one, show (List.range (row.length - 1)).map (fun k => pD (row.getD k 0, row.getD (k + 1) 0)) = (rowE row).map pD from by unfold rowE; rw [List.map_map]; rfl]
    have hle : (rowE row).length ≤ 10 := by unfold rowE; simp; omega
    walk_at "pl"
    by_cases hc : 2 < row.length
    · rw [if_pos (by simp; omega)]
      walk_at "pl"
      refine k_call2 (i := 0) rfl ((take_ok n (B + 4 * v + 3) box 5 hb (by omega) (by omega) (by omega)).mono ?_)
      rintro r o ⟨t4, rfl, ht4, box4, rfl, hb4⟩
      refine ⟨_, rfl, ?_⟩
      walk_at "pl"
      by_cases ht : 0 < t4
      · rw [if_pos (by simp; omega)]
        walk_at "pl"
        rw [at0N (by omega), atM1 (by omega)]
        walk_at "pl"
        rw [show (rowE row).map pD ++ [D.tup [D.int ((row.getD 0 0 : Nat) : Int), D.int ((row.getD (row.length - 1) 0 : Nat) : Int)]] = (rowE row ++ [(row.getD 0 0, row.getD (row.length - 1) 0)]).map pD from by rw [List.map_append]; rfl]
        refine ⟨by decide, by decide, by rw [List.length_map, List.length_append, lim_eq]; simp; omega, ?_⟩
        refine put_ok _ m near _ _ _ _ _ _ _ _ _ _ hm h1 (fun p hp => ?_) fun near' y7 y8 g1 => ?_
        · rcases List.mem_append.mp hp with hp | hp
          · exact rowE_ok w1 w2 p hp
          · rw [List.mem_singleton.mp hp]; exact ends_ok w1 w2 hc
        · walk_at "pl"
          exact hQ _ _ _ _ g1 hb4
      · rw [if_neg (by simp; omega)]
        walk_at "pl"
        refine ⟨by decide, by rw [lim_eq]; omega, ?_⟩
        refine put_ok _ m near _ _ _ _ _ _ _ _ _ _ hm h1 (rowE_ok w1 w2) fun near' y7 y8 g1 => ?_
        walk_at "pl"
        exact hQ _ _ _ _ g1 hb4
    · rw [if_neg (by simp; omega)]
      walk_at "pl"
      rw [if_neg (by simp; omega)]
      walk_at "pl"
      refine ⟨by decide, by rw [lim_eq]; omega, ?_⟩
      refine put_ok _ m near _ _ _ _ _ _ _ _ _ _ hm h1 (rowE_ok w1 w2) fun near' y7 y8 g1 => ?_
      walk_at "pl"
      exact hQ _ _ _ _ g1 (hb.mono (by omega))
theorem glued_ok (n m B : Nat) (box : List D) (hb : Box B box) (hB : B + 100 ≤ 1000000) (hm : m ≤ 8) : Wk ((gam pr (n + 2)).call 36 [.non, .int (m : Int)] (some box)) (Drew m (B + 40)) := by
  refine k_call fn36 (k_run1 (i := 0) (S := [.io box, .val (.int m), .un, .un, .un, .un, .un, .un, .un, .un]) rfl rfl ?_)
  simp only [f36, b36]
  walk_at "pl"
  refine ⟨by rw [lim_eq]; omega, ⟨by rw [lim_eq]; omega, by omega⟩, ?_⟩
  rw [rep0]
  refine k_wh (fun k S => ∃ (near : List Nat) (v : Nat) (box' : List D) (x4 x5 x6 x7 x8 : Slot), S = [.io box', .val (.int m), .own (near.map fun (k : Nat) => D.int (k : Int)), .val (.int (v : Int)), x4, x5, x6, x7, x8, .un] ∧ NK m near ∧ 1 ≤ v ∧ k = m - v ∧ v ≤ max 1 m ∧ Box (B + 4 * v) box') (k := m - 1) ?_ ?_ ?_
  · unfold wlim; omega
  · exact ⟨_, 1, box, .un, .un, .un, .un, .un, rfl, NK_zero m, by omega, by omega, by omega, hb.mono (by omega)⟩
  · rintro k S ⟨near, v, box', x4, x5, x6, x7, x8, rfl, h1, h2, rfl, h3, h4⟩
    obtain ⟨l, hl⟩ : ∃ l, gl2 = l := ⟨_, rfl⟩
    have hl' := hl
    simp only [gl2, b36] at hl'
    rw [hl']
    clear hl'
    walk_at "pl"
    by_cases hv : v < m
    · rw [if_pos (by simp; omega)]
      rw [subN (by omega)]
      refine k_call2 (i := 0) rfl ((take_ok n (B + 4 * v) box' 4 h4 (by omega) (by omega) (by omega)).mono ?_)
      rintro r o ⟨t1, rfl, ht1, box1, rfl, hb1⟩
      refine ⟨_, rfl, ?_⟩
      walk_at "pl"
      refine k_call2 (i := 0) rfl ((take_ok n (B + 4 * v + 1) box1 v hb1 (by omega) (by omega) (by omega)).mono ?_)
      rintro r o ⟨root, rfl, hr, box2, rfl, hb2⟩
      refine ⟨_, rfl, ?_⟩
      walk_at "pl"
      obtain ⟨many, hmany⟩ : ∃ many, many = min (m - v) (1 + t1) := ⟨_, rfl⟩
      rw [← hmany]
      refine ⟨by decide, by omega, ?_⟩
      refine k_blockM _ (fun k => [D.int ((v + k : Nat) : Int)]) ?_ ?_ ?_
      · rw [flat_one, List.length_map, List.length_range, lim_eq]; omega
      · intro k hk acc ha
        refine ⟨_, rfl, ?_⟩
        walk_at "pl"
        simp only [List.length_cons, List.length_nil] at ha
        omega
      · rw [flat_one]
        walk_at "pl"
        have hrow : (D.int (root : Int) :: (List.range many).map fun (k : Nat) => D.int ((v + k : Nat) : Int)) = (root :: (List.range many).map fun k => v + k).map fun (k : Nat) => D.int (k : Int) := by
          rw [List.map_cons, List.map_map]; rfl
        have q1 : (root :: (List.range many).map fun k => v + k).Nodup := by
          rw [List.nodup_cons]
          refine ⟨fun h => ?_, nodup_map_on List.nodup_range fun a _ b _ e => by omega⟩
          obtain ⟨a, _, e⟩ := List.mem_map.mp h
          omega
        have q2 : ∀ x ∈ (root :: (List.range many).map fun k => v + k), x < m := fun x hx => by
          rcases List.mem_cons.mp hx with rfl | hx
          · omega
          · obtain ⟨a, ha, rfl⟩ := List.mem_map.mp hx
            have := List.mem_range.mp ha
            omega
        have q3 : (root :: (List.range many).map fun k => v + k).length = many + 1 := by simp
        rw [hrow]
        generalize (root :: (List.range many).map fun k => v + k) = row0 at q1 q2 q3
        refine ⟨by rw [lim_eq]; omega, ?_⟩
        refine k_call2 (i := 0) rfl ((take_ok n (B + 4 * v + 2) box2 7 hb2 (by omega) (by omega) (by omega)).mono ?_)
        rintro r o ⟨t3, rfl, ht3, box3, rfl, hb3⟩
        refine ⟨_, rfl, ?_⟩
        walk_at "pl"
        obtain ⟨row, w1, w2, w3, w4, w5⟩ : ∃ row : List Nat, row.Nodup ∧ (∀ x ∈ row, x < m) ∧ 1 ≤ row.length ∧ row.length ≤ 10 ∧ row = if t3 = 0 then row0.drop 1 else row0 := by
          by_cases h : t3 = 0
          · exact ⟨_, q1.sublist (List.drop_sublist 1 row0), fun x hx => q2 x (List.mem_of_mem_drop hx), by rw [List.length_drop]; omega, by rw [List.length_drop]; omega, by rw [if_pos h]⟩
          · exact ⟨_, q1, q2, by omega, by omega, by rw [if_neg h]⟩
        by_cases h : t3 = 0
        all_goals first | rw [if_pos h] at w5 | rw [if_neg h] at w5
        · rw [if_pos (by simp; omega), ← hl, ← List.map_drop, ← w5]
          exact glued_tail n m B v many near row box3 _ _ _ h1 (by omega) hm w1 w2 w3 w4 (hb3.mono (by omega)) fun near' y7 y8 box' g1 g2 => ⟨_, by omega, near', v + many, box', _, _, _, _, _, rfl, g1, by omega, rfl, by omega, g2.mono (by omega)⟩
        · rw [if_neg (by simp; omega), ← hl, ← w5]
          exact glued_tail n m B v many near row box3 _ _ _ h1 (by omega) hm w1 w2 w3 w4 (hb3.mono (by omega)) fun near' y7 y8 box' g1 g2 => ⟨_, by omega, near', v + many, box', _, _, _, _, _, rfl, g1, by omega, rfl, by omega, g2.mono (by omega)⟩
    · rw [if_neg (by simp; omega)]
      walk_at "pl"
      exact ⟨near, rfl, h1, _, rfl, h4.mono (by omega)⟩

end Pl.k09
set_option Elab.async false
set_option linter.all false
set_option maxRecDepth 100000
namespace Pl.k09
open PySem Pl
local macro_rules | `(tactic| walk_at "pl0") => `(tactic| try simp only [↓dW_bind, ↓dW_pure, ↓dW_some, ↓dW_vi, ↓dW_vb, ↓dW_toD, ↓dW_rd, ↓dW_mv, ↓dW_op, ↓dW_own, ↓dW_get_dat, ↓dW_get_at, ↓dW_gets_nil, ↓dW_gets_cons, ↓dW_put, ↓dW_val, ↓dW_bool, ↓dW_tru, ↓dW_nx, ↓dW_ite, ↓dW_keep, ↓de_opv, ↓de_c, ↓de_v, ↓de_io, ↓de_bin, ↓de_un, ↓de_cmp, ↓de_chain, ↓de_and, ↓de_or, ↓de_not, ↓de_ite, ↓de_tup, ↓de_lst, ↓de_ix, ↓de_sl, ↓de_pnil, ↓de_rev, ↓de_fld, ↓de_sfld, ↓de_call, ↓de_make, ↓de_meth, ↓de_blt, ↓de_isi, ↓de_mut, ↓de_lc1, ↓de_es0, ↓de_star, ↓de_ps0, ↓de_ps, ↓de_ts0, ↓de_ts, ↓de_rs0, ↓de_rs, ↓ds_nil, ↓ds_cons, ↓ds_asgn, ↓ds_sto, ↓ds_sub, ↓ds_subX, ↓ds_asgs, ↓ds_asgf, ↓ds_fld, ↓ds_par, ↓ds_stoX0, ↓ds_stoXn, ↓ds_stoXs, ↓ds_unp, ↓ds_unpT, ↓ds_aug, ↓ds_expr, ↓ds_retv, ↓ds_iff, ↓ds_for, ↓ds_wh, ↓ds_pass, ↓ds_brk, ↓ds_cont, ↓do_add, ↓do_sub, ↓do_and, ↓do_or, ↓do_xor, ↓do_mul, ↓do_fdiv, ↓do_mod, ↓do_pow, ↓do_shl, ↓do_shr, ↓do_addL, ↓do_addT, ↓do_inv, ↓do_neg, ↓do_lt, ↓do_le, ↓do_gt, ↓do_ge, ↓do_eq, ↓do_ne, ↓do_item, ↓do_itemT, ↓dt_int, ↓dt_bl, ↓dt_non, ↓dt_lst, ↓dr_seq, ↓dr_seqt, ↓db_len, ↓db_lent, ↓db_lens, ↓db_abs, ↓db_max2, ↓db_min2, ↓db_int, ↓db_tuple, ↓db_tuplet, ↓db_list, ↓db_listt, ↓de_op_c, ↓ds_ret_c, ↓de_es_c, ↓de_pt_c, ↓de_es_v, ↓de_pt_v, ↓de_op_io, ↓ds_ret_io, ↓de_es_io, ↓de_pt_io, ↓de_op_bin, ↓ds_ret_bin, ↓de_es_bin, ↓de_pt_bin, ↓de_op_un, ↓ds_ret_un, ↓de_es_un, ↓de_pt_un, ↓de_op_cmp, ↓ds_ret_cmp, ↓de_es_cmp, ↓de_pt_cmp, ↓de_op_chain, ↓ds_ret_chain, ↓de_es_chain, ↓de_pt_chain, ↓de_op_and, ↓ds_ret_and, ↓de_es_and, ↓de_pt_and, ↓de_op_or, ↓ds_ret_or, ↓de_es_or, ↓de_pt_or, ↓de_op_not, ↓ds_ret_not, ↓de_es_not, ↓de_pt_not, ↓de_op_ite, ↓ds_ret_ite, ↓de_es_ite, ↓de_pt_ite, ↓de_op_tup, ↓ds_ret_tup, ↓de_es_tup, ↓de_pt_tup, ↓de_op_lst, ↓ds_ret_lst, ↓de_es_lst, ↓de_pt_lst, ↓de_op_ix, ↓ds_ret_ix, ↓de_es_ix, ↓de_pt_ix, ↓de_op_sl, ↓ds_ret_sl, ↓de_es_sl, ↓de_pt_sl, ↓de_op_rev, ↓ds_ret_rev, ↓de_es_rev, ↓de_pt_rev, ↓de_op_fld, ↓ds_ret_fld, ↓de_es_fld, ↓de_pt_fld, ↓de_op_sfld, ↓ds_ret_sfld, ↓de_es_sfld, ↓de_pt_sfld, ↓de_op_call, ↓ds_ret_call, ↓de_es_call, ↓de_pt_call, ↓de_op_make, ↓ds_ret_make, ↓de_es_make, ↓de_pt_make, ↓de_op_meth, ↓ds_ret_meth, ↓de_es_meth, ↓de_pt_meth, ↓de_op_blt, ↓ds_ret_blt, ↓de_es_blt, ↓de_pt_blt, ↓de_op_bmt, ↓ds_ret_bmt, ↓de_es_bmt, ↓de_pt_bmt, ↓de_op_isi, ↓ds_ret_isi, ↓de_es_isi, ↓de_pt_isi, ↓de_op_mut, ↓ds_ret_mut, ↓de_es_mut, ↓de_pt_mut, ↓de_op_lc1, ↓ds_ret_lc1, ↓de_es_lc1, ↓de_pt_lc1, ↓de_op_lc2, ↓ds_ret_lc2, ↓de_es_lc2, ↓de_pt_lc2, ↓do_mulN, ↓do_from1, ↓do_to, ↓do_to1, ↓do_part, min2N, ↓db_lrng1, ↓db_trng1, ↓ds_parL2, ↓ds_parL3, ↓dm_app, ↓dm_ext, ↓dm_rev, ↓d_neints, ↓d_eqints, ↓dr_rng1c, ↓dr_rng2c, ↓dr_rng2o, ↓atD_0, ↓atD_1, ↓atD_2, ↓atD_3, ↓ixD_0, ↓ixD_3, getS_0, getS_s, List.set_cons_zero, List.set_cons_succ, stoV, RV.d, endC, tnC, wipeS, backAll, if_true, if_false, Bool.false_eq_true, pmD, List.getElem?_cons_zero, List.getElem?_cons_succ, List.cons_append, List.nil_append, List.append_nil, Option.map_some, shl1N, shlN, shrN, and1N, andN, orN, xorN, andnN, nandN, tstb, List.length_cons, List.length_nil, List.length_map, List.length_range, Nat.zero_add, Nat.reduceAdd, Nat.reduceLT, Nat.reduceLeDiff, true_and])
local macro_rules | `(tactic| walk_at "pl") => `(tactic| try simp only [↓dW_bind, ↓dW_pure, ↓dW_some, ↓dW_vi, ↓dW_vb, ↓dW_toD, ↓dW_rd, ↓dW_mv, ↓dW_op, ↓dW_own, ↓dW_get_dat, ↓dW_get_at, ↓dW_gets_nil, ↓dW_gets_cons, ↓dW_put, ↓dW_val, ↓dW_bool, ↓dW_tru, ↓dW_nx, ↓dW_ite, ↓dW_keep, ↓de_opv, ↓de_c, ↓de_v, ↓de_io, ↓de_bin, ↓de_un, ↓de_cmp, ↓de_chain, ↓de_and, ↓de_or, ↓de_not, ↓de_ite, ↓de_tup, ↓de_lst, ↓de_ix, ↓de_sl, ↓de_pnil, ↓de_rev, ↓de_fld, ↓de_sfld, ↓de_call, ↓de_make, ↓de_meth, ↓de_blt, ↓de_isi, ↓de_mut, ↓de_lc1, ↓de_es0, ↓de_star, ↓de_ps0, ↓de_ps, ↓de_ts0, ↓de_ts, ↓de_rs0, ↓de_rs, ↓ds_nil, ↓ds_cons, ↓ds_asgn, ↓ds_sto, ↓ds_sub, ↓ds_subX, ↓ds_asgs, ↓ds_asgf, ↓ds_fld, ↓ds_par, ↓ds_stoX0, ↓ds_stoXn, ↓ds_stoXs, ↓ds_unp, ↓ds_unpT, ↓ds_aug, ↓ds_expr, ↓ds_retv, ↓ds_iff, ↓ds_for, ↓ds_wh, ↓ds_pass, ↓ds_brk, ↓ds_cont, ↓do_add, ↓do_sub, ↓do_and, ↓do_or, ↓do_xor, ↓do_mul, ↓do_fdiv, ↓do_mod, ↓do_pow, ↓do_shl, ↓do_shr, ↓do_addL, ↓do_addT, ↓do_inv, ↓do_neg, ↓do_lt, ↓do_le, ↓do_gt, ↓do_ge, ↓do_eq, ↓do_ne, ↓do_item, ↓do_itemT, ↓dt_int, ↓dt_bl, ↓dt_non, ↓dt_lst, ↓dr_seq, ↓dr_seqt, ↓db_len, ↓db_lent, ↓db_lens, ↓db_abs, ↓db_max2, ↓db_min2, ↓db_int, ↓db_tuple, ↓db_tuplet, ↓db_list, ↓db_listt, ↓de_op_c, ↓ds_ret_c, ↓de_es_c, ↓de_pt_c, ↓de_es_v, ↓de_pt_v, ↓de_op_io, ↓ds_ret_io, ↓de_es_io, ↓de_pt_io, ↓de_op_bin, ↓ds_ret_bin, ↓de_es_bin, ↓de_pt_bin, ↓de_op_un, ↓ds_ret_un, ↓de_es_un, ↓de_pt_un, ↓de_op_cmp, ↓ds_ret_cmp, ↓de_es_cmp, ↓de_pt_cmp, ↓de_op_chain, ↓ds_ret_chain, ↓de_es_chain, ↓de_pt_chain, ↓de_op_and, ↓ds_ret_and, ↓de_es_and, ↓de_pt_and, ↓de_op_or, ↓ds_ret_or, ↓de_es_or, ↓de_pt_or, ↓de_op_not, ↓ds_ret_not, ↓de_es_not, ↓de_pt_not, ↓de_op_ite, ↓ds_ret_ite, ↓de_es_ite, ↓de_pt_ite, ↓de_op_tup, ↓ds_ret_tup, ↓de_es_tup, ↓de_pt_tup, ↓de_op_lst, ↓ds_ret_lst, ↓de_es_lst, ↓de_pt_lst, ↓de_op_ix, ↓ds_ret_ix, ↓de_es_ix, ↓de_pt_ix, ↓de_op_sl, ↓ds_ret_sl, ↓de_es_sl, ↓de_pt_sl, ↓de_op_rev, ↓ds_ret_rev, ↓de_es_rev, ↓de_pt_rev, ↓de_op_fld, ↓ds_ret_fld, ↓de_es_fld, ↓de_pt_fld, ↓de_op_sfld, ↓ds_ret_sfld, ↓de_es_sfld, ↓de_pt_sfld, ↓de_op_call, ↓ds_ret_call, ↓de_es_call, ↓de_pt_call, ↓de_op_make, ↓ds_ret_make, ↓de_es_make, ↓de_pt_make, ↓de_op_meth, ↓ds_ret_meth, ↓de_es_meth, ↓de_pt_meth, ↓de_op_blt, ↓ds_ret_blt, ↓de_es_blt, ↓de_pt_blt, ↓de_op_bmt, ↓ds_ret_bmt, ↓de_es_bmt, ↓de_pt_bmt, ↓de_op_isi, ↓ds_ret_isi, ↓de_es_isi, ↓de_pt_isi, ↓de_op_mut, ↓ds_ret_mut, ↓de_es_mut, ↓de_pt_mut, ↓de_op_lc1, ↓ds_ret_lc1, ↓de_es_lc1, ↓de_pt_lc1, ↓de_op_lc2, ↓ds_ret_lc2, ↓de_es_lc2, ↓de_pt_lc2, ↓do_mulN, ↓do_from1, ↓do_to, ↓do_to1, ↓do_part, min2N, ↓db_lrng1, ↓db_trng1, ↓ds_parL2, ↓ds_parL3, ↓dm_app, ↓dm_ext, ↓dm_rev, ↓d_neints, ↓d_eqints, ↓dr_rng1c, ↓dr_rng2c, ↓dr_rng2o, ↓atD_0, ↓atD_1, ↓atD_2, ↓atD_3, ↓ixD_0, ↓ixD_3, getS_0, getS_s, List.set_cons_zero, List.set_cons_succ, stoV, RV.d, endC, tnC, wipeS, backAll, if_true, if_false, Bool.false_eq_true, pmD, List.getElem?_cons_zero, List.getElem?_cons_succ, List.cons_append, List.nil_append, List.append_nil, Option.map_some, shl1N, shlN, shrN, and1N, andN, orN, xorN, andnN, nandN, tstb, List.length_cons, List.length_nil, List.length_map, List.length_range, Nat.zero_add, Nat.reduceAdd, Nat.reduceLT, Nat.reduceLeDiff, true_and, List.getElem_range, addN, add1N, oneaN, pow1N, small1, nn0, le1000, and_true])
local macro_rules | `(tactic| walk_at "pa") => `(tactic| (simp only [atN, ixD_nat, setN, List.length_set, List.length_map, *]; walk_at "pl"))

def dw2 : List Sm := b37.drop 3
theorem draw_tail (n m B : Nat) (near : List Nat) (box : List D) (x2 x3 x4 x6 x7 x8 x9 x10 x11 : Slot) (h1 : NK m near) (hb : Box (B + 80) box) (hB : B + 200 ≤ 1000000) (hm : m ≤ 8) :
    Wq (exSs (gam pr (n + 2)) dw2) [.io box, .val (.int m), x2, x3, x4, .own (near.map fun (k : Nat) => D.int (k : Int)), x6, x7, x8, x9, x10, x11] fun c S1 => endC (fun r => match getS S1 0 with | .io zs => Drew m (B + 100) r (some zs) | _ => False) c := by
  simp only [dw2, b37, List.drop_succ_cons, List.drop_zero]
  walk_at "pl"
  refine k_call2 (i := 0) rfl ((mixed_ok n (B + 80) box m hb (by omega) (by omega)).mono ?_)
  rintro r o ⟨im, rfl, him, box1, rfl, hb1⟩
  refine ⟨_, rfl, ?_⟩
  walk_at "pl"
  refine k_call0 ((renamed_ok (n + 1) m near im hm h1.len him).mono ?_)
  rintro r o ⟨rfl, rfl⟩
  refine ⟨rfl, ?_⟩
  walk_at "pl"
  exact ⟨_, rfl, NK_ren hm h1 him, _, rfl, hb1.mono (by omega)⟩
theorem sub_ok {m : Nat} {l : List (Nat × Nat)} (h : ∀ p ∈ l, p ∈ coup m) : ∀ p ∈ l, p.1 < m ∧ p.2 < m ∧ p.1 ≠ p.2 := fun p hp => by
  have := mem_coup.mp (h p hp); omega
theorem sub_ok2 {m : Nat} {l : List (Nat × Nat)} (h : ∀ p ∈ l, p.1 < m ∧ p.2 < m ∧ p.1 ≠ p.2) : ∀ p ∈ l, p.1 < m ∧ p.2 < m := fun p hp => ⟨(h p hp).1, (h p hp).2.1⟩
theorem dr_rngM {S : Sl} {m : Nat} {Q : List D → Sl → Prop} : Wq (M.opt (walkD .rng1 [.int ((m : Int) - 1)])) S Q = (m - 1 < 2 ^ 60 ∧ Q ((List.range (m - 1)).map fun (k : Nat) => D.int (k : Int)) S) := by
  by_cases h : m = 0
  · subst h
    rw [Wd_eq]
    simp only [Nat.zero_sub, List.range_zero, List.map_nil]
    have : (0 : Nat) < 2 ^ 60 := by decide
    simp only [this, true_and]
    rfl
  · rw [sub1N (by omega), dr_rng1c]
theorem app_in {m : Nat} {l : List (Nat × Nat)} {q : Nat × Nat} (h : ∀ p ∈ l, p ∈ coup m) (hq : q ∈ coup m) : ∀ p ∈ l ++ [q], p ∈ coup m := fun p hp => by
  rcases List.mem_append.mp hp with hp | hp
  · exact h p hp
  · rw [List.mem_singleton.mp hp]; exact hq
def dw7 : List Sm := match b37 with
  | [_, _, .iff _ _ [.iff _ _ [.iff _ _ [.iff _ _ [.iff _ (_ :: r) _]]]], _] => r
  | _ => []
theorem put7 (n m B way : Nat) (base : List (Nat × Nat)) (box1 : List D) (x4 x5 x6 x7 x8 x9 x10 : Slot) {Q : Ctl → Sl → Prop} (hb1 : Box (B + 1) box1) (hB : B + 200 ≤ 1000000) (hm : m ≤ 8) (p1 : ∀ p ∈ base, p ∈ coup m) (p2 : base.length ≤ 9)
    (hQ : ∀ near box' y, NK m near → Box (B + 40) box' → Q .nx [.io box', .val (.int m), .val (.int way), .val (.lst ((coup m).map pD)), x4, .own (near.map fun (k : Nat) => D.int (k : Int)), x6, y, x8, x9, x10, .val (.lst (base.map pD))]) :
    Wq (exSs (gam pr (n + 2)) dw7) [.io box1, .val (.int m), .val (.int way), .val (.lst ((coup m).map pD)), x4, x5, x6, x7, x8, x9, x10, .val (.lst (base.map pD))] Q := by
  have hc28 := coup_len hm
  simp only [dw7, b37]
  walk_at "pl"
  refine k_blockI pD (fun k acc S => ∃ (es : List (Nat × Nat)) (box' : List D) (y : Slot), acc = es.map pD ∧ es.length ≤ k ∧ (∀ p ∈ es, p ∈ coup m) ∧ Box (B + 2 + k) box' ∧ S = [.io box', .val (.int m), .val (.int way), .val (.lst ((coup m).map pD)), x4, x5, x6, y, x8, x9, x10, .val (.lst (base.map pD))]) ?_ ?_ ?_
  · exact ⟨[], box1, _, rfl, Nat.le_refl _, (fun _ h => nomatch h), hb1.mono (by omega), rfl⟩
  · rintro k hk acc S ⟨es, box', y, rfl, e1, e2, e3, rfl⟩
    refine ⟨_, rfl, ?_⟩
    walk_at "pl"
    refine k_call2 (i := 0) rfl ((take_ok (n + 1) (B + 2 + k) box' 6 e3 (by omega) (by omega) (by omega)).mono ?_)
    rintro r o ⟨t, rfl, ht, box3, rfl, hb3⟩
    refine ⟨_, rfl, ?_⟩
    walk_at "pl"
    have hin := List.getElem_mem hk
    by_cases ht : t = 0
    · rw [if_pos (by simp; omega)]
      exact ⟨by rw [lim_eq]; omega, es ++ [(coup m)[k]], _, _, by rw [List.map_append]; rfl, by simp; omega, app_in e2 hin, hb3, rfl⟩
    · rw [if_neg (by simp; omega)]
      exact ⟨es, _, _, rfl, by omega, e2, hb3, rfl⟩
  · rintro acc S ⟨es, box', y, rfl, e1, e2, e3, rfl⟩
    walk_at "pl"
    rw [← List.map_append]
    refine ⟨by rw [List.length_map, List.length_append, lim_eq]; omega, ?_⟩
    have e5 : ∀ p ∈ base ++ es, p ∈ coup m := fun p hp => (List.mem_append.mp hp).elim (p1 p) (e2 p)
    refine k_call0 ((near_ok (n + 1) m _ hm (sub_ok2 (sub_ok e5))).mono ?_)
    rintro r o ⟨rfl, rfl⟩
    refine ⟨rfl, ?_⟩
    walk_at "pl"
    exact hQ _ _ _ (NK_nearF (sub_ok e5)) (e3.mono (by omega))
theorem drawn_ok (n m B : Nat) (box : List D) (hb : Box B box) (hB : B + 200 ≤ 1000000) (hm : m ≤ 8) : Wk ((gam pr (n + 3)).call 37 [.non, .int (m : Int)] (some box)) (Drew m (B + 100)) := by
  refine k_call fn37 (k_run1 (i := 0) (S := [.io box, .val (.int m), .un, .un, .un, .un, .un, .un, .un, .un, .un, .un]) rfl rfl ?_)
  have hc28 := coup_len hm
  simp only [f37, b37]
  obtain ⟨l, hl⟩ : ∃ l, dw2 = l := ⟨_, rfl⟩
  have hl' := hl
  simp only [dw2, b37, List.drop_succ_cons, List.drop_zero] at hl'
  rw [hl']
  clear hl'
  obtain ⟨l7, hl7⟩ : ∃ l, dw7 = l := ⟨_, rfl⟩
  have hl7' := hl7
  simp only [dw7, b37] at hl7'
  rw [hl7']
  clear hl7'
  walk_at "pl"
  refine k_call2 (i := 0) rfl ((take_ok (n + 1) B box 9 hb (by omega) (by omega) (by omega)).mono ?_)
  rintro r o ⟨way, rfl, hway, box1, rfl, hb1⟩
  refine ⟨_, rfl, ?_⟩
  walk_at "pl"
  refine k_call0 ((couples_ok (n + 1) m hm).mono ?_)
  rintro r o ⟨rfl, rfl⟩
  refine ⟨rfl, ?_⟩
  walk_at "pl"
  by_cases hw : way < 3
  · rw [if_pos (by simp; omega)]
    refine k_call2 (i := 0) rfl ((take_ok (n + 1) (B + 1) box1 6 hb1 (by omega) (by omega) (by omega)).mono ?_)
    rintro r o ⟨odds, rfl, hodds, box2, rfl, hb2⟩
    refine ⟨_, rfl, ?_⟩
    walk_at "pl"
    refine k_blockI pD (fun k acc S => ∃ (es : List (Nat × Nat)) (box' : List D) (y : Slot), acc = es.map pD ∧ es.length ≤ k ∧ (∀ p ∈ es, p ∈ coup m) ∧ Box (B + 2 + k) box' ∧ S = [.io box', .val (.int m), .val (.int way), .val (.lst ((coup m).map pD)), .val (.int ((1 + odds : Nat) : Int)), .un, .un, y, .un, .un, .un, .un]) ?_ ?_ ?_
    · exact ⟨[], box2, _, rfl, Nat.le_refl _, (fun _ h => nomatch h), hb2, rfl⟩
    · rintro k hk acc S ⟨es, box', y, rfl, e1, e2, e3, rfl⟩
      refine ⟨_, rfl, ?_⟩
      walk_at "pl"
      refine k_call2 (i := 0) rfl ((take_ok (n + 1) (B + 2 + k) box' 7 e3 (by omega) (by omega) (by omega)).mono ?_)
      rintro r o ⟨t, rfl, ht, box3, rfl, hb3⟩
      refine ⟨_, rfl, ?_⟩
      walk_at "pl"
      have hin := List.getElem_mem hk
      by_cases ht : t < 1 + odds
      · rw [if_pos (by simp; omega)]
        exact ⟨by rw [lim_eq]; omega, es ++ [(coup m)[k]], _, _, by rw [List.map_append]; rfl, by simp; omega, app_in e2 hin, hb3, rfl⟩
      · rw [if_neg (by simp; omega)]
        exact ⟨es, _, _, rfl, by omega, e2, hb3, rfl⟩
    · rintro acc S ⟨es, box', y, rfl, e1, e2, e3, rfl⟩
      walk_at "pl"
      refine k_call0 ((near_ok (n + 1) m es hm (sub_ok2 (sub_ok e2))).mono ?_)
      rintro r o ⟨rfl, rfl⟩
      refine ⟨rfl, ?_⟩
      walk_at "pl"
      rw [← hl]
      exact draw_tail n m B _ _ _ _ _ _ _ _ _ _ _ (NK_nearF (sub_ok e2)) (e3.mono (by omega)) hB hm
  rw [if_neg (by simp; omega)]
  by_cases hw3 : way = 3
  · rw [if_pos (by simp; omega)]
    refine ⟨by omega, ?_⟩
    refine k_blockI (fun (k : Nat) => D.int (k : Int)) (fun k acc S => ∃ (es : List Nat) (box' : List D) (y : Slot), acc = es.map (fun (k : Nat) => D.int (k : Int)) ∧ es.length = k ∧ Box (B + 1 + k) box' ∧ S = [.io box', .val (.int m), .val (.int way), .val (.lst ((coup m).map pD)), .un, .un, .un, .un, y, .un, .un, .un]) ?_ ?_ ?_
    · exact ⟨[], box1, _, rfl, rfl, hb1, rfl⟩
    · rintro k hk acc S ⟨es, box', y, rfl, e1, e3, rfl⟩
      rw [List.length_range] at hk
      refine ⟨_, rfl, ?_⟩
      walk_at "pl"
      refine k_call2 (i := 0) rfl ((take_ok (n + 1) (B + 1 + k) box' 2 e3 (by omega) (by omega) (by omega)).mono ?_)
      rintro r o ⟨t, rfl, ht, box3, rfl, hb3⟩
      refine ⟨_, rfl, ?_⟩
      walk_at "pl"
      exact ⟨by rw [lim_eq]; omega, es ++ [t], _, _, by rw [List.map_append]; rfl, by simp; omega, hb3, rfl⟩
    · rintro acc S ⟨left, box2, y, rfl, e1, hb2, rfl⟩
      rw [List.length_range] at e1 hb2
      walk_at "pl"
      refine k_blockI pD (fun k acc S => ∃ (es : List (Nat × Nat)) (box' : List D) (y9 y10 : Slot), acc = es.map pD ∧ es.length ≤ k ∧ (∀ p ∈ es, p ∈ coup m) ∧ Box (B + 1 + m + k) box' ∧ S = [.io box', .val (.int m), .val (.int way), .val (.lst ((coup m).map pD)), .un, .un, .val (.lst (left.map (fun (k : Nat) => D.int (k : Int)))), .un, .un, y9, y10, .un]) ?_ ?_ ?_
      · exact ⟨[], box2, _, _, rfl, Nat.le_refl _, (fun _ h => nomatch h), hb2, rfl⟩
      · rintro k hk acc S ⟨es, box', y, z, rfl, e4, e2, e3, rfl⟩
        have hin := List.getElem_mem hk
        obtain ⟨c1, c2⟩ := mem_coup.mp hin
        refine ⟨_, rfl, ?_⟩
        walk_at "pl"
        rw [atN (by omega)]
        walk_at "pl"
        rw [atN (by omega)]
        walk_at "pl"
        by_cases hd : ((left.getD (coup m)[k].fst 0 : Nat) : Int) = ((left.getD (coup m)[k].snd 0 : Nat) : Int)
        · rw [if_neg (by simpa using hd), if_neg (by simpa using hd)]
          exact ⟨es, _, _, _, rfl, by omega, e2, e3.mono (by omega), rfl⟩
        · rw [if_pos (by simpa using hd)]
          refine k_call2 (i := 0) rfl ((take_ok (n + 1) (B + 1 + m + k) box' 3 e3 (by omega) (by omega) (by omega)).mono ?_)
          rintro r o ⟨t, rfl, ht, box3, rfl, hb3⟩
          refine ⟨_, rfl, ?_⟩
          walk_at "pl"
          by_cases ht : t = 0
          · rw [if_neg (by simp; omega)]
            walk_at "pl"
            exact ⟨es, _, _, _, rfl, by omega, e2, hb3, rfl⟩
          · rw [if_pos (by simp; omega)]
            walk_at "pl"
            exact ⟨two_lim, by rw [lim_eq]; omega, es ++ [(coup m)[k]], _, _, _, by rw [List.map_append]; rfl, by simp; omega, app_in e2 hin, hb3, rfl⟩
      · rintro acc S ⟨es, box', y, z, rfl, e4, e2, e3, rfl⟩
        walk_at "pl"
        refine k_call0 ((near_ok (n + 1) m es hm (sub_ok2 (sub_ok e2))).mono ?_)
        rintro r o ⟨rfl, rfl⟩
        refine ⟨rfl, ?_⟩
        walk_at "pl"
        rw [← hl]
        exact draw_tail n m B _ _ _ _ _ _ _ _ _ _ _ (NK_nearF (sub_ok e2)) (e3.mono (by omega)) hB hm
  rw [if_neg (by simp; omega)]
  walk_at "pl"
  by_cases hw5 : way < 6
  · rw [if_pos (by simp; omega)]
    refine k_call2 (i := 0) rfl ((glued_ok (n) m (B + 1) box1 hb1 (by omega) hm).mono ?_)
    rintro r o ⟨near, rfl, hn, box2, rfl, hb2⟩
    refine ⟨_, rfl, ?_⟩
    walk_at "pl"
    rw [← hl]
    exact draw_tail n m B _ _ _ _ _ _ _ _ _ _ _ hn (hb2.mono (by omega)) hB hm
  rw [if_neg (by simp; omega)]
  walk_at "pl"
  by_cases hw6 : way = 6
  · rw [if_pos (by simp; omega)]
    refine ⟨by omega, ?_⟩
    refine k_blockI (fun (k : Nat) => D.int ((1 + k : Nat) : Int)) (fun k acc S => ∃ (es : List (Nat × Nat)) (box' : List D) (y : Slot), acc = es.map pD ∧ es.length = k ∧ (∀ p ∈ es, p ∈ coup m) ∧ Box (B + 1 + k) box' ∧ S = [.io box', .val (.int m), .val (.int way), .val (.lst ((coup m).map pD)), .un, .un, .un, .un, y, .un, .un, .un]) ?_ ?_ ?_
    · exact ⟨[], box1, _, rfl, rfl, (fun _ h => nomatch h), hb1, rfl⟩
    · rintro k hk acc S ⟨es, box', y, rfl, e1, e2, e3, rfl⟩
      simp only [List.getElem_range]
      rw [List.length_range] at hk
      refine ⟨_, rfl, ?_⟩
      walk_at "pl"
      refine k_call2 (i := 0) rfl ((take_ok (n + 1) (B + 1 + k) box' (1 + k) e3 (by omega) (by omega) (by omega)).mono ?_)
      rintro r o ⟨t, rfl, ht, box3, rfl, hb3⟩
      refine ⟨_, rfl, ?_⟩
      walk_at "pl"
      exact ⟨two_lim, by rw [lim_eq]; omega, es ++ [(t, 1 + k)], _, _, by rw [List.map_append]; rfl, by simp; omega, app_in e2 (mem_coup.mpr ⟨ht, by simp only; omega⟩), hb3, rfl⟩
    · rintro acc S ⟨es, box2, y, rfl, e1, e2, hb2, rfl⟩
      rw [List.length_range] at e1 hb2
      walk_at "pl"
      refine k_call0 ((near_ok (n + 1) m es hm (sub_ok2 (sub_ok e2))).mono ?_)
      rintro r o ⟨rfl, rfl⟩
      refine ⟨rfl, ?_⟩
      walk_at "pl"
      refine k_forM pD (fun k S => ∃ (near : List Nat) (box' : List D) (y9 y10 : Slot), NK m near ∧ Box (B + 10 + k) box' ∧ S = [.io box', .val (.int m), .val (.int way), .val (.lst ((coup m).map pD)), .un, .own (near.map fun (k : Nat) => D.int (k : Int)), .un, .un, .un, y9, y10, .un]) ?_ ?_ ?_
      · exact ⟨_, _, _, _, NK_nearF (sub_ok e2), hb2.mono (by omega), rfl⟩
      · rintro k hk S ⟨near, box', y9, y10, h1, e3, rfl⟩
        obtain ⟨c1, c2⟩ := mem_coup.mp (List.getElem_mem hk)
        have h2 := h1.len
        refine ⟨_, rfl, ?_⟩
        walk_at "pl"
        refine k_call2 (i := 0) rfl ((take_ok (n + 1) (B + 10 + k) box' 7 e3 (by omega) (by omega) (by omega)).mono ?_)
        rintro r o ⟨t, rfl, ht, box3, rfl, hb3⟩
        refine ⟨_, rfl, ?_⟩
        walk_at "pl"
        by_cases ht : t = 0
        · rw [if_pos (by simp; omega)]
          walk_at "pl"
          rw [atN (by omega)]
          walk_at "pl"
          refine ⟨by omega, ?_⟩
          rw [atN (by omega)]
          walk_at "pl"
          refine ⟨by omega, ?_⟩
          rw [ixD_nat (by omega)]
          walk_at "pl"
          rw [setN, ixD_nat (by rw [List.length_map, List.length_set]; omega)]
          walk_at "pl"
          rw [setN]
          exact ⟨_, _, _, _, NK_addE h1 (by omega) c2 (by omega), hb3, rfl⟩
        · rw [if_neg (by simp; omega)]
          walk_at "pl"
          exact ⟨_, _, _, _, h1, hb3, rfl⟩
      · rintro S ⟨near, box', y9, y10, h1, e3, rfl⟩
        walk_at "pl"
        rw [← hl]
        exact draw_tail n m B _ _ _ _ _ _ _ _ _ _ _ h1 (e3.mono (by omega)) hB hm
  rw [if_neg (by simp; omega)]
  walk_at "pl"
  by_cases hw7 : way = 7
  · rw [if_pos (by simp; omega)]
    rw [dr_rngM]
    refine ⟨by omega, ?_⟩
    refine k_blockM _ (fun k => [pD (k, k + 1)]) ?_ ?_ ?_
    · rw [flat_one, List.length_map, List.length_range, lim_eq]; omega
    · intro k hk acc ha
      refine ⟨_, rfl, ?_⟩
      walk_at "pl"
      simp only [List.length_cons, List.length_nil] at ha
      exact ⟨two_lim, by omega, rfl⟩
    rw [flat_one, show (List.range (m - 1)).map (fun k => pD (k, k + 1)) = ((List.range (m - 1)).map fun k => (k, k + 1)).map pD from by rw [List.map_map]; rfl]
    have p1 : ∀ p ∈ ((List.range (m - 1)).map fun k => (k, k + 1)), p ∈ coup m := fun p hp => by
      obtain ⟨k, hk, rfl⟩ := List.mem_map.mp hp
      have := List.mem_range.mp hk
      exact mem_coup.mpr ⟨by simp only; omega, by simp only; omega⟩
    have p2 : ((List.range (m - 1)).map fun k => (k, k + 1)).length ≤ 8 := by simp; omega
    generalize ((List.range (m - 1)).map fun k => (k, k + 1)) = base at p1 p2
    walk_at "pl"
    by_cases h2 : 2 < m
    · rw [if_pos (by simp; omega), sub1N (by omega), show base.map pD ++ [D.tup [D.int 0, D.int ((m - 1 : Nat) : Int)]] = (base ++ [(0, m - 1)]).map pD from by rw [List.map_append]; rfl]
      refine ⟨two_lim, by decide, by rw [List.length_map, List.length_append, lim_eq]; simp; omega, ?_⟩
      rw [← hl7]
      refine put7 n m B way _ box1 _ _ _ _ _ _ _ hb1 hB hm (app_in p1 (q := (0, m - 1)) (mem_coup.mpr ⟨by simp only; omega, by simp only; omega⟩)) (by simp; omega) fun near box' y h1 h2 => ?_
      walk_at "pl"
      rw [← hl]
      exact draw_tail n m B _ _ _ _ _ _ _ _ _ _ _ h1 (h2.mono (by omega)) hB hm
    · rw [if_neg (by simp; omega)]
      walk_at "pl"
      refine ⟨by decide, by rw [lim_eq]; omega, ?_⟩
      rw [← hl7]
      refine put7 n m B way _ box1 _ _ _ _ _ _ _ hb1 hB hm p1 (by omega) fun near box' y h1 h2 => ?_
      walk_at "pl"
      rw [← hl]
      exact draw_tail n m B _ _ _ _ _ _ _ _ _ _ _ h1 (h2.mono (by omega)) hB hm
  rw [if_neg (by simp; omega)]
  walk_at "pl"
  refine k_call2 (i := 0) rfl ((glued_ok (n) m (B + 1) box1 hb1 (by omega) hm).mono ?_)
  rintro r o ⟨near, rfl, hn, box2, rfl, hb2⟩
  refine ⟨_, rfl, ?_⟩
  walk_at "pl"
  refine k_call0 ((compl_ok (n + 1) m near hm hn.len).mono ?_)
  rintro r o ⟨rfl, rfl⟩
  refine ⟨rfl, ?_⟩
  walk_at "pl"
  rw [← hl]
  exact draw_tail n m B _ _ _ _ _ _ _ _ _ _ _ (NK_compl hn) (hb2.mono (by omega)) hB hm

end Pl.k09
set_option Elab.async false
set_option linter.all false
set_option maxRecDepth 100000
namespace Pl.k09
open PySem Pl
local macro_rules | `(tactic| walk_at "pl0") => `(tactic| try simp only [↓dW_bind, ↓dW_pure, ↓dW_some, ↓dW_vi, ↓dW_vb, ↓dW_toD, ↓dW_rd, ↓dW_mv, ↓dW_op, ↓dW_own, ↓dW_get_dat, ↓dW_get_at, ↓dW_gets_nil, ↓dW_gets_cons, ↓dW_put, ↓dW_val, ↓dW_bool, ↓dW_tru, ↓dW_nx, ↓dW_ite, ↓dW_keep, ↓de_opv, ↓de_c, ↓de_v, ↓de_io, ↓de_bin, ↓de_un, ↓de_cmp, ↓de_chain, ↓de_and, ↓de_or, ↓de_not, ↓de_ite, ↓de_tup, ↓de_lst, ↓de_ix, ↓de_sl, ↓de_pnil, ↓de_rev, ↓de_fld, ↓de_sfld, ↓de_call, ↓de_make, ↓de_meth, ↓de_blt, ↓de_isi, ↓de_mut, ↓de_lc1, ↓de_es0, ↓de_star, ↓de_ps0, ↓de_ps, ↓de_ts0, ↓de_ts, ↓de_rs0, ↓de_rs, ↓ds_nil, ↓ds_cons, ↓ds_asgn, ↓ds_sto, ↓ds_sub, ↓ds_subX, ↓ds_asgs, ↓ds_asgf, ↓ds_fld, ↓ds_par, ↓ds_stoX0, ↓ds_stoXn, ↓ds_stoXs, ↓ds_unp, ↓ds_unpT, ↓ds_aug, ↓ds_expr, ↓ds_retv, ↓ds_iff, ↓ds_for, ↓ds_wh, ↓ds_pass, ↓ds_brk, ↓ds_cont, ↓do_add, ↓do_sub, ↓do_and, ↓do_or, ↓do_xor, ↓do_mul, ↓do_fdiv, ↓do_mod, ↓do_pow, ↓do_shl, ↓do_shr, ↓do_addL, ↓do_addT, ↓do_inv, ↓do_neg, ↓do_lt, ↓do_le, ↓do_gt, ↓do_ge, ↓do_eq, ↓do_ne, ↓do_item, ↓do_itemT, ↓dt_int, ↓dt_bl, ↓dt_non, ↓dt_lst, ↓dr_seq, ↓dr_seqt, ↓db_len, ↓db_lent, ↓db_lens, ↓db_abs, ↓db_max2, ↓db_min2, ↓db_int, ↓db_tuple, ↓db_tuplet, ↓db_list, ↓db_listt, ↓de_op_c, ↓ds_ret_c, ↓de_es_c, ↓de_pt_c, ↓de_es_v, ↓de_pt_v, ↓de_op_io, ↓ds_ret_io, ↓de_es_io, ↓de_pt_io, ↓de_op_bin, ↓ds_ret_bin, ↓de_es_bin, ↓de_pt_bin, ↓de_op_un, ↓ds_ret_un, ↓de_es_un, ↓de_pt_un, ↓de_op_cmp, ↓ds_ret_cmp, ↓de_es_cmp, ↓de_pt_cmp, ↓de_op_chain, ↓ds_ret_chain, ↓de_es_chain, ↓de_pt_chain, ↓de_op_and, ↓ds_ret_and, ↓de_es_and, ↓de_pt_and, ↓de_op_or, ↓ds_ret_or, ↓de_es_or, ↓de_pt_or, ↓de_op_not, ↓ds_ret_not, ↓de_es_not, ↓de_pt_not, ↓de_op_ite, ↓ds_ret_ite, ↓de_es_ite, ↓de_pt_ite, ↓de_op_tup, ↓ds_ret_tup, ↓de_es_tup, ↓de_pt_tup, ↓de_op_lst, ↓ds_ret_lst, ↓de_es_lst, ↓de_pt_lst, ↓de_op_ix, ↓ds_ret_ix, ↓de_es_ix, ↓de_pt_ix, ↓de_op_sl, ↓ds_ret_sl, ↓de_es_sl, ↓de_pt_sl, ↓de_op_rev, ↓ds_ret_rev, ↓de_es_rev, ↓de_pt_rev, ↓de_op_fld, ↓ds_ret_fld, ↓de_es_fld, ↓de_pt_fld, ↓de_op_sfld, ↓ds_ret_sfld, ↓de_es_sfld, ↓de_pt_sfld, ↓de_op_call, ↓ds_ret_call, ↓de_es_call, ↓de_pt_call, ↓de_op_make, ↓ds_ret_make, ↓de_es_make, ↓de_pt_make, ↓de_op_meth, ↓ds_ret_meth, ↓de_es_meth, ↓de_pt_meth, ↓de_op_blt, ↓ds_ret_blt, ↓de_es_blt, ↓de_pt_blt, ↓de_op_bmt, ↓ds_ret_bmt, ↓de_es_bmt, ↓de_pt_bmt, ↓de_op_isi, ↓ds_ret_isi, ↓de_es_isi, ↓de_pt_isi, ↓de_op_mut, ↓ds_ret_mut, ↓de_es_mut, ↓de_pt_mut, ↓de_op_lc1, ↓ds_ret_lc1, ↓de_es_lc1, ↓de_pt_lc1, ↓de_op_lc2, ↓ds_ret_lc2, ↓de_es_lc2, ↓de_pt_lc2, ↓do_mulN, ↓do_from1, ↓do_to, ↓do_to1, ↓do_part, min2N, ↓db_lrng1, ↓db_trng1, ↓ds_parL2, ↓ds_parL3, ↓dm_app, ↓dm_ext, ↓dm_rev, ↓d_neints, ↓d_eqints, ↓dr_rng1c, ↓dr_rng2c, ↓dr_rng2o, ↓atD_0, ↓atD_1, ↓atD_2, ↓atD_3, ↓ixD_0, ↓ixD_3, getS_0, getS_s, List.set_cons_zero, List.set_cons_succ, stoV, RV.d, endC, tnC, wipeS, backAll, if_true, if_false, Bool.false_eq_true, pmD, List.getElem?_cons_zero, List.getElem?_cons_succ, List.cons_append, List.nil_append, List.append_nil, Option.map_some, shl1N, shlN, shrN, and1N, andN, orN, xorN, andnN, nandN, tstb, List.length_cons, List.length_nil, List.length_map, List.length_range, Nat.zero_add, Nat.reduceAdd, Nat.reduceLT, Nat.reduceLeDiff, true_and])
local macro_rules | `(tactic| walk_at "pl") => `(tactic| try simp only [↓dW_bind, ↓dW_pure, ↓dW_some, ↓dW_vi, ↓dW_vb, ↓dW_toD, ↓dW_rd, ↓dW_mv, ↓dW_op, ↓dW_own, ↓dW_get_dat, ↓dW_get_at, ↓dW_gets_nil, ↓dW_gets_cons, ↓dW_put, ↓dW_val, ↓dW_bool, ↓dW_tru, ↓dW_nx, ↓dW_ite, ↓dW_keep, ↓de_opv, ↓de_c, ↓de_v, ↓de_io, ↓de_bin, ↓de_un, ↓de_cmp, ↓de_chain, ↓de_and, ↓de_or, ↓de_not, ↓de_ite, ↓de_tup, ↓de_lst, ↓de_ix, ↓de_sl, ↓de_pnil, ↓de_rev, ↓de_fld, ↓de_sfld, ↓de_call, ↓de_make, ↓de_meth, ↓de_blt, ↓de_isi, ↓de_mut, ↓de_lc1, ↓de_es0, ↓de_star, ↓de_ps0, ↓de_ps, ↓de_ts0, ↓de_ts, ↓de_rs0, ↓de_rs, ↓ds_nil, ↓ds_cons, ↓ds_asgn, ↓ds_sto, ↓ds_sub, ↓ds_subX, ↓ds_asgs, ↓ds_asgf, ↓ds_fld, ↓ds_par, ↓ds_stoX0, ↓ds_stoXn, ↓ds_stoXs, ↓ds_unp, ↓ds_unpT, ↓ds_aug, ↓ds_expr, ↓ds_retv, ↓ds_iff, ↓ds_for, ↓ds_wh, ↓ds_pass, ↓ds_brk, ↓ds_cont, ↓do_add, ↓do_sub, ↓do_and, ↓do_or, ↓do_xor, ↓do_mul, ↓do_fdiv, ↓do_mod, ↓do_pow, ↓do_shl, ↓do_shr, ↓do_addL, ↓do_addT, ↓do_inv, ↓do_neg, ↓do_lt, ↓do_le, ↓do_gt, ↓do_ge, ↓do_eq, ↓do_ne, ↓do_item, ↓do_itemT, ↓dt_int, ↓dt_bl, ↓dt_non, ↓dt_lst, ↓dr_seq, ↓dr_seqt, ↓db_len, ↓db_lent, ↓db_lens, ↓db_abs, ↓db_max2, ↓db_min2, ↓db_int, ↓db_tuple, ↓db_tuplet, ↓db_list, ↓db_listt, ↓de_op_c, ↓ds_ret_c, ↓de_es_c, ↓de_pt_c, ↓de_es_v, ↓de_pt_v, ↓de_op_io, ↓ds_ret_io, ↓de_es_io, ↓de_pt_io, ↓de_op_bin, ↓ds_ret_bin, ↓de_es_bin, ↓de_pt_bin, ↓de_op_un, ↓ds_ret_un, ↓de_es_un, ↓de_pt_un, ↓de_op_cmp, ↓ds_ret_cmp, ↓de_es_cmp, ↓de_pt_cmp, ↓de_op_chain, ↓ds_ret_chain, ↓de_es_chain, ↓de_pt_chain, ↓de_op_and, ↓ds_ret_and, ↓de_es_and, ↓de_pt_and, ↓de_op_or, ↓ds_ret_or, ↓de_es_or, ↓de_pt_or, ↓de_op_not, ↓ds_ret_not, ↓de_es_not, ↓de_pt_not, ↓de_op_ite, ↓ds_ret_ite, ↓de_es_ite, ↓de_pt_ite, ↓de_op_tup, ↓ds_ret_tup, ↓de_es_tup, ↓de_pt_tup, ↓de_op_lst, ↓ds_ret_lst, ↓de_es_lst, ↓de_pt_lst, ↓de_op_ix, ↓ds_ret_ix, ↓de_es_ix, ↓de_pt_ix, ↓de_op_sl, ↓ds_ret_sl, ↓de_es_sl, ↓de_pt_sl, ↓de_op_rev, ↓ds_ret_rev, ↓de_es_rev, ↓de_pt_rev, ↓de_op_fld, ↓ds_ret_fld, ↓de_es_fld, ↓de_pt_fld, ↓de_op_sfld, ↓ds_ret_sfld, ↓de_es_sfld, ↓de_pt_sfld, ↓de_op_call, ↓ds_ret_call, ↓de_es_call, ↓de_pt_call, ↓de_op_make, ↓ds_ret_make, ↓de_es_make, ↓de_pt_make, ↓de_op_meth, ↓ds_ret_meth, ↓de_es_meth, ↓de_pt_meth, ↓de_op_blt, ↓ds_ret_blt, ↓de_es_blt, ↓de_pt_blt, ↓de_op_bmt, ↓ds_ret_bmt, ↓de_es_bmt, ↓de_pt_bmt, ↓de_op_isi, ↓ds_ret_isi, ↓de_es_isi, ↓de_pt_isi, ↓de_op_mut, ↓ds_ret_mut, ↓de_es_mut, ↓de_pt_mut, ↓de_op_lc1, ↓ds_ret_lc1, ↓de_es_lc1, ↓de_pt_lc1, ↓de_op_lc2, ↓ds_ret_lc2, ↓de_es_lc2, ↓de_pt_lc2, ↓do_mulN, ↓do_from1, ↓do_to, ↓do_to1, ↓do_part, min2N, ↓db_lrng1, ↓db_trng1, ↓ds_parL2, ↓ds_parL3, ↓dm_app, ↓dm_ext, ↓dm_rev, ↓d_neints, ↓d_eqints, ↓dr_rng1c, ↓dr_rng2c, ↓dr_rng2o, ↓atD_0, ↓atD_1, ↓atD_2, ↓atD_3, ↓ixD_0, ↓ixD_3, getS_0, getS_s, List.set_cons_zero, List.set_cons_succ, stoV, RV.d, endC, tnC, wipeS, backAll, if_true, if_false, Bool.false_eq_true, pmD, List.getElem?_cons_zero, List.getElem?_cons_succ, List.cons_append, List.nil_append, List.append_nil, Option.map_some, shl1N, shlN, shrN, and1N, andN, orN, xorN, andnN, nandN, tstb, List.length_cons, List.length_nil, List.length_map, List.length_range, Nat.zero_add, Nat.reduceAdd, Nat.reduceLT, Nat.reduceLeDiff, true_and, List.getElem_range, addN, add1N, oneaN, pow1N, small1, nn0, le1000, and_true])
local macro_rules | `(tactic| walk_at "pa") => `(tactic| (simp only [atN, ixD_nat, setN, List.length_set, List.length_map, *]; walk_at "pl"))

theorem notin_pairs {S : Sl} {p : Nat × Nat} {es : List (Nat × Nat)} {Q : Bool → Sl → Prop} : Wq (M.opt (cmpD .notin (pD p) (.lst (es.map pD)))) S Q = Q (!decide (p ∈ es)) S := by
  have h : cmpD .notin (pD p) (.lst (es.map pD)) = some (!decide (p ∈ es)) := by
    have e1 : (pys (es.map pD)).any (fun z => PyData.eqv z (pD p).py) = decide (p ∈ es) := by
      induction es with
      | nil => rfl
      | cons q es ih =>
        rw [List.map_cons, pys, List.any_cons, ih, eqf_pair]
        by_cases h1 : q = p
        · simp [h1]
        · by_cases h2 : p ∈ es
          · simp [h2]
          · simp [h1, h2]; exact fun e => h1 e.symm
    show (if (flat (pD p) && (es.map pD).all flat) = true then some (!inF (pD p) (es.map pD)) else if ((pD p).plain && (D.lst (es.map pD)).plain) = true then some (!(pys (es.map pD)).any fun z => PyData.eqv z (pD p).py) else none) = _
    rw [if_neg (by simp [pD, flat]), (pk_pair p).plain (by omega), (pk_lst (k := 1) (xs := es.map pD) fun x hx => by obtain ⟨q, _, rfl⟩ := List.mem_map.mp hx; exact pk_pair q).plain (by omega)]
    simp only [Bool.and_self, if_true]
    rw [e1]
  rw [Wd_eq, h]; rfl
theorem size_ok (n B : Nat) (box : List D) (hb : Box B box) (hB : B + 200 ≤ 1000000) : Wk ((gam pr (n + 2)).call 38 [.non] (some box)) fun r o => ∃ k : Nat, r = .val (.int (k : Int)) ∧ k ≤ 8 ∧ ∃ box', o = some box' ∧ Box (B + 3) box' := by
  refine k_call fn38 (k_run1 (i := 0) (S := [.io box]) rfl rfl ?_)
  simp only [f38, b38]
  walk_at "pl"
  refine ⟨by decide, ?_⟩
  refine k_call2 (i := 0) rfl ((take_ok n B box 3 hb (by omega) (by omega) (by omega)).mono ?_)
  rintro r o ⟨t, rfl, ht, box2, rfl, hb2⟩
  refine ⟨_, rfl, ?_⟩
  walk_at "pl"
  rw [show [D.int 0, D.int 1, D.int 2] = [0, 1, 2].map (fun (k : Nat) => D.int (k : Int)) from rfl]
  rw [atN (by simp; omega)]
  walk_at "pl"
  refine k_call2 (i := 0) rfl ((take_ok n (B + 1) box2 2 hb2 (by omega) (by omega) (by omega)).mono ?_)
  rintro r o ⟨u, rfl, hu, box3, rfl, hb3⟩
  refine ⟨_, rfl, ?_⟩
  walk_at "pl"
  refine ⟨by decide, ?_⟩
  refine k_call2 (i := 0) rfl ((take_ok n (B + 2) box3 8 hb3 (by omega) (by omega) (by omega)).mono ?_)
  rintro r o ⟨v, rfl, hv, box4, rfl, hb4⟩
  refine ⟨_, rfl, ?_⟩
  have hw : ∀ k, k < 8 → ([4, 5, 6, 3, 5, 6, [0, 1, 2].getD t 0, 7 + u] : List Nat).getD k 0 ≤ 8 := by
    intro k hk
    have h6 : [0, 1, 2].getD t 0 ≤ 2 := by
      match t, ht with
      | 0, _ => decide
      | 1, _ => decide
      | 2, _ => decide
    match k, hk with
    | 0, _ => simp
    | 1, _ => simp
    | 2, _ => simp
    | 3, _ => simp
    | 4, _ => simp
    | 5, _ => simp
    | 6, _ => show [0, 1, 2].getD t 0 ≤ 8; omega
    | 7, _ => show 7 + u ≤ 8; omega
  walk_at "pl"
  rw [show [D.int 4, D.int 5, D.int 6, D.int 3, D.int 5, D.int 6, D.int (([0, 1, 2].getD t 0 : Nat) : Int), D.int (7 + (u : Int))] = ([4, 5, 6, 3, 5, 6, [0, 1, 2].getD t 0, 7 + u] : List Nat).map (fun (k : Nat) => D.int (k : Int)) from by simp]
  rw [atN (by simp; omega)]
  exact ⟨_, rfl, hw v hv, _, rfl, hb4⟩
theorem close_ok (n m B : Nat) (box : List D) (hb : Box B box) (hB : B + 200 ≤ 1000000) (hm : m ≤ 8) : Wk ((gam pr (n + 3)).call 42 [.non, .int (m : Int)] (some box)) (Drew m (B + 100)) := by
  refine k_call fn42 (k_run1 (i := 0) (S := [.io box, .val (.int m), .un, .un, .un, .un]) rfl rfl ?_)
  have hc28 := coup_len hm
  simp only [f42, b42]
  walk_at "pl"
  refine k_call0 ((couples_ok (n + 1) m hm).mono ?_)
  rintro r o ⟨rfl, rfl⟩
  refine ⟨rfl, ?_⟩
  walk_at "pl"
  refine k_call2 (i := 0) rfl ((mixed_ok n B box (coup m).length hb (by omega) (by omega)).mono ?_)
  rintro r o ⟨im, rfl, him, box1, rfl, hb1⟩
  refine ⟨_, rfl, ?_⟩
  walk_at "pl"
  refine k_call2 (i := 0) rfl ((take_ok (n + 1) (B + (coup m).length) box1 4 hb1 (by omega) (by omega) (by omega)).mono ?_)
  rintro r o ⟨t, rfl, ht, box2, rfl, hb2⟩
  refine ⟨_, rfl, ?_⟩
  walk_at "pl"
  rw [← List.map_take]
  have hb3 := him.2.2
  have hb4 : (im.take t).length ≤ 28 := by rw [List.length_take, him.2.1]; omega
  refine k_blockM (fun (k : Nat) => D.int (k : Int)) (fun k => [pD ((coup m).getD k (0, 0))]) ?_ ?_ ?_
  · rw [flat_one, List.length_map, lim_eq]; omega
  · intro k hk acc ha
    have hk := hb3 k (List.mem_of_mem_take hk)
    refine ⟨_, rfl, ?_⟩
    walk_at "pl"
    rw [atD_map hk]
    walk_at "pl"
    simp only [List.length_cons, List.length_nil] at ha
    exact ⟨by omega, by rw [List.getD_eq_getElem?_getD, List.getElem?_eq_getElem hk]; rfl⟩
  · rw [flat_one]
    rw [show (im.take t).map (fun k => pD ((coup m).getD k (0, 0))) = ((im.take t).map fun k => (coup m).getD k (0, 0)).map pD from by rw [List.map_map]; rfl]
    generalize ((im.take t).map fun k => (coup m).getD k (0, 0)) = gone
    walk_at "pl"
    refine k_blockM pD (fun p => if (!decide (p ∈ gone)) = true then [pD p] else []) ?_ ?_ ?_
    · rw [flat_if, List.length_map]
      have := List.length_filter_le (fun p => !decide (p ∈ gone)) (coup m)
      rw [lim_eq]; omega
    · intro p hp acc ha
      refine ⟨_, rfl, ?_⟩
      walk_at "pl"
      rw [notin_pairs]
      walk_at "pl"
      exact cf1 ha
    · rw [flat_if]
      walk_at "pl"
      have e : ∀ p ∈ (coup m).filter (fun p => !decide (p ∈ gone)), p ∈ coup m := fun p hp => (List.mem_filter.mp hp).1
      refine k_call0 ((near_ok (n + 1) m _ hm (sub_ok2 (sub_ok e))).mono ?_)
      rintro r o ⟨rfl, rfl⟩
      refine ⟨rfl, ?_⟩
      walk_at "pl"
      exact ⟨_, rfl, NK_nearF (sub_ok e), _, rfl, hb2.mono (by omega)⟩

end Pl.k09
set_option Elab.async false
set_option linter.all false
set_option maxRecDepth 100000
namespace Pl.k09
open PySem Pl
local macro_rules | `(tactic| walk_at "pl0") => `(tactic| try simp only [↓dW_bind, ↓dW_pure, ↓dW_some, ↓dW_vi, ↓dW_vb, ↓dW_toD, ↓dW_rd, ↓dW_mv, ↓dW_op, ↓dW_own, ↓dW_get_dat, ↓dW_get_at, ↓dW_gets_nil, ↓dW_gets_cons, ↓dW_put, ↓dW_val, ↓dW_bool, ↓dW_tru, ↓dW_nx, ↓dW_ite, ↓dW_keep, ↓de_opv, ↓de_c, ↓de_v, ↓de_io, ↓de_bin, ↓de_un, ↓de_cmp, ↓de_chain, ↓de_and, ↓de_or, ↓de_not, ↓de_ite, ↓de_tup, ↓de_lst, ↓de_ix, ↓de_sl, ↓de_pnil, ↓de_rev, ↓de_fld, ↓de_sfld, ↓de_call, ↓de_make, ↓de_meth, ↓de_blt, ↓de_isi, ↓de_mut, ↓de_lc1, ↓de_es0, ↓de_star, ↓de_ps0, ↓de_ps, ↓de_ts0, ↓de_ts, ↓de_rs0, ↓de_rs, ↓ds_nil, ↓ds_cons, ↓ds_asgn, ↓ds_sto, ↓ds_sub, ↓ds_subX, ↓ds_asgs, ↓ds_asgf, ↓ds_fld, ↓ds_par, ↓ds_stoX0, ↓ds_stoXn, ↓ds_stoXs, ↓ds_unp, ↓ds_unpT, ↓ds_aug, ↓ds_expr, ↓ds_retv, ↓ds_iff, ↓ds_for, ↓ds_wh, ↓ds_pass, ↓ds_brk, ↓ds_cont, ↓do_add, ↓do_sub, ↓do_and, ↓do_or, ↓do_xor, ↓do_mul, ↓do_fdiv, ↓do_mod, ↓do_pow, ↓do_shl, ↓do_shr, ↓do_addL, ↓do_addT, ↓do_inv, ↓do_neg, ↓do_lt, ↓do_le, ↓do_gt, ↓do_ge, ↓do_eq, ↓do_ne, ↓do_item, ↓do_itemT, ↓dt_int, ↓dt_bl, ↓dt_non, ↓dt_lst, ↓dr_seq, ↓dr_seqt, ↓db_len, ↓db_lent, ↓db_lens, ↓db_abs, ↓db_max2, ↓db_min2, ↓db_int, ↓db_tuple, ↓db_tuplet, ↓db_list, ↓db_listt, ↓de_op_c, ↓ds_ret_c, ↓de_es_c, ↓de_pt_c, ↓de_es_v, ↓de_pt_v, ↓de_op_io, ↓ds_ret_io, ↓de_es_io, ↓de_pt_io, ↓de_op_bin, ↓ds_ret_bin, ↓de_es_bin, ↓de_pt_bin, ↓de_op_un, ↓ds_ret_un, ↓de_es_un, ↓de_pt_un, ↓de_op_cmp, ↓ds_ret_cmp, ↓de_es_cmp, ↓de_pt_cmp, ↓de_op_chain, ↓ds_ret_chain, ↓de_es_chain, ↓de_pt_chain, ↓de_op_and, ↓ds_ret_and, ↓de_es_and, ↓de_pt_and, ↓de_op_or, ↓ds_ret_or, ↓de_es_or, ↓de_pt_or, ↓de_op_not, ↓ds_ret_not, ↓de_es_not, ↓de_pt_not, ↓de_op_ite, ↓ds_ret_ite, ↓de_es_ite, ↓de_pt_ite, ↓de_op_tup, ↓ds_ret_tup, ↓de_es_tup, ↓de_pt_tup, ↓de_op_lst, ↓ds_ret_lst, ↓de_es_lst, ↓de_pt_lst, ↓de_op_ix, ↓ds_ret_ix, ↓de_es_ix, ↓de_pt_ix, ↓de_op_sl, ↓ds_ret_sl, ↓de_es_sl, ↓de_pt_sl, ↓de_op_rev, ↓ds_ret_rev, ↓de_es_rev, ↓de_pt_rev, ↓de_op_fld, ↓ds_ret_fld, ↓de_es_fld, ↓de_pt_fld, ↓de_op_sfld, ↓ds_ret_sfld, ↓de_es_sfld, ↓de_pt_sfld, ↓de_op_call, ↓ds_ret_call, ↓de_es_call, ↓de_pt_call, ↓de_op_make, ↓ds_ret_make, ↓de_es_make, ↓de_pt_make, ↓de_op_meth, ↓ds_ret_meth, ↓de_es_meth, ↓de_pt_meth, ↓de_op_blt, ↓ds_ret_blt, ↓de_es_blt, ↓de_pt_blt, ↓de_op_bmt, ↓ds_ret_bmt, ↓de_es_bmt, ↓de_pt_bmt, ↓de_op_isi, ↓ds_ret_isi, ↓de_es_isi, ↓de_pt_isi, ↓de_op_mut, ↓ds_ret_mut, ↓de_es_mut, ↓de_pt_mut, ↓de_op_lc1, ↓ds_ret_lc1, ↓de_es_lc1, ↓de_pt_lc1, ↓de_op_lc2, ↓ds_ret_lc2, ↓de_es_lc2, ↓de_pt_lc2, ↓di_int_bool, ↓di_int_int, ↓di_int_str, ↓di_int_tuple, ↓di_int_list, ↓dn_int_non, ↓di_tup_bool, ↓di_tup_int, ↓di_tup_str, ↓di_tup_tuple, ↓di_tup_list, ↓dn_tup_non, ↓di_lst_bool, ↓di_lst_int, ↓di_lst_str, ↓di_lst_tuple, ↓di_lst_list, ↓dn_lst_non, ↓di_bl_bool, ↓di_bl_int, ↓di_bl_str, ↓di_bl_tuple, ↓di_bl_list, ↓dn_bl_non, ↓di_str_bool, ↓di_str_int, ↓di_str_str, ↓di_str_tuple, ↓di_str_list, ↓dn_str_non, ↓di_obj_bool, ↓di_obj_int, ↓di_obj_str, ↓di_obj_tuple, ↓di_obj_list, ↓dn_ne_bl, ↓dn_eq_bl, ↓dn_obj, ↓dz_to1, ↓dz_sum, beq_self_eq_true, bne_self_eq_false, Bool.not_true, Bool.not_false, decide_true, decide_false, ↓do_mulN, ↓do_from1, ↓do_to, ↓do_to1, ↓do_part, min2N, ↓db_lrng1, ↓db_trng1, ↓ds_parL2, ↓ds_parL3, ↓dm_app, ↓dm_ext, ↓dm_rev, ↓d_neints, ↓d_eqints, ↓dr_rng1c, ↓dr_rng2c, ↓dr_rng2o, ↓atD_0, ↓atD_1, ↓atD_2, ↓atD_3, ↓ixD_0, ↓ixD_3, getS_0, getS_s, List.set_cons_zero, List.set_cons_succ, stoV, RV.d, endC, tnC, wipeS, backAll, if_true, if_false, Bool.false_eq_true, pmD, List.getElem?_cons_zero, List.getElem?_cons_succ, List.cons_append, List.nil_append, List.append_nil, Option.map_some, shl1N, shlN, shrN, and1N, andN, orN, xorN, andnN, nandN, tstb, List.length_cons, List.length_nil, List.length_map, List.length_range, Nat.zero_add, Nat.reduceAdd, Nat.reduceLT, Nat.reduceLeDiff, true_and])
local macro_rules | `(tactic| walk_at "pl") => `(tactic| try simp only [↓dW_bind, ↓dW_pure, ↓dW_some, ↓dW_vi, ↓dW_vb, ↓dW_toD, ↓dW_rd, ↓dW_mv, ↓dW_op, ↓dW_own, ↓dW_get_dat, ↓dW_get_at, ↓dW_gets_nil, ↓dW_gets_cons, ↓dW_put, ↓dW_val, ↓dW_bool, ↓dW_tru, ↓dW_nx, ↓dW_ite, ↓dW_keep, ↓de_opv, ↓de_c, ↓de_v, ↓de_io, ↓de_bin, ↓de_un, ↓de_cmp, ↓de_chain, ↓de_and, ↓de_or, ↓de_not, ↓de_ite, ↓de_tup, ↓de_lst, ↓de_ix, ↓de_sl, ↓de_pnil, ↓de_rev, ↓de_fld, ↓de_sfld, ↓de_call, ↓de_make, ↓de_meth, ↓de_blt, ↓de_isi, ↓de_mut, ↓de_lc1, ↓de_es0, ↓de_star, ↓de_ps0, ↓de_ps, ↓de_ts0, ↓de_ts, ↓de_rs0, ↓de_rs, ↓ds_nil, ↓ds_cons, ↓ds_asgn, ↓ds_sto, ↓ds_sub, ↓ds_subX, ↓ds_asgs, ↓ds_asgf, ↓ds_fld, ↓ds_par, ↓ds_stoX0, ↓ds_stoXn, ↓ds_stoXs, ↓ds_unp, ↓ds_unpT, ↓ds_aug, ↓ds_expr, ↓ds_retv, ↓ds_iff, ↓ds_for, ↓ds_wh, ↓ds_pass, ↓ds_brk, ↓ds_cont, ↓do_add, ↓do_sub, ↓do_and, ↓do_or, ↓do_xor, ↓do_mul, ↓do_fdiv, ↓do_mod, ↓do_pow, ↓do_shl, ↓do_shr, ↓do_addL, ↓do_addT, ↓do_inv, ↓do_neg, ↓do_lt, ↓do_le, ↓do_gt, ↓do_ge, ↓do_eq, ↓do_ne, ↓do_item, ↓do_itemT, ↓dt_int, ↓dt_bl, ↓dt_non, ↓dt_lst, ↓dr_seq, ↓dr_seqt, ↓db_len, ↓db_lent, ↓db_lens, ↓db_abs, ↓db_max2, ↓db_min2, ↓db_int, ↓db_tuple, ↓db_tuplet, ↓db_list, ↓db_listt, ↓de_op_c, ↓ds_ret_c, ↓de_es_c, ↓de_pt_c, ↓de_es_v, ↓de_pt_v, ↓de_op_io, ↓ds_ret_io, ↓de_es_io, ↓de_pt_io, ↓de_op_bin, ↓ds_ret_bin, ↓de_es_bin, ↓de_pt_bin, ↓de_op_un, ↓ds_ret_un, ↓de_es_un, ↓de_pt_un, ↓de_op_cmp, ↓ds_ret_cmp, ↓de_es_cmp, ↓de_pt_cmp, ↓de_op_chain, ↓ds_ret_chain, ↓de_es_chain, ↓de_pt_chain, ↓de_op_and, ↓ds_ret_and, ↓de_es_and, ↓de_pt_and, ↓de_op_or, ↓ds_ret_or, ↓de_es_or, ↓de_pt_or, ↓de_op_not, ↓ds_ret_not, ↓de_es_not, ↓de_pt_not, ↓de_op_ite, ↓ds_ret_ite, ↓de_es_ite, ↓de_pt_ite, ↓de_op_tup, ↓ds_ret_tup, ↓de_es_tup, ↓de_pt_tup, ↓de_op_lst, ↓ds_ret_lst, ↓de_es_lst, ↓de_pt_lst, ↓de_op_ix, ↓ds_ret_ix, ↓de_es_ix, ↓de_pt_ix, ↓de_op_sl, ↓ds_ret_sl, ↓de_es_sl, ↓de_pt_sl, ↓de_op_rev, ↓ds_ret_rev, ↓de_es_rev, ↓de_pt_rev, ↓de_op_fld, ↓ds_ret_fld, ↓de_es_fld, ↓de_pt_fld, ↓de_op_sfld, ↓ds_ret_sfld, ↓de_es_sfld, ↓de_pt_sfld, ↓de_op_call, ↓ds_ret_call, ↓de_es_call, ↓de_pt_call, ↓de_op_make, ↓ds_ret_make, ↓de_es_make, ↓de_pt_make, ↓de_op_meth, ↓ds_ret_meth, ↓de_es_meth, ↓de_pt_meth, ↓de_op_blt, ↓ds_ret_blt, ↓de_es_blt, ↓de_pt_blt, ↓de_op_bmt, ↓ds_ret_bmt, ↓de_es_bmt, ↓de_pt_bmt, ↓de_op_isi, ↓ds_ret_isi, ↓de_es_isi, ↓de_pt_isi, ↓de_op_mut, ↓ds_ret_mut, ↓de_es_mut, ↓de_pt_mut, ↓de_op_lc1, ↓ds_ret_lc1, ↓de_es_lc1, ↓de_pt_lc1, ↓de_op_lc2, ↓ds_ret_lc2, ↓de_es_lc2, ↓de_pt_lc2, ↓di_int_bool, ↓di_int_int, ↓di_int_str, ↓di_int_tuple, ↓di_int_list, ↓dn_int_non, ↓di_tup_bool, ↓di_tup_int, ↓di_tup_str, ↓di_tup_tuple, ↓di_tup_list, ↓dn_tup_non, ↓di_lst_bool, ↓di_lst_int, ↓di_lst_str, ↓di_lst_tuple, ↓di_lst_list, ↓dn_lst_non, ↓di_bl_bool, ↓di_bl_int, ↓di_bl_str, ↓di_bl_tuple, ↓di_bl_list, ↓dn_bl_non, ↓di_str_bool, ↓di_str_int, ↓di_str_str, ↓di_str_tuple, ↓di_str_list, ↓dn_str_non, ↓di_obj_bool, ↓di_obj_int, ↓di_obj_str, ↓di_obj_tuple, ↓di_obj_list, ↓dn_ne_bl, ↓dn_eq_bl, ↓dn_obj, ↓dz_to1, ↓dz_sum, beq_self_eq_true, bne_self_eq_false, Bool.not_true, Bool.not_false, decide_true, decide_false, ↓do_mulN, ↓do_from1, ↓do_to, ↓do_to1, ↓do_part, min2N, ↓db_lrng1, ↓db_trng1, ↓ds_parL2, ↓ds_parL3, ↓dm_app, ↓dm_ext, ↓dm_rev, ↓d_neints, ↓d_eqints, ↓dr_rng1c, ↓dr_rng2c, ↓dr_rng2o, ↓atD_0, ↓atD_1, ↓atD_2, ↓atD_3, ↓ixD_0, ↓ixD_3, getS_0, getS_s, List.set_cons_zero, List.set_cons_succ, stoV, RV.d, endC, tnC, wipeS, backAll, if_true, if_false, Bool.false_eq_true, pmD, List.getElem?_cons_zero, List.getElem?_cons_succ, List.cons_append, List.nil_append, List.append_nil, Option.map_some, shl1N, shlN, shrN, and1N, andN, orN, xorN, andnN, nandN, tstb, List.length_cons, List.length_nil, List.length_map, List.length_range, Nat.zero_add, Nat.reduceAdd, Nat.reduceLT, Nat.reduceLeDiff, true_and, List.getElem_range, addN, add1N, oneaN, pow1N, small1, nn0, le1000, and_true])
local macro_rules | `(tactic| walk_at "pa") => `(tactic| (simp only [atN, ixD_nat, setN, List.length_set, List.length_map, *]; walk_at "pl"))

/-- the judge's own equality gives the answer of an equality -/
def Same (n : Nat) {ι : Type} [DecidableEq ι] (f : ι → D) : Prop := ∀ a b, Wk ((gam pr n).call 24 [f a, f b] none) fun r o => r = .val (.bl (decide (a = b))) ∧ o = none
theorem same_int (n : Nat) : Same (n + 1) D.int := fun a b => by
  refine k_call fn24 (k_run0 (S := [.val (.int a), .val (.int b), .un]) rfl rfl ?_)
  simp only [f24, b24]
  walk_at "pl"
  show RV.val (D.bl (decide (a - b = 0))) = _
  congr 2; rw [decide_eq_decide]; omega
theorem same_tup (n : Nat) {ι : Type} [DecidableEq ι] {f : ι → D} (h : Same n f) (l m : List ι) (hl : l.length ≤ 1000) (hm : m.length ≤ 1000) : Wk ((gam pr (n + 1)).call 24 [.tup (l.map f), .tup (m.map f)] none) fun r o => r = .val (.bl (decide (l = m))) ∧ o = none := by
  refine k_call fn24 (k_run0 (S := [.val (.tup (l.map f)), .val (.tup (m.map f)), .un]) rfl rfl ?_)
  simp only [f24, b24]
  walk_at "pl"
  by_cases e : l.length = m.length
  · rw [if_pos (by simp [e])]
    refine ⟨by omega, ?_⟩
    refine k_blockM (fun (k : Nat) => D.int (k : Int)) (fun k => if (!decide (l[k]? = m[k]?)) = true then [D.int (k : Int)] else []) ?_ ?_ ?_
    · rw [flat_if, List.length_map]
      have := List.length_filter_le (fun k => !decide (l[k]? = m[k]?)) (List.range m.length)
      rw [List.length_range] at this
      rw [lim_eq]; omega
    · intro k hk acc ha
      have hk := List.mem_range.mp hk
      have hk2 : k < l.length := by omega
      refine ⟨_, rfl, ?_⟩
      walk_at "pl"
      rw [atD_map hk2]
      walk_at "pl"
      rw [atD_map hk]
      walk_at "pl"
      refine k_call0 ((h l[k] m[k]).mono ?_)
      rintro r o ⟨rfl, rfl⟩
      refine ⟨rfl, ?_⟩
      walk_at "pl"
      rw [show decide (l[k] = m[k]) = decide (l[k]? = m[k]?) from by rw [decide_eq_decide, List.getElem?_eq_getElem hk2, List.getElem?_eq_getElem hk, Option.some.injEq]]
      exact cf1 ha
    · rw [flat_if]
      walk_at "pl"
      refine ⟨by decide, ?_⟩
      congr 2
      rw [Bool.eq_iff_iff, decide_eq_true_eq, List.isEmpty_iff, List.filter_eq_nil_iff]
      constructor
      · intro q
        refine List.ext_getElem? fun i => ?_
        by_cases hi : i < m.length
        · have := q i (List.mem_range.mpr hi)
          simpa using this
        · rw [List.getElem?_eq_none (by omega), List.getElem?_eq_none (by omega)]
      · rintro rfl; simp
  · rw [if_neg (by simp; omega)]
    congr 2; rw [decide_eq_decide]; exact ⟨fun q => absurd (by exact_mod_cast q) e, fun q => absurd (congrArg List.length q) e⟩
theorem dr_rng8 {S : Sl} {Q : List D → Sl → Prop} : Wq (M.opt (walkD .rng1 [.int 8])) S Q = Q ((List.range 8).map fun (k : Nat) => D.int (k : Int)) S := by
  rw [Wd_eq]; rfl
theorem d_scr {S : Sl} {QR : RV → Sl → Prop} {ns : List Int} {k : Nat} (h : k < ns.length) : Wq (M.opt (itemD (.scr ns) (.int (k : Int)))) S QR = QR (.val (.int (ns[k]'h))) S := by
  have e : L2.atI ns (k : Int) = some (ns[k]'h) := L2.atI_nat (List.getElem?_eq_getElem h)
  rw [Wd_eq]
  show W (M.opt ((L2.atI ns (k : Int)).map fun j => .val (.int j)) S) QR = _
  rw [e]; rfl
theorem count_ok (n a : Nat) : Wk ((gam pr (n + 1)).call 27 [.int (a : Int)] none) fun r o => r = .val (.int ((bitsB 8 a).length : Int)) ∧ o = none := by
  refine k_call fn27 (k_run0 (S := [.val (.int a), .un]) rfl rfl ?_)
  simp only [f27, b27]
  walk_at "pl"
  rw [dr_rng8]
  refine k_blockM (fun (k : Nat) => D.int (k : Int)) (fun v => if a.testBit v = true then [D.int (v : Int)] else []) ?_ ?_ ?_
  · rw [flat_if, List.length_map]
    have := List.length_filter_le a.testBit (List.range 8)
    rw [List.length_range] at this
    rw [lim_eq]; omega
  · intro v hv acc ha
    refine ⟨_, rfl, ?_⟩
    walk_at "pl"
    exact cf1 ha
  · rw [flat_if]
    walk_at "pl"
    first | rfl | exact ⟨rfl, rfl⟩
theorem cell_ok (n k : Nat) (ns : List Int) (hk : k < 8) : Wk ((gam pr (n + 1)).call 21 [.scr ns, .int (k : Int)] none) fun r o => (∃ i : Int, r = .val (.int i)) ∧ o = none := by
  refine k_call fn21 (k_run0 (S := [.val (.scr ns), .val (.int k)]) rfl rfl ?_)
  simp only [f21, b21]
  walk_at "pl"
  by_cases h : k < ns.length
  · rw [if_pos (by simp; omega)]
    rw [d_scr h]
    exact ⟨⟨_, rfl⟩, rfl⟩
  · rw [if_neg (by simp; omega)]
    exact ⟨by rw [smallN (i := 6007) (by omega) (by omega)]; rfl, by omega, _, rfl⟩
theorem box_ok (n : Nat) (i : Int) : Wk ((gam pr (n + 1)).call 22 [.int i] none) fun r o => (∃ box, r = .fr box ∧ Box 0 box) ∧ o = none := by
  refine k_call fn22 (k_run0 (S := [.val (.int i)]) rfl rfl ?_)
  simp only [f22, b22]
  walk_at "pl"
  obtain ⟨k, e, hk⟩ := fmodN (a := if i < 0 then -i else i) (m := 2147483629) (by omega)
  refine ⟨⟨by omega, by omega, by decide⟩, by omega, by decide, _, rfl, (if i < 0 then -i else i), decide (10 ^ Int.toNat 18 ≤ if i < 0 then -i else i), k, 0, ?_, hk, Nat.le_refl _⟩
  rw [show (2147483629 : Int) = ((2147483629 : Nat) : Int) from rfl, e]; rfl
theorem tstx (a p q : Nat) : ((((a / 2 ^ p ^^^ a / 2 ^ q) &&& 1 : Nat) : Int) != 0) = (a.testBit p != a.testBit q) := by
  have := tstb (a / 2 ^ p ^^^ a / 2 ^ q) 0
  rw [Nat.pow_zero, Nat.div_one] at this
  rw [this, Nat.testBit_xor, Nat.testBit_div_two_pow, Nat.testBit_div_two_pow, Nat.zero_add, Nat.zero_add]
theorem d_neI {S : Sl} {Q : Bool → Sl → Prop} {l : List Int} : Wq (M.opt (cmpD .ne (.lst (l.map D.int)) (.lst []))) S Q = Q (!l.isEmpty) S := by rw [Wd_eq]; exact o_nenil (k := 0) (fun x => pk_int x) (by omega)
theorem d_eqI {S : Sl} {Q : Bool → Sl → Prop} {l : List Int} : Wq (M.opt (cmpD .eq (.lst (l.map D.int)) (.lst []))) S Q = Q l.isEmpty S := by rw [Wd_eq]; exact o_eqnil (k := 0) (fun x => pk_int x) (by omega)
theorem d_minI {S : Sl} {QR : RV → Sl → Prop} {l : List Int} {v : Int} (h : minI l = some v) : Wq (M.opt (bltD .minl [.lst (l.map D.int)])) S QR = QR (.val (.int v)) S := by
  rw [Wd_eq]
  show W (M.opt ((intsD (l.map D.int)).bind fun ns => (minI ns).bind vi) S) QR = _
  rw [show l.map D.int = l.map (fun x => D.int ((fun i => i) x)) from rfl, ints_map, List.map_id']
  show W (M.opt ((minI l).bind vi) S) QR = _
  rw [h]; rfl
theorem edges_len {m : Nat} (near : List Nat) (hm : m ≤ 8) : (edgesL m near).length ≤ 28 := Nat.le_trans (List.length_filter_le _ _) (coup_len hm)
def outL (m : Nat) (near : List Nat) (a : Nat) : List (Nat × Nat) := (edgesL m near).filter fun p => a.testBit p.1 != a.testBit p.2
theorem out_ok (n m : Nat) (near : List Nat) (a : Nat) (hm : m ≤ 8) (hn : near.length = m) : Wk ((gam pr (n + 3)).call 40 [.int (m : Int), .lst (near.map fun (k : Nat) => D.int (k : Int)), .int (a : Int)] none) fun r o => r = .val (.tup ((outL m near a).map pD)) ∧ o = none := by
  refine k_call fn40 (k_run0 (S := [.val (.int m), .val (.lst (near.map fun (k : Nat) => D.int (k : Int))), .val (.int a), .un, .un]) rfl rfl ?_)
  simp only [f40, b40]
  walk_at "pl"
  refine k_call0 ((edges_ok (n) m near hm hn).mono ?_)
  rintro r o ⟨rfl, rfl⟩
  refine ⟨rfl, ?_⟩
  walk_at "pl"
  refine k_blockM pD (fun p => if (a.testBit p.1 != a.testBit p.2) = true then [pD p] else []) ?_ ?_ ?_
  · rw [flat_if, List.length_map]
    have := List.length_filter_le (fun p => a.testBit p.1 != a.testBit p.2) (edgesL m near)
    have := edges_len near hm
    rw [lim_eq]; omega
  · intro p hp acc ha
    refine ⟨_, rfl, ?_⟩
    walk_at "pl"
    rw [tstx]
    exact cf2 two_lim ha
  · rw [flat_if]
    walk_at "pl"
    first | rfl | exact ⟨rfl, rfl⟩
def cutsL (m : Nat) (near : List Nat) : List (List (Nat × Nat)) := (List.range (2 ^ (m - 1) - 1)).map fun k => outL m near (1 + k)
theorem cuts_ok (n m : Nat) (near : List Nat) (hm : m ≤ 8) (hn : near.length = m) : Wk ((gam pr (n + 4)).call 41 [.int (m : Int), .lst (near.map fun (k : Nat) => D.int (k : Int))] none) fun r o => r = .fr ((cutsL m near).map fun c => D.tup (c.map pD)) ∧ o = none := by
  refine k_call fn41 (k_run0 (S := [.val (.int m), .val (.lst (near.map fun (k : Nat) => D.int (k : Int))), .un]) rfl rfl ?_)
  simp only [f41, b41]
  walk_at "pl"
  rw [show (if (m : Int) - 1 > 0 then (m : Int) - 1 else 0) = ((m - 1 : Nat) : Int) from by split <;> omega]
  walk_at "pl"
  have hp : 2 ^ (m - 1) ≤ 2 ^ 7 := Nat.pow_le_pow_right (by omega) (by omega)
  refine ⟨by omega, by omega, ?_⟩
  refine k_blockM (fun (k : Nat) => D.int ((1 + k : Nat) : Int)) (fun k => [D.tup ((outL m near (1 + k)).map pD)]) ?_ ?_ ?_
  · rw [flat_one, List.length_map, List.length_range, lim_eq]; omega
  · intro k hk acc ha
    refine ⟨_, rfl, ?_⟩
    walk_at "pl"
    refine k_call0 ((out_ok n m near (1 + k) hm hn).mono ?_)
    rintro r o ⟨rfl, rfl⟩
    refine ⟨rfl, ?_⟩
    walk_at "pl"
    simp only [List.length_cons, List.length_nil] at ha
    omega
  · rw [flat_one]
    exact ⟨by unfold cutsL; rw [List.map_map]; rfl, rfl⟩
def connC (near : List Nat) (a : Nat) : Bool := decide ((bitsB 8 a).length = 1) || decide (1 < (partsL near a).length)
def connI (m : Nat) (near : List Nat) : List Int := ((List.range (2 ^ m - 1)).filter fun k => connC near (1 + k)).map fun k => (m : Int) - ((bitsB 8 (1 + k)).length : Int)
def connV (m : Nat) (near : List Nat) : Int := (minI (connI m near)).getD 0
theorem conn_ok (n m : Nat) (near : List Nat) (hm : m ≤ 8) (hn : near.length = m) : Wk ((gam pr (n + 4)).call 39 [.int (m : Int), .lst (near.map fun (k : Nat) => D.int (k : Int))] none) fun r o => r = .val (.int (connV m near)) ∧ o = none := by
  refine k_call fn39 (k_run0 (S := [.val (.int m), .val (.lst (near.map fun (k : Nat) => D.int (k : Int))), .un, .un]) rfl rfl ?_)
  simp only [f39, b39]
  walk_at "pl"
  have hp : 2 ^ m ≤ 2 ^ 8 := Nat.pow_le_pow_right (by omega) hm
  refine ⟨by omega, by omega, ?_⟩
  refine k_blockM (fun (k : Nat) => D.int ((1 + k : Nat) : Int)) (fun k => if connC near (1 + k) = true then [D.int ((m : Int) - ((bitsB 8 (1 + k)).length : Int))] else []) ?_ ?_ ?_
  · rw [flat_if, List.length_map]
    have := List.length_filter_le (fun k => connC near (1 + k)) (List.range (2 ^ m - 1))
    rw [List.length_range] at this
    rw [lim_eq]; omega
  · intro k hk acc ha
    have hk := List.mem_range.mp hk
    refine ⟨_, rfl, ?_⟩
    walk_at "pl"
    refine k_call0 ((count_ok (n + 2) (1 + k)).mono ?_)
    rintro r o ⟨rfl, rfl⟩
    refine ⟨rfl, ?_⟩
    walk_at "pl"
    have fin : ∀ b, b = connC near (1 + k) → b = true → acc.length < lim ∧ acc ++ [D.int ((m : Int) - ((bitsB 8 (1 + k)).length : Int))] = acc ++ if connC near (1 + k) = true then [D.int ((m : Int) - ((bitsB 8 (1 + k)).length : Int))] else [] := by
      rintro b rfl hb
      rw [if_pos hb] at ha ⊢
      simp only [List.length_cons, List.length_nil] at ha
      exact ⟨by omega, rfl⟩
    by_cases h1 : (bitsB 8 (1 + k)).length = 1
    · rw [if_pos (by simp; omega), if_pos (by simp; omega)]
      refine k_call0 ((count_ok (n + 2) (1 + k)).mono ?_)
      rintro r o ⟨rfl, rfl⟩
      refine ⟨rfl, ?_⟩
      walk_at "pl"
      obtain ⟨q1, q2⟩ := fin true (by unfold connC; rw [decide_eq_true h1]; rfl) rfl
      first | exact ⟨q1, q2⟩ | exact ⟨q1, q2, trivial⟩ | exact ⟨q1, q2, rfl⟩
    · rw [if_neg (by simp; omega)]
      refine k_call0 ((parts_ok (n + 1) near (1 + k) (by omega) (by rw [hn]; omega)).mono ?_)
      rintro r o ⟨rfl, rfl⟩
      refine ⟨rfl, ?_⟩
      walk_at "pl"
      by_cases h2 : 1 < (partsL near (1 + k)).length
      · rw [if_pos (by simp; omega)]
        walk_at "pl"
        refine k_call0 ((count_ok (n + 2) (1 + k)).mono ?_)
        rintro r o ⟨rfl, rfl⟩
        refine ⟨rfl, ?_⟩
        walk_at "pl"
        obtain ⟨q1, q2⟩ := fin true (by unfold connC; rw [decide_eq_true h2, Bool.or_true]) rfl
        first | exact ⟨q1, q2⟩ | exact ⟨q1, q2, trivial⟩ | exact ⟨q1, q2, rfl⟩
      · rw [if_neg (by simp; omega)]
        walk_at "pl"
        have : connC near (1 + k) = false := by unfold connC; rw [decide_eq_false h1, decide_eq_false h2]; rfl
        rw [this]
        simp
  · rw [flat_if]
    rw [show (((List.range (2 ^ m - 1)).filter fun k => connC near (1 + k)).map fun k => D.int ((m : Int) - ((bitsB 8 (1 + k)).length : Int))) = (connI m near).map D.int from by unfold connI; rw [List.map_map]; rfl]
    walk_at "pl"
    rw [d_neI]
    walk_at "pl"
    unfold connV
    cases e : connI m near with
    | nil => simp; rfl
    | cons a l =>
      obtain ⟨v, hv⟩ : ∃ v, minI (a :: l) = some v := ⟨_, rfl⟩
      rw [d_minI hv, hv]
      simp

end Pl.k09
set_option Elab.async false
set_option linter.all false
set_option maxRecDepth 100000
namespace Pl.k09
open PySem Pl
local macro_rules | `(tactic| walk_at "pl0") => `(tactic| try simp only [↓dW_bind, ↓dW_pure, ↓dW_some, ↓dW_vi, ↓dW_vb, ↓dW_toD, ↓dW_rd, ↓dW_mv, ↓dW_op, ↓dW_own, ↓dW_get_dat, ↓dW_get_at, ↓dW_gets_nil, ↓dW_gets_cons, ↓dW_put, ↓dW_val, ↓dW_bool, ↓dW_tru, ↓dW_nx, ↓dW_ite, ↓dW_keep, ↓de_opv, ↓de_c, ↓de_v, ↓de_io, ↓de_bin, ↓de_un, ↓de_cmp, ↓de_chain, ↓de_and, ↓de_or, ↓de_not, ↓de_ite, ↓de_tup, ↓de_lst, ↓de_ix, ↓de_sl, ↓de_pnil, ↓de_rev, ↓de_fld, ↓de_sfld, ↓de_call, ↓de_make, ↓de_meth, ↓de_blt, ↓de_isi, ↓de_mut, ↓de_lc1, ↓de_es0, ↓de_star, ↓de_ps0, ↓de_ps, ↓de_ts0, ↓de_ts, ↓de_rs0, ↓de_rs, ↓ds_nil, ↓ds_cons, ↓ds_asgn, ↓ds_sto, ↓ds_sub, ↓ds_subX, ↓ds_asgs, ↓ds_asgf, ↓ds_fld, ↓ds_par, ↓ds_stoX0, ↓ds_stoXn, ↓ds_stoXs, ↓ds_unp, ↓ds_unpT, ↓ds_aug, ↓ds_expr, ↓ds_retv, ↓ds_iff, ↓ds_for, ↓ds_wh, ↓ds_pass, ↓ds_brk, ↓ds_cont, ↓do_add, ↓do_sub, ↓do_and, ↓do_or, ↓do_xor, ↓do_mul, ↓do_fdiv, ↓do_mod, ↓do_pow, ↓do_shl, ↓do_shr, ↓do_addL, ↓do_addT, ↓do_inv, ↓do_neg, ↓do_lt, ↓do_le, ↓do_gt, ↓do_ge, ↓do_eq, ↓do_ne, ↓do_item, ↓do_itemT, ↓dt_int, ↓dt_bl, ↓dt_non, ↓dt_lst, ↓dr_seq, ↓dr_seqt, ↓db_len, ↓db_lent, ↓db_lens, ↓db_abs, ↓db_max2, ↓db_min2, ↓db_int, ↓db_tuple, ↓db_tuplet, ↓db_list, ↓db_listt, ↓de_op_c, ↓ds_ret_c, ↓de_es_c, ↓de_pt_c, ↓de_es_v, ↓de_pt_v, ↓de_op_io, ↓ds_ret_io, ↓de_es_io, ↓de_pt_io, ↓de_op_bin, ↓ds_ret_bin, ↓de_es_bin, ↓de_pt_bin, ↓de_op_un, ↓ds_ret_un, ↓de_es_un, ↓de_pt_un, ↓de_op_cmp, ↓ds_ret_cmp, ↓de_es_cmp, ↓de_pt_cmp, ↓de_op_chain, ↓ds_ret_chain, ↓de_es_chain, ↓de_pt_chain, ↓de_op_and, ↓ds_ret_and, ↓de_es_and, ↓de_pt_and, ↓de_op_or, ↓ds_ret_or, ↓de_es_or, ↓de_pt_or, ↓de_op_not, ↓ds_ret_not, ↓de_es_not, ↓de_pt_not, ↓de_op_ite, ↓ds_ret_ite, ↓de_es_ite, ↓de_pt_ite, ↓de_op_tup, ↓ds_ret_tup, ↓de_es_tup, ↓de_pt_tup, ↓de_op_lst, ↓ds_ret_lst, ↓de_es_lst, ↓de_pt_lst, ↓de_op_ix, ↓ds_ret_ix, ↓de_es_ix, ↓de_pt_ix, ↓de_op_sl, ↓ds_ret_sl, ↓de_es_sl, ↓de_pt_sl, ↓de_op_rev, ↓ds_ret_rev, ↓de_es_rev, ↓de_pt_rev, ↓de_op_fld, ↓ds_ret_fld, ↓de_es_fld, ↓de_pt_fld, ↓de_op_sfld, ↓ds_ret_sfld, ↓de_es_sfld, ↓de_pt_sfld, ↓de_op_call, ↓ds_ret_call, ↓de_es_call, ↓de_pt_call, ↓de_op_make, ↓ds_ret_make, ↓de_es_make, ↓de_pt_make, ↓de_op_meth, ↓ds_ret_meth, ↓de_es_meth, ↓de_pt_meth, ↓de_op_blt, ↓ds_ret_blt, ↓de_es_blt, ↓de_pt_blt, ↓de_op_bmt, ↓ds_ret_bmt, ↓de_es_bmt, ↓de_pt_bmt, ↓de_op_isi, ↓ds_ret_isi, ↓de_es_isi, ↓de_pt_isi, ↓de_op_mut, ↓ds_ret_mut, ↓de_es_mut, ↓de_pt_mut, ↓de_op_lc1, ↓ds_ret_lc1, ↓de_es_lc1, ↓de_pt_lc1, ↓de_op_lc2, ↓ds_ret_lc2, ↓de_es_lc2, ↓de_pt_lc2, ↓di_int_bool, ↓di_int_int, ↓di_int_str, ↓di_int_tuple, ↓di_int_list, ↓dn_int_non, ↓di_tup_bool, ↓di_tup_int, ↓di_tup_str, ↓di_tup_tuple, ↓di_tup_list, ↓dn_tup_non, ↓di_lst_bool, ↓di_lst_int, ↓di_lst_str, ↓di_lst_tuple, ↓di_lst_list, ↓dn_lst_non, ↓di_bl_bool, ↓di_bl_int, ↓di_bl_str, ↓di_bl_tuple, ↓di_bl_list, ↓dn_bl_non, ↓di_str_bool, ↓di_str_int, ↓di_str_str, ↓di_str_tuple, ↓di_str_list, ↓dn_str_non, ↓di_obj_bool, ↓di_obj_int, ↓di_obj_str, ↓di_obj_tuple, ↓di_obj_list, ↓dn_ne_bl, ↓dn_eq_bl, ↓dn_obj, ↓dz_to1, ↓dz_sum, beq_self_eq_true, bne_self_eq_false, Bool.not_true, Bool.not_false, decide_true, decide_false, ↓do_mulN, ↓do_from1, ↓do_to, ↓do_to1, ↓do_part, min2N, ↓db_lrng1, ↓db_trng1, ↓ds_parL2, ↓ds_parL3, ↓dm_app, ↓dm_ext, ↓dm_rev, ↓d_neints, ↓d_eqints, ↓dr_rng1c, ↓dr_rng2c, ↓dr_rng2o, ↓atD_0, ↓atD_1, ↓atD_2, ↓atD_3, ↓ixD_0, ↓ixD_3, getS_0, getS_s, List.set_cons_zero, List.set_cons_succ, stoV, RV.d, endC, tnC, wipeS, backAll, if_true, if_false, Bool.false_eq_true, pmD, List.getElem?_cons_zero, List.getElem?_cons_succ, List.cons_append, List.nil_append, List.append_nil, Option.map_some, shl1N, shlN, shrN, and1N, andN, orN, xorN, andnN, nandN, tstb, List.length_cons, List.length_nil, List.length_map, List.length_range, Nat.zero_add, Nat.reduceAdd, Nat.reduceLT, Nat.reduceLeDiff, true_and])
local macro_rules | `(tactic| walk_at "pl") => `(tactic| try simp only [↓dW_bind, ↓dW_pure, ↓dW_some, ↓dW_vi, ↓dW_vb, ↓dW_toD, ↓dW_rd, ↓dW_mv, ↓dW_op, ↓dW_own, ↓dW_get_dat, ↓dW_get_at, ↓dW_gets_nil, ↓dW_gets_cons, ↓dW_put, ↓dW_val, ↓dW_bool, ↓dW_tru, ↓dW_nx, ↓dW_ite, ↓dW_keep, ↓de_opv, ↓de_c, ↓de_v, ↓de_io, ↓de_bin, ↓de_un, ↓de_cmp, ↓de_chain, ↓de_and, ↓de_or, ↓de_not, ↓de_ite, ↓de_tup, ↓de_lst, ↓de_ix, ↓de_sl, ↓de_pnil, ↓de_rev, ↓de_fld, ↓de_sfld, ↓de_call, ↓de_make, ↓de_meth, ↓de_blt, ↓de_isi, ↓de_mut, ↓de_lc1, ↓de_es0, ↓de_star, ↓de_ps0, ↓de_ps, ↓de_ts0, ↓de_ts, ↓de_rs0, ↓de_rs, ↓ds_nil, ↓ds_cons, ↓ds_asgn, ↓ds_sto, ↓ds_sub, ↓ds_subX, ↓ds_asgs, ↓ds_asgf, ↓ds_fld, ↓ds_par, ↓ds_stoX0, ↓ds_stoXn, ↓ds_stoXs, ↓ds_unp, ↓ds_unpT, ↓ds_aug, ↓ds_expr, ↓ds_retv, ↓ds_iff, ↓ds_for, ↓ds_wh, ↓ds_pass, ↓ds_brk, ↓ds_cont, ↓do_add, ↓do_sub, ↓do_and, ↓do_or, ↓do_xor, ↓do_mul, ↓do_fdiv, ↓do_mod, ↓do_pow, ↓do_shl, ↓do_shr, ↓do_addL, ↓do_addT, ↓do_inv, ↓do_neg, ↓do_lt, ↓do_le, ↓do_gt, ↓do_ge, ↓do_eq, ↓do_ne, ↓do_item, ↓do_itemT, ↓dt_int, ↓dt_bl, ↓dt_non, ↓dt_lst, ↓dr_seq, ↓dr_seqt, ↓db_len, ↓db_lent, ↓db_lens, ↓db_abs, ↓db_max2, ↓db_min2, ↓db_int, ↓db_tuple, ↓db_tuplet, ↓db_list, ↓db_listt, ↓de_op_c, ↓ds_ret_c, ↓de_es_c, ↓de_pt_c, ↓de_es_v, ↓de_pt_v, ↓de_op_io, ↓ds_ret_io, ↓de_es_io, ↓de_pt_io, ↓de_op_bin, ↓ds_ret_bin, ↓de_es_bin, ↓de_pt_bin, ↓de_op_un, ↓ds_ret_un, ↓de_es_un, ↓de_pt_un, ↓de_op_cmp, ↓ds_ret_cmp, ↓de_es_cmp, ↓de_pt_cmp, ↓de_op_chain, ↓ds_ret_chain, ↓de_es_chain, ↓de_pt_chain, ↓de_op_and, ↓ds_ret_and, ↓de_es_and, ↓de_pt_and, ↓de_op_or, ↓ds_ret_or, ↓de_es_or, ↓de_pt_or, ↓de_op_not, ↓ds_ret_not, ↓de_es_not, ↓de_pt_not, ↓de_op_ite, ↓ds_ret_ite, ↓de_es_ite, ↓de_pt_ite, ↓de_op_tup, ↓ds_ret_tup, ↓de_es_tup, ↓de_pt_tup, ↓de_op_lst, ↓ds_ret_lst, ↓de_es_lst, ↓de_pt_lst, ↓de_op_ix, ↓ds_ret_ix, ↓de_es_ix, ↓de_pt_ix, ↓de_op_sl, ↓ds_ret_sl, ↓de_es_sl, ↓de_pt_sl, ↓de_op_rev, ↓ds_ret_rev, ↓de_es_rev, ↓de_pt_rev, ↓de_op_fld, ↓ds_ret_fld, ↓de_es_fld, ↓de_pt_fld, ↓de_op_sfld, ↓ds_ret_sfld, ↓de_es_sfld, ↓de_pt_sfld, ↓de_op_call, ↓ds_ret_call, ↓de_es_call, ↓de_pt_call, ↓de_op_make, ↓ds_ret_make, ↓de_es_make, ↓de_pt_make, ↓de_op_meth, ↓ds_ret_meth, ↓de_es_meth, ↓de_pt_meth, ↓de_op_blt, ↓ds_ret_blt, ↓de_es_blt, ↓de_pt_blt, ↓de_op_bmt, ↓ds_ret_bmt, ↓de_es_bmt, ↓de_pt_bmt, ↓de_op_isi, ↓ds_ret_isi, ↓de_es_isi, ↓de_pt_isi, ↓de_op_mut, ↓ds_ret_mut, ↓de_es_mut, ↓de_pt_mut, ↓de_op_lc1, ↓ds_ret_lc1, ↓de_es_lc1, ↓de_pt_lc1, ↓de_op_lc2, ↓ds_ret_lc2, ↓de_es_lc2, ↓de_pt_lc2, ↓di_int_bool, ↓di_int_int, ↓di_int_str, ↓di_int_tuple, ↓di_int_list, ↓dn_int_non, ↓di_tup_bool, ↓di_tup_int, ↓di_tup_str, ↓di_tup_tuple, ↓di_tup_list, ↓dn_tup_non, ↓di_lst_bool, ↓di_lst_int, ↓di_lst_str, ↓di_lst_tuple, ↓di_lst_list, ↓dn_lst_non, ↓di_bl_bool, ↓di_bl_int, ↓di_bl_str, ↓di_bl_tuple, ↓di_bl_list, ↓dn_bl_non, ↓di_str_bool, ↓di_str_int, ↓di_str_str, ↓di_str_tuple, ↓di_str_list, ↓dn_str_non, ↓di_obj_bool, ↓di_obj_int, ↓di_obj_str, ↓di_obj_tuple, ↓di_obj_list, ↓dn_ne_bl, ↓dn_eq_bl, ↓dn_obj, ↓dz_to1, ↓dz_sum, beq_self_eq_true, bne_self_eq_false, Bool.not_true, Bool.not_false, decide_true, decide_false, ↓do_mulN, ↓do_from1, ↓do_to, ↓do_to1, ↓do_part, min2N, ↓db_lrng1, ↓db_trng1, ↓ds_parL2, ↓ds_parL3, ↓dm_app, ↓dm_ext, ↓dm_rev, ↓d_neints, ↓d_eqints, ↓dr_rng1c, ↓dr_rng2c, ↓dr_rng2o, ↓atD_0, ↓atD_1, ↓atD_2, ↓atD_3, ↓ixD_0, ↓ixD_3, getS_0, getS_s, List.set_cons_zero, List.set_cons_succ, stoV, RV.d, endC, tnC, wipeS, backAll, if_true, if_false, Bool.false_eq_true, pmD, List.getElem?_cons_zero, List.getElem?_cons_succ, List.cons_append, List.nil_append, List.append_nil, Option.map_some, shl1N, shlN, shrN, and1N, andN, orN, xorN, andnN, nandN, tstb, List.length_cons, List.length_nil, List.length_map, List.length_range, Nat.zero_add, Nat.reduceAdd, Nat.reduceLT, Nat.reduceLeDiff, true_and, List.getElem_range, addN, add1N, oneaN, pow1N, small1, nn0, le1000, and_true])
local macro_rules | `(tactic| walk_at "pa") => `(tactic| (simp only [atN, ixD_nat, setN, List.length_set, List.length_map, *]; walk_at "pl"))

theorem bits8 {m a : Nat} (hm : m ≤ 8) (h : a < 2 ^ m) : bitsB 8 a = bitsB m a := by
  unfold bitsB
  have e : (8 : Nat) = m + (8 - m) := by omega
  rw [e, List.range_add, List.filter_append]
  rw [show ((List.range (8 - m)).map (m + ·)).filter a.testBit = [] from ?_, List.append_nil]
  rw [List.filter_eq_nil_iff]
  intro x hx hb
  obtain ⟨y, _, rfl⟩ := List.mem_map.mp hx
  have := bit_lt h hb
  omega
theorem d_all {S : Sl} {QR : RV → Sl → Prop} {ι : Type} {h : ι → Bool} {l : List ι} : Wq (M.opt (bltD .all [.lst (l.map fun x => D.bl (h x))])) S QR = QR (.val (.bl (l.all h))) S := by
  rw [Wd_eq]
  show W (M.opt ((boolsD (l.map fun x => D.bl (h x))).bind fun bs => vb (bs.all id)) S) QR = _
  rw [bools_map]
  show QR (.val (.bl ((l.map h).all id))) S = _
  rw [List.all_map]; rfl
theorem pow_sum (m : Nat) (hm : m ≤ 8) : ((List.range m).map fun v => 2 ^ v).sum = 2 ^ m - 1 := by
  have : ∀ m, m < 9 → ((List.range m).map fun v => 2 ^ v).sum = 2 ^ m - 1 := by decide
  exact this m (by omega)
theorem p_isint (n : Nat) (i : Int) : Wk ((gam pr (n + 1)).call 1 [.int i] none) fun r o => r = .val (.bl true) ∧ o = none := by
  refine k_call fn1 (k_run0 (S := [.val (.int i)]) rfl rfl ?_)
  simp only [f1, b1]
  walk_at "pl"
theorem p_between (n : Nat) (i a b : Int) : Wk ((gam pr (n + 2)).call 2 [.int i, .int a, .int b] none) fun r o => r = .val (.bl (decide (a ≤ i) && decide (i ≤ b))) ∧ o = none := by
  refine k_call fn2 (k_run0 (S := [.val (.int i), .val (.int a), .val (.int b)]) rfl rfl ?_)
  simp only [f2, b2]
  walk_at "pl"
  refine k_call0 ((p_isint n i).mono ?_)
  rintro r o ⟨rfl, rfl⟩
  refine ⟨rfl, ?_⟩
  walk_at "pl"
  by_cases h : a ≤ i
  · rw [if_pos (decide_eq_true h), decide_eq_true h, Bool.true_and]
  · rw [if_neg (by simpa using h), decide_eq_false h, Bool.false_and]
theorem p_tupof (n k : Nat) (xs : List D) : Wk ((gam pr (n + 1)).call 3 [.tup xs, .int (k : Int)] none) fun r o => r = .val (.bl (decide (xs.length = k))) ∧ o = none := by
  refine k_call fn3 (k_run0 (S := [.val (.tup xs), .val (.int k)]) rfl rfl ?_)
  simp only [f3, b3]
  walk_at "pl"
  congr 2; rw [decide_eq_decide]; omega
theorem p_arebetween (n : Nat) (l : List Nat) (b : Int) (hl : l.length ≤ 100) (h : ∀ x ∈ l, (x : Int) ≤ b) : Wk ((gam pr (n + 3)).call 4 [.tup (l.map fun (k : Nat) => D.int (k : Int)), .int 0, .int b] none) fun r o => r = .val (.bl true) ∧ o = none := by
  refine k_call fn4 (k_run0 (S := [.val (.tup (l.map fun (k : Nat) => D.int (k : Int))), .val (.int 0), .val (.int b), .un]) rfl rfl ?_)
  simp only [f4, b4]
  walk_at "pl"
  refine k_blockM (fun (k : Nat) => D.int (k : Int)) (fun _ => [D.bl true]) ?_ ?_ ?_
  · rw [flat_one, List.length_map, lim_eq]; omega
  · intro k hk acc ha
    refine ⟨_, rfl, ?_⟩
    walk_at "pl"
    refine k_call0 ((p_between n (k : Int) 0 b).mono ?_)
    rintro r o ⟨rfl, rfl⟩
    refine ⟨rfl, ?_⟩
    walk_at "pl"
    simp only [List.length_cons, List.length_nil] at ha
    rw [decide_eq_true (h k hk)]
    first | omega | exact ⟨by omega, rfl⟩
  · rw [flat_one]
    walk_at "pl"
    rw [d_all]
    simp
theorem p_mask (n m : Nat) (hm : m ≤ 8) : Wk ((gam pr (n + 1)).call 6 [.tup ((List.range m).map fun (k : Nat) => D.int (k : Int))] none) fun r o => r = .val (.int ((2 ^ m - 1 : Nat) : Int)) ∧ o = none := by
  refine k_call fn6 (k_run0 (S := [.val (.tup ((List.range m).map fun (k : Nat) => D.int (k : Int))), .un]) rfl rfl ?_)
  simp only [f6, b6]
  walk_at "pl"
  refine k_blockM (fun (k : Nat) => D.int (k : Int)) (fun v => [D.int ((2 ^ v : Nat) : Int)]) ?_ ?_ ?_
  · rw [flat_one, List.length_map, List.length_range, lim_eq]; omega
  · intro k hk acc ha
    have hk := List.mem_range.mp hk
    refine ⟨_, rfl, ?_⟩
    walk_at "pl"
    simp only [List.length_cons, List.length_nil] at ha
    exact ⟨by omega, by omega⟩
  · rw [flat_one]
    walk_at "pl"
    rw [d_sumN, show ((List.range m).map fun v => 2 ^ v).sum = 2 ^ m - 1 from pow_sum m hm]
    first | rfl | exact ⟨rfl, rfl⟩
theorem p_subset (n a : Nat) : Wk ((gam pr (n + 1)).call 7 [.int (a : Int)] none) fun r o => r = .val (.tup ((bitsB 8 a).map fun (k : Nat) => D.int (k : Int))) ∧ o = none := by
  refine k_call fn7 (k_run0 (S := [.val (.int a), .un]) rfl rfl ?_)
  simp only [f7, b7]
  walk_at "pl"
  rw [dr_rng8]
  refine k_blockM (fun (k : Nat) => D.int (k : Int)) (fun v => if a.testBit v = true then [D.int (v : Int)] else []) ?_ ?_ ?_
  · rw [flat_if, List.length_map]
    have := List.length_filter_le a.testBit (List.range 8)
    rw [List.length_range] at this
    rw [lim_eq]; omega
  · intro v hv acc ha
    refine ⟨_, rfl, ?_⟩
    walk_at "pl"
    exact cf1 ha
  · rw [flat_if]
    walk_at "pl"
    first | rfl | exact ⟨rfl, rfl⟩
theorem p_many (n a : Nat) : Wk ((gam pr (n + 2)).call 8 [.int (a : Int)] none) fun r o => r = .val (.int ((bitsB 8 a).length : Int)) ∧ o = none := by
  refine k_call fn8 (k_run0 (S := [.val (.int a)]) rfl rfl ?_)
  simp only [f8, b8]
  walk_at "pl"
  refine k_call0 ((p_subset n a).mono ?_)
  rintro r o ⟨rfl, rfl⟩
  refine ⟨rfl, ?_⟩
  walk_at "pl"
theorem p_first (n a : Nat) (h : 0 < (bitsB 8 a).length) : Wk ((gam pr (n + 2)).call 9 [.int (a : Int)] none) fun r o => r = .val (.int ((firstL 8 a : Nat) : Int)) ∧ o = none := by
  refine k_call fn9 (k_run0 (S := [.val (.int a)]) rfl rfl ?_)
  simp only [f9, b9]
  walk_at "pl"
  refine k_call0 ((p_subset n a).mono ?_)
  rintro r o ⟨rfl, rfl⟩
  refine ⟨rfl, ?_⟩
  walk_at "pl"
  rw [at0N h]
  walk_at "pl"
  rfl
def besF (near : List Nat) (a : Nat) : Nat := (bitsB 8 a).foldl (fun x v => x ||| near.getD v 0) 0
theorem p_beside (n m a : Nat) (near : List Nat) (hm : m ≤ 8) (hn : near.length = m) (h : a < 2 ^ m) : Wk ((gam pr (n + 2)).call 10 [.lst (near.map fun (k : Nat) => D.int (k : Int)), .int (a : Int)] none) fun r o => r = .val (.int ((besF near a : Nat) : Int)) ∧ o = none := by
  refine k_call fn10 (k_run0 (S := [.val (.lst (near.map fun (k : Nat) => D.int (k : Int))), .val (.int a), .un, .un]) rfl rfl ?_)
  simp only [f10, b10]
  walk_at "pl"
  refine k_call0 ((p_subset n a).mono ?_)
  rintro r o ⟨rfl, rfl⟩
  refine ⟨rfl, ?_⟩
  walk_at "pl"
  refine k_forM _ (fun k S => ∃ x, S = [.val (.lst (near.map fun (k : Nat) => D.int (k : Int))), .val (.int a), .val (.int ((((bitsB 8 a).take k).foldl (fun x v => x ||| near.getD v 0) 0 : Nat) : Int)), x]) ⟨_, rfl⟩ ?_ ?_
  · rintro k hk S ⟨x, rfl⟩
    have hk2 : (bitsB 8 a)[k] < near.length := by
      have := mem_bitsB.mp (List.getElem_mem hk)
      have := bit_lt h this.2
      omega
    refine ⟨_, rfl, ?_⟩
    rw [List.take_succ_eq_append_getElem hk, List.foldl_append]
    simp only [List.foldl_cons, List.foldl_nil]
    walk_at "pl"
    rw [atN hk2]
    walk_at "pl"
    exact ⟨_, rfl⟩
  · rintro S ⟨x, rfl⟩
    walk_at "pl"
    rw [List.take_length]
    first | rfl | exact ⟨rfl, rfl⟩
theorem bes_bit (near : List Nat) (i : Nat) : ∀ (l : List Nat) (z : Nat), (l.foldl (fun x v => x ||| near.getD v 0) z).testBit i = (z.testBit i || l.any fun v => (near.getD v 0).testBit i)
  | [], z => by simp
  | v :: l, z => by rw [List.foldl_cons, bes_bit near i l, List.any_cons, Nat.testBit_or, Bool.or_assoc]
theorem step_eq {m a inside : Nat} {near : List Nat} (hm : m ≤ 8) (hn : near.length = m) (h : a < 2 ^ m) : a ||| (besF near a &&& inside) = stepL near inside a := by
  refine Nat.eq_of_testBit_eq fun i => ?_
  unfold besF stepL
  rw [Nat.testBit_or, Nat.testBit_and, bes_bit, fold_bit, Nat.zero_testBit, Bool.false_or, bits8 hm h, hn]
  congr 1
  rw [Bool.eq_iff_iff, Bool.and_eq_true, List.any_eq_true, List.any_eq_true]
  constructor
  · rintro ⟨⟨v, hv, h1⟩, h2⟩
    obtain ⟨h3, h4⟩ := mem_bitsB.mp hv
    exact ⟨v, List.mem_range.mpr h3, by rw [h1, h2, h4]; rfl⟩
  · rintro ⟨v, hv, h1⟩
    simp only [Bool.and_eq_true] at h1
    exact ⟨⟨v, mem_bitsB.mpr ⟨List.mem_range.mp hv, h1.1⟩, h1.2.1⟩, h1.2.2⟩
theorem p_reached (n m : Nat) (near : List Nat) (inside start : Nat) (hm : m ≤ 8) (hn : near.length = m) (hi : inside < 2 ^ m) (hs : start < m) : Wk ((gam pr (n + 3)).call 11 [.lst (near.map fun (k : Nat) => D.int (k : Int)), .int (inside : Int), .int (start : Int)] none) fun r o => r = .val (.int ((reachL near inside start : Nat) : Int)) ∧ o = none := by
  subst hn
  refine k_call fn11 (k_run0 (S := [.val (.lst (near.map fun (k : Nat) => D.int (k : Int))), .val (.int inside), .val (.int start), .un, .un]) rfl rfl ?_)
  simp only [f11, b11]
  walk_at "pl"
  refine ⟨by omega, ?_⟩
  refine k_wh (fun k S => ∃ f mr fuel, S = [.val (.lst (near.map fun (k : Nat) => D.int (k : Int))), .val (.int inside), .val (.int start), .val (.int (f : Nat)), .val (.int (mr : Nat))] ∧ f ≤ mr ∧ mr < 2 ^ near.length ∧ k = 2 ^ near.length - f ∧ loopR (stepL near inside) fuel f mr = reachL near inside start ∧ 2 ^ near.length - f < fuel) (k := 2 ^ near.length) ?_ ?_ ?_
  · have : (2 : Nat) ^ near.length ≤ 2 ^ 8 := Nat.pow_le_pow_right (by omega) hm
    unfold wlim; omega
  · have : (2 : Nat) ^ near.length ≤ 2 ^ 8 := Nat.pow_le_pow_right (by omega) hm
    exact ⟨0, 2 ^ start, 300, rfl, Nat.zero_le _, Nat.pow_lt_pow_right (by omega) hs, by omega, rfl, by omega⟩
  · rintro k S ⟨f, mr, fuel, rfl, h1, h2, rfl, h4, h5⟩
    walk_at "pl"
    obtain ⟨fuel, rfl⟩ : ∃ q, fuel = q + 1 := ⟨fuel - 1, by omega⟩
    by_cases e : mr = f
    · subst e
      rw [if_neg (by simp)]
      unfold loopR at h4
      rw [if_pos rfl] at h4
      rw [h4]
    · rw [if_pos (by simp; omega)]
      refine k_call0 ((p_beside n near.length mr near hm rfl h2).mono ?_)
      rintro r o ⟨rfl, rfl⟩
      refine ⟨rfl, ?_⟩
      walk_at "pl"
      rw [step_eq hm rfl h2]
      unfold loopR at h4
      rw [if_neg e] at h4
      exact ⟨_, by omega, mr, stepL near inside mr, fuel, rfl, foldl_or_ge .., foldl_or_lt near inside mr hi _ _ h2, rfl, h4, by omega⟩
theorem p_parts (n : Nat) (near : List Nat) (inside : Nat) (hm : near.length ≤ 8) (hi : inside < 2 ^ near.length) : Wk ((gam pr (n + 4)).call 12 [.lst (near.map fun (k : Nat) => D.int (k : Int)), .int (inside : Int)] none) fun r o => r = .fr ((partsL near inside).map fun (k : Nat) => D.int (k : Int)) ∧ o = none := by
  have hp8 : (2 : Nat) ^ near.length ≤ 2 ^ 8 := Nat.pow_le_pow_right (by omega) hm
  refine k_call fn12 (k_run0 (S := [.val (.lst (near.map fun (k : Nat) => D.int (k : Int))), .val (.int inside), .un, .un, .un]) rfl rfl ?_)
  simp only [f12, b12]
  walk_at "pl"
  refine ⟨Nat.zero_le _, ?_⟩
  refine k_wh (fun k S => ∃ (left fuel : Nat) (found : List Nat) (x : Slot), S = [.val (.lst (near.map fun (k : Nat) => D.int (k : Int))), .val (.int inside), .own (found.map fun (k : Nat) => D.int (k : Int)), .val (.int (left : Nat)), x] ∧ k = left ∧ left < 2 ^ near.length ∧ left < fuel ∧ found.length + left ≤ 256 ∧ found ++ partsG (reachL near inside) (firstL near.length) fuel left = partsL near inside) (k := inside) ?_ ?_ ?_
  · unfold wlim; omega
  · exact ⟨inside, 300, [], .un, rfl, rfl, hi, by omega, by (simp; omega), rfl⟩
  · rintro k S ⟨left, fuel, found, x, rfl, rfl, h1, h2, h3, h4⟩
    walk_at "pl"
    obtain ⟨fuel, rfl⟩ : ∃ q, fuel = q + 1 := ⟨fuel - 1, by omega⟩
    unfold partsG at h4
    by_cases e : k = 0
    · subst e
      rw [if_neg (by simp)]
      rw [if_pos rfl, List.append_nil] at h4
      rw [h4]
    · obtain ⟨b1, b2, b3⟩ := bits_ne h1 e
      rw [if_pos (by simp; omega)]
      rw [if_neg e] at h4
      have hlt := dif_lt b3 (reachL_bit near inside (firstL near.length k))
      refine k_call0 ((p_first (n + 1) k (by rw [bits8 hm h1]; exact b1)).mono ?_)
      rintro r o ⟨rfl, rfl⟩
      refine ⟨rfl, ?_⟩
      rw [show firstL 8 k = firstL near.length k from by unfold firstL; rw [bits8 hm h1]]
      walk_at "pl"
      refine k_call0 ((p_reached n near.length near inside (firstL near.length k) hm rfl hi b2).mono ?_)
      rintro r o ⟨rfl, rfl⟩
      refine ⟨rfl, ?_⟩
      walk_at "pl"
      rw [appN]
      exact ⟨by rw [lim_eq]; omega, _, hlt, _, fuel, found ++ [reachL near inside (firstL near.length k)], _, rfl, rfl, by omega, by omega, by (simp; omega), by rw [List.append_assoc]; exact h4⟩

end Pl.k09
set_option Elab.async false
set_option linter.all false
set_option maxRecDepth 100000
namespace Pl.k09
open PySem Pl
local macro_rules | `(tactic| walk_at "pl0") => `(tactic| try simp only [↓dW_bind, ↓dW_pure, ↓dW_some, ↓dW_vi, ↓dW_vb, ↓dW_toD, ↓dW_rd, ↓dW_mv, ↓dW_op, ↓dW_own, ↓dW_get_dat, ↓dW_get_at, ↓dW_gets_nil, ↓dW_gets_cons, ↓dW_put, ↓dW_val, ↓dW_bool, ↓dW_tru, ↓dW_nx, ↓dW_ite, ↓dW_keep, ↓de_opv, ↓de_c, ↓de_v, ↓de_io, ↓de_bin, ↓de_un, ↓de_cmp, ↓de_chain, ↓de_and, ↓de_or, ↓de_not, ↓de_ite, ↓de_tup, ↓de_lst, ↓de_ix, ↓de_sl, ↓de_pnil, ↓de_rev, ↓de_fld, ↓de_sfld, ↓de_call, ↓de_make, ↓de_meth, ↓de_blt, ↓de_isi, ↓de_mut, ↓de_lc1, ↓de_es0, ↓de_star, ↓de_ps0, ↓de_ps, ↓de_ts0, ↓de_ts, ↓de_rs0, ↓de_rs, ↓ds_nil, ↓ds_cons, ↓ds_asgn, ↓ds_sto, ↓ds_sub, ↓ds_subX, ↓ds_asgs, ↓ds_asgf, ↓ds_fld, ↓ds_par, ↓ds_stoX0, ↓ds_stoXn, ↓ds_stoXs, ↓ds_unp, ↓ds_unpT, ↓ds_aug, ↓ds_expr, ↓ds_retv, ↓ds_iff, ↓ds_for, ↓ds_wh, ↓ds_pass, ↓ds_brk, ↓ds_cont, ↓do_add, ↓do_sub, ↓do_and, ↓do_or, ↓do_xor, ↓do_mul, ↓do_fdiv, ↓do_mod, ↓do_pow, ↓do_shl, ↓do_shr, ↓do_addL, ↓do_addT, ↓do_inv, ↓do_neg, ↓do_lt, ↓do_le, ↓do_gt, ↓do_ge, ↓do_eq, ↓do_ne, ↓do_item, ↓do_itemT, ↓dt_int, ↓dt_bl, ↓dt_non, ↓dt_lst, ↓dr_seq, ↓dr_seqt, ↓db_len, ↓db_lent, ↓db_lens, ↓db_abs, ↓db_max2, ↓db_min2, ↓db_int, ↓db_tuple, ↓db_tuplet, ↓db_list, ↓db_listt, ↓de_op_c, ↓ds_ret_c, ↓de_es_c, ↓de_pt_c, ↓de_es_v, ↓de_pt_v, ↓de_op_io, ↓ds_ret_io, ↓de_es_io, ↓de_pt_io, ↓de_op_bin, ↓ds_ret_bin, ↓de_es_bin, ↓de_pt_bin, ↓de_op_un, ↓ds_ret_un, ↓de_es_un, ↓de_pt_un, ↓de_op_cmp, ↓ds_ret_cmp, ↓de_es_cmp, ↓de_pt_cmp, ↓de_op_chain, ↓ds_ret_chain, ↓de_es_chain, ↓de_pt_chain, ↓de_op_and, ↓ds_ret_and, ↓de_es_and, ↓de_pt_and, ↓de_op_or, ↓ds_ret_or, ↓de_es_or, ↓de_pt_or, ↓de_op_not, ↓ds_ret_not, ↓de_es_not, ↓de_pt_not, ↓de_op_ite, ↓ds_ret_ite, ↓de_es_ite, ↓de_pt_ite, ↓de_op_tup, ↓ds_ret_tup, ↓de_es_tup, ↓de_pt_tup, ↓de_op_lst, ↓ds_ret_lst, ↓de_es_lst, ↓de_pt_lst, ↓de_op_ix, ↓ds_ret_ix, ↓de_es_ix, ↓de_pt_ix, ↓de_op_sl, ↓ds_ret_sl, ↓de_es_sl, ↓de_pt_sl, ↓de_op_rev, ↓ds_ret_rev, ↓de_es_rev, ↓de_pt_rev, ↓de_op_fld, ↓ds_ret_fld, ↓de_es_fld, ↓de_pt_fld, ↓de_op_sfld, ↓ds_ret_sfld, ↓de_es_sfld, ↓de_pt_sfld, ↓de_op_call, ↓ds_ret_call, ↓de_es_call, ↓de_pt_call, ↓de_op_make, ↓ds_ret_make, ↓de_es_make, ↓de_pt_make, ↓de_op_meth, ↓ds_ret_meth, ↓de_es_meth, ↓de_pt_meth, ↓de_op_blt, ↓ds_ret_blt, ↓de_es_blt, ↓de_pt_blt, ↓de_op_bmt, ↓ds_ret_bmt, ↓de_es_bmt, ↓de_pt_bmt, ↓de_op_isi, ↓ds_ret_isi, ↓de_es_isi, ↓de_pt_isi, ↓de_op_mut, ↓ds_ret_mut, ↓de_es_mut, ↓de_pt_mut, ↓de_op_lc1, ↓ds_ret_lc1, ↓de_es_lc1, ↓de_pt_lc1, ↓de_op_lc2, ↓ds_ret_lc2, ↓de_es_lc2, ↓de_pt_lc2, ↓di_int_bool, ↓di_int_int, ↓di_int_str, ↓di_int_tuple, ↓di_int_list, ↓dn_int_non, ↓di_tup_bool, ↓di_tup_int, ↓di_tup_str, ↓di_tup_tuple, ↓di_tup_list, ↓dn_tup_non, ↓di_lst_bool, ↓di_lst_int, ↓di_lst_str, ↓di_lst_tuple, ↓di_lst_list, ↓dn_lst_non, ↓di_bl_bool, ↓di_bl_int, ↓di_bl_str, ↓di_bl_tuple, ↓di_bl_list, ↓dn_bl_non, ↓di_str_bool, ↓di_str_int, ↓di_str_str, ↓di_str_tuple, ↓di_str_list, ↓dn_str_non, ↓di_obj_bool, ↓di_obj_int, ↓di_obj_str, ↓di_obj_tuple, ↓di_obj_list, ↓dn_ne_bl, ↓dn_eq_bl, ↓dn_obj, ↓dz_to1, ↓dz_sum, beq_self_eq_true, bne_self_eq_false, Bool.not_true, Bool.not_false, decide_true, decide_false, ↓de_lc2, ↓df_0, ↓df_1, ↓df_2, ↓df_3, ↓df_i, ↓do_mulN, ↓do_from1, ↓do_to, ↓do_to1, ↓do_part, min2N, ↓db_lrng1, ↓db_trng1, ↓ds_parL2, ↓ds_parL3, ↓dm_app, ↓dm_ext, ↓dm_rev, ↓d_neints, ↓d_eqints, ↓dr_rng1c, ↓dr_rng2c, ↓dr_rng2o, ↓atD_0, ↓atD_1, ↓atD_2, ↓atD_3, ↓ixD_0, ↓ixD_3, getS_0, getS_s, List.set_cons_zero, List.set_cons_succ, stoV, RV.d, endC, tnC, wipeS, backAll, if_true, if_false, Bool.false_eq_true, pmD, List.getElem?_cons_zero, List.getElem?_cons_succ, List.cons_append, List.nil_append, List.append_nil, Option.map_some, shl1N, shlN, shrN, and1N, andN, orN, xorN, andnN, nandN, tstb, List.length_cons, List.length_nil, List.length_map, List.length_range, Nat.zero_add, Nat.reduceAdd, Nat.reduceLT, Nat.reduceLeDiff, true_and])
local macro_rules | `(tactic| walk_at "pl") => `(tactic| try simp only [↓dW_bind, ↓dW_pure, ↓dW_some, ↓dW_vi, ↓dW_vb, ↓dW_toD, ↓dW_rd, ↓dW_mv, ↓dW_op, ↓dW_own, ↓dW_get_dat, ↓dW_get_at, ↓dW_gets_nil, ↓dW_gets_cons, ↓dW_put, ↓dW_val, ↓dW_bool, ↓dW_tru, ↓dW_nx, ↓dW_ite, ↓dW_keep, ↓de_opv, ↓de_c, ↓de_v, ↓de_io, ↓de_bin, ↓de_un, ↓de_cmp, ↓de_chain, ↓de_and, ↓de_or, ↓de_not, ↓de_ite, ↓de_tup, ↓de_lst, ↓de_ix, ↓de_sl, ↓de_pnil, ↓de_rev, ↓de_fld, ↓de_sfld, ↓de_call, ↓de_make, ↓de_meth, ↓de_blt, ↓de_isi, ↓de_mut, ↓de_lc1, ↓de_es0, ↓de_star, ↓de_ps0, ↓de_ps, ↓de_ts0, ↓de_ts, ↓de_rs0, ↓de_rs, ↓ds_nil, ↓ds_cons, ↓ds_asgn, ↓ds_sto, ↓ds_sub, ↓ds_subX, ↓ds_asgs, ↓ds_asgf, ↓ds_fld, ↓ds_par, ↓ds_stoX0, ↓ds_stoXn, ↓ds_stoXs, ↓ds_unp, ↓ds_unpT, ↓ds_aug, ↓ds_expr, ↓ds_retv, ↓ds_iff, ↓ds_for, ↓ds_wh, ↓ds_pass, ↓ds_brk, ↓ds_cont, ↓do_add, ↓do_sub, ↓do_and, ↓do_or, ↓do_xor, ↓do_mul, ↓do_fdiv, ↓do_mod, ↓do_pow, ↓do_shl, ↓do_shr, ↓do_addL, ↓do_addT, ↓do_inv, ↓do_neg, ↓do_lt, ↓do_le, ↓do_gt, ↓do_ge, ↓do_eq, ↓do_ne, ↓do_item, ↓do_itemT, ↓dt_int, ↓dt_bl, ↓dt_non, ↓dt_lst, ↓dr_seq, ↓dr_seqt, ↓db_len, ↓db_lent, ↓db_lens, ↓db_abs, ↓db_max2, ↓db_min2, ↓db_int, ↓db_tuple, ↓db_tuplet, ↓db_list, ↓db_listt, ↓de_op_c, ↓ds_ret_c, ↓de_es_c, ↓de_pt_c, ↓de_es_v, ↓de_pt_v, ↓de_op_io, ↓ds_ret_io, ↓de_es_io, ↓de_pt_io, ↓de_op_bin, ↓ds_ret_bin, ↓de_es_bin, ↓de_pt_bin, ↓de_op_un, ↓ds_ret_un, ↓de_es_un, ↓de_pt_un, ↓de_op_cmp, ↓ds_ret_cmp, ↓de_es_cmp, ↓de_pt_cmp, ↓de_op_chain, ↓ds_ret_chain, ↓de_es_chain, ↓de_pt_chain, ↓de_op_and, ↓ds_ret_and, ↓de_es_and, ↓de_pt_and, ↓de_op_or, ↓ds_ret_or, ↓de_es_or, ↓de_pt_or, ↓de_op_not, ↓ds_ret_not, ↓de_es_not, ↓de_pt_not, ↓de_op_ite, ↓ds_ret_ite, ↓de_es_ite, ↓de_pt_ite, ↓de_op_tup, ↓ds_ret_tup, ↓de_es_tup, ↓de_pt_tup, ↓de_op_lst, ↓ds_ret_lst, ↓de_es_lst, ↓de_pt_lst, ↓de_op_ix, ↓ds_ret_ix, ↓de_es_ix, ↓de_pt_ix, ↓de_op_sl, ↓ds_ret_sl, ↓de_es_sl, ↓de_pt_sl, ↓de_op_rev, ↓ds_ret_rev, ↓de_es_rev, ↓de_pt_rev, ↓de_op_fld, ↓ds_ret_fld, ↓de_es_fld, ↓de_pt_fld, ↓de_op_sfld, ↓ds_ret_sfld, ↓de_es_sfld, ↓de_pt_sfld, ↓de_op_call, ↓ds_ret_call, ↓de_es_call, ↓de_pt_call, ↓de_op_make, ↓ds_ret_make, ↓de_es_make, ↓de_pt_make, ↓de_op_meth, ↓ds_ret_meth, ↓de_es_meth, ↓de_pt_meth, ↓de_op_blt, ↓ds_ret_blt, ↓de_es_blt, ↓de_pt_blt, ↓de_op_bmt, ↓ds_ret_bmt, ↓de_es_bmt, ↓de_pt_bmt, ↓de_op_isi, ↓ds_ret_isi, ↓de_es_isi, ↓de_pt_isi, ↓de_op_mut, ↓ds_ret_mut, ↓de_es_mut, ↓de_pt_mut, ↓de_op_lc1, ↓ds_ret_lc1, ↓de_es_lc1, ↓de_pt_lc1, ↓de_op_lc2, ↓ds_ret_lc2, ↓de_es_lc2, ↓de_pt_lc2, ↓di_int_bool, ↓di_int_int, ↓di_int_str, ↓di_int_tuple, ↓di_int_list, ↓dn_int_non, ↓di_tup_bool, ↓di_tup_int, ↓di_tup_str, ↓di_tup_tuple, ↓di_tup_list, ↓dn_tup_non, ↓di_lst_bool, ↓di_lst_int, ↓di_lst_str, ↓di_lst_tuple, ↓di_lst_list, ↓dn_lst_non, ↓di_bl_bool, ↓di_bl_int, ↓di_bl_str, ↓di_bl_tuple, ↓di_bl_list, ↓dn_bl_non, ↓di_str_bool, ↓di_str_int, ↓di_str_str, ↓di_str_tuple, ↓di_str_list, ↓dn_str_non, ↓di_obj_bool, ↓di_obj_int, ↓di_obj_str, ↓di_obj_tuple, ↓di_obj_list, ↓dn_ne_bl, ↓dn_eq_bl, ↓dn_obj, ↓dz_to1, ↓dz_sum, beq_self_eq_true, bne_self_eq_false, Bool.not_true, Bool.not_false, decide_true, decide_false, ↓de_lc2, ↓df_0, ↓df_1, ↓df_2, ↓df_3, ↓df_i, ↓do_mulN, ↓do_from1, ↓do_to, ↓do_to1, ↓do_part, min2N, ↓db_lrng1, ↓db_trng1, ↓ds_parL2, ↓ds_parL3, ↓dm_app, ↓dm_ext, ↓dm_rev, ↓d_neints, ↓d_eqints, ↓dr_rng1c, ↓dr_rng2c, ↓dr_rng2o, ↓atD_0, ↓atD_1, ↓atD_2, ↓atD_3, ↓ixD_0, ↓ixD_3, getS_0, getS_s, List.set_cons_zero, List.set_cons_succ, stoV, RV.d, endC, tnC, wipeS, backAll, if_true, if_false, Bool.false_eq_true, pmD, List.getElem?_cons_zero, List.getElem?_cons_succ, List.cons_append, List.nil_append, List.append_nil, Option.map_some, shl1N, shlN, shrN, and1N, andN, orN, xorN, andnN, nandN, tstb, List.length_cons, List.length_nil, List.length_map, List.length_range, Nat.zero_add, Nat.reduceAdd, Nat.reduceLT, Nat.reduceLeDiff, true_and, List.getElem_range, addN, add1N, oneaN, pow1N, small1, nn0, le1000, and_true])
local macro_rules | `(tactic| walk_at "pa") => `(tactic| (simp only [atN, ixD_nat, setN, List.length_set, List.length_map, *]; walk_at "pl"))

theorem p_isrow (n : Nat) (l : List Nat) (k : Nat) (b : Int) (hl : l.length = k) (hk : k ≤ 100) (h : ∀ x ∈ l, (x : Int) ≤ b) : Wk ((gam pr (n + 4)).call 5 [.tup (l.map fun (k : Nat) => D.int (k : Int)), .int (k : Int), .int 0, .int b] none) fun r o => r = .val (.bl true) ∧ o = none := by
  refine k_call fn5 (k_run0 (S := [.val (.tup (l.map fun (k : Nat) => D.int (k : Int))), .val (.int k), .val (.int 0), .val (.int b)]) rfl rfl ?_)
  simp only [f5, b5]
  walk_at "pl"
  refine k_call0 ((p_tupof (n + 2) k _).mono ?_)
  rintro r o ⟨rfl, rfl⟩
  refine ⟨rfl, ?_⟩
  walk_at "pl"
  rw [if_pos (by simpa using hl)]
  walk_at "pl"
  refine k_call0 ((p_arebetween n l b (by omega) h).mono ?_)
  rintro r o ⟨rfl, rfl⟩
  refine ⟨rfl, ?_⟩
  walk_at "pl"
theorem p_size (n k : Nat) (h : k ≤ 8) : Wk ((gam pr (n + 3)).call 13 [.int (k : Int), .int 0, .int 8] none) fun r o => r = .val .non ∧ o = none := by
  refine k_call fn13 (k_run0 (S := [.val (.int k), .val (.int 0), .val (.int 8)]) rfl rfl ?_)
  simp only [f13, b13]
  walk_at "pl"
  refine k_call0 ((p_between n k 0 8).mono ?_)
  rintro r o ⟨rfl, rfl⟩
  refine ⟨rfl, ?_⟩
  walk_at "pl"
  rw [if_neg (by simp; omega)]
  walk_at "pl"
theorem p_ispair (n m : Nat) (p : Nat × Nat) (h1 : p.1 < m) (h2 : p.2 < m) (h3 : p.1 ≠ p.2) : Wk ((gam pr (n + 5)).call 14 [.int (m : Int), pD p] none) fun r o => r = .val (.bl true) ∧ o = none := by
  refine k_call fn14 (k_run0 (S := [.val (.int m), .val (pD p)]) rfl rfl ?_)
  simp only [f14, b14]
  walk_at "pl"
  refine k_call0 ((p_isrow n [p.1, p.2] 2 ((m : Int) - 1) rfl (by omega) (by simp; omega)).mono ?_)
  rintro r o ⟨rfl, rfl⟩
  refine ⟨rfl, ?_⟩
  unfold pD
  walk_at "pl"
  rw [decide_eq_false (by omega)]
  rfl
theorem p_arepairs (n m : Nat) (es : List (Nat × Nat)) (hl : es.length ≤ 60) (h : ∀ p ∈ es, p.1 < m ∧ p.2 < m ∧ p.1 ≠ p.2) : Wk ((gam pr (n + 6)).call 15 [.int (m : Int), .tup (es.map pD)] none) fun r o => r = .val (.bl true) ∧ o = none := by
  refine k_call fn15 (k_run0 (S := [.val (.int m), .val (.tup (es.map pD)), .un]) rfl rfl ?_)
  simp only [f15, b15]
  walk_at "pl"
  rw [if_neg (by simp; omega)]
  walk_at "pl"
  refine k_blockM pD (fun _ => [D.bl true]) ?_ ?_ ?_
  · rw [flat_one, List.length_map, lim_eq]; omega
  · intro p hp acc ha
    obtain ⟨h1, h2, h3⟩ := h p hp
    refine ⟨_, rfl, ?_⟩
    walk_at "pl"
    refine k_call0 ((p_ispair n m p h1 h2 h3).mono ?_)
    rintro r o ⟨rfl, rfl⟩
    refine ⟨rfl, ?_⟩
    walk_at "pl"
    simp only [List.length_cons, List.length_nil] at ha
    first | omega | exact ⟨by omega, rfl⟩
  · rw [flat_one]
    walk_at "pl"
    rw [d_all]
    simp
theorem p_near (n m : Nat) (es : List (Nat × Nat)) (hm : m ≤ 8) (he : ∀ p ∈ es, p.1 < m ∧ p.2 < m ∧ p.1 ≠ p.2) : Wk ((gam pr (n + 1)).call 16 [.int (m : Int), .tup (es.map pD)] none) fun r o => r = .fr ((es.foldl addE (List.replicate m 0)).map fun (k : Nat) => D.int (k : Int)) ∧ o = none := by
  refine k_call fn16 (k_run0 (S := [.val (.int m), .val (.tup (es.map pD)), .un, .un, .un]) rfl rfl ?_)
  simp only [f16, b16]
  walk_at "pl"
  have l : lim = 100000 := rfl
  refine ⟨by omega, ⟨by omega, by omega⟩, ?_⟩
  rw [rep0]
  refine k_forM pD (fun k S => ∃ x y, S = [.val (.int m), .val (.tup (es.map pD)), .own (((es.take k).foldl addE (List.replicate m 0)).map fun (k : Nat) => D.int (k : Int)), x, y]) ⟨_, _, rfl⟩ ?_ ?_
  · rintro k hk S ⟨x, y, rfl⟩
    refine ⟨_, rfl, ?_⟩
    have h := he _ (List.getElem_mem hk)
    have hl : ((es.take k).foldl addE (List.replicate m 0)).length = m := by rw [fold_len]; simp
    rw [List.take_succ_eq_append_getElem hk, List.foldl_append]
    generalize (es.take k).foldl addE (List.replicate m 0) = L at hl
    walk_at "pl"
    rw [atN (by omega)]
    walk_at "pl"
    refine ⟨by omega, ?_⟩
    rw [ixD_nat (by omega)]
    walk_at "pl"
    rw [setN, atN (by rw [List.length_set]; omega)]
    walk_at "pl"
    refine ⟨by omega, ?_⟩
    rw [ixD_nat (by rw [List.length_set]; omega)]
    walk_at "pl"
    rw [setN, getD_set (by omega), if_neg h.2.2]
    exact ⟨_, _, rfl⟩
  · rintro S ⟨x, y, rfl⟩
    walk_at "pl"
    rw [List.take_length]
theorem p_edges (n m : Nat) (near : List Nat) (hm : m ≤ 8) (hn : near.length = m) : Wk ((gam pr (n + 2)).call 17 [.tup (near.map fun (k : Nat) => D.int (k : Int))] none) fun r o => r = .val (.tup ((edgesL m near).map pD)) ∧ o = none := by
  refine k_call fn17 (k_run0 (S := [.val (.tup (near.map fun (k : Nat) => D.int (k : Int))), .un, .un, .un]) rfl rfl ?_)
  simp only [f17, b17]
  walk_at "pl"
  have hc28 := coup_len hm
  refine ⟨by omega, ?_⟩
  have e1 : (List.range near.length).flatMap (fun a => (coupR near.length a).map pD) = (coup near.length).map pD := by
    unfold coup; rw [List.map_flatMap]
  refine k_blockM (fun (k : Nat) => D.int (k : Int)) (fun a => (coupR near.length a).map pD) ?_ ?_ ?_
  · rw [e1, List.length_map, hn, lim_eq]; omega
  · intro a ha acc hacc
    have ha := List.mem_range.mp ha
    refine ⟨_, rfl, ?_⟩
    walk_at "pl"
    refine ⟨⟨by omega, by omega⟩, ?_⟩
    refine k_innerM (fun k => D.int ((a + 1 + k : Nat) : Int)) (fun k => [pD (a, a + 1 + k)]) ?_ ?_ ?_
    · rw [flat_one, List.length_map]
      unfold coupR at hacc
      rw [List.length_map, List.length_map] at hacc
      exact hacc
    · intro k hk acc2 hacc2
      refine ⟨_, rfl, ?_⟩
      walk_at "pl"
      simp only [List.length_cons, List.length_nil] at hacc2
      exact ⟨two_lim, by omega, rfl⟩
    · rw [flat_one]
      walk_at "pl"
      unfold coupR
      rw [List.map_map]; rfl
  · rw [e1, hn]
    walk_at "pl"
    refine k_blockM pD (fun p => if (near.getD p.1 0).testBit p.2 = true then [pD p] else []) ?_ ?_ ?_
    · rw [flat_if, List.length_map]
      have := List.length_filter_le (fun p : Nat × Nat => (near.getD p.1 0).testBit p.2) (coup m)
      rw [lim_eq]; omega
    · intro p hp acc ha
      have := mem_coup.mp hp
      refine ⟨_, rfl, ?_⟩
      walk_at "pl"
      rw [atN (by omega)]
      walk_at "pl"
      exact cf2 two_lim ha
    · rw [flat_if]
      walk_at "pl"
      first | rfl | exact ⟨rfl, rfl⟩

end Pl.k09
set_option Elab.async false
set_option linter.all false
set_option maxRecDepth 100000
namespace Pl.k09
open PySem Pl
local macro_rules | `(tactic| walk_at "pl0") => `(tactic| try simp only [↓dW_bind, ↓dW_pure, ↓dW_some, ↓dW_vi, ↓dW_vb, ↓dW_toD, ↓dW_rd, ↓dW_mv, ↓dW_op, ↓dW_own, ↓dW_get_dat, ↓dW_get_at, ↓dW_gets_nil, ↓dW_gets_cons, ↓dW_put, ↓dW_val, ↓dW_bool, ↓dW_tru, ↓dW_nx, ↓dW_ite, ↓dW_keep, ↓de_opv, ↓de_c, ↓de_v, ↓de_io, ↓de_bin, ↓de_un, ↓de_cmp, ↓de_chain, ↓de_and, ↓de_or, ↓de_not, ↓de_ite, ↓de_tup, ↓de_lst, ↓de_ix, ↓de_sl, ↓de_pnil, ↓de_rev, ↓de_fld, ↓de_sfld, ↓de_call, ↓de_make, ↓de_meth, ↓de_blt, ↓de_isi, ↓de_mut, ↓de_lc1, ↓de_es0, ↓de_star, ↓de_ps0, ↓de_ps, ↓de_ts0, ↓de_ts, ↓de_rs0, ↓de_rs, ↓ds_nil, ↓ds_cons, ↓ds_asgn, ↓ds_sto, ↓ds_sub, ↓ds_subX, ↓ds_asgs, ↓ds_asgf, ↓ds_fld, ↓ds_par, ↓ds_stoX0, ↓ds_stoXn, ↓ds_stoXs, ↓ds_unp, ↓ds_unpT, ↓ds_aug, ↓ds_expr, ↓ds_retv, ↓ds_iff, ↓ds_for, ↓ds_wh, ↓ds_pass, ↓ds_brk, ↓ds_cont, ↓do_add, ↓do_sub, ↓do_and, ↓do_or, ↓do_xor, ↓do_mul, ↓do_fdiv, ↓do_mod, ↓do_pow, ↓do_shl, ↓do_shr, ↓do_addL, ↓do_addT, ↓do_inv, ↓do_neg, ↓do_lt, ↓do_le, ↓do_gt, ↓do_ge, ↓do_eq, ↓do_ne, ↓do_item, ↓do_itemT, ↓dt_int, ↓dt_bl, ↓dt_non, ↓dt_lst, ↓dr_seq, ↓dr_seqt, ↓db_len, ↓db_lent, ↓db_lens, ↓db_abs, ↓db_max2, ↓db_min2, ↓db_int, ↓db_tuple, ↓db_tuplet, ↓db_list, ↓db_listt, ↓de_op_c, ↓ds_ret_c, ↓de_es_c, ↓de_pt_c, ↓de_es_v, ↓de_pt_v, ↓de_op_io, ↓ds_ret_io, ↓de_es_io, ↓de_pt_io, ↓de_op_bin, ↓ds_ret_bin, ↓de_es_bin, ↓de_pt_bin, ↓de_op_un, ↓ds_ret_un, ↓de_es_un, ↓de_pt_un, ↓de_op_cmp, ↓ds_ret_cmp, ↓de_es_cmp, ↓de_pt_cmp, ↓de_op_chain, ↓ds_ret_chain, ↓de_es_chain, ↓de_pt_chain, ↓de_op_and, ↓ds_ret_and, ↓de_es_and, ↓de_pt_and, ↓de_op_or, ↓ds_ret_or, ↓de_es_or, ↓de_pt_or, ↓de_op_not, ↓ds_ret_not, ↓de_es_not, ↓de_pt_not, ↓de_op_ite, ↓ds_ret_ite, ↓de_es_ite, ↓de_pt_ite, ↓de_op_tup, ↓ds_ret_tup, ↓de_es_tup, ↓de_pt_tup, ↓de_op_lst, ↓ds_ret_lst, ↓de_es_lst, ↓de_pt_lst, ↓de_op_ix, ↓ds_ret_ix, ↓de_es_ix, ↓de_pt_ix, ↓de_op_sl, ↓ds_ret_sl, ↓de_es_sl, ↓de_pt_sl, ↓de_op_rev, ↓ds_ret_rev, ↓de_es_rev, ↓de_pt_rev, ↓de_op_fld, ↓ds_ret_fld, ↓de_es_fld, ↓de_pt_fld, ↓de_op_sfld, ↓ds_ret_sfld, ↓de_es_sfld, ↓de_pt_sfld, ↓de_op_call, ↓ds_ret_call, ↓de_es_call, ↓de_pt_call, ↓de_op_make, ↓ds_ret_make, ↓de_es_make, ↓de_pt_make, ↓de_op_meth, ↓ds_ret_meth, ↓de_es_meth, ↓de_pt_meth, ↓de_op_blt, ↓ds_ret_blt, ↓de_es_blt, ↓de_pt_blt, ↓de_op_bmt, ↓ds_ret_bmt, ↓de_es_bmt, ↓de_pt_bmt, ↓de_op_isi, ↓ds_ret_isi, ↓de_es_isi, ↓de_pt_isi, ↓de_op_mut, ↓ds_ret_mut, ↓de_es_mut, ↓de_pt_mut, ↓de_op_lc1, ↓ds_ret_lc1, ↓de_es_lc1, ↓de_pt_lc1, ↓de_op_lc2, ↓ds_ret_lc2, ↓de_es_lc2, ↓de_pt_lc2, ↓di_int_bool, ↓di_int_int, ↓di_int_str, ↓di_int_tuple, ↓di_int_list, ↓dn_int_non, ↓di_tup_bool, ↓di_tup_int, ↓di_tup_str, ↓di_tup_tuple, ↓di_tup_list, ↓dn_tup_non, ↓di_lst_bool, ↓di_lst_int, ↓di_lst_str, ↓di_lst_tuple, ↓di_lst_list, ↓dn_lst_non, ↓di_bl_bool, ↓di_bl_int, ↓di_bl_str, ↓di_bl_tuple, ↓di_bl_list, ↓dn_bl_non, ↓di_str_bool, ↓di_str_int, ↓di_str_str, ↓di_str_tuple, ↓di_str_list, ↓dn_str_non, ↓di_obj_bool, ↓di_obj_int, ↓di_obj_str, ↓di_obj_tuple, ↓di_obj_list, ↓dn_ne_bl, ↓dn_eq_bl, ↓dn_obj, ↓dz_to1, ↓dz_sum, beq_self_eq_true, bne_self_eq_false, Bool.not_true, Bool.not_false, decide_true, decide_false, ↓de_lc2, ↓df_0, ↓df_1, ↓df_2, ↓df_3, ↓df_i, ↓do_mulN, ↓do_from1, ↓do_to, ↓do_to1, ↓do_part, min2N, ↓db_lrng1, ↓db_trng1, ↓ds_parL2, ↓ds_parL3, ↓dm_app, ↓dm_ext, ↓dm_rev, ↓d_neints, ↓d_eqints, ↓dr_rng1c, ↓dr_rng2c, ↓dr_rng2o, ↓atD_0, ↓atD_1, ↓atD_2, ↓atD_3, ↓ixD_0, ↓ixD_3, getS_0, getS_s, List.set_cons_zero, List.set_cons_succ, stoV, RV.d, endC, tnC, wipeS, backAll, if_true, if_false, Bool.false_eq_true, pmD, List.getElem?_cons_zero, List.getElem?_cons_succ, List.cons_append, List.nil_append, List.append_nil, Option.map_some, shl1N, shlN, shrN, and1N, andN, orN, xorN, andnN, nandN, tstb, List.length_cons, List.length_nil, List.length_map, List.length_range, Nat.zero_add, Nat.reduceAdd, Nat.reduceLT, Nat.reduceLeDiff, true_and])
local macro_rules | `(tactic| walk_at "pl") => `(tactic| try simp only [↓dW_bind, ↓dW_pure, ↓dW_some, ↓dW_vi, ↓dW_vb, ↓dW_toD, ↓dW_rd, ↓dW_mv, ↓dW_op, ↓dW_own, ↓dW_get_dat, ↓dW_get_at, ↓dW_gets_nil, ↓dW_gets_cons, ↓dW_put, ↓dW_val, ↓dW_bool, ↓dW_tru, ↓dW_nx, ↓dW_ite, ↓dW_keep, ↓de_opv, ↓de_c, ↓de_v, ↓de_io, ↓de_bin, ↓de_un, ↓de_cmp, ↓de_chain, ↓de_and, ↓de_or, ↓de_not, ↓de_ite, ↓de_tup, ↓de_lst, ↓de_ix, ↓de_sl, ↓de_pnil, ↓de_rev, ↓de_fld, ↓de_sfld, ↓de_call, ↓de_make, ↓de_meth, ↓de_blt, ↓de_isi, ↓de_mut, ↓de_lc1, ↓de_es0, ↓de_star, ↓de_ps0, ↓de_ps, ↓de_ts0, ↓de_ts, ↓de_rs0, ↓de_rs, ↓ds_nil, ↓ds_cons, ↓ds_asgn, ↓ds_sto, ↓ds_sub, ↓ds_subX, ↓ds_asgs, ↓ds_asgf, ↓ds_fld, ↓ds_par, ↓ds_stoX0, ↓ds_stoXn, ↓ds_stoXs, ↓ds_unp, ↓ds_unpT, ↓ds_aug, ↓ds_expr, ↓ds_retv, ↓ds_iff, ↓ds_for, ↓ds_wh, ↓ds_pass, ↓ds_brk, ↓ds_cont, ↓do_add, ↓do_sub, ↓do_and, ↓do_or, ↓do_xor, ↓do_mul, ↓do_fdiv, ↓do_mod, ↓do_pow, ↓do_shl, ↓do_shr, ↓do_addL, ↓do_addT, ↓do_inv, ↓do_neg, ↓do_lt, ↓do_le, ↓do_gt, ↓do_ge, ↓do_eq, ↓do_ne, ↓do_item, ↓do_itemT, ↓dt_int, ↓dt_bl, ↓dt_non, ↓dt_lst, ↓dr_seq, ↓dr_seqt, ↓db_len, ↓db_lent, ↓db_lens, ↓db_abs, ↓db_max2, ↓db_min2, ↓db_int, ↓db_tuple, ↓db_tuplet, ↓db_list, ↓db_listt, ↓de_op_c, ↓ds_ret_c, ↓de_es_c, ↓de_pt_c, ↓de_es_v, ↓de_pt_v, ↓de_op_io, ↓ds_ret_io, ↓de_es_io, ↓de_pt_io, ↓de_op_bin, ↓ds_ret_bin, ↓de_es_bin, ↓de_pt_bin, ↓de_op_un, ↓ds_ret_un, ↓de_es_un, ↓de_pt_un, ↓de_op_cmp, ↓ds_ret_cmp, ↓de_es_cmp, ↓de_pt_cmp, ↓de_op_chain, ↓ds_ret_chain, ↓de_es_chain, ↓de_pt_chain, ↓de_op_and, ↓ds_ret_and, ↓de_es_and, ↓de_pt_and, ↓de_op_or, ↓ds_ret_or, ↓de_es_or, ↓de_pt_or, ↓de_op_not, ↓ds_ret_not, ↓de_es_not, ↓de_pt_not, ↓de_op_ite, ↓ds_ret_ite, ↓de_es_ite, ↓de_pt_ite, ↓de_op_tup, ↓ds_ret_tup, ↓de_es_tup, ↓de_pt_tup, ↓de_op_lst, ↓ds_ret_lst, ↓de_es_lst, ↓de_pt_lst, ↓de_op_ix, ↓ds_ret_ix, ↓de_es_ix, ↓de_pt_ix, ↓de_op_sl, ↓ds_ret_sl, ↓de_es_sl, ↓de_pt_sl, ↓de_op_rev, ↓ds_ret_rev, ↓de_es_rev, ↓de_pt_rev, ↓de_op_fld, ↓ds_ret_fld, ↓de_es_fld, ↓de_pt_fld, ↓de_op_sfld, ↓ds_ret_sfld, ↓de_es_sfld, ↓de_pt_sfld, ↓de_op_call, ↓ds_ret_call, ↓de_es_call, ↓de_pt_call, ↓de_op_make, ↓ds_ret_make, ↓de_es_make, ↓de_pt_make, ↓de_op_meth, ↓ds_ret_meth, ↓de_es_meth, ↓de_pt_meth, ↓de_op_blt, ↓ds_ret_blt, ↓de_es_blt, ↓de_pt_blt, ↓de_op_bmt, ↓ds_ret_bmt, ↓de_es_bmt, ↓de_pt_bmt, ↓de_op_isi, ↓ds_ret_isi, ↓de_es_isi, ↓de_pt_isi, ↓de_op_mut, ↓ds_ret_mut, ↓de_es_mut, ↓de_pt_mut, ↓de_op_lc1, ↓ds_ret_lc1, ↓de_es_lc1, ↓de_pt_lc1, ↓de_op_lc2, ↓ds_ret_lc2, ↓de_es_lc2, ↓de_pt_lc2, ↓di_int_bool, ↓di_int_int, ↓di_int_str, ↓di_int_tuple, ↓di_int_list, ↓dn_int_non, ↓di_tup_bool, ↓di_tup_int, ↓di_tup_str, ↓di_tup_tuple, ↓di_tup_list, ↓dn_tup_non, ↓di_lst_bool, ↓di_lst_int, ↓di_lst_str, ↓di_lst_tuple, ↓di_lst_list, ↓dn_lst_non, ↓di_bl_bool, ↓di_bl_int, ↓di_bl_str, ↓di_bl_tuple, ↓di_bl_list, ↓dn_bl_non, ↓di_str_bool, ↓di_str_int, ↓di_str_str, ↓di_str_tuple, ↓di_str_list, ↓dn_str_non, ↓di_obj_bool, ↓di_obj_int, ↓di_obj_str, ↓di_obj_tuple, ↓di_obj_list, ↓dn_ne_bl, ↓dn_eq_bl, ↓dn_obj, ↓dz_to1, ↓dz_sum, beq_self_eq_true, bne_self_eq_false, Bool.not_true, Bool.not_false, decide_true, decide_false, ↓de_lc2, ↓df_0, ↓df_1, ↓df_2, ↓df_3, ↓df_i, ↓do_mulN, ↓do_from1, ↓do_to, ↓do_to1, ↓do_part, min2N, ↓db_lrng1, ↓db_trng1, ↓ds_parL2, ↓ds_parL3, ↓dm_app, ↓dm_ext, ↓dm_rev, ↓d_neints, ↓d_eqints, ↓dr_rng1c, ↓dr_rng2c, ↓dr_rng2o, ↓atD_0, ↓atD_1, ↓atD_2, ↓atD_3, ↓ixD_0, ↓ixD_3, getS_0, getS_s, List.set_cons_zero, List.set_cons_succ, stoV, RV.d, endC, tnC, wipeS, backAll, if_true, if_false, Bool.false_eq_true, pmD, List.getElem?_cons_zero, List.getElem?_cons_succ, List.cons_append, List.nil_append, List.append_nil, Option.map_some, shl1N, shlN, shrN, and1N, andN, orN, xorN, andnN, nandN, tstb, List.length_cons, List.length_nil, List.length_map, List.length_range, Nat.zero_add, Nat.reduceAdd, Nat.reduceLT, Nat.reduceLeDiff, true_and, List.getElem_range, addN, add1N, oneaN, pow1N, small1, nn0, le1000, and_true])
local macro_rules | `(tactic| walk_at "pa") => `(tactic| (simp only [atN, ixD_nat, setN, List.length_set, List.length_map, *]; walk_at "pl"))

theorem fold_pair {m : Nat} : ∀ (es : List (Nat × Nat)) (L : List Nat), L.length = m → (∀ p ∈ es, p.1 < m ∧ p.2 < m ∧ p.1 ≠ p.2) → ∀ v w, ((es.foldl addE L).getD v 0).testBit w = ((L.getD v 0).testBit w || es.any fun p => decide (p = (v, w)) || decide (p = (w, v)))
  | [], L, _, _, v, w => by simp
  | p :: es, L, hL, he, v, w => by
    obtain ⟨h1, h2, h3⟩ := he p (List.mem_cons_self ..)
    rw [List.foldl_cons, fold_pair es (addE L p) (by rw [addE_len]; exact hL) (fun q hq => he q (List.mem_cons_of_mem _ hq)) v w, List.any_cons]
    rw [← Bool.or_assoc]
    congr 1
    obtain ⟨a, b⟩ := p
    simp only at h1 h2 h3
    rw [addE_get (by omega) (by omega) h3]
    by_cases e1 : v = a
    · subst e1
      rw [if_pos rfl, Nat.testBit_or, testBit_pow]
      congr 1
      rw [Bool.eq_iff_iff]
      simp only [Bool.or_eq_true, decide_eq_true_eq, Prod.mk.injEq, true_and, and_true]
      omega
    · rw [if_neg e1]
      by_cases e2 : v = b
      · subst e2
        rw [if_pos rfl, Nat.testBit_or, testBit_pow]
        congr 1
        rw [Bool.eq_iff_iff]
        simp only [Bool.or_eq_true, decide_eq_true_eq, Prod.mk.injEq, true_and, and_true]
        omega
      · rw [if_neg e2]
        rw [decide_eq_false (fun e => e1 (Prod.mk.inj e).1.symm), decide_eq_false (fun e => e2 (Prod.mk.inj e).2.symm)]
        simp
theorem edges_sub {m : Nat} (near : List Nat) : ∀ p ∈ edgesL m near, p ∈ coup m := fun p hp => (List.mem_filter.mp hp).1
theorem near_edges {m : Nat} {near : List Nat} (h : NK m near) : (edgesL m near).foldl addE (List.replicate m 0) = near := by
  refine List.ext_getElem (by rw [fold_len, List.length_replicate, h.len]) fun v h1 h2 => ?_
  have key : ((edgesL m near).foldl addE (List.replicate m 0)).getD v 0 = near.getD v 0 := by
    refine Nat.eq_of_testBit_eq fun w => ?_
    rw [fold_pair (m := m) _ _ (by simp) (sub_ok (edges_sub near)), show (List.replicate m 0).getD v 0 = 0 from by rw [List.getD_eq_getElem?_getD, List.getElem?_replicate]; split <;> rfl, Nat.zero_testBit, Bool.false_or, Bool.eq_iff_iff, List.any_eq_true]
    constructor
    · rintro ⟨p, hp, hq⟩
      simp only [Bool.or_eq_true, decide_eq_true_eq] at hq
      obtain ⟨e1, e2⟩ := List.mem_filter.mp hp
      rcases hq with rfl | rfl
      · exact e2
      · exact (h.bit _ _ e2).2.2.2
    · intro hb
      obtain ⟨q1, q2, q3, q4⟩ := h.bit v w hb
      by_cases hlt : v < w
      · exact ⟨(v, w), List.mem_filter.mpr ⟨mem_coup.mpr ⟨hlt, q2⟩, hb⟩, by simp⟩
      · exact ⟨(w, v), List.mem_filter.mpr ⟨mem_coup.mpr ⟨by simp only; omega, q1⟩, q4⟩, by simp⟩
  rw [List.getD_eq_getElem?_getD, List.getD_eq_getElem?_getD, List.getElem?_eq_getElem h1, List.getElem?_eq_getElem h2] at key
  exact key
/-- the object -/
def grD (m : Nat) (near : List Nat) : D := .obj 0 [0, 1, 2, 3] [.tup (near.map fun (k : Nat) => D.int (k : Int)), .int (m : Int), .tup ((edgesL m near).map pD), .tup ((List.range m).map fun (k : Nat) => D.int (k : Int))]
theorem p_make (n m : Nat) (near : List Nat) (hm : m ≤ 8) (h : NK m near) : Wk (makeG pr (gam pr (n + 6)) 0 [.int (m : Int), .tup ((edgesL m near).map pD)]) fun r o => r = .val (grD m near) ∧ o = none := by
  refine k_ini (S := [.val .non, .val (.int m), .val (.tup ((edgesL m near).map pD))]) (fn := f53) rfl rfl ?_
  have he := edges_len near hm
  simp only [f53, b53]
  walk_at "pl"
  refine k_call0 ((p_size (n + 3) m hm).mono ?_)
  rintro r o ⟨rfl, rfl⟩
  refine ⟨rfl, ?_⟩
  walk_at "pl"
  refine k_call0 ((p_arepairs (n) m _ (by omega) (sub_ok (edges_sub near))).mono ?_)
  rintro r o ⟨rfl, rfl⟩
  refine ⟨rfl, ?_⟩
  walk_at "pl"
  refine k_call0 ((p_near (n + 5) m _ hm (sub_ok (edges_sub near))).mono ?_)
  rintro r o ⟨rfl, rfl⟩
  refine ⟨rfl, ?_⟩
  rw [near_edges h]
  walk_at "pl"
  rw [if_neg (by decide), if_neg (by decide)]
  refine k_call0 ((p_edges (n + 4) m near hm h.len).mono ?_)
  rintro r o ⟨rfl, rfl⟩
  refine ⟨rfl, ?_⟩
  walk_at "pl"
  rw [if_neg (by decide)]
  refine ⟨by rw [lim_eq]; omega, ?_⟩
  rw [if_neg (by decide)]
  exact ⟨_, _, rfl, rfl⟩
def cutC (a : Nat) (p : Nat × Nat) : Bool := a.testBit p.1 != a.testBit p.2
theorem connC_zero (near : List Nat) : connC near 0 = false := by
  have e1 : bitsB 8 0 = [] := by decide
  have e2 : partsL near 0 = [] := rfl
  unfold connC
  rw [e1, e2]; rfl
def connP (m : Nat) (near : List Nat) (k : Nat) : List Int := ((List.range k).filter (connC near)).map fun a => (m : Int) - ((bitsB 8 a).length : Int)
theorem connP_eq (m k : Nat) (near : List Nat) : connP m near (k + 1) = ((List.range k).filter fun a => connC near (1 + a)).map fun a => (m : Int) - ((bitsB 8 (1 + a)).length : Int) := by
  unfold connP
  rw [List.range_succ_eq_map, List.filter_cons, connC_zero, if_neg (by decide), List.filter_map, List.map_map]
  have e : Nat.succ = fun a => 1 + a := by funext a; omega
  rw [e]; rfl
theorem d_meth7 {S : Sl} {n m : Nat} {near : List Nat} {Q : Nat → Sl → Prop} : Wq (M.opt (methD (gam pr (n + 1)) 7 (grD m near))) S Q = Q 49 S := by
  have e : methD (gam pr (n + 1)) 7 (grD m near) = some 49 := by
    show (if [0, 1, 2, 3].contains 7 then none else (gam pr (n + 1)).meth 0 7) = some 49
    rw [gam_meth]; rfl
  rw [e]; rw [Wd_eq]; rfl
theorem p_gnear (n m : Nat) (near : List Nat) : Wk ((gam pr (n + 1)).call 49 [grD m near] none) fun r o => r = .fr (near.map fun (k : Nat) => D.int (k : Int)) ∧ o = none := by
  refine k_call fn49 (k_run0 (S := [.val (grD m near)]) rfl rfl ?_)
  simp only [f49, b49, grD]
  walk_at "pl"
section
variable {S : Sl} {QR : RV → Sl → Prop} {m : Nat} {near : List Nat}
theorem dg_1 : Wq (M.opt (fldD 1 (grD m near))) S QR = QR (.val (.int (m : Int))) S := by rw [Wd_eq]; rfl
theorem dg_2 : Wq (M.opt (fldD 2 (grD m near))) S QR = QR (.val (.tup ((edgesL m near).map pD))) S := by rw [Wd_eq]; rfl
theorem dg_3 : Wq (M.opt (fldD 3 (grD m near))) S QR = QR (.val (.tup ((List.range m).map fun (k : Nat) => D.int (k : Int)))) S := by rw [Wd_eq]; rfl
end
theorem p_conn (n m : Nat) (near : List Nat) (hm : m ≤ 8) (hn : near.length = m) : Wk ((gam pr (n + 5)).call 18 [grD m near] none) fun r o => r = .val (.int (connV m near)) ∧ o = none := by
  have hp8 : (2 : Nat) ^ m ≤ 2 ^ 8 := Nat.pow_le_pow_right (by omega) hm
  have hp0 := Nat.two_pow_pos m
  refine k_call fn18 (k_run0 (S := [.val (grD m near), .un, .un, .un, .un]) rfl rfl ?_)
  simp only [f18, b18]
  walk_at "pl"
  rw [d_meth7]
  walk_at "pl"
  refine k_call0 ((p_gnear (n + 3) m near).mono ?_)
  rintro r o ⟨rfl, rfl⟩
  refine ⟨rfl, ?_⟩
  walk_at "pl"
  rw [dg_3]
  walk_at "pl"
  refine k_call0 ((p_mask (n + 3) m hm).mono ?_)
  rintro r o ⟨rfl, rfl⟩
  refine ⟨rfl, ?_⟩
  walk_at "pl"
  refine ⟨by decide, by omega, ?_⟩
  refine k_forM (fun (k : Nat) => D.int (k : Int)) (fun k S => ∃ x, S = [.val (grD m near), .own ((connP m near k).map D.int), x, .val (.lst (near.map fun (k : Nat) => D.int (k : Int))), .val (.int ((2 ^ m - 1 : Nat) : Int))]) ⟨_, rfl⟩ ?_ ?_
  · rintro k hk S ⟨x, rfl⟩
    rw [List.length_range] at hk
    simp only [List.getElem_range]
    have hlen : (connP m near k).length < lim := by
      unfold connP
      rw [List.length_map]
      have := List.length_filter_le (connC near) (List.range k)
      rw [List.length_range] at this
      rw [lim_eq]; omega
    have step : connP m near (k + 1) = connP m near k ++ if connC near k = true then [(m : Int) - ((bitsB 8 k).length : Int)] else [] := by
      unfold connP
      rw [List.range_succ, List.filter_append, List.map_append]
      by_cases h : connC near k = true
      · rw [if_pos h, List.filter_cons, if_pos h]; rfl
      · rw [if_neg h, List.filter_cons, if_neg h]; rfl
    refine ⟨_, rfl, ?_⟩
    walk_at "pl"
    refine k_call0 ((p_many (n + 2) k).mono ?_)
    rintro r o ⟨rfl, rfl⟩
    refine ⟨rfl, ?_⟩
    walk_at "pl"
    by_cases h1 : (bitsB 8 k).length = 1
    · have hc : connC near k = true := by unfold connC; rw [decide_eq_true h1]; rfl
      rw [if_pos (by simp; omega), if_pos (by simp; omega), dg_1]
      walk_at "pl"
      refine k_call0 ((p_many (n + 2) k).mono ?_)
      rintro r o ⟨rfl, rfl⟩
      refine ⟨rfl, ?_⟩
      walk_at "pl"
      rw [if_pos hc] at step
      exact ⟨by simpa using hlen, _, by rw [step, List.map_append]; rfl⟩
    · rw [if_neg (by simp; omega)]
      refine k_call0 ((p_parts n near k (by omega) (by rw [hn]; omega)).mono ?_)
      rintro r o ⟨rfl, rfl⟩
      refine ⟨rfl, ?_⟩
      walk_at "pl"
      by_cases h2 : 1 < (partsL near k).length
      · have hc : connC near k = true := by unfold connC; rw [decide_eq_true h2, Bool.or_true]
        rw [if_pos (by simp; omega), dg_1]
        walk_at "pl"
        refine k_call0 ((p_many (n + 2) k).mono ?_)
        rintro r o ⟨rfl, rfl⟩
        refine ⟨rfl, ?_⟩
        walk_at "pl"
        rw [if_pos hc] at step
        exact ⟨by simpa using hlen, _, by rw [step, List.map_append]; rfl⟩
      · have hc : connC near k = false := by unfold connC; rw [decide_eq_false h1, decide_eq_false h2]; rfl
        rw [if_neg (by simp; omega)]
        walk_at "pl"
        rw [hc, if_neg (by simp), List.append_nil] at step
        exact ⟨_, by rw [step]⟩
  · rintro S ⟨x, rfl⟩
    rw [List.length_range, show connP m near (2 ^ m - 1 + 1) = connI m near from connP_eq ..]
    walk_at "pl"
    rw [d_eqI]
    walk_at "pl"
    unfold connV
    cases e : connI m near with
    | nil => simp; rfl
    | cons a l =>
      obtain ⟨v, hv⟩ : ∃ v, minI (a :: l) = some v := ⟨_, rfl⟩
      rw [d_minI hv, hv]
      simp
def progL (m : Nat) (near : List Nat) : List (List (Nat × Nat)) := (if m < 2 then [[]] else []) ++ (List.range (2 ^ m - 1 - 1)).map fun k => outL m near (1 + k)
abbrev cD (c : List (Nat × Nat)) : D := .tup (c.map pD)
theorem fold_min : ∀ (r : List (List (Nat × Nat))) (x : List (Nat × Nat)), ∃ c, c ∈ x :: r ∧ (∀ d ∈ x :: r, c.length ≤ d.length) ∧ (r.map cD).foldl (fun m y => if decide (dl y < dl m) then y else m) (cD x) = cD c
  | [], x => ⟨x, by simp, by simp, rfl⟩
  | y :: r, x => by
    have hd : ∀ c : List (Nat × Nat), dl (cD c) = c.length := fun c => by show (c.map pD).length = _; rw [List.length_map]
    rw [List.map_cons, List.foldl_cons, hd, hd]
    by_cases h : y.length < x.length
    · rw [if_pos (decide_eq_true h)]
      obtain ⟨c, h1, h2, h3⟩ := fold_min r y
      refine ⟨c, List.mem_cons_of_mem _ h1, fun d hd => ?_, h3⟩
      rcases List.mem_cons.mp hd with rfl | hd
      · exact Nat.le_trans (h2 y (List.mem_cons_self ..)) (by omega)
      · exact h2 d hd
    · rw [if_neg (by simpa using h)]
      obtain ⟨c, h1, h2, h3⟩ := fold_min r x
      refine ⟨c, ?_, fun d hd => ?_, h3⟩
      · rcases List.mem_cons.mp h1 with rfl | h1
        · exact List.mem_cons_self ..
        · exact List.mem_cons_of_mem _ (List.mem_cons_of_mem _ h1)
      · rcases List.mem_cons.mp hd with rfl | hd
        · exact h2 d (List.mem_cons_self ..)
        · rcases List.mem_cons.mp hd with rfl | hd
          · exact Nat.le_trans (h2 x (List.mem_cons_self ..)) (by omega)
          · exact h2 d (List.mem_cons_of_mem _ hd)
theorem d_minlen {S : Sl} {QR : RV → Sl → Prop} {l : List (List (Nat × Nat))} (h : 0 < l.length) (hq : ∀ c ∈ l, (∀ d ∈ l, c.length ≤ d.length) → QR (.val (cD c)) S) : Wq (M.opt (bltD .minlen [.lst (l.map cD)])) S QR := by
  cases l with
  | nil => simp at h
  | cons x r =>
    obtain ⟨c, h1, h2, h3⟩ := fold_min r x
    have e : bltD .minlen [.lst ((x :: r).map cD)] = some (.val (cD c)) := by
      show (if ((cD x :: r.map cD).all fun d => (dlen d).isSome) = true then some (RV.val ((r.map cD).foldl (fun m y => if decide (dl y < dl m) then y else m) (cD x))) else none) = _
      rw [if_pos (by
        rw [List.all_eq_true]
        intro d hd
        rcases List.mem_cons.mp hd with rfl | hd
        · rfl
        · obtain ⟨q, _, rfl⟩ := List.mem_map.mp hd; rfl), h3]
    rw [e, Wd_eq]
    exact hq c h1 h2
theorem tstn (a p q : Nat) : (!decide (((a / 2 ^ p &&& 1 : Nat) : Int) = ((a / 2 ^ q &&& 1 : Nat) : Int))) = (a.testBit p != a.testBit q) := by
  rw [tst, tst]
  cases a.testBit p <;> cases a.testBit q <;> rfl
def ct2 : List Sm := b19.drop 1
theorem cut_tail (n m : Nat) (near : List Nat) (base : List (List (Nat × Nat))) (x2 x3 : Slot) (hm : m ≤ 8) (hn : near.length = m) (h2 : base = if m < 2 then [[]] else []) : Wq (exSs (gam pr (n + 1)) ct2) [.val (grD m near), .own (base.map cD), x2, x3] fun c _ => endC (fun r => (∃ c, c ∈ progL m near ∧ (∀ d ∈ progL m near, c.length ≤ d.length) ∧ r = .val (.tup (c.map pD))) ∧ (none : Option (List D)) = none) c := by
  have hp8 : (2 : Nat) ^ m ≤ 2 ^ 8 := Nat.pow_le_pow_right (by omega) hm
  have hp0 := Nat.two_pow_pos m
  have he := edges_len near hm
  have hb : base.length ≤ 1 := by rw [h2]; split <;> simp
  simp only [ct2, b19, List.drop_succ_cons, List.drop_zero]
  walk_at "pl"
  rw [dg_3]
  walk_at "pl"
  refine k_call0 ((p_mask n m hm).mono ?_)
  rintro r o ⟨rfl, rfl⟩
  refine ⟨rfl, ?_⟩
  walk_at "pl"
  refine ⟨by omega, ?_⟩
  refine k_forM (fun (k : Nat) => D.int ((1 + k : Nat) : Int)) (fun k S => ∃ x y, S = [.val (grD m near), .own ((base ++ (List.range k).map fun k => outL m near (1 + k)).map cD), x, y]) ⟨x2, x3, by simp⟩ ?_ ?_
  · rintro k hk S ⟨x, y, rfl⟩
    rw [List.length_range] at hk
    simp only [List.getElem_range]
    refine ⟨_, rfl, ?_⟩
    walk_at "pl"
    rw [dg_2]
    walk_at "pl"
    refine k_blockM pD (fun p => if ((1 + k).testBit p.1 != (1 + k).testBit p.2) = true then [pD p] else []) ?_ ?_ ?_
    · rw [flat_if, List.length_map]
      have := List.length_filter_le (fun p : Nat × Nat => (1 + k).testBit p.1 != (1 + k).testBit p.2) (edgesL m near)
      rw [lim_eq]; omega
    · intro p hp acc ha
      refine ⟨_, rfl, ?_⟩
      simp only [pD] at ha ⊢
      walk_at "pl"
      rw [tstn]
      exact cf1 ha
    · rw [flat_if]
      walk_at "pl"
      refine ⟨?_, .val (.int ((1 + k : Nat) : Int)), y, ?_⟩
      · rw [List.length_append]; simp; rw [lim_eq]; omega
      · simp only [List.range_succ, List.map_append, List.append_assoc]
        rfl
  · rintro S ⟨x, y, rfl⟩
    rw [List.length_range, show base ++ (List.range (2 ^ m - 1 - 1)).map (fun k => outL m near (1 + k)) = progL m near from by rw [h2]; rfl]
    walk_at "pl"
    have hne : 0 < (progL m near).length := by
      unfold progL
      by_cases h : m < 2
      · rw [if_pos h]; simp
      · have : (2 : Nat) ^ 2 ≤ 2 ^ m := Nat.pow_le_pow_right (by omega) (by omega)
        rw [if_neg h]; simp; omega
    exact d_minlen hne fun c h1 h2 => ⟨⟨c, h1, h2, rfl⟩, rfl⟩
theorem p_cut (n m : Nat) (near : List Nat) (hm : m ≤ 8) (hn : near.length = m) : Wk ((gam pr (n + 2)).call 19 [grD m near] none) fun r o => (∃ c, c ∈ progL m near ∧ (∀ d ∈ progL m near, c.length ≤ d.length) ∧ r = .val (.tup (c.map pD))) ∧ o = none := by
  have hp8 : (2 : Nat) ^ m ≤ 2 ^ 8 := Nat.pow_le_pow_right (by omega) hm
  have hp0 := Nat.two_pow_pos m
  refine k_call fn19 (k_run0 (S := [.val (grD m near), .un, .un, .un]) rfl rfl ?_)
  simp only [f19, b19]
  obtain ⟨l, hl⟩ : ∃ l, ct2 = l := ⟨_, rfl⟩
  have hl' := hl
  simp only [ct2, b19, List.drop_succ_cons, List.drop_zero] at hl'
  rw [hl']
  clear hl'
  walk_at "pl"
  rw [dg_1]
  walk_at "pl"
  by_cases h : m < 2
  · rw [if_pos (by simp; omega)]
    refine ⟨by decide, by decide, ?_⟩
    rw [← hl]
    exact cut_tail n m near [[]] _ _ hm hn (by rw [if_pos h])
  · rw [if_neg (by simp; omega)]
    refine ⟨by decide, ?_⟩
    rw [← hl]
    exact cut_tail n m near [] _ _ hm hn (by rw [if_neg h])
theorem p_econn (n m : Nat) (near : List Nat) (hm : m ≤ 8) (hn : near.length = m) : Wk ((gam pr (n + 3)).call 20 [grD m near] none) fun r o => (∃ c, c ∈ progL m near ∧ (∀ d ∈ progL m near, c.length ≤ d.length) ∧ r = .val (.int (c.length : Int))) ∧ o = none := by
  refine k_call fn20 (k_run0 (S := [.val (grD m near)]) rfl rfl ?_)
  simp only [f20, b20]
  walk_at "pl"
  refine k_call0 ((p_cut n m near hm hn).mono ?_)
  rintro r o ⟨⟨c, h1, h2, rfl⟩, rfl⟩
  refine ⟨rfl, ?_⟩
  walk_at "pl"
  first | exact ⟨⟨c, h1, h2, rfl⟩, rfl⟩ | exact ⟨c, h1, h2, rfl⟩

end Pl.k09
set_option Elab.async false
set_option linter.all false
set_option maxRecDepth 100000
namespace Pl.k09
open PySem Pl
local macro_rules | `(tactic| walk_at "pl0") => `(tactic| try simp only [↓dW_bind, ↓dW_pure, ↓dW_some, ↓dW_vi, ↓dW_vb, ↓dW_toD, ↓dW_rd, ↓dW_mv, ↓dW_op, ↓dW_own, ↓dW_get_dat, ↓dW_get_at, ↓dW_gets_nil, ↓dW_gets_cons, ↓dW_put, ↓dW_val, ↓dW_bool, ↓dW_tru, ↓dW_nx, ↓dW_ite, ↓dW_keep, ↓de_opv, ↓de_c, ↓de_v, ↓de_io, ↓de_bin, ↓de_un, ↓de_cmp, ↓de_chain, ↓de_and, ↓de_or, ↓de_not, ↓de_ite, ↓de_tup, ↓de_lst, ↓de_ix, ↓de_sl, ↓de_pnil, ↓de_rev, ↓de_fld, ↓de_sfld, ↓de_call, ↓de_make, ↓de_meth, ↓de_blt, ↓de_isi, ↓de_mut, ↓de_lc1, ↓de_es0, ↓de_star, ↓de_ps0, ↓de_ps, ↓de_ts0, ↓de_ts, ↓de_rs0, ↓de_rs, ↓ds_nil, ↓ds_cons, ↓ds_asgn, ↓ds_sto, ↓ds_sub, ↓ds_subX, ↓ds_asgs, ↓ds_asgf, ↓ds_fld, ↓ds_par, ↓ds_stoX0, ↓ds_stoXn, ↓ds_stoXs, ↓ds_unp, ↓ds_unpT, ↓ds_aug, ↓ds_expr, ↓ds_retv, ↓ds_iff, ↓ds_for, ↓ds_wh, ↓ds_pass, ↓ds_brk, ↓ds_cont, ↓do_add, ↓do_sub, ↓do_and, ↓do_or, ↓do_xor, ↓do_mul, ↓do_fdiv, ↓do_mod, ↓do_pow, ↓do_shl, ↓do_shr, ↓do_addL, ↓do_addT, ↓do_inv, ↓do_neg, ↓do_lt, ↓do_le, ↓do_gt, ↓do_ge, ↓do_eq, ↓do_ne, ↓do_item, ↓do_itemT, ↓dt_int, ↓dt_bl, ↓dt_non, ↓dt_lst, ↓dr_seq, ↓dr_seqt, ↓db_len, ↓db_lent, ↓db_lens, ↓db_abs, ↓db_max2, ↓db_min2, ↓db_int, ↓db_tuple, ↓db_tuplet, ↓db_list, ↓db_listt, ↓de_op_c, ↓ds_ret_c, ↓de_es_c, ↓de_pt_c, ↓de_es_v, ↓de_pt_v, ↓de_op_io, ↓ds_ret_io, ↓de_es_io, ↓de_pt_io, ↓de_op_bin, ↓ds_ret_bin, ↓de_es_bin, ↓de_pt_bin, ↓de_op_un, ↓ds_ret_un, ↓de_es_un, ↓de_pt_un, ↓de_op_cmp, ↓ds_ret_cmp, ↓de_es_cmp, ↓de_pt_cmp, ↓de_op_chain, ↓ds_ret_chain, ↓de_es_chain, ↓de_pt_chain, ↓de_op_and, ↓ds_ret_and, ↓de_es_and, ↓de_pt_and, ↓de_op_or, ↓ds_ret_or, ↓de_es_or, ↓de_pt_or, ↓de_op_not, ↓ds_ret_not, ↓de_es_not, ↓de_pt_not, ↓de_op_ite, ↓ds_ret_ite, ↓de_es_ite, ↓de_pt_ite, ↓de_op_tup, ↓ds_ret_tup, ↓de_es_tup, ↓de_pt_tup, ↓de_op_lst, ↓ds_ret_lst, ↓de_es_lst, ↓de_pt_lst, ↓de_op_ix, ↓ds_ret_ix, ↓de_es_ix, ↓de_pt_ix, ↓de_op_sl, ↓ds_ret_sl, ↓de_es_sl, ↓de_pt_sl, ↓de_op_rev, ↓ds_ret_rev, ↓de_es_rev, ↓de_pt_rev, ↓de_op_fld, ↓ds_ret_fld, ↓de_es_fld, ↓de_pt_fld, ↓de_op_sfld, ↓ds_ret_sfld, ↓de_es_sfld, ↓de_pt_sfld, ↓de_op_call, ↓ds_ret_call, ↓de_es_call, ↓de_pt_call, ↓de_op_make, ↓ds_ret_make, ↓de_es_make, ↓de_pt_make, ↓de_op_meth, ↓ds_ret_meth, ↓de_es_meth, ↓de_pt_meth, ↓de_op_blt, ↓ds_ret_blt, ↓de_es_blt, ↓de_pt_blt, ↓de_op_bmt, ↓ds_ret_bmt, ↓de_es_bmt, ↓de_pt_bmt, ↓de_op_isi, ↓ds_ret_isi, ↓de_es_isi, ↓de_pt_isi, ↓de_op_mut, ↓ds_ret_mut, ↓de_es_mut, ↓de_pt_mut, ↓de_op_lc1, ↓ds_ret_lc1, ↓de_es_lc1, ↓de_pt_lc1, ↓de_op_lc2, ↓ds_ret_lc2, ↓de_es_lc2, ↓de_pt_lc2, ↓di_int_bool, ↓di_int_int, ↓di_int_str, ↓di_int_tuple, ↓di_int_list, ↓dn_int_non, ↓di_tup_bool, ↓di_tup_int, ↓di_tup_str, ↓di_tup_tuple, ↓di_tup_list, ↓dn_tup_non, ↓di_lst_bool, ↓di_lst_int, ↓di_lst_str, ↓di_lst_tuple, ↓di_lst_list, ↓dn_lst_non, ↓di_bl_bool, ↓di_bl_int, ↓di_bl_str, ↓di_bl_tuple, ↓di_bl_list, ↓dn_bl_non, ↓di_str_bool, ↓di_str_int, ↓di_str_str, ↓di_str_tuple, ↓di_str_list, ↓dn_str_non, ↓di_obj_bool, ↓di_obj_int, ↓di_obj_str, ↓di_obj_tuple, ↓di_obj_list, ↓dn_ne_bl, ↓dn_eq_bl, ↓dn_obj, ↓dz_to1, ↓dz_sum, beq_self_eq_true, bne_self_eq_false, Bool.not_true, Bool.not_false, decide_true, decide_false, ↓de_lc2, ↓df_0, ↓df_1, ↓df_2, ↓df_3, ↓df_i, ↓do_mulN, ↓do_from1, ↓do_to, ↓do_to1, ↓do_part, min2N, ↓db_lrng1, ↓db_trng1, ↓ds_parL2, ↓ds_parL3, ↓dm_app, ↓dm_ext, ↓dm_rev, ↓d_neints, ↓d_eqints, ↓dr_rng1c, ↓dr_rng2c, ↓dr_rng2o, ↓atD_0, ↓atD_1, ↓atD_2, ↓atD_3, ↓ixD_0, ↓ixD_3, getS_0, getS_s, List.set_cons_zero, List.set_cons_succ, stoV, RV.d, endC, tnC, wipeS, backAll, if_true, if_false, Bool.false_eq_true, pmD, List.getElem?_cons_zero, List.getElem?_cons_succ, List.cons_append, List.nil_append, List.append_nil, Option.map_some, shl1N, shlN, shrN, and1N, andN, orN, xorN, andnN, nandN, tstb, List.length_cons, List.length_nil, List.length_map, List.length_range, Nat.zero_add, Nat.reduceAdd, Nat.reduceLT, Nat.reduceLeDiff, true_and])
local macro_rules | `(tactic| walk_at "pl") => `(tactic| try simp only [↓dW_bind, ↓dW_pure, ↓dW_some, ↓dW_vi, ↓dW_vb, ↓dW_toD, ↓dW_rd, ↓dW_mv, ↓dW_op, ↓dW_own, ↓dW_get_dat, ↓dW_get_at, ↓dW_gets_nil, ↓dW_gets_cons, ↓dW_put, ↓dW_val, ↓dW_bool, ↓dW_tru, ↓dW_nx, ↓dW_ite, ↓dW_keep, ↓de_opv, ↓de_c, ↓de_v, ↓de_io, ↓de_bin, ↓de_un, ↓de_cmp, ↓de_chain, ↓de_and, ↓de_or, ↓de_not, ↓de_ite, ↓de_tup, ↓de_lst, ↓de_ix, ↓de_sl, ↓de_pnil, ↓de_rev, ↓de_fld, ↓de_sfld, ↓de_call, ↓de_make, ↓de_meth, ↓de_blt, ↓de_isi, ↓de_mut, ↓de_lc1, ↓de_es0, ↓de_star, ↓de_ps0, ↓de_ps, ↓de_ts0, ↓de_ts, ↓de_rs0, ↓de_rs, ↓ds_nil, ↓ds_cons, ↓ds_asgn, ↓ds_sto, ↓ds_sub, ↓ds_subX, ↓ds_asgs, ↓ds_asgf, ↓ds_fld, ↓ds_par, ↓ds_stoX0, ↓ds_stoXn, ↓ds_stoXs, ↓ds_unp, ↓ds_unpT, ↓ds_aug, ↓ds_expr, ↓ds_retv, ↓ds_iff, ↓ds_for, ↓ds_wh, ↓ds_pass, ↓ds_brk, ↓ds_cont, ↓do_add, ↓do_sub, ↓do_and, ↓do_or, ↓do_xor, ↓do_mul, ↓do_fdiv, ↓do_mod, ↓do_pow, ↓do_shl, ↓do_shr, ↓do_addL, ↓do_addT, ↓do_inv, ↓do_neg, ↓do_lt, ↓do_le, ↓do_gt, ↓do_ge, ↓do_eq, ↓do_ne, ↓do_item, ↓do_itemT, ↓dt_int, ↓dt_bl, ↓dt_non, ↓dt_lst, ↓dr_seq, ↓dr_seqt, ↓db_len, ↓db_lent, ↓db_lens, ↓db_abs, ↓db_max2, ↓db_min2, ↓db_int, ↓db_tuple, ↓db_tuplet, ↓db_list, ↓db_listt, ↓de_op_c, ↓ds_ret_c, ↓de_es_c, ↓de_pt_c, ↓de_es_v, ↓de_pt_v, ↓de_op_io, ↓ds_ret_io, ↓de_es_io, ↓de_pt_io, ↓de_op_bin, ↓ds_ret_bin, ↓de_es_bin, ↓de_pt_bin, ↓de_op_un, ↓ds_ret_un, ↓de_es_un, ↓de_pt_un, ↓de_op_cmp, ↓ds_ret_cmp, ↓de_es_cmp, ↓de_pt_cmp, ↓de_op_chain, ↓ds_ret_chain, ↓de_es_chain, ↓de_pt_chain, ↓de_op_and, ↓ds_ret_and, ↓de_es_and, ↓de_pt_and, ↓de_op_or, ↓ds_ret_or, ↓de_es_or, ↓de_pt_or, ↓de_op_not, ↓ds_ret_not, ↓de_es_not, ↓de_pt_not, ↓de_op_ite, ↓ds_ret_ite, ↓de_es_ite, ↓de_pt_ite, ↓de_op_tup, ↓ds_ret_tup, ↓de_es_tup, ↓de_pt_tup, ↓de_op_lst, ↓ds_ret_lst, ↓de_es_lst, ↓de_pt_lst, ↓de_op_ix, ↓ds_ret_ix, ↓de_es_ix, ↓de_pt_ix, ↓de_op_sl, ↓ds_ret_sl, ↓de_es_sl, ↓de_pt_sl, ↓de_op_rev, ↓ds_ret_rev, ↓de_es_rev, ↓de_pt_rev, ↓de_op_fld, ↓ds_ret_fld, ↓de_es_fld, ↓de_pt_fld, ↓de_op_sfld, ↓ds_ret_sfld, ↓de_es_sfld, ↓de_pt_sfld, ↓de_op_call, ↓ds_ret_call, ↓de_es_call, ↓de_pt_call, ↓de_op_make, ↓ds_ret_make, ↓de_es_make, ↓de_pt_make, ↓de_op_meth, ↓ds_ret_meth, ↓de_es_meth, ↓de_pt_meth, ↓de_op_blt, ↓ds_ret_blt, ↓de_es_blt, ↓de_pt_blt, ↓de_op_bmt, ↓ds_ret_bmt, ↓de_es_bmt, ↓de_pt_bmt, ↓de_op_isi, ↓ds_ret_isi, ↓de_es_isi, ↓de_pt_isi, ↓de_op_mut, ↓ds_ret_mut, ↓de_es_mut, ↓de_pt_mut, ↓de_op_lc1, ↓ds_ret_lc1, ↓de_es_lc1, ↓de_pt_lc1, ↓de_op_lc2, ↓ds_ret_lc2, ↓de_es_lc2, ↓de_pt_lc2, ↓di_int_bool, ↓di_int_int, ↓di_int_str, ↓di_int_tuple, ↓di_int_list, ↓dn_int_non, ↓di_tup_bool, ↓di_tup_int, ↓di_tup_str, ↓di_tup_tuple, ↓di_tup_list, ↓dn_tup_non, ↓di_lst_bool, ↓di_lst_int, ↓di_lst_str, ↓di_lst_tuple, ↓di_lst_list, ↓dn_lst_non, ↓di_bl_bool, ↓di_bl_int, ↓di_bl_str, ↓di_bl_tuple, ↓di_bl_list, ↓dn_bl_non, ↓di_str_bool, ↓di_str_int, ↓di_str_str, ↓di_str_tuple, ↓di_str_list, ↓dn_str_non, ↓di_obj_bool, ↓di_obj_int, ↓di_obj_str, ↓di_obj_tuple, ↓di_obj_list, ↓dn_ne_bl, ↓dn_eq_bl, ↓dn_obj, ↓dz_to1, ↓dz_sum, beq_self_eq_true, bne_self_eq_false, Bool.not_true, Bool.not_false, decide_true, decide_false, ↓de_lc2, ↓df_0, ↓df_1, ↓df_2, ↓df_3, ↓df_i, ↓do_mulN, ↓do_from1, ↓do_to, ↓do_to1, ↓do_part, min2N, ↓db_lrng1, ↓db_trng1, ↓ds_parL2, ↓ds_parL3, ↓dm_app, ↓dm_ext, ↓dm_rev, ↓d_neints, ↓d_eqints, ↓dr_rng1c, ↓dr_rng2c, ↓dr_rng2o, ↓atD_0, ↓atD_1, ↓atD_2, ↓atD_3, ↓ixD_0, ↓ixD_3, getS_0, getS_s, List.set_cons_zero, List.set_cons_succ, stoV, RV.d, endC, tnC, wipeS, backAll, if_true, if_false, Bool.false_eq_true, pmD, List.getElem?_cons_zero, List.getElem?_cons_succ, List.cons_append, List.nil_append, List.append_nil, Option.map_some, shl1N, shlN, shrN, and1N, andN, orN, xorN, andnN, nandN, tstb, List.length_cons, List.length_nil, List.length_map, List.length_range, Nat.zero_add, Nat.reduceAdd, Nat.reduceLT, Nat.reduceLeDiff, true_and, List.getElem_range, addN, add1N, oneaN, pow1N, small1, nn0, le1000, and_true])
local macro_rules | `(tactic| walk_at "pa") => `(tactic| (simp only [atN, ixD_nat, setN, List.length_set, List.length_map, *]; walk_at "pl"))

theorem fold_minI : ∀ (r : List Int) (x : Int), (r.foldl (fun m y => if y < m then y else m) x) ∈ x :: r ∧ ∀ d ∈ x :: r, (r.foldl (fun m y => if y < m then y else m) x) ≤ d
  | [], x => ⟨by simp, by simp⟩
  | y :: r, x => by
    rw [List.foldl_cons]
    by_cases h : y < x
    · rw [if_pos h]
      obtain ⟨h1, h2⟩ := fold_minI r y
      refine ⟨List.mem_cons_of_mem _ h1, fun d hd => ?_⟩
      rcases List.mem_cons.mp hd with rfl | hd
      · have := h2 y (List.mem_cons_self ..); omega
      · exact h2 d hd
    · rw [if_neg h]
      obtain ⟨h1, h2⟩ := fold_minI r x
      refine ⟨?_, fun d hd => ?_⟩
      · rcases List.mem_cons.mp h1 with h1 | h1
        · rw [h1]; exact List.mem_cons_self ..
        · exact List.mem_cons_of_mem _ (List.mem_cons_of_mem _ h1)
      · rcases List.mem_cons.mp hd with rfl | hd
        · exact h2 d (List.mem_cons_self ..)
        · rcases List.mem_cons.mp hd with rfl | hd
          · have := h2 x (List.mem_cons_self ..); omega
          · exact h2 d (List.mem_cons_of_mem _ hd)
theorem minI_some {l : List Int} (h : 0 < l.length) : ∃ v, minI l = some v ∧ v ∈ l ∧ ∀ x ∈ l, v ≤ x := by
  cases l with
  | nil => simp at h
  | cons x r => exact ⟨_, rfl, (fold_minI r x).1, (fold_minI r x).2⟩
theorem out_compl {m a : Nat} (near : List Nat) (ha : a < 2 ^ m) : outL m near (2 ^ m - (a + 1)) = outL m near a := by
  unfold outL
  refine List.filter_congr fun p hp => ?_
  have := mem_coup.mp (edges_sub near p hp)
  rw [Nat.testBit_two_pow_sub_succ ha, Nat.testBit_two_pow_sub_succ ha, decide_eq_true (by omega : p.1 < m), decide_eq_true (by omega : p.2 < m)]
  cases a.testBit p.1 <;> cases a.testBit p.2 <;> rfl
def leastV (m : Nat) (near : List Nat) : Int := if 1 < m then (minI ((cutsL m near).map fun c => (c.length : Int))).getD 0 else 0
theorem pow_half {m : Nat} (h : 1 < m) : 2 ^ m = 2 * 2 ^ (m - 1) ∧ 2 ≤ 2 ^ (m - 1) := by
  have e : m = (m - 1) + 1 := by omega
  constructor
  · conv => lhs; rw [e, Nat.pow_succ]
    omega
  · have : 2 ^ 1 ≤ 2 ^ (m - 1) := Nat.pow_le_pow_right (by omega) (by omega)
    exact this
theorem prog_cuts {m : Nat} {near : List Nat} (h : 1 < m) : (∀ c ∈ progL m near, c ∈ cutsL m near) ∧ (∀ c ∈ cutsL m near, c ∈ progL m near) := by
  obtain ⟨h1, h2⟩ := pow_half h
  unfold progL cutsL
  rw [if_neg (by omega), List.nil_append]
  constructor
  · intro c hc
    obtain ⟨k, hk, rfl⟩ := List.mem_map.mp hc
    have hk := List.mem_range.mp hk
    by_cases h3 : 1 + k < 2 ^ (m - 1)
    · exact List.mem_map.mpr ⟨k, List.mem_range.mpr (by omega), rfl⟩
    · refine List.mem_map.mpr ⟨2 ^ m - (1 + k + 1) - 1, List.mem_range.mpr (by omega), ?_⟩
      rw [show 1 + (2 ^ m - (1 + k + 1) - 1) = 2 ^ m - (1 + k + 1) from by omega]
      exact out_compl near (by omega)
  · intro c hc
    obtain ⟨k, hk, rfl⟩ := List.mem_map.mp hc
    have hk := List.mem_range.mp hk
    exact List.mem_map.mpr ⟨k, List.mem_range.mpr (by omega), rfl⟩
theorem cuts_pos {m : Nat} {near : List Nat} (h : 1 < m) : 0 < ((cutsL m near).map fun c => (c.length : Int)).length := by
  obtain ⟨h1, h2⟩ := pow_half h
  unfold cutsL; simp; omega
theorem cut_fact {m : Nat} {near : List Nat} {c : List (Nat × Nat)} (h1 : c ∈ progL m near) (h2 : ∀ d ∈ progL m near, c.length ≤ d.length) : (c.length : Int) = leastV m near ∧ (m < 2 → c = []) ∧ (1 < m → c ∈ cutsL m near) := by
  by_cases h : 1 < m
  · obtain ⟨k1, k2⟩ := prog_cuts (near := near) h
    obtain ⟨v, e1, e2, e3⟩ := minI_some (cuts_pos (near := near) h)
    refine ⟨?_, fun h => by omega, fun _ => k1 c h1⟩
    unfold leastV
    rw [if_pos h, e1]
    show (c.length : Int) = v
    obtain ⟨d, hd, rfl⟩ := List.mem_map.mp e2
    have a1 := e3 _ (List.mem_map.mpr ⟨c, k1 c h1, rfl⟩)
    have a2 := h2 d (k2 d hd)
    omega
  · have e : progL m near = [[]] := by
      unfold progL
      have : m = 0 ∨ m = 1 := by omega
      rcases this with rfl | rfl <;> rfl
    rw [e] at h1
    have := List.mem_singleton.mp h1
    subst this
    unfold leastV
    rw [if_neg h]
    exact ⟨rfl, fun _ => rfl, fun h => by omega⟩
theorem sq (a b : Str) (k : Bool) (h : cmpD .eq (.str a) (.str b) = some k) {S : Sl} {Q : Bool → Sl → Prop} : Wq (M.opt (cmpD .eq (.str a) (.str b))) S Q = Q k S := by rw [h, Wd_eq]; rfl
theorem sq_vv {S : Sl} {Q : Bool → Sl → Prop} : Wq (M.opt (cmpD .eq (.str "vertices") (.str "vertices"))) S Q = Q true S := sq _ _ _ (by decide +kernel)
theorem sq_ev {S : Sl} {Q : Bool → Sl → Prop} : Wq (M.opt (cmpD .eq (.str "edges") (.str "vertices"))) S Q = Q false S := sq _ _ _ (by decide +kernel)
theorem sq_ee {S : Sl} {Q : Bool → Sl → Prop} : Wq (M.opt (cmpD .eq (.str "edges") (.str "edges"))) S Q = Q true S := sq _ _ _ (by decide +kernel)
theorem sq_cv {S : Sl} {Q : Bool → Sl → Prop} : Wq (M.opt (cmpD .eq (.str "cut") (.str "vertices"))) S Q = Q false S := sq _ _ _ (by decide +kernel)
theorem sq_ce {S : Sl} {Q : Bool → Sl → Prop} : Wq (M.opt (cmpD .eq (.str "cut") (.str "edges"))) S Q = Q false S := sq _ _ _ (by decide +kernel)
theorem asked0 (n m : Nat) (near : List Nat) (t : Bool) (hm : m ≤ 8) (hn : near.length = m) : Wk ((gam pr (n + 6)).call 43 [.str "vertices", grD m near, .bl t] none) fun r o => r = .val (.int (connV m near)) ∧ o = none := by
  refine k_call fn43 (k_run0 (S := [.val (.str "vertices"), .val (grD m near), .val (.bl t)]) rfl rfl ?_)
  simp only [f43, b43]
  walk_at "pl"
  rw [sq_vv]
  walk_at "pl"
  cases t
  all_goals
    walk_at "pl"
    refine k_call0 ((p_conn n m near hm hn).mono ?_)
    rintro r o ⟨h, rfl⟩
    refine ⟨rfl, ?_⟩
    walk_at "pl"
    first | exact ⟨h, rfl⟩ | exact h
theorem asked1 (n m : Nat) (near : List Nat) (t : Bool) (hm : m ≤ 8) (hn : near.length = m) : Wk ((gam pr (n + 6)).call 43 [.str "edges", grD m near, .bl t] none) fun r o => (∃ c, c ∈ progL m near ∧ (∀ d ∈ progL m near, c.length ≤ d.length) ∧ r = .val (.int (c.length : Int))) ∧ o = none := by
  refine k_call fn43 (k_run0 (S := [.val (.str "edges"), .val (grD m near), .val (.bl t)]) rfl rfl ?_)
  simp only [f43, b43]
  walk_at "pl"
  rw [sq_ev]
  walk_at "pl"
  rw [sq_ee]
  walk_at "pl"
  cases t
  all_goals
    walk_at "pl"
    refine k_call0 ((p_econn (n + 2) m near hm hn).mono ?_)
    rintro r o ⟨h, rfl⟩
    refine ⟨rfl, ?_⟩
    walk_at "pl"
    first | exact ⟨h, rfl⟩ | exact h
theorem asked2 (n m : Nat) (near : List Nat) (t : Bool) (hm : m ≤ 8) (hn : near.length = m) : Wk ((gam pr (n + 6)).call 43 [.str "cut", grD m near, .bl t] none) fun r o => (∃ c, c ∈ progL m near ∧ (∀ d ∈ progL m near, c.length ≤ d.length) ∧ r = .val (.tup (c.map pD))) ∧ o = none := by
  refine k_call fn43 (k_run0 (S := [.val (.str "cut"), .val (grD m near), .val (.bl t)]) rfl rfl ?_)
  simp only [f43, b43]
  walk_at "pl"
  rw [sq_cv]
  walk_at "pl"
  rw [sq_ce]
  walk_at "pl"
  cases t
  all_goals
    walk_at "pl"
    refine k_call0 ((p_cut (n + 3) m near hm hn).mono ?_)
    rintro r o ⟨h, rfl⟩
    refine ⟨rfl, ?_⟩
    walk_at "pl"
    first | exact ⟨h, rfl⟩ | exact h

end Pl.k09
set_option Elab.async false
set_option linter.all false
set_option maxRecDepth 100000
namespace Pl.k09
open PySem Pl
local macro_rules | `(tactic| walk_at "pl0") => `(tactic| try simp only [↓dW_bind, ↓dW_pure, ↓dW_some, ↓dW_vi, ↓dW_vb, ↓dW_toD, ↓dW_rd, ↓dW_mv, ↓dW_op, ↓dW_own, ↓dW_get_dat, ↓dW_get_at, ↓dW_gets_nil, ↓dW_gets_cons, ↓dW_put, ↓dW_val, ↓dW_bool, ↓dW_tru, ↓dW_nx, ↓dW_ite, ↓dW_keep, ↓de_opv, ↓de_c, ↓de_v, ↓de_io, ↓de_bin, ↓de_un, ↓de_cmp, ↓de_chain, ↓de_and, ↓de_or, ↓de_not, ↓de_ite, ↓de_tup, ↓de_lst, ↓de_ix, ↓de_sl, ↓de_pnil, ↓de_rev, ↓de_fld, ↓de_sfld, ↓de_call, ↓de_make, ↓de_meth, ↓de_blt, ↓de_isi, ↓de_mut, ↓de_lc1, ↓de_es0, ↓de_star, ↓de_ps0, ↓de_ps, ↓de_ts0, ↓de_ts, ↓de_rs0, ↓de_rs, ↓ds_nil, ↓ds_cons, ↓ds_asgn, ↓ds_sto, ↓ds_sub, ↓ds_subX, ↓ds_asgs, ↓ds_asgf, ↓ds_fld, ↓ds_par, ↓ds_stoX0, ↓ds_stoXn, ↓ds_stoXs, ↓ds_unp, ↓ds_unpT, ↓ds_aug, ↓ds_expr, ↓ds_retv, ↓ds_iff, ↓ds_for, ↓ds_wh, ↓ds_pass, ↓ds_brk, ↓ds_cont, ↓do_add, ↓do_sub, ↓do_and, ↓do_or, ↓do_xor, ↓do_mul, ↓do_fdiv, ↓do_mod, ↓do_pow, ↓do_shl, ↓do_shr, ↓do_addL, ↓do_addT, ↓do_inv, ↓do_neg, ↓do_lt, ↓do_le, ↓do_gt, ↓do_ge, ↓do_eq, ↓do_ne, ↓do_item, ↓do_itemT, ↓dt_int, ↓dt_bl, ↓dt_non, ↓dt_lst, ↓dr_seq, ↓dr_seqt, ↓db_len, ↓db_lent, ↓db_lens, ↓db_abs, ↓db_max2, ↓db_min2, ↓db_int, ↓db_tuple, ↓db_tuplet, ↓db_list, ↓db_listt, ↓de_op_c, ↓ds_ret_c, ↓de_es_c, ↓de_pt_c, ↓de_es_v, ↓de_pt_v, ↓de_op_io, ↓ds_ret_io, ↓de_es_io, ↓de_pt_io, ↓de_op_bin, ↓ds_ret_bin, ↓de_es_bin, ↓de_pt_bin, ↓de_op_un, ↓ds_ret_un, ↓de_es_un, ↓de_pt_un, ↓de_op_cmp, ↓ds_ret_cmp, ↓de_es_cmp, ↓de_pt_cmp, ↓de_op_chain, ↓ds_ret_chain, ↓de_es_chain, ↓de_pt_chain, ↓de_op_and, ↓ds_ret_and, ↓de_es_and, ↓de_pt_and, ↓de_op_or, ↓ds_ret_or, ↓de_es_or, ↓de_pt_or, ↓de_op_not, ↓ds_ret_not, ↓de_es_not, ↓de_pt_not, ↓de_op_ite, ↓ds_ret_ite, ↓de_es_ite, ↓de_pt_ite, ↓de_op_tup, ↓ds_ret_tup, ↓de_es_tup, ↓de_pt_tup, ↓de_op_lst, ↓ds_ret_lst, ↓de_es_lst, ↓de_pt_lst, ↓de_op_ix, ↓ds_ret_ix, ↓de_es_ix, ↓de_pt_ix, ↓de_op_sl, ↓ds_ret_sl, ↓de_es_sl, ↓de_pt_sl, ↓de_op_rev, ↓ds_ret_rev, ↓de_es_rev, ↓de_pt_rev, ↓de_op_fld, ↓ds_ret_fld, ↓de_es_fld, ↓de_pt_fld, ↓de_op_sfld, ↓ds_ret_sfld, ↓de_es_sfld, ↓de_pt_sfld, ↓de_op_call, ↓ds_ret_call, ↓de_es_call, ↓de_pt_call, ↓de_op_make, ↓ds_ret_make, ↓de_es_make, ↓de_pt_make, ↓de_op_meth, ↓ds_ret_meth, ↓de_es_meth, ↓de_pt_meth, ↓de_op_blt, ↓ds_ret_blt, ↓de_es_blt, ↓de_pt_blt, ↓de_op_bmt, ↓ds_ret_bmt, ↓de_es_bmt, ↓de_pt_bmt, ↓de_op_isi, ↓ds_ret_isi, ↓de_es_isi, ↓de_pt_isi, ↓de_op_mut, ↓ds_ret_mut, ↓de_es_mut, ↓de_pt_mut, ↓de_op_lc1, ↓ds_ret_lc1, ↓de_es_lc1, ↓de_pt_lc1, ↓de_op_lc2, ↓ds_ret_lc2, ↓de_es_lc2, ↓de_pt_lc2, ↓di_int_bool, ↓di_int_int, ↓di_int_str, ↓di_int_tuple, ↓di_int_list, ↓dn_int_non, ↓di_tup_bool, ↓di_tup_int, ↓di_tup_str, ↓di_tup_tuple, ↓di_tup_list, ↓dn_tup_non, ↓di_lst_bool, ↓di_lst_int, ↓di_lst_str, ↓di_lst_tuple, ↓di_lst_list, ↓dn_lst_non, ↓di_bl_bool, ↓di_bl_int, ↓di_bl_str, ↓di_bl_tuple, ↓di_bl_list, ↓dn_bl_non, ↓di_str_bool, ↓di_str_int, ↓di_str_str, ↓di_str_tuple, ↓di_str_list, ↓dn_str_non, ↓di_obj_bool, ↓di_obj_int, ↓di_obj_str, ↓di_obj_tuple, ↓di_obj_list, ↓dn_ne_bl, ↓dn_eq_bl, ↓dn_obj, ↓dz_to1, ↓dz_sum, beq_self_eq_true, bne_self_eq_false, Bool.not_true, Bool.not_false, decide_true, decide_false, ↓de_lc2, ↓df_0, ↓df_1, ↓df_2, ↓df_3, ↓df_i, ↓do_mulN, ↓do_from1, ↓do_to, ↓do_to1, ↓do_part, min2N, ↓db_lrng1, ↓db_trng1, ↓ds_parL2, ↓ds_parL3, ↓dm_app, ↓dm_ext, ↓dm_rev, ↓d_neints, ↓d_eqints, ↓dr_rng1c, ↓dr_rng2c, ↓dr_rng2o, ↓atD_0, ↓atD_1, ↓atD_2, ↓atD_3, ↓ixD_0, ↓ixD_3, getS_0, getS_s, List.set_cons_zero, List.set_cons_succ, stoV, RV.d, endC, tnC, wipeS, backAll, if_true, if_false, Bool.false_eq_true, pmD, List.getElem?_cons_zero, List.getElem?_cons_succ, List.cons_append, List.nil_append, List.append_nil, Option.map_some, shl1N, shlN, shrN, and1N, andN, orN, xorN, andnN, nandN, tstb, List.length_cons, List.length_nil, List.length_map, List.length_range, Nat.zero_add, Nat.reduceAdd, Nat.reduceLT, Nat.reduceLeDiff, true_and])
local macro_rules | `(tactic| walk_at "pl") => `(tactic| try simp only [↓dW_bind, ↓dW_pure, ↓dW_some, ↓dW_vi, ↓dW_vb, ↓dW_toD, ↓dW_rd, ↓dW_mv, ↓dW_op, ↓dW_own, ↓dW_get_dat, ↓dW_get_at, ↓dW_gets_nil, ↓dW_gets_cons, ↓dW_put, ↓dW_val, ↓dW_bool, ↓dW_tru, ↓dW_nx, ↓dW_ite, ↓dW_keep, ↓de_opv, ↓de_c, ↓de_v, ↓de_io, ↓de_bin, ↓de_un, ↓de_cmp, ↓de_chain, ↓de_and, ↓de_or, ↓de_not, ↓de_ite, ↓de_tup, ↓de_lst, ↓de_ix, ↓de_sl, ↓de_pnil, ↓de_rev, ↓de_fld, ↓de_sfld, ↓de_call, ↓de_make, ↓de_meth, ↓de_blt, ↓de_isi, ↓de_mut, ↓de_lc1, ↓de_es0, ↓de_star, ↓de_ps0, ↓de_ps, ↓de_ts0, ↓de_ts, ↓de_rs0, ↓de_rs, ↓ds_nil, ↓ds_cons, ↓ds_asgn, ↓ds_sto, ↓ds_sub, ↓ds_subX, ↓ds_asgs, ↓ds_asgf, ↓ds_fld, ↓ds_par, ↓ds_stoX0, ↓ds_stoXn, ↓ds_stoXs, ↓ds_unp, ↓ds_unpT, ↓ds_aug, ↓ds_expr, ↓ds_retv, ↓ds_iff, ↓ds_for, ↓ds_wh, ↓ds_pass, ↓ds_brk, ↓ds_cont, ↓do_add, ↓do_sub, ↓do_and, ↓do_or, ↓do_xor, ↓do_mul, ↓do_fdiv, ↓do_mod, ↓do_pow, ↓do_shl, ↓do_shr, ↓do_addL, ↓do_addT, ↓do_inv, ↓do_neg, ↓do_lt, ↓do_le, ↓do_gt, ↓do_ge, ↓do_eq, ↓do_ne, ↓do_item, ↓do_itemT, ↓dt_int, ↓dt_bl, ↓dt_non, ↓dt_lst, ↓dr_seq, ↓dr_seqt, ↓db_len, ↓db_lent, ↓db_lens, ↓db_abs, ↓db_max2, ↓db_min2, ↓db_int, ↓db_tuple, ↓db_tuplet, ↓db_list, ↓db_listt, ↓de_op_c, ↓ds_ret_c, ↓de_es_c, ↓de_pt_c, ↓de_es_v, ↓de_pt_v, ↓de_op_io, ↓ds_ret_io, ↓de_es_io, ↓de_pt_io, ↓de_op_bin, ↓ds_ret_bin, ↓de_es_bin, ↓de_pt_bin, ↓de_op_un, ↓ds_ret_un, ↓de_es_un, ↓de_pt_un, ↓de_op_cmp, ↓ds_ret_cmp, ↓de_es_cmp, ↓de_pt_cmp, ↓de_op_chain, ↓ds_ret_chain, ↓de_es_chain, ↓de_pt_chain, ↓de_op_and, ↓ds_ret_and, ↓de_es_and, ↓de_pt_and, ↓de_op_or, ↓ds_ret_or, ↓de_es_or, ↓de_pt_or, ↓de_op_not, ↓ds_ret_not, ↓de_es_not, ↓de_pt_not, ↓de_op_ite, ↓ds_ret_ite, ↓de_es_ite, ↓de_pt_ite, ↓de_op_tup, ↓ds_ret_tup, ↓de_es_tup, ↓de_pt_tup, ↓de_op_lst, ↓ds_ret_lst, ↓de_es_lst, ↓de_pt_lst, ↓de_op_ix, ↓ds_ret_ix, ↓de_es_ix, ↓de_pt_ix, ↓de_op_sl, ↓ds_ret_sl, ↓de_es_sl, ↓de_pt_sl, ↓de_op_rev, ↓ds_ret_rev, ↓de_es_rev, ↓de_pt_rev, ↓de_op_fld, ↓ds_ret_fld, ↓de_es_fld, ↓de_pt_fld, ↓de_op_sfld, ↓ds_ret_sfld, ↓de_es_sfld, ↓de_pt_sfld, ↓de_op_call, ↓ds_ret_call, ↓de_es_call, ↓de_pt_call, ↓de_op_make, ↓ds_ret_make, ↓de_es_make, ↓de_pt_make, ↓de_op_meth, ↓ds_ret_meth, ↓de_es_meth, ↓de_pt_meth, ↓de_op_blt, ↓ds_ret_blt, ↓de_es_blt, ↓de_pt_blt, ↓de_op_bmt, ↓ds_ret_bmt, ↓de_es_bmt, ↓de_pt_bmt, ↓de_op_isi, ↓ds_ret_isi, ↓de_es_isi, ↓de_pt_isi, ↓de_op_mut, ↓ds_ret_mut, ↓de_es_mut, ↓de_pt_mut, ↓de_op_lc1, ↓ds_ret_lc1, ↓de_es_lc1, ↓de_pt_lc1, ↓de_op_lc2, ↓ds_ret_lc2, ↓de_es_lc2, ↓de_pt_lc2, ↓di_int_bool, ↓di_int_int, ↓di_int_str, ↓di_int_tuple, ↓di_int_list, ↓dn_int_non, ↓di_tup_bool, ↓di_tup_int, ↓di_tup_str, ↓di_tup_tuple, ↓di_tup_list, ↓dn_tup_non, ↓di_lst_bool, ↓di_lst_int, ↓di_lst_str, ↓di_lst_tuple, ↓di_lst_list, ↓dn_lst_non, ↓di_bl_bool, ↓di_bl_int, ↓di_bl_str, ↓di_bl_tuple, ↓di_bl_list, ↓dn_bl_non, ↓di_str_bool, ↓di_str_int, ↓di_str_str, ↓di_str_tuple, ↓di_str_list, ↓dn_str_non, ↓di_obj_bool, ↓di_obj_int, ↓di_obj_str, ↓di_obj_tuple, ↓di_obj_list, ↓dn_ne_bl, ↓dn_eq_bl, ↓dn_obj, ↓dz_to1, ↓dz_sum, beq_self_eq_true, bne_self_eq_false, Bool.not_true, Bool.not_false, decide_true, decide_false, ↓de_lc2, ↓df_0, ↓df_1, ↓df_2, ↓df_3, ↓df_i, ↓do_mulN, ↓do_from1, ↓do_to, ↓do_to1, ↓do_part, min2N, ↓db_lrng1, ↓db_trng1, ↓ds_parL2, ↓ds_parL3, ↓dm_app, ↓dm_ext, ↓dm_rev, ↓d_neints, ↓d_eqints, ↓dr_rng1c, ↓dr_rng2c, ↓dr_rng2o, ↓atD_0, ↓atD_1, ↓atD_2, ↓atD_3, ↓ixD_0, ↓ixD_3, getS_0, getS_s, List.set_cons_zero, List.set_cons_succ, stoV, RV.d, endC, tnC, wipeS, backAll, if_true, if_false, Bool.false_eq_true, pmD, List.getElem?_cons_zero, List.getElem?_cons_succ, List.cons_append, List.nil_append, List.append_nil, Option.map_some, shl1N, shlN, shrN, and1N, andN, orN, xorN, andnN, nandN, tstb, List.length_cons, List.length_nil, List.length_map, List.length_range, Nat.zero_add, Nat.reduceAdd, Nat.reduceLT, Nat.reduceLeDiff, true_and, List.getElem_range, addN, add1N, oneaN, pow1N, small1, nn0, le1000, and_true])
local macro_rules | `(tactic| walk_at "pa") => `(tactic| (simp only [atN, ixD_nat, setN, List.length_set, List.length_map, *]; walk_at "pl"))

def rt2 : List Sm := match b44 with
  | [_, _, .for _ _ _ [.for _ _ _ b], _] => b
  | _ => []
theorem same_pair (n : Nat) : Same (n + 2) pD := fun a b => by
  refine (same_tup (n + 1) (same_int n) [(a.1 : Int), (a.2 : Int)] [(b.1 : Int), (b.2 : Int)] (by simp) (by simp)).mono ?_
  rintro r o ⟨rfl, rfl⟩
  refine ⟨?_, rfl⟩
  congr 2
  rw [decide_eq_decide]
  obtain ⟨a1, a2⟩ := a
  obtain ⟨b1, b2⟩ := b
  simp
  omega
theorem same_cut (n : Nat) (c d : List (Nat × Nat)) (hc : c.length ≤ 1000) (hd : d.length ≤ 1000) : Wk ((gam pr (n + 3)).call 24 [cD c, cD d] none) fun r o => r = .val (.bl (decide (c = d))) ∧ o = none := same_tup (n + 2) (same_pair n) c d hc hd
theorem at3_0 {a b c : D} : atD [a, b, c] ((0 : Nat) : Int) = some a := rfl
theorem at3_1 {a b c : D} : atD [a, b, c] ((1 : Nat) : Int) = some b := rfl
theorem at3_2 {a b c : D} : atD [a, b, c] ((2 : Nat) : Int) = some c := rfl
theorem at2_0 {a b : D} : atD [a, b] ((0 : Nat) : Int) = some a := rfl
theorem at2_1 {a b : D} : atD [a, b] ((1 : Nat) : Int) = some b := rfl
theorem d_eqcD {S : Sl} {Q : Bool → Sl → Prop} {l : List (List (Nat × Nat))} : Wq (M.opt (cmpD .eq (.lst (l.map cD)) (.lst []))) S Q = Q l.isEmpty S := by
  rw [Wd_eq]
  exact o_eqnil (k := 2) (fun x => pk_tup fun d hd => by obtain ⟨p, _, rfl⟩ := List.mem_map.mp hd; exact pk_pair p) (by omega)
theorem body0 (n m : Nat) (near : List Nat) (turn named : Bool) (box : List D) (x9 : Slot) {Q : Ctl → Sl → Prop} (hm : m ≤ 8) (hn : NK m near)
    (hQ : ∀ y, Q .nx [.io box, .val (.int m), .val (.lst (near.map fun (k : Nat) => D.int (k : Int))), .val (.bl named), .val (.int (leastV m near)), .val (.bl turn), .val (grD m near), .val (.lst ((cutsL m near).map cD)), .val (.int ((0 : Nat) : Int)), y, .un]) :
    Wq (exSs (gam pr (n + 8)) rt2) [.io box, .val (.int m), .val (.lst (near.map fun (k : Nat) => D.int (k : Int))), .val (.bl named), .val (.int (leastV m near)), .val (.bl turn), .val (grD m near), .val (.lst ((cutsL m near).map cD)), .val (.int ((0 : Nat) : Int)), x9, .un] Q := by
  simp only [rt2, b44]
  walk_at "pl"
  refine ⟨by decide, ?_⟩
  rw [at3_0]
  walk_at "pl"
  refine k_call0 ((asked0 (n + 2) m near turn hm hn.len).mono ?_)
  rintro r o ⟨rfl, rfl⟩
  refine ⟨rfl, ?_⟩
  walk_at "pl"
  rw [if_pos (by decide)]
  refine k_call0 ((conn_ok (n + 4) m near hm hn.len).mono ?_)
  rintro r o ⟨rfl, rfl⟩
  refine ⟨rfl, ?_⟩
  walk_at "pl"
  refine ⟨by decide, ?_⟩
  rw [at2_0]
  walk_at "pl"
  refine k_call0 ((same_int (n + 7) _ _).mono ?_)
  rintro r o ⟨rfl, rfl⟩
  refine ⟨rfl, ?_⟩
  rw [decide_eq_true rfl]
  walk_at "pl"
  rw [if_neg (by decide)]
  walk_at "pl"
  rw [if_neg (by decide)]
  walk_at "pl"
  first | exact hQ _ | (rw [if_neg (by decide)]; walk_at "pl"; exact hQ _)
theorem body1 (n m : Nat) (near : List Nat) (turn named : Bool) (box : List D) (x9 : Slot) {Q : Ctl → Sl → Prop} (hm : m ≤ 8) (hn : NK m near)
    (hQ : ∀ y, Q .nx [.io box, .val (.int m), .val (.lst (near.map fun (k : Nat) => D.int (k : Int))), .val (.bl named), .val (.int (leastV m near)), .val (.bl turn), .val (grD m near), .val (.lst ((cutsL m near).map cD)), .val (.int ((1 : Nat) : Int)), y, .un]) :
    Wq (exSs (gam pr (n + 8)) rt2) [.io box, .val (.int m), .val (.lst (near.map fun (k : Nat) => D.int (k : Int))), .val (.bl named), .val (.int (leastV m near)), .val (.bl turn), .val (grD m near), .val (.lst ((cutsL m near).map cD)), .val (.int ((1 : Nat) : Int)), x9, .un] Q := by
  simp only [rt2, b44]
  walk_at "pl"
  refine ⟨by decide, ?_⟩
  rw [at3_1]
  walk_at "pl"
  refine k_call0 ((asked1 (n + 2) m near turn hm hn.len).mono ?_)
  rintro r o ⟨⟨c, h1, h2, rfl⟩, rfl⟩
  obtain ⟨f1, f2, f3⟩ := cut_fact h1 h2
  refine ⟨rfl, ?_⟩
  walk_at "pl"
  rw [if_pos (by decide)]
  refine k_call0 ((conn_ok (n + 4) m near hm hn.len).mono ?_)
  rintro r o ⟨rfl, rfl⟩
  refine ⟨rfl, ?_⟩
  walk_at "pl"
  refine ⟨by decide, ?_⟩
  rw [at2_1]
  walk_at "pl"
  refine k_call0 ((same_int (n + 7) _ _).mono ?_)
  rintro r o ⟨rfl, rfl⟩
  refine ⟨rfl, ?_⟩
  rw [decide_eq_true f1]
  walk_at "pl"
  rw [if_neg (by decide)]
  walk_at "pl"
  rw [if_neg (by decide)]
  walk_at "pl"
  first | exact hQ _ | (rw [if_neg (by decide)]; walk_at "pl"; exact hQ _)
theorem body2 (n m : Nat) (near : List Nat) (turn named : Bool) (box : List D) (x9 : Slot) {Q : Ctl → Sl → Prop} (hm : m ≤ 8) (hn : NK m near)
    (hQ : ∀ y, Q .nx [.io box, .val (.int m), .val (.lst (near.map fun (k : Nat) => D.int (k : Int))), .val (.bl named), .val (.int (leastV m near)), .val (.bl turn), .val (grD m near), .val (.lst ((cutsL m near).map cD)), .val (.int ((2 : Nat) : Int)), y, .un]) :
    Wq (exSs (gam pr (n + 8)) rt2) [.io box, .val (.int m), .val (.lst (near.map fun (k : Nat) => D.int (k : Int))), .val (.bl named), .val (.int (leastV m near)), .val (.bl turn), .val (grD m near), .val (.lst ((cutsL m near).map cD)), .val (.int ((2 : Nat) : Int)), x9, .un] Q := by
  simp only [rt2, b44]
  walk_at "pl"
  refine ⟨by decide, ?_⟩
  rw [at3_2]
  walk_at "pl"
  refine k_call0 ((asked2 (n + 2) m near turn hm hn.len).mono ?_)
  rintro r o ⟨⟨c, h1, h2, rfl⟩, rfl⟩
  obtain ⟨f1, f2, f3⟩ := cut_fact h1 h2
  refine ⟨rfl, ?_⟩
  walk_at "pl"
  rw [if_neg (by decide)]
  walk_at "pl"
  rw [if_neg (by decide), if_pos (by decide)]
  by_cases h : m < 2
  · rw [if_pos (by simp; omega)]
    refine ⟨by decide, ?_⟩
    refine k_call0 ((same_cut (n + 5) c [] (by rw [f2 h]; decide) (by decide)).mono ?_)
    rintro r o ⟨rfl, rfl⟩
    refine ⟨rfl, ?_⟩
    rw [decide_eq_true (f2 h)]
    walk_at "pl"
    rw [if_pos (by decide)]
    walk_at "pl"
    rw [if_neg (by simp; omega)]
    walk_at "pl"
    rw [if_neg (by simp; omega)]
    exact hQ _
  · rw [if_neg (by simp; omega)]
    walk_at "pl"
    rw [if_neg (by simp; omega)]
    rw [if_pos (by decide)]
    walk_at "pl"
    rw [if_pos (by simp; omega)]
    have hp8 : (2 : Nat) ^ (m - 1) ≤ 2 ^ 7 := Nat.pow_le_pow_right (by omega) (by omega)
    have hcl : (cutsL m near).length ≤ 128 := by unfold cutsL; simp; omega
    have hc1 : ∀ d ∈ cutsL m near, d.length ≤ 28 := fun d hd => by
      obtain ⟨k, _, rfl⟩ := List.mem_map.mp hd
      exact Nat.le_trans (List.length_filter_le _ _) (edges_len near hm)
    refine k_blockM cD (fun d => if (decide ((d.length : Int) = leastV m near) && decide (c = d)) = true then [cD d] else []) ?_ ?_ ?_
    · rw [flat_if, List.length_map]
      have := List.length_filter_le (fun d : List (Nat × Nat) => decide ((d.length : Int) = leastV m near) && decide (c = d)) (cutsL m near)
      rw [lim_eq]; omega
    · intro d hd acc ha
      refine ⟨_, rfl, ?_⟩
      walk_at "pl"
      by_cases g : (d.length : Int) = leastV m near
      · rw [if_pos (decide_eq_true g)]
        refine k_call0 ((same_cut (n + 5) c d (Nat.le_trans (hc1 c (f3 (by omega))) (by omega)) (Nat.le_trans (hc1 d hd) (by omega))).mono ?_)
        rintro r o ⟨rfl, rfl⟩
        refine ⟨rfl, ?_⟩
        walk_at "pl"
        rw [decide_eq_true g, Bool.true_and] at ha ⊢
        exact cf1 ha
      · rw [if_neg (by simpa using g)]
        rw [decide_eq_false g, Bool.false_and] at ha ⊢
        walk_at "pl"
    · rw [flat_if]
      walk_at "pl"
      rw [d_eqcD]
      walk_at "pl"
      rw [show ((cutsL m near).filter fun d => decide ((d.length : Int) = leastV m near) && decide (c = d)).isEmpty = false from by
        rw [List.isEmpty_eq_false_iff_exists_mem]
        exact ⟨c, List.mem_filter.mpr ⟨f3 (by omega), by rw [decide_eq_true f1]; simp⟩⟩]
      walk_at "pl"
      exact ⟨by decide, hQ _⟩

end Pl.k09
set_option Elab.async false
set_option linter.all false
set_option maxRecDepth 100000
namespace Pl.k09
open PySem Pl
local macro_rules | `(tactic| walk_at "pl0") => `(tactic| try simp only [↓dW_bind, ↓dW_pure, ↓dW_some, ↓dW_vi, ↓dW_vb, ↓dW_toD, ↓dW_rd, ↓dW_mv, ↓dW_op, ↓dW_own, ↓dW_get_dat, ↓dW_get_at, ↓dW_gets_nil, ↓dW_gets_cons, ↓dW_put, ↓dW_val, ↓dW_bool, ↓dW_tru, ↓dW_nx, ↓dW_ite, ↓dW_keep, ↓de_opv, ↓de_c, ↓de_v, ↓de_io, ↓de_bin, ↓de_un, ↓de_cmp, ↓de_chain, ↓de_and, ↓de_or, ↓de_not, ↓de_ite, ↓de_tup, ↓de_lst, ↓de_ix, ↓de_sl, ↓de_pnil, ↓de_rev, ↓de_fld, ↓de_sfld, ↓de_call, ↓de_make, ↓de_meth, ↓de_blt, ↓de_isi, ↓de_mut, ↓de_lc1, ↓de_es0, ↓de_star, ↓de_ps0, ↓de_ps, ↓de_ts0, ↓de_ts, ↓de_rs0, ↓de_rs, ↓ds_nil, ↓ds_cons, ↓ds_asgn, ↓ds_sto, ↓ds_sub, ↓ds_subX, ↓ds_asgs, ↓ds_asgf, ↓ds_fld, ↓ds_par, ↓ds_stoX0, ↓ds_stoXn, ↓ds_stoXs, ↓ds_unp, ↓ds_unpT, ↓ds_aug, ↓ds_expr, ↓ds_retv, ↓ds_iff, ↓ds_for, ↓ds_wh, ↓ds_pass, ↓ds_brk, ↓ds_cont, ↓do_add, ↓do_sub, ↓do_and, ↓do_or, ↓do_xor, ↓do_mul, ↓do_fdiv, ↓do_mod, ↓do_pow, ↓do_shl, ↓do_shr, ↓do_addL, ↓do_addT, ↓do_inv, ↓do_neg, ↓do_lt, ↓do_le, ↓do_gt, ↓do_ge, ↓do_eq, ↓do_ne, ↓do_item, ↓do_itemT, ↓dt_int, ↓dt_bl, ↓dt_non, ↓dt_lst, ↓dr_seq, ↓dr_seqt, ↓db_len, ↓db_lent, ↓db_lens, ↓db_abs, ↓db_max2, ↓db_min2, ↓db_int, ↓db_tuple, ↓db_tuplet, ↓db_list, ↓db_listt, ↓de_op_c, ↓ds_ret_c, ↓de_es_c, ↓de_pt_c, ↓de_es_v, ↓de_pt_v, ↓de_op_io, ↓ds_ret_io, ↓de_es_io, ↓de_pt_io, ↓de_op_bin, ↓ds_ret_bin, ↓de_es_bin, ↓de_pt_bin, ↓de_op_un, ↓ds_ret_un, ↓de_es_un, ↓de_pt_un, ↓de_op_cmp, ↓ds_ret_cmp, ↓de_es_cmp, ↓de_pt_cmp, ↓de_op_chain, ↓ds_ret_chain, ↓de_es_chain, ↓de_pt_chain, ↓de_op_and, ↓ds_ret_and, ↓de_es_and, ↓de_pt_and, ↓de_op_or, ↓ds_ret_or, ↓de_es_or, ↓de_pt_or, ↓de_op_not, ↓ds_ret_not, ↓de_es_not, ↓de_pt_not, ↓de_op_ite, ↓ds_ret_ite, ↓de_es_ite, ↓de_pt_ite, ↓de_op_tup, ↓ds_ret_tup, ↓de_es_tup, ↓de_pt_tup, ↓de_op_lst, ↓ds_ret_lst, ↓de_es_lst, ↓de_pt_lst, ↓de_op_ix, ↓ds_ret_ix, ↓de_es_ix, ↓de_pt_ix, ↓de_op_sl, ↓ds_ret_sl, ↓de_es_sl, ↓de_pt_sl, ↓de_op_rev, ↓ds_ret_rev, ↓de_es_rev, ↓de_pt_rev, ↓de_op_fld, ↓ds_ret_fld, ↓de_es_fld, ↓de_pt_fld, ↓de_op_sfld, ↓ds_ret_sfld, ↓de_es_sfld, ↓de_pt_sfld, ↓de_op_call, ↓ds_ret_call, ↓de_es_call, ↓de_pt_call, ↓de_op_make, ↓ds_ret_make, ↓de_es_make, ↓de_pt_make, ↓de_op_meth, ↓ds_ret_meth, ↓de_es_meth, ↓de_pt_meth, ↓de_op_blt, ↓ds_ret_blt, ↓de_es_blt, ↓de_pt_blt, ↓de_op_bmt, ↓ds_ret_bmt, ↓de_es_bmt, ↓de_pt_bmt, ↓de_op_isi, ↓ds_ret_isi, ↓de_es_isi, ↓de_pt_isi, ↓de_op_mut, ↓ds_ret_mut, ↓de_es_mut, ↓de_pt_mut, ↓de_op_lc1, ↓ds_ret_lc1, ↓de_es_lc1, ↓de_pt_lc1, ↓de_op_lc2, ↓ds_ret_lc2, ↓de_es_lc2, ↓de_pt_lc2, ↓di_int_bool, ↓di_int_int, ↓di_int_str, ↓di_int_tuple, ↓di_int_list, ↓dn_int_non, ↓di_tup_bool, ↓di_tup_int, ↓di_tup_str, ↓di_tup_tuple, ↓di_tup_list, ↓dn_tup_non, ↓di_lst_bool, ↓di_lst_int, ↓di_lst_str, ↓di_lst_tuple, ↓di_lst_list, ↓dn_lst_non, ↓di_bl_bool, ↓di_bl_int, ↓di_bl_str, ↓di_bl_tuple, ↓di_bl_list, ↓dn_bl_non, ↓di_str_bool, ↓di_str_int, ↓di_str_str, ↓di_str_tuple, ↓di_str_list, ↓dn_str_non, ↓di_obj_bool, ↓di_obj_int, ↓di_obj_str, ↓di_obj_tuple, ↓di_obj_list, ↓dn_ne_bl, ↓dn_eq_bl, ↓dn_obj, ↓dz_to1, ↓dz_sum, beq_self_eq_true, bne_self_eq_false, Bool.not_true, Bool.not_false, decide_true, decide_false, ↓de_lc2, ↓df_0, ↓df_1, ↓df_2, ↓df_3, ↓df_i, ↓do_mulN, ↓do_from1, ↓do_to, ↓do_to1, ↓do_part, min2N, ↓db_lrng1, ↓db_trng1, ↓ds_parL2, ↓ds_parL3, ↓dm_app, ↓dm_ext, ↓dm_rev, ↓d_neints, ↓d_eqints, ↓dr_rng1c, ↓dr_rng2c, ↓dr_rng2o, ↓atD_0, ↓atD_1, ↓atD_2, ↓atD_3, ↓ixD_0, ↓ixD_3, getS_0, getS_s, List.set_cons_zero, List.set_cons_succ, stoV, RV.d, endC, tnC, wipeS, backAll, if_true, if_false, Bool.false_eq_true, pmD, List.getElem?_cons_zero, List.getElem?_cons_succ, List.cons_append, List.nil_append, List.append_nil, Option.map_some, shl1N, shlN, shrN, and1N, andN, orN, xorN, andnN, nandN, tstb, List.length_cons, List.length_nil, List.length_map, List.length_range, Nat.zero_add, Nat.reduceAdd, Nat.reduceLT, Nat.reduceLeDiff, true_and])
local macro_rules | `(tactic| walk_at "pl") => `(tactic| try simp only [↓dW_bind, ↓dW_pure, ↓dW_some, ↓dW_vi, ↓dW_vb, ↓dW_toD, ↓dW_rd, ↓dW_mv, ↓dW_op, ↓dW_own, ↓dW_get_dat, ↓dW_get_at, ↓dW_gets_nil, ↓dW_gets_cons, ↓dW_put, ↓dW_val, ↓dW_bool, ↓dW_tru, ↓dW_nx, ↓dW_ite, ↓dW_keep, ↓de_opv, ↓de_c, ↓de_v, ↓de_io, ↓de_bin, ↓de_un, ↓de_cmp, ↓de_chain, ↓de_and, ↓de_or, ↓de_not, ↓de_ite, ↓de_tup, ↓de_lst, ↓de_ix, ↓de_sl, ↓de_pnil, ↓de_rev, ↓de_fld, ↓de_sfld, ↓de_call, ↓de_make, ↓de_meth, ↓de_blt, ↓de_isi, ↓de_mut, ↓de_lc1, ↓de_es0, ↓de_star, ↓de_ps0, ↓de_ps, ↓de_ts0, ↓de_ts, ↓de_rs0, ↓de_rs, ↓ds_nil, ↓ds_cons, ↓ds_asgn, ↓ds_sto, ↓ds_sub, ↓ds_subX, ↓ds_asgs, ↓ds_asgf, ↓ds_fld, ↓ds_par, ↓ds_stoX0, ↓ds_stoXn, ↓ds_stoXs, ↓ds_unp, ↓ds_unpT, ↓ds_aug, ↓ds_expr, ↓ds_retv, ↓ds_iff, ↓ds_for, ↓ds_wh, ↓ds_pass, ↓ds_brk, ↓ds_cont, ↓do_add, ↓do_sub, ↓do_and, ↓do_or, ↓do_xor, ↓do_mul, ↓do_fdiv, ↓do_mod, ↓do_pow, ↓do_shl, ↓do_shr, ↓do_addL, ↓do_addT, ↓do_inv, ↓do_neg, ↓do_lt, ↓do_le, ↓do_gt, ↓do_ge, ↓do_eq, ↓do_ne, ↓do_item, ↓do_itemT, ↓dt_int, ↓dt_bl, ↓dt_non, ↓dt_lst, ↓dr_seq, ↓dr_seqt, ↓db_len, ↓db_lent, ↓db_lens, ↓db_abs, ↓db_max2, ↓db_min2, ↓db_int, ↓db_tuple, ↓db_tuplet, ↓db_list, ↓db_listt, ↓de_op_c, ↓ds_ret_c, ↓de_es_c, ↓de_pt_c, ↓de_es_v, ↓de_pt_v, ↓de_op_io, ↓ds_ret_io, ↓de_es_io, ↓de_pt_io, ↓de_op_bin, ↓ds_ret_bin, ↓de_es_bin, ↓de_pt_bin, ↓de_op_un, ↓ds_ret_un, ↓de_es_un, ↓de_pt_un, ↓de_op_cmp, ↓ds_ret_cmp, ↓de_es_cmp, ↓de_pt_cmp, ↓de_op_chain, ↓ds_ret_chain, ↓de_es_chain, ↓de_pt_chain, ↓de_op_and, ↓ds_ret_and, ↓de_es_and, ↓de_pt_and, ↓de_op_or, ↓ds_ret_or, ↓de_es_or, ↓de_pt_or, ↓de_op_not, ↓ds_ret_not, ↓de_es_not, ↓de_pt_not, ↓de_op_ite, ↓ds_ret_ite, ↓de_es_ite, ↓de_pt_ite, ↓de_op_tup, ↓ds_ret_tup, ↓de_es_tup, ↓de_pt_tup, ↓de_op_lst, ↓ds_ret_lst, ↓de_es_lst, ↓de_pt_lst, ↓de_op_ix, ↓ds_ret_ix, ↓de_es_ix, ↓de_pt_ix, ↓de_op_sl, ↓ds_ret_sl, ↓de_es_sl, ↓de_pt_sl, ↓de_op_rev, ↓ds_ret_rev, ↓de_es_rev, ↓de_pt_rev, ↓de_op_fld, ↓ds_ret_fld, ↓de_es_fld, ↓de_pt_fld, ↓de_op_sfld, ↓ds_ret_sfld, ↓de_es_sfld, ↓de_pt_sfld, ↓de_op_call, ↓ds_ret_call, ↓de_es_call, ↓de_pt_call, ↓de_op_make, ↓ds_ret_make, ↓de_es_make, ↓de_pt_make, ↓de_op_meth, ↓ds_ret_meth, ↓de_es_meth, ↓de_pt_meth, ↓de_op_blt, ↓ds_ret_blt, ↓de_es_blt, ↓de_pt_blt, ↓de_op_bmt, ↓ds_ret_bmt, ↓de_es_bmt, ↓de_pt_bmt, ↓de_op_isi, ↓ds_ret_isi, ↓de_es_isi, ↓de_pt_isi, ↓de_op_mut, ↓ds_ret_mut, ↓de_es_mut, ↓de_pt_mut, ↓de_op_lc1, ↓ds_ret_lc1, ↓de_es_lc1, ↓de_pt_lc1, ↓de_op_lc2, ↓ds_ret_lc2, ↓de_es_lc2, ↓de_pt_lc2, ↓di_int_bool, ↓di_int_int, ↓di_int_str, ↓di_int_tuple, ↓di_int_list, ↓dn_int_non, ↓di_tup_bool, ↓di_tup_int, ↓di_tup_str, ↓di_tup_tuple, ↓di_tup_list, ↓dn_tup_non, ↓di_lst_bool, ↓di_lst_int, ↓di_lst_str, ↓di_lst_tuple, ↓di_lst_list, ↓dn_lst_non, ↓di_bl_bool, ↓di_bl_int, ↓di_bl_str, ↓di_bl_tuple, ↓di_bl_list, ↓dn_bl_non, ↓di_str_bool, ↓di_str_int, ↓di_str_str, ↓di_str_tuple, ↓di_str_list, ↓dn_str_non, ↓di_obj_bool, ↓di_obj_int, ↓di_obj_str, ↓di_obj_tuple, ↓di_obj_list, ↓dn_ne_bl, ↓dn_eq_bl, ↓dn_obj, ↓dz_to1, ↓dz_sum, beq_self_eq_true, bne_self_eq_false, Bool.not_true, Bool.not_false, decide_true, decide_false, ↓de_lc2, ↓df_0, ↓df_1, ↓df_2, ↓df_3, ↓df_i, ↓do_mulN, ↓do_from1, ↓do_to, ↓do_to1, ↓do_part, min2N, ↓db_lrng1, ↓db_trng1, ↓ds_parL2, ↓ds_parL3, ↓dm_app, ↓dm_ext, ↓dm_rev, ↓d_neints, ↓d_eqints, ↓dr_rng1c, ↓dr_rng2c, ↓dr_rng2o, ↓atD_0, ↓atD_1, ↓atD_2, ↓atD_3, ↓ixD_0, ↓ixD_3, getS_0, getS_s, List.set_cons_zero, List.set_cons_succ, stoV, RV.d, endC, tnC, wipeS, backAll, if_true, if_false, Bool.false_eq_true, pmD, List.getElem?_cons_zero, List.getElem?_cons_succ, List.cons_append, List.nil_append, List.append_nil, Option.map_some, shl1N, shlN, shrN, and1N, andN, orN, xorN, andnN, nandN, tstb, List.length_cons, List.length_nil, List.length_map, List.length_range, Nat.zero_add, Nat.reduceAdd, Nat.reduceLT, Nat.reduceLeDiff, true_and, List.getElem_range, addN, add1N, oneaN, pow1N, small1, nn0, le1000, and_true])
local macro_rules | `(tactic| walk_at "pa") => `(tactic| (simp only [atN, ixD_nat, setN, List.length_set, List.length_map, *]; walk_at "pl"))

def rt3 : List Sm := b44.drop 2
theorem right_tail (n m B : Nat) (near : List Nat) (named : Bool) (box : List D) (hm : m ≤ 8) (hn : NK m near) (hb : Box B box) (hB : B + 200 ≤ 1000000) :
    Wq (exSs (gam pr (n + 8)) rt3) [.io box, .val (.int m), .val (.lst (near.map fun (k : Nat) => D.int (k : Int))), .val (.bl named), .val (.int (leastV m near)), .un, .val (grD m near), .val (.lst ((cutsL m near).map cD)), .un, .un, .un] fun c S1 => endC (fun r => match getS S1 0 with | .io zs => r = .val (.bl true) ∧ ∃ box', some zs = some box' ∧ Box (B + 6) box' | _ => False) c := by
  simp only [rt3, b44, List.drop_succ_cons, List.drop_zero]
  obtain ⟨l, hl⟩ : ∃ l, rt2 = l := ⟨_, rfl⟩
  have hl' := hl
  simp only [rt2, b44] at hl'
  rw [hl']
  clear hl'
  walk_at "pl"
  refine ⟨by decide, ?_⟩
  rw [show [D.bl named, D.bl !named] = [named, !named].map D.bl from rfl]
  refine k_forM D.bl (fun k S => ∃ (box' : List D) (t x8 x9 : Slot), Box (B + 3 * k) box' ∧ S = [.io box', .val (.int m), .val (.lst (near.map fun (k : Nat) => D.int (k : Int))), .val (.bl named), .val (.int (leastV m near)), t, .val (grD m near), .val (.lst ((cutsL m near).map cD)), x8, x9, .un]) ?_ ?_ ?_
  · exact ⟨_, _, _, _, hb, rfl⟩
  · rintro k hk S ⟨box', t, x8, x9, hb1, rfl⟩
    have hk2 : k < 2 := hk
    generalize [named, !named][k] = turn
    refine ⟨_, rfl, ?_⟩
    walk_at "pl"
    refine k_call2 (i := 0) rfl ((mixed_ok (n + 6) (B + 3 * k) box' 3 hb1 (by omega) (by omega)).mono ?_)
    rintro r o ⟨im, rfl, him, box1, rfl, hb2⟩
    refine ⟨_, rfl, ?_⟩
    walk_at "pl"
    refine k_forM (fun (k : Nat) => D.int (k : Int)) (fun j S => ∃ (x8 x9 : Slot), S = [.io box1, .val (.int m), .val (.lst (near.map fun (k : Nat) => D.int (k : Int))), .val (.bl named), .val (.int (leastV m near)), .val (.bl turn), .val (grD m near), .val (.lst ((cutsL m near).map cD)), x8, x9, .un]) ?_ ?_ ?_
    · exact ⟨_, _, rfl⟩
    · rintro j hj S ⟨x8, x9, rfl⟩
      have h3 := him.2.2 _ (List.getElem_mem hj)
      generalize im[j] = q at h3
      refine ⟨_, rfl, ?_⟩
      rw [← hl]
      have : q = 0 ∨ q = 1 ∨ q = 2 := by omega
      rcases this with rfl | rfl | rfl
      · exact body0 n m near turn named box1 x9 hm hn fun y => ⟨_, _, rfl⟩
      · exact body1 n m near turn named box1 x9 hm hn fun y => ⟨_, _, rfl⟩
      · exact body2 n m near turn named box1 x9 hm hn fun y => ⟨_, _, rfl⟩
    · rintro S ⟨x8, x9, rfl⟩
      walk_at "pl"
      exact ⟨_, _, _, _, hb2, rfl⟩
  · rintro S ⟨box', t, x8, x9, hb1, rfl⟩
    walk_at "pl"
    exact ⟨_, rfl, hb1⟩
theorem cuts_cD (m : Nat) (near : List Nat) : (cutsL m near).map (fun c => D.tup (c.map pD)) = (cutsL m near).map cD := rfl
theorem right_ok (n m B : Nat) (near : List Nat) (named : Bool) (box : List D) (hm : m ≤ 8) (hn : NK m near) (hb : Box B box) (hB : B + 200 ≤ 1000000) :
    Wk ((gam pr (n + 9)).call 44 [.non, .int (m : Int), .lst (near.map fun (k : Nat) => D.int (k : Int)), .bl named] (some box)) fun r o => r = .val (.bl true) ∧ ∃ box', o = some box' ∧ Box (B + 6) box' := by
  refine k_call fn44 (k_run1 (i := 0) (S := [.io box, .val (.int m), .val (.lst (near.map fun (k : Nat) => D.int (k : Int))), .val (.bl named), .un, .un, .un, .un, .un, .un, .un]) rfl rfl ?_)
  simp only [f44, b44]
  obtain ⟨l, hl⟩ : ∃ l, rt3 = l := ⟨_, rfl⟩
  have hl' := hl
  simp only [rt3, b44, List.drop_succ_cons, List.drop_zero] at hl'
  rw [hl']
  clear hl'
  walk_at "pl"
  refine k_call0 ((edges_ok (n + 6) m near hm hn.len).mono ?_)
  rintro r o ⟨rfl, rfl⟩
  refine ⟨rfl, ?_⟩
  walk_at "pl"
  refine k_make ((p_make n m near hm hn).mono ?_)
  rintro r o ⟨rfl, rfl⟩
  refine ⟨rfl, ?_⟩
  walk_at "pl"
  refine k_call0 ((cuts_ok (n + 4) m near hm hn.len).mono ?_)
  rintro r o ⟨rfl, rfl⟩
  refine ⟨rfl, ?_⟩
  walk_at "pl"
  rw [cuts_cD]
  by_cases h : 1 < m
  · rw [if_pos (by simp; omega)]
    have hp8 : (2 : Nat) ^ (m - 1) ≤ 2 ^ 7 := Nat.pow_le_pow_right (by omega) (by omega)
    have hcl : (cutsL m near).length ≤ 128 := by unfold cutsL; simp; omega
    refine k_blockM cD (fun c => [D.int (c.length : Int)]) ?_ ?_ ?_
    · rw [flat_one, List.length_map, lim_eq]; omega
    · intro c hc acc ha
      refine ⟨_, rfl, ?_⟩
      walk_at "pl"
      simp only [List.length_cons, List.length_nil] at ha
      first | omega | exact ⟨by omega, rfl⟩
    · rw [flat_one]
      walk_at "pl"
      rw [show (cutsL m near).map (fun c => D.int (c.length : Int)) = ((cutsL m near).map fun c => (c.length : Int)).map D.int from by rw [List.map_map]; rfl]
      obtain ⟨v, e1, e2, e3⟩ := minI_some (cuts_pos (near := near) h)
      rw [d_minI e1]
      walk_at "pl"
      rw [← hl]
      have : v = leastV m near := by unfold leastV; rw [if_pos h, e1]; rfl
      rw [this]
      exact right_tail n m B near named box hm hn hb hB
  · rw [if_neg (by simp; omega), ← hl]
    have : (0 : Int) = leastV m near := by unfold leastV; rw [if_neg h]
    rw [this]
    exact right_tail n m B near named box hm hn hb hB

end Pl.k09
set_option Elab.async false
set_option linter.all false
set_option maxRecDepth 100000
namespace Pl.k09
open PySem Pl
local macro_rules | `(tactic| walk_at "pl0") => `(tactic| try simp only [↓dW_bind, ↓dW_pure, ↓dW_some, ↓dW_vi, ↓dW_vb, ↓dW_toD, ↓dW_rd, ↓dW_mv, ↓dW_op, ↓dW_own, ↓dW_get_dat, ↓dW_get_at, ↓dW_gets_nil, ↓dW_gets_cons, ↓dW_put, ↓dW_val, ↓dW_bool, ↓dW_tru, ↓dW_nx, ↓dW_ite, ↓dW_keep, ↓de_opv, ↓de_c, ↓de_v, ↓de_io, ↓de_bin, ↓de_un, ↓de_cmp, ↓de_chain, ↓de_and, ↓de_or, ↓de_not, ↓de_ite, ↓de_tup, ↓de_lst, ↓de_ix, ↓de_sl, ↓de_pnil, ↓de_rev, ↓de_fld, ↓de_sfld, ↓de_call, ↓de_make, ↓de_meth, ↓de_blt, ↓de_isi, ↓de_mut, ↓de_lc1, ↓de_es0, ↓de_star, ↓de_ps0, ↓de_ps, ↓de_ts0, ↓de_ts, ↓de_rs0, ↓de_rs, ↓ds_nil, ↓ds_cons, ↓ds_asgn, ↓ds_sto, ↓ds_sub, ↓ds_subX, ↓ds_asgs, ↓ds_asgf, ↓ds_fld, ↓ds_par, ↓ds_stoX0, ↓ds_stoXn, ↓ds_stoXs, ↓ds_unp, ↓ds_unpT, ↓ds_aug, ↓ds_expr, ↓ds_retv, ↓ds_iff, ↓ds_for, ↓ds_wh, ↓ds_pass, ↓ds_brk, ↓ds_cont, ↓do_add, ↓do_sub, ↓do_and, ↓do_or, ↓do_xor, ↓do_mul, ↓do_fdiv, ↓do_mod, ↓do_pow, ↓do_shl, ↓do_shr, ↓do_addL, ↓do_addT, ↓do_inv, ↓do_neg, ↓do_lt, ↓do_le, ↓do_gt, ↓do_ge, ↓do_eq, ↓do_ne, ↓do_item, ↓do_itemT, ↓dt_int, ↓dt_bl, ↓dt_non, ↓dt_lst, ↓dr_seq, ↓dr_seqt, ↓db_len, ↓db_lent, ↓db_lens, ↓db_abs, ↓db_max2, ↓db_min2, ↓db_int, ↓db_tuple, ↓db_tuplet, ↓db_list, ↓db_listt, ↓de_op_c, ↓ds_ret_c, ↓de_es_c, ↓de_pt_c, ↓de_es_v, ↓de_pt_v, ↓de_op_io, ↓ds_ret_io, ↓de_es_io, ↓de_pt_io, ↓de_op_bin, ↓ds_ret_bin, ↓de_es_bin, ↓de_pt_bin, ↓de_op_un, ↓ds_ret_un, ↓de_es_un, ↓de_pt_un, ↓de_op_cmp, ↓ds_ret_cmp, ↓de_es_cmp, ↓de_pt_cmp, ↓de_op_chain, ↓ds_ret_chain, ↓de_es_chain, ↓de_pt_chain, ↓de_op_and, ↓ds_ret_and, ↓de_es_and, ↓de_pt_and, ↓de_op_or, ↓ds_ret_or, ↓de_es_or, ↓de_pt_or, ↓de_op_not, ↓ds_ret_not, ↓de_es_not, ↓de_pt_not, ↓de_op_ite, ↓ds_ret_ite, ↓de_es_ite, ↓de_pt_ite, ↓de_op_tup, ↓ds_ret_tup, ↓de_es_tup, ↓de_pt_tup, ↓de_op_lst, ↓ds_ret_lst, ↓de_es_lst, ↓de_pt_lst, ↓de_op_ix, ↓ds_ret_ix, ↓de_es_ix, ↓de_pt_ix, ↓de_op_sl, ↓ds_ret_sl, ↓de_es_sl, ↓de_pt_sl, ↓de_op_rev, ↓ds_ret_rev, ↓de_es_rev, ↓de_pt_rev, ↓de_op_fld, ↓ds_ret_fld, ↓de_es_fld, ↓de_pt_fld, ↓de_op_sfld, ↓ds_ret_sfld, ↓de_es_sfld, ↓de_pt_sfld, ↓de_op_call, ↓ds_ret_call, ↓de_es_call, ↓de_pt_call, ↓de_op_make, ↓ds_ret_make, ↓de_es_make, ↓de_pt_make, ↓de_op_meth, ↓ds_ret_meth, ↓de_es_meth, ↓de_pt_meth, ↓de_op_blt, ↓ds_ret_blt, ↓de_es_blt, ↓de_pt_blt, ↓de_op_bmt, ↓ds_ret_bmt, ↓de_es_bmt, ↓de_pt_bmt, ↓de_op_isi, ↓ds_ret_isi, ↓de_es_isi, ↓de_pt_isi, ↓de_op_mut, ↓ds_ret_mut, ↓de_es_mut, ↓de_pt_mut, ↓de_op_lc1, ↓ds_ret_lc1, ↓de_es_lc1, ↓de_pt_lc1, ↓de_op_lc2, ↓ds_ret_lc2, ↓de_es_lc2, ↓de_pt_lc2, ↓di_int_bool, ↓di_int_int, ↓di_int_str, ↓di_int_tuple, ↓di_int_list, ↓dn_int_non, ↓di_tup_bool, ↓di_tup_int, ↓di_tup_str, ↓di_tup_tuple, ↓di_tup_list, ↓dn_tup_non, ↓di_lst_bool, ↓di_lst_int, ↓di_lst_str, ↓di_lst_tuple, ↓di_lst_list, ↓dn_lst_non, ↓di_bl_bool, ↓di_bl_int, ↓di_bl_str, ↓di_bl_tuple, ↓di_bl_list, ↓dn_bl_non, ↓di_str_bool, ↓di_str_int, ↓di_str_str, ↓di_str_tuple, ↓di_str_list, ↓dn_str_non, ↓di_obj_bool, ↓di_obj_int, ↓di_obj_str, ↓di_obj_tuple, ↓di_obj_list, ↓dn_ne_bl, ↓dn_eq_bl, ↓dn_obj, ↓dz_to1, ↓dz_sum, beq_self_eq_true, bne_self_eq_false, Bool.not_true, Bool.not_false, decide_true, decide_false, ↓de_lc2, ↓df_0, ↓df_1, ↓df_2, ↓df_3, ↓df_i, ↓do_mulN, ↓do_from1, ↓do_to, ↓do_to1, ↓do_part, min2N, ↓db_lrng1, ↓db_trng1, ↓ds_parL2, ↓ds_parL3, ↓dm_app, ↓dm_ext, ↓dm_rev, ↓d_neints, ↓d_eqints, ↓dr_rng1c, ↓dr_rng2c, ↓dr_rng2o, ↓atD_0, ↓atD_1, ↓atD_2, ↓atD_3, ↓ixD_0, ↓ixD_3, getS_0, getS_s, List.set_cons_zero, List.set_cons_succ, stoV, RV.d, endC, tnC, wipeS, backAll, if_true, if_false, Bool.false_eq_true, pmD, List.getElem?_cons_zero, List.getElem?_cons_succ, List.cons_append, List.nil_append, List.append_nil, Option.map_some, shl1N, shlN, shrN, and1N, andN, orN, xorN, andnN, nandN, tstb, List.length_cons, List.length_nil, List.length_map, List.length_range, Nat.zero_add, Nat.reduceAdd, Nat.reduceLT, Nat.reduceLeDiff, true_and])
local macro_rules | `(tactic| walk_at "pl") => `(tactic| try simp only [↓dW_bind, ↓dW_pure, ↓dW_some, ↓dW_vi, ↓dW_vb, ↓dW_toD, ↓dW_rd, ↓dW_mv, ↓dW_op, ↓dW_own, ↓dW_get_dat, ↓dW_get_at, ↓dW_gets_nil, ↓dW_gets_cons, ↓dW_put, ↓dW_val, ↓dW_bool, ↓dW_tru, ↓dW_nx, ↓dW_ite, ↓dW_keep, ↓de_opv, ↓de_c, ↓de_v, ↓de_io, ↓de_bin, ↓de_un, ↓de_cmp, ↓de_chain, ↓de_and, ↓de_or, ↓de_not, ↓de_ite, ↓de_tup, ↓de_lst, ↓de_ix, ↓de_sl, ↓de_pnil, ↓de_rev, ↓de_fld, ↓de_sfld, ↓de_call, ↓de_make, ↓de_meth, ↓de_blt, ↓de_isi, ↓de_mut, ↓de_lc1, ↓de_es0, ↓de_star, ↓de_ps0, ↓de_ps, ↓de_ts0, ↓de_ts, ↓de_rs0, ↓de_rs, ↓ds_nil, ↓ds_cons, ↓ds_asgn, ↓ds_sto, ↓ds_sub, ↓ds_subX, ↓ds_asgs, ↓ds_asgf, ↓ds_fld, ↓ds_par, ↓ds_stoX0, ↓ds_stoXn, ↓ds_stoXs, ↓ds_unp, ↓ds_unpT, ↓ds_aug, ↓ds_expr, ↓ds_retv, ↓ds_iff, ↓ds_for, ↓ds_wh, ↓ds_pass, ↓ds_brk, ↓ds_cont, ↓do_add, ↓do_sub, ↓do_and, ↓do_or, ↓do_xor, ↓do_mul, ↓do_fdiv, ↓do_mod, ↓do_pow, ↓do_shl, ↓do_shr, ↓do_addL, ↓do_addT, ↓do_inv, ↓do_neg, ↓do_lt, ↓do_le, ↓do_gt, ↓do_ge, ↓do_eq, ↓do_ne, ↓do_item, ↓do_itemT, ↓dt_int, ↓dt_bl, ↓dt_non, ↓dt_lst, ↓dr_seq, ↓dr_seqt, ↓db_len, ↓db_lent, ↓db_lens, ↓db_abs, ↓db_max2, ↓db_min2, ↓db_int, ↓db_tuple, ↓db_tuplet, ↓db_list, ↓db_listt, ↓de_op_c, ↓ds_ret_c, ↓de_es_c, ↓de_pt_c, ↓de_es_v, ↓de_pt_v, ↓de_op_io, ↓ds_ret_io, ↓de_es_io, ↓de_pt_io, ↓de_op_bin, ↓ds_ret_bin, ↓de_es_bin, ↓de_pt_bin, ↓de_op_un, ↓ds_ret_un, ↓de_es_un, ↓de_pt_un, ↓de_op_cmp, ↓ds_ret_cmp, ↓de_es_cmp, ↓de_pt_cmp, ↓de_op_chain, ↓ds_ret_chain, ↓de_es_chain, ↓de_pt_chain, ↓de_op_and, ↓ds_ret_and, ↓de_es_and, ↓de_pt_and, ↓de_op_or, ↓ds_ret_or, ↓de_es_or, ↓de_pt_or, ↓de_op_not, ↓ds_ret_not, ↓de_es_not, ↓de_pt_not, ↓de_op_ite, ↓ds_ret_ite, ↓de_es_ite, ↓de_pt_ite, ↓de_op_tup, ↓ds_ret_tup, ↓de_es_tup, ↓de_pt_tup, ↓de_op_lst, ↓ds_ret_lst, ↓de_es_lst, ↓de_pt_lst, ↓de_op_ix, ↓ds_ret_ix, ↓de_es_ix, ↓de_pt_ix, ↓de_op_sl, ↓ds_ret_sl, ↓de_es_sl, ↓de_pt_sl, ↓de_op_rev, ↓ds_ret_rev, ↓de_es_rev, ↓de_pt_rev, ↓de_op_fld, ↓ds_ret_fld, ↓de_es_fld, ↓de_pt_fld, ↓de_op_sfld, ↓ds_ret_sfld, ↓de_es_sfld, ↓de_pt_sfld, ↓de_op_call, ↓ds_ret_call, ↓de_es_call, ↓de_pt_call, ↓de_op_make, ↓ds_ret_make, ↓de_es_make, ↓de_pt_make, ↓de_op_meth, ↓ds_ret_meth, ↓de_es_meth, ↓de_pt_meth, ↓de_op_blt, ↓ds_ret_blt, ↓de_es_blt, ↓de_pt_blt, ↓de_op_bmt, ↓ds_ret_bmt, ↓de_es_bmt, ↓de_pt_bmt, ↓de_op_isi, ↓ds_ret_isi, ↓de_es_isi, ↓de_pt_isi, ↓de_op_mut, ↓ds_ret_mut, ↓de_es_mut, ↓de_pt_mut, ↓de_op_lc1, ↓ds_ret_lc1, ↓de_es_lc1, ↓de_pt_lc1, ↓de_op_lc2, ↓ds_ret_lc2, ↓de_es_lc2, ↓de_pt_lc2, ↓di_int_bool, ↓di_int_int, ↓di_int_str, ↓di_int_tuple, ↓di_int_list, ↓dn_int_non, ↓di_tup_bool, ↓di_tup_int, ↓di_tup_str, ↓di_tup_tuple, ↓di_tup_list, ↓dn_tup_non, ↓di_lst_bool, ↓di_lst_int, ↓di_lst_str, ↓di_lst_tuple, ↓di_lst_list, ↓dn_lst_non, ↓di_bl_bool, ↓di_bl_int, ↓di_bl_str, ↓di_bl_tuple, ↓di_bl_list, ↓dn_bl_non, ↓di_str_bool, ↓di_str_int, ↓di_str_str, ↓di_str_tuple, ↓di_str_list, ↓dn_str_non, ↓di_obj_bool, ↓di_obj_int, ↓di_obj_str, ↓di_obj_tuple, ↓di_obj_list, ↓dn_ne_bl, ↓dn_eq_bl, ↓dn_obj, ↓dz_to1, ↓dz_sum, beq_self_eq_true, bne_self_eq_false, Bool.not_true, Bool.not_false, decide_true, decide_false, ↓de_lc2, ↓df_0, ↓df_1, ↓df_2, ↓df_3, ↓df_i, ↓do_mulN, ↓do_from1, ↓do_to, ↓do_to1, ↓do_part, min2N, ↓db_lrng1, ↓db_trng1, ↓ds_parL2, ↓ds_parL3, ↓dm_app, ↓dm_ext, ↓dm_rev, ↓d_neints, ↓d_eqints, ↓dr_rng1c, ↓dr_rng2c, ↓dr_rng2o, ↓atD_0, ↓atD_1, ↓atD_2, ↓atD_3, ↓ixD_0, ↓ixD_3, getS_0, getS_s, List.set_cons_zero, List.set_cons_succ, stoV, RV.d, endC, tnC, wipeS, backAll, if_true, if_false, Bool.false_eq_true, pmD, List.getElem?_cons_zero, List.getElem?_cons_succ, List.cons_append, List.nil_append, List.append_nil, Option.map_some, shl1N, shlN, shrN, and1N, andN, orN, xorN, andnN, nandN, tstb, List.length_cons, List.length_nil, List.length_map, List.length_range, Nat.zero_add, Nat.reduceAdd, Nat.reduceLT, Nat.reduceLeDiff, true_and, List.getElem_range, addN, add1N, oneaN, pow1N, small1, nn0, le1000, and_true])
local macro_rules | `(tactic| walk_at "pa") => `(tactic| (simp only [atN, ixD_nat, setN, List.length_set, List.length_map, *]; walk_at "pl"))

def rwD (p : Nat × List Nat) : D := .lst [.int (p.1 : Int), .lst (p.2.map fun (k : Nat) => D.int (k : Int))]
theorem dr_rng3 {S : Sl} {Q : List D → Sl → Prop} : Wq (M.opt (walkD .rng1 [.int 3])) S Q = Q ((List.range 3).map fun (k : Nat) => D.int (k : Int)) S := by
  rw [Wd_eq]; rfl
theorem law_ok (n : Nat) (ns : List Int) : Wk ((gam pr (n + 10)).call 45 [.scr ns] none) fun r o => r = .val (.bl true) ∧ o = none := by
  refine k_call fn45 (k_run0 (S := [.val (.scr ns), .un, .un, .un, .un, .un, .un, .un]) rfl rfl ?_)
  simp only [f45, b45]
  walk_at "pl"
  obtain ⟨q, hq, hq4⟩ : ∃ q : Nat, (if (if (ns.length : Int) < 4 then (ns.length : Int) else 4) > 2 then if (ns.length : Int) < 4 then (ns.length : Int) else 4 else 2) = (q : Int) ∧ q ≤ 4 := by
    refine ⟨(if (if (ns.length : Int) < 4 then (ns.length : Int) else 4) > 2 then if (ns.length : Int) < 4 then (ns.length : Int) else 4 else 2).toNat, ?_, ?_⟩ <;> (split <;> split <;> omega)
  rw [hq]
  walk_at "pl"
  refine ⟨by omega, ?_⟩
  refine k_forM (fun (k : Nat) => D.int (k : Int)) (fun _ S => ∃ (x1 x2 x3 x4 x5 x6 x7 : Slot), S = [.val (.scr ns), x1, x2, x3, x4, x5, x6, x7]) ?_ ?_ ?_
  · exact ⟨_, _, _, _, _, _, _, rfl⟩
  · rintro k hk S ⟨x1, x2, x3, x4, x5, x6, x7, rfl⟩
    simp only [List.getElem_range]
    rw [List.length_range] at hk
    refine ⟨_, rfl, ?_⟩
    walk_at "pl"
    refine k_call0 ((cell_ok (n + 8) k ns (by omega)).mono ?_)
    rintro r o ⟨⟨i, rfl⟩, rfl⟩
    refine ⟨rfl, ?_⟩
    walk_at "pl"
    refine k_call0 ((box_ok (n + 8) i).mono ?_)
    rintro r o ⟨⟨box, rfl, hb⟩, rfl⟩
    refine ⟨rfl, ?_⟩
    walk_at "pl"
    refine ⟨by decide, ?_⟩
    refine k_call1 (i := 2) rfl ((take_ok (n + 8) 0 box 2 hb (by omega) (by omega) (by omega)).mono ?_)
    rintro r o ⟨t, rfl, ht, box1, rfl, hb1⟩
    refine ⟨_, rfl, ?_⟩
    walk_at "pl"
    generalize decide ((t : Int) = 0) = named
    rw [dr_rng3]
    refine k_forM (fun (k : Nat) => D.int (k : Int)) (fun j S => ∃ (rows : List (Nat × List Nat)) (box' : List D) (x3 x6 : Slot), rows.length ≤ j ∧ (∀ p ∈ rows, p.1 ≤ 8 ∧ NK p.1 p.2) ∧ Box (1 + 110 * j) box' ∧ S = [.val (.scr ns), .val (.int (k : Int)), .own box', x3, .own (rows.map rwD), .val (.bl named), x6, x7]) ?_ ?_ ?_
    · exact ⟨[], box1, _, _, Nat.le_refl _, (fun _ h => nomatch h), hb1, rfl⟩
    · rintro j hj S ⟨rows, box2, x3, x6, g1, g2, hb2, rfl⟩
      rw [List.length_range] at hj
      refine ⟨_, rfl, ?_⟩
      walk_at "pl"
      refine k_call1 (i := 2) rfl ((size_ok (n + 7) (1 + 110 * j) box2 hb2 (by omega)).mono ?_)
      rintro r o ⟨m, rfl, hm, box3, rfl, hb3⟩
      refine ⟨_, rfl, ?_⟩
      walk_at "pl"
      refine k_call1 (i := 2) rfl ((take_ok (n + 8) (1 + 110 * j + 3) box3 5 hb3 (by omega) (by omega) (by omega)).mono ?_)
      rintro r o ⟨u, rfl, hu, box4, rfl, hb4⟩
      refine ⟨_, rfl, ?_⟩
      walk_at "pl"
      have fin : ∀ (near : List Nat) (box' : List D), NK m near → Box (1 + 110 * j + 3 + 1 + 100) box' → ∃ (rows_1 : List (Nat × List Nat)) (box'_1 : List D) (x3 x6 : Slot), rows_1.length ≤ j + 1 ∧ (∀ p ∈ rows_1, p.1 ≤ 8 ∧ NK p.1 p.2) ∧ Box (1 + 110 * (j + 1)) box'_1 ∧ [Slot.val (.scr ns), .val (.int (k : Int)), .own box', .val (.int (j : Int)), .own (rows.map rwD ++ [D.lst [.int (m : Int), .lst (near.map fun (k : Nat) => D.int (k : Int))]]), .val (.bl named), .val (.int (m : Int)), x7] = [.val (.scr ns), .val (.int (k : Int)), .own box'_1, x3, .own (rows_1.map rwD), .val (.bl named), x6, x7] := by
        intro near box' f1 f2
        refine ⟨rows ++ [(m, near)], box', _, _, by simp; omega, fun p hp => ?_, f2.mono (by omega), by rw [List.map_append]; rfl⟩
        rcases List.mem_append.mp hp with hp | hp
        · exact g2 p hp
        · rw [List.mem_singleton.mp hp]; exact ⟨hm, f1⟩
      by_cases h : u = 0
      · rw [if_pos (by simp; omega)]
        refine k_call1 (i := 2) rfl ((close_ok (n + 6) m (1 + 110 * j + 3 + 1) box4 hb4 (by omega) hm).mono ?_)
        rintro r o ⟨near, rfl, f1, box5, rfl, f2⟩
        refine ⟨_, rfl, ?_⟩
        walk_at "pl"
        exact ⟨two_lim, by rw [lim_eq]; omega, fin near box5 f1 f2⟩
      · rw [if_neg (by simp; omega)]
        refine k_call1 (i := 2) rfl ((drawn_ok (n + 6) m (1 + 110 * j + 3 + 1) box4 hb4 (by omega) hm).mono ?_)
        rintro r o ⟨near, rfl, f1, box5, rfl, f2⟩
        refine ⟨_, rfl, ?_⟩
        walk_at "pl"
        exact ⟨two_lim, by rw [lim_eq]; omega, fin near box5 f1 f2⟩
    · rintro S ⟨rows, box2, x3, x6, g1, g2, hb2, rfl⟩
      rw [List.length_range] at g1 hb2
      walk_at "pl"
      rw [← List.map_take, ← List.map_append]
      refine ⟨by rw [List.length_map, List.length_append, List.length_take, lim_eq]; omega, ?_⟩
      have g3 : ∀ p ∈ rows ++ rows.take 1, p.1 ≤ 8 ∧ NK p.1 p.2 := fun p hp => (List.mem_append.mp hp).elim (g2 p) fun h => g2 p (List.mem_of_mem_take h)
      have g4 : (rows ++ rows.take 1).length ≤ 6 := by rw [List.length_append, List.length_take]; omega
      refine k_forM rwD (fun j S => ∃ (box' : List D) (nm : Bool) (x6 x7 : Slot), Box (331 + 6 * j) box' ∧ S = [.val (.scr ns), .val (.int (k : Int)), .own box', x3, .own (rows.map rwD), .val (.bl nm), x6, x7]) ?_ ?_ ?_
      · exact ⟨box2, named, _, _, hb2, rfl⟩
      · rintro j hj S ⟨box3, nm, x6, x7, hb3, rfl⟩
        obtain ⟨c1, c2⟩ := g3 _ (List.getElem_mem hj)
        refine ⟨_, rfl, ?_⟩
        walk_at "pl"
        refine k_call1 (i := 2) rfl ((right_ok n _ (331 + 6 * j) _ nm box3 c1 c2 hb3 (by omega)).mono ?_)
        rintro r o ⟨rfl, box4, rfl, hb4⟩
        refine ⟨_, rfl, ?_⟩
        walk_at "pl"
        exact ⟨_, _, _, _, hb4, rfl⟩
      · rintro S ⟨box3, nm, x6, x7, hb3, rfl⟩
        walk_at "pl"
        exact ⟨_, _, _, _, _, _, _, rfl⟩
  · rintro S ⟨x1, x2, x3, x4, x5, x6, x7, rfl⟩
    walk_at "pl"

end Pl.k09
set_option Elab.async false
set_option linter.all false
set_option maxRecDepth 100000
namespace Pl.k09
open PySem Pl
local macro_rules | `(tactic| walk_at "pl0") => `(tactic| try simp only [↓dW_bind, ↓dW_pure, ↓dW_some, ↓dW_vi, ↓dW_vb, ↓dW_toD, ↓dW_rd, ↓dW_mv, ↓dW_op, ↓dW_own, ↓dW_get_dat, ↓dW_get_at, ↓dW_gets_nil, ↓dW_gets_cons, ↓dW_put, ↓dW_val, ↓dW_bool, ↓dW_tru, ↓dW_nx, ↓dW_ite, ↓dW_keep, ↓de_opv, ↓de_c, ↓de_v, ↓de_io, ↓de_bin, ↓de_un, ↓de_cmp, ↓de_chain, ↓de_and, ↓de_or, ↓de_not, ↓de_ite, ↓de_tup, ↓de_lst, ↓de_ix, ↓de_sl, ↓de_pnil, ↓de_rev, ↓de_fld, ↓de_sfld, ↓de_call, ↓de_make, ↓de_meth, ↓de_blt, ↓de_isi, ↓de_mut, ↓de_lc1, ↓de_es0, ↓de_star, ↓de_ps0, ↓de_ps, ↓de_ts0, ↓de_ts, ↓de_rs0, ↓de_rs, ↓ds_nil, ↓ds_cons, ↓ds_asgn, ↓ds_sto, ↓ds_sub, ↓ds_subX, ↓ds_asgs, ↓ds_asgf, ↓ds_fld, ↓ds_par, ↓ds_stoX0, ↓ds_stoXn, ↓ds_stoXs, ↓ds_unp, ↓ds_unpT, ↓ds_aug, ↓ds_expr, ↓ds_retv, ↓ds_iff, ↓ds_for, ↓ds_wh, ↓ds_pass, ↓ds_brk, ↓ds_cont, ↓do_add, ↓do_sub, ↓do_and, ↓do_or, ↓do_xor, ↓do_mul, ↓do_fdiv, ↓do_mod, ↓do_pow, ↓do_shl, ↓do_shr, ↓do_addL, ↓do_addT, ↓do_inv, ↓do_neg, ↓do_lt, ↓do_le, ↓do_gt, ↓do_ge, ↓do_eq, ↓do_ne, ↓do_item, ↓do_itemT, ↓dt_int, ↓dt_bl, ↓dt_non, ↓dt_lst, ↓dr_seq, ↓dr_seqt, ↓db_len, ↓db_lent, ↓db_lens, ↓db_abs, ↓db_max2, ↓db_min2, ↓db_int, ↓db_tuple, ↓db_tuplet, ↓db_list, ↓db_listt, ↓de_op_c, ↓ds_ret_c, ↓de_es_c, ↓de_pt_c, ↓de_es_v, ↓de_pt_v, ↓de_op_io, ↓ds_ret_io, ↓de_es_io, ↓de_pt_io, ↓de_op_bin, ↓ds_ret_bin, ↓de_es_bin, ↓de_pt_bin, ↓de_op_un, ↓ds_ret_un, ↓de_es_un, ↓de_pt_un, ↓de_op_cmp, ↓ds_ret_cmp, ↓de_es_cmp, ↓de_pt_cmp, ↓de_op_chain, ↓ds_ret_chain, ↓de_es_chain, ↓de_pt_chain, ↓de_op_and, ↓ds_ret_and, ↓de_es_and, ↓de_pt_and, ↓de_op_or, ↓ds_ret_or, ↓de_es_or, ↓de_pt_or, ↓de_op_not, ↓ds_ret_not, ↓de_es_not, ↓de_pt_not, ↓de_op_ite, ↓ds_ret_ite, ↓de_es_ite, ↓de_pt_ite, ↓de_op_tup, ↓ds_ret_tup, ↓de_es_tup, ↓de_pt_tup, ↓de_op_lst, ↓ds_ret_lst, ↓de_es_lst, ↓de_pt_lst, ↓de_op_ix, ↓ds_ret_ix, ↓de_es_ix, ↓de_pt_ix, ↓de_op_sl, ↓ds_ret_sl, ↓de_es_sl, ↓de_pt_sl, ↓de_op_rev, ↓ds_ret_rev, ↓de_es_rev, ↓de_pt_rev, ↓de_op_fld, ↓ds_ret_fld, ↓de_es_fld, ↓de_pt_fld, ↓de_op_sfld, ↓ds_ret_sfld, ↓de_es_sfld, ↓de_pt_sfld, ↓de_op_call, ↓ds_ret_call, ↓de_es_call, ↓de_pt_call, ↓de_op_make, ↓ds_ret_make, ↓de_es_make, ↓de_pt_make, ↓de_op_meth, ↓ds_ret_meth, ↓de_es_meth, ↓de_pt_meth, ↓de_op_blt, ↓ds_ret_blt, ↓de_es_blt, ↓de_pt_blt, ↓de_op_bmt, ↓ds_ret_bmt, ↓de_es_bmt, ↓de_pt_bmt, ↓de_op_isi, ↓ds_ret_isi, ↓de_es_isi, ↓de_pt_isi, ↓de_op_mut, ↓ds_ret_mut, ↓de_es_mut, ↓de_pt_mut, ↓de_op_lc1, ↓ds_ret_lc1, ↓de_es_lc1, ↓de_pt_lc1, ↓de_op_lc2, ↓ds_ret_lc2, ↓de_es_lc2, ↓de_pt_lc2, ↓di_int_bool, ↓di_int_int, ↓di_int_str, ↓di_int_tuple, ↓di_int_list, ↓dn_int_non, ↓di_tup_bool, ↓di_tup_int, ↓di_tup_str, ↓di_tup_tuple, ↓di_tup_list, ↓dn_tup_non, ↓di_lst_bool, ↓di_lst_int, ↓di_lst_str, ↓di_lst_tuple, ↓di_lst_list, ↓dn_lst_non, ↓di_bl_bool, ↓di_bl_int, ↓di_bl_str, ↓di_bl_tuple, ↓di_bl_list, ↓dn_bl_non, ↓di_str_bool, ↓di_str_int, ↓di_str_str, ↓di_str_tuple, ↓di_str_list, ↓dn_str_non, ↓di_obj_bool, ↓di_obj_int, ↓di_obj_str, ↓di_obj_tuple, ↓di_obj_list, ↓dn_ne_bl, ↓dn_eq_bl, ↓dn_obj, ↓dz_to1, ↓dz_sum, beq_self_eq_true, bne_self_eq_false, Bool.not_true, Bool.not_false, decide_true, decide_false, ↓de_lc2, ↓df_0, ↓df_1, ↓df_2, ↓df_3, ↓df_i, ↓do_mulN, ↓do_from1, ↓do_to, ↓do_to1, ↓do_part, min2N, ↓db_lrng1, ↓db_trng1, ↓ds_parL2, ↓ds_parL3, ↓dm_app, ↓dm_ext, ↓dm_rev, ↓d_neints, ↓d_eqints, ↓dr_rng1c, ↓dr_rng2c, ↓dr_rng2o, ↓atD_0, ↓atD_1, ↓atD_2, ↓atD_3, ↓ixD_0, ↓ixD_3, getS_0, getS_s, List.set_cons_zero, List.set_cons_succ, stoV, RV.d, endC, tnC, wipeS, backAll, if_true, if_false, Bool.false_eq_true, pmD, List.getElem?_cons_zero, List.getElem?_cons_succ, List.cons_append, List.nil_append, List.append_nil, Option.map_some, shl1N, shlN, shrN, and1N, andN, orN, xorN, andnN, nandN, tstb, List.length_cons, List.length_nil, List.length_map, List.length_range, Nat.zero_add, Nat.reduceAdd, Nat.reduceLT, Nat.reduceLeDiff, true_and])
local macro_rules | `(tactic| walk_at "pl") => `(tactic| try simp only [↓dW_bind, ↓dW_pure, ↓dW_some, ↓dW_vi, ↓dW_vb, ↓dW_toD, ↓dW_rd, ↓dW_mv, ↓dW_op, ↓dW_own, ↓dW_get_dat, ↓dW_get_at, ↓dW_gets_nil, ↓dW_gets_cons, ↓dW_put, ↓dW_val, ↓dW_bool, ↓dW_tru, ↓dW_nx, ↓dW_ite, ↓dW_keep, ↓de_opv, ↓de_c, ↓de_v, ↓de_io, ↓de_bin, ↓de_un, ↓de_cmp, ↓de_chain, ↓de_and, ↓de_or, ↓de_not, ↓de_ite, ↓de_tup, ↓de_lst, ↓de_ix, ↓de_sl, ↓de_pnil, ↓de_rev, ↓de_fld, ↓de_sfld, ↓de_call, ↓de_make, ↓de_meth, ↓de_blt, ↓de_isi, ↓de_mut, ↓de_lc1, ↓de_es0, ↓de_star, ↓de_ps0, ↓de_ps, ↓de_ts0, ↓de_ts, ↓de_rs0, ↓de_rs, ↓ds_nil, ↓ds_cons, ↓ds_asgn, ↓ds_sto, ↓ds_sub, ↓ds_subX, ↓ds_asgs, ↓ds_asgf, ↓ds_fld, ↓ds_par, ↓ds_stoX0, ↓ds_stoXn, ↓ds_stoXs, ↓ds_unp, ↓ds_unpT, ↓ds_aug, ↓ds_expr, ↓ds_retv, ↓ds_iff, ↓ds_for, ↓ds_wh, ↓ds_pass, ↓ds_brk, ↓ds_cont, ↓do_add, ↓do_sub, ↓do_and, ↓do_or, ↓do_xor, ↓do_mul, ↓do_fdiv, ↓do_mod, ↓do_pow, ↓do_shl, ↓do_shr, ↓do_addL, ↓do_addT, ↓do_inv, ↓do_neg, ↓do_lt, ↓do_le, ↓do_gt, ↓do_ge, ↓do_eq, ↓do_ne, ↓do_item, ↓do_itemT, ↓dt_int, ↓dt_bl, ↓dt_non, ↓dt_lst, ↓dr_seq, ↓dr_seqt, ↓db_len, ↓db_lent, ↓db_lens, ↓db_abs, ↓db_max2, ↓db_min2, ↓db_int, ↓db_tuple, ↓db_tuplet, ↓db_list, ↓db_listt, ↓de_op_c, ↓ds_ret_c, ↓de_es_c, ↓de_pt_c, ↓de_es_v, ↓de_pt_v, ↓de_op_io, ↓ds_ret_io, ↓de_es_io, ↓de_pt_io, ↓de_op_bin, ↓ds_ret_bin, ↓de_es_bin, ↓de_pt_bin, ↓de_op_un, ↓ds_ret_un, ↓de_es_un, ↓de_pt_un, ↓de_op_cmp, ↓ds_ret_cmp, ↓de_es_cmp, ↓de_pt_cmp, ↓de_op_chain, ↓ds_ret_chain, ↓de_es_chain, ↓de_pt_chain, ↓de_op_and, ↓ds_ret_and, ↓de_es_and, ↓de_pt_and, ↓de_op_or, ↓ds_ret_or, ↓de_es_or, ↓de_pt_or, ↓de_op_not, ↓ds_ret_not, ↓de_es_not, ↓de_pt_not, ↓de_op_ite, ↓ds_ret_ite, ↓de_es_ite, ↓de_pt_ite, ↓de_op_tup, ↓ds_ret_tup, ↓de_es_tup, ↓de_pt_tup, ↓de_op_lst, ↓ds_ret_lst, ↓de_es_lst, ↓de_pt_lst, ↓de_op_ix, ↓ds_ret_ix, ↓de_es_ix, ↓de_pt_ix, ↓de_op_sl, ↓ds_ret_sl, ↓de_es_sl, ↓de_pt_sl, ↓de_op_rev, ↓ds_ret_rev, ↓de_es_rev, ↓de_pt_rev, ↓de_op_fld, ↓ds_ret_fld, ↓de_es_fld, ↓de_pt_fld, ↓de_op_sfld, ↓ds_ret_sfld, ↓de_es_sfld, ↓de_pt_sfld, ↓de_op_call, ↓ds_ret_call, ↓de_es_call, ↓de_pt_call, ↓de_op_make, ↓ds_ret_make, ↓de_es_make, ↓de_pt_make, ↓de_op_meth, ↓ds_ret_meth, ↓de_es_meth, ↓de_pt_meth, ↓de_op_blt, ↓ds_ret_blt, ↓de_es_blt, ↓de_pt_blt, ↓de_op_bmt, ↓ds_ret_bmt, ↓de_es_bmt, ↓de_pt_bmt, ↓de_op_isi, ↓ds_ret_isi, ↓de_es_isi, ↓de_pt_isi, ↓de_op_mut, ↓ds_ret_mut, ↓de_es_mut, ↓de_pt_mut, ↓de_op_lc1, ↓ds_ret_lc1, ↓de_es_lc1, ↓de_pt_lc1, ↓de_op_lc2, ↓ds_ret_lc2, ↓de_es_lc2, ↓de_pt_lc2, ↓di_int_bool, ↓di_int_int, ↓di_int_str, ↓di_int_tuple, ↓di_int_list, ↓dn_int_non, ↓di_tup_bool, ↓di_tup_int, ↓di_tup_str, ↓di_tup_tuple, ↓di_tup_list, ↓dn_tup_non, ↓di_lst_bool, ↓di_lst_int, ↓di_lst_str, ↓di_lst_tuple, ↓di_lst_list, ↓dn_lst_non, ↓di_bl_bool, ↓di_bl_int, ↓di_bl_str, ↓di_bl_tuple, ↓di_bl_list, ↓dn_bl_non, ↓di_str_bool, ↓di_str_int, ↓di_str_str, ↓di_str_tuple, ↓di_str_list, ↓dn_str_non, ↓di_obj_bool, ↓di_obj_int, ↓di_obj_str, ↓di_obj_tuple, ↓di_obj_list, ↓dn_ne_bl, ↓dn_eq_bl, ↓dn_obj, ↓dz_to1, ↓dz_sum, beq_self_eq_true, bne_self_eq_false, Bool.not_true, Bool.not_false, decide_true, decide_false, ↓de_lc2, ↓df_0, ↓df_1, ↓df_2, ↓df_3, ↓df_i, ↓do_mulN, ↓do_from1, ↓do_to, ↓do_to1, ↓do_part, min2N, ↓db_lrng1, ↓db_trng1, ↓ds_parL2, ↓ds_parL3, ↓dm_app, ↓dm_ext, ↓dm_rev, ↓d_neints, ↓d_eqints, ↓dr_rng1c, ↓dr_rng2c, ↓dr_rng2o, ↓atD_0, ↓atD_1, ↓atD_2, ↓atD_3, ↓ixD_0, ↓ixD_3, getS_0, getS_s, List.set_cons_zero, List.set_cons_succ, stoV, RV.d, endC, tnC, wipeS, backAll, if_true, if_false, Bool.false_eq_true, pmD, List.getElem?_cons_zero, List.getElem?_cons_succ, List.cons_append, List.nil_append, List.append_nil, Option.map_some, shl1N, shlN, shrN, and1N, andN, orN, xorN, andnN, nandN, tstb, List.length_cons, List.length_nil, List.length_map, List.length_range, Nat.zero_add, Nat.reduceAdd, Nat.reduceLT, Nat.reduceLeDiff, true_and, List.getElem_range, addN, add1N, oneaN, pow1N, small1, nn0, le1000, and_true])
local macro_rules | `(tactic| walk_at "pa") => `(tactic| (simp only [atN, ixD_nat, setN, List.length_set, List.length_map, *]; walk_at "pl"))

theorem plain_ok : Plain L 9 45 := fun ns _ => by
  have h := (law_ok 0 ns).out
  rw [pr_eq]
  show ∃ b, (gam pr (0 + 10)).call 45 [.scr ns] none = .ok (.val (.bl true)) b ∧ b = none
  cases e : (gam pr (0 + 10)).call 45 [.scr ns] none with
  | ok r o =>
    rw [e] at h
    obtain ⟨h1, h2⟩ := h
    subst h1; subst h2
    exact ⟨none, rfl, rfl⟩
  | _ => rw [e] at h; exact h.elim

end Pl.k09

theorem PySem.Challenge.cw_graphbench_k09_connectivity_holds : PySem.Challenge.rw_graphbench_k09_connectivity.Holds := by
  exact Pl.k09.holds_of (n := 9) ⟨rfl, by decide, by decide⟩ Pl.k09.plain_ok
