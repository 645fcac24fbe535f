import PyProof.Rows.All
import Wide.All
import OpenK.AllK
import Wide.FinOn
import KE.DataEq
import PyProof.ReprReads
import HandS.ForMost
import HandS.SortOrd
import HandS.Lambda
import HandS.TupAny
import HandS.Style
import HandS.TupMul
import HandS.TupLe
import HandS.Wide
import HandS.Star
import HandS.IsInst
import HandS.FStr
import HandS.Gcd
import HandS.CallLocal
import HandS.Zip
import HandS.SetFor
import KE.KTupSum
import HandS.SortInts
import KE.KSortTupAny
import HandS.Conv
import KE.GoesMore
import PyProof.EnumMake
import HandS.GenList
import KE.KExcSuper
import KE.KExcInit
import KE.KSuper
import HandS.ExcOwn
import HandS.ExcField
import PyProof.ReprRoads
import HandS.Dict
import HandS.EndTab
import HandS.Head0
import HandS.Head1
import HandS.Head2
import HandS.HeadEnd
import HandS.HeadHook1
import HandS.HeadHook2
import HandS.HeadHook3
import HandS.HeadHook4
import PySem.Challenge.RW_stepletters_k05_errors_of_words
set_option Elab.async false
set_option linter.all false
section PvA_
set_option maxRecDepth 100000
/-! PvA: a small language of data, and its evaluator. No machine in sight. -/
namespace Pv
open PySem

/-- data: what Python values of these programs are, without addresses -/
inductive D where
  | non
  | bl (b : Bool)
  | int (i : Int)
  | str (x : Str)
  | tup (xs : List D)
  | lst (xs : List D)
  | scr (ns : List Int)
  | fn (k : Nat)
  | dct (ks vs : List D)
  | obj (c : Nat) (fs : List D)
instance : Inhabited D := ⟨.non⟩

mutual
def D.py : D → Option PyData
  | .non => some .none
  | .bl b => some (.bool b)
  | .int i => some (.int i)
  | .str x => some (.str x)
  | .tup xs => (D.pyAll xs).map .tuple
  | .lst xs => (D.pyAll xs).map .list
  | _ => none
def D.pyAll : List D → Option (List PyData)
  | [] => some []
  | x :: xs => match D.py x, D.pyAll xs with
    | some d, some ds => some (d :: ds)
    | _, _ => none
end

/-- what an expression gives: data; a new thing that nobody else has (a list, a dict); a slot's own thing -/
inductive R where
  | dat (d : D)
  | own (d : D)
  | ptr (i : Nat)
inductive Ty where | int | bool | str | tuple | list | dict
/-- built-in functions -/
inductive Bf where
  | len | abs | int | str | repr | tuple | list | sum | all | any | max | min | max2 | min2 | gcd | sorted | lrng1 | lrng2
/-- methods of built-in types -/
inductive Mt where
  | append | extend | pop | popAt | count | index

mutual
inductive C where
  | var (i : Nat)
  | lit (d : D)
  | bin (op : Operator) (a b : C)
  | neg (a : C)
  | cmp (op : CmpOp) (a b : C)
  | chn (o1 o2 : CmpOp) (a b c : C)
  | andv (a b : C)
  | orv (a b : C)
  | notv (a : C)
  | ite (t : T) (a b : C)
  | tup (es : List C)
  | lst (es : List C)
  | star (a : C)
  | emp
  | idx (a b : C)
  | slc (a : C) (lo hi : Option C)
  | rev (a : C)
  | blt (f : Bf) (es : List C)
  | isi (a : C) (ty : Ty)
  | call (f : Nat) (es : List C)
  | callv (i : Nat) (es : List C)
  | mth (m : Mt) (o : C) (es : List C)
  | comp (elt : C) (g : G) (it : I) (cond : Option T) (own : List Nat)
  | fst (es : List C)
  | cat (g : Nat) (body : C)
  | mets (f g i : Nat) (due : C)
  | zip0 (f : Nat) (es : List C)
inductive T where
  | val (a : C)
  | and (a b : T)
  | or (a b : T)
  | not (a : T)
inductive I where
  | seq (a : C)
  | rng1 (a : C)
  | rng2 (a b : C)
  | enum (a : C)
  | zip (a b : C)
inductive G where
  | nm (i : Nat)
  | tup (is : List Nat)
  | sub (o i : C)
  | subs (gs : List (C × C))
end
inductive S where
  | asg (g : G) (e : C)
  | par (is : List Nat) (es : List C)
  | aug (i : Nat) (op : Operator) (e : C)
  | exp (e : C)
  | ret (e : C)
  | retn
  | cond (t : T) (a b : List S)
  | loop (g : G) (it : I) (b : List S)
  | whl (t : T) (b : List S)
  | rais (c : Nat) (e : Option C)
  | pass | brk | cont
  | clos (i : Nat) (cs : List C)
  | nev
/-- a slot: empty; data; an own thing (by_: handed in by the caller, to be changed there; lent: walked just now, so it must not be changed); a list of lambdas (their bodies) -/
inductive Sl where
  | emp
  | dat (d : D)
  | own (by_ lent : Bool) (d : D)
  | cls (cs : List C)
abbrev En := List Sl

/-- an outcome: a value and the slots behind it; an exception (its class, what it keeps); stuck -/
inductive O (α : Type) where
  | ok (a : α) (ρ : En)
  | exc (c : Nat) (d : Option D) (ρ : En)
  | bad
def O.bind {α β : Type} (x : O α) (f : α → En → O β) : O β := match x with
  | .ok a ρ => f a ρ
  | .exc c d ρ => .exc c d ρ
  | .bad => .bad
def O.of {α : Type} (x : Option α) (ρ : En) : O α := match x with
  | some a => .ok a ρ
  | none => .bad
/-- what a def is handed: data; a thing to be changed there (lent: to be read alone) -/
inductive Ar where
  | dat (d : D)
  | own (lent : Bool) (d : D)
/-- how a def ends; out: what has become of what was handed in to be changed -/
inductive Out where
  | ret (r : R) (out : List (Option D))
  | exc (c : Nat) (d : Option D) (out : List (Option D))
  | bad
/-- how a statement ends -/
inductive F where
  | nx (ρ : En)
  | rt (r : R) (ρ : En)
  | bk (ρ : En)
  | ct (ρ : En)
  | exc (c : Nat) (d : Option D) (ρ : En)
  | bad

/-! ### slots -/
def getS (ρ : En) (i : Nat) : Sl := ρ.getD i .emp
/-- what is read off a slot -/
def rdS : Sl → Option D
  | .dat d => some d
  | .own _ _ d => some d
  | .emp => none
  | .cls _ => none
/-- what is read off a result -/
def pk (r : R) (ρ : En) : Option D := match r with
  | .dat d => some d
  | .own d => some d
  | .ptr i => rdS (getS ρ i)
/-- a result becomes data for good -/
def frz (r : R) (ρ : En) : Option (D × En) := match r with
  | .dat d => some (d, ρ)
  | .own d => some (d, ρ)
  | .ptr i => match getS ρ i with
    | .dat d => some (d, ρ)
    | .own false false d => some (d, ρ.set i (.dat d))
    | _ => none
/-- a slot that may be stored into -/
def freeS : Sl → Bool
  | .own true _ _ => false
  | .own _ true _ => false
  | _ => true
/-- a result is stored into slot i -/
def store (i : Nat) (r : R) (ρ : En) : Option En := if decide (i < ρ.length) && freeS (getS ρ i) then (match r with
    | .dat d => some (ρ.set i (.dat d))
    | .own d => some (ρ.set i (.own false false d))
    | .ptr k => (frz (.ptr k) ρ).map fun p => p.2.set i (.dat p.1)) else none
/-- a result is walked: its data, the slots behind it, the slot that is lent -/
def lend (r : R) (ρ : En) : Option (D × En × List Nat) := match r with
  | .dat d => some (d, ρ, [])
  | .own d => some (d, ρ, [])
  | .ptr i => match getS ρ i with
    | .dat d => some (d, ρ, [])
    | .own _ true d => some (d, ρ, [])
    | .own b false d => some (d, ρ.set i (.own b true d), [i])
    | .emp => none
    | .cls _ => none
def unlS : Sl → Sl
  | .own b true d => .own b false d
  | x => x
def unlend : List Nat → En → En
  | [], ρ => ρ
  | i :: is, ρ => unlend is (ρ.set i (unlS (getS ρ i)))

/-! ### data by operators -/
/-- no more than 4000 bits -/
def small (i : Int) : Bool := decide (i.natAbs < 2 ^ 4000)
theorem log_lt {n k : Nat} (hk : 0 < k) (h : n < 2 ^ k) : n.log2 < k := by
  by_cases c : n = 0
  · subst c; rw [Nat.log2_zero]; exact hk
  · exact (Nat.log2_lt c).mpr h
theorem small_log {i : Int} (h : small i = true) : i.natAbs.log2 < 4000 := log_lt (by omega) (of_decide_eq_true h)
def mulOk (i j : Int) : Bool := small i && small j
theorem mulOk_1 {i j : Int} (h : mulOk i j = true) : i.natAbs.log2 + j.natAbs.log2 < 1000000 := by
  unfold mulOk at h
  rw [Bool.and_eq_true] at h
  have a := small_log h.1
  have b := small_log h.2
  omega
def divOk (j : Int) : Bool := decide (j ≠ 0) && small j
theorem divOk_1 {j : Int} (h : divOk j = true) : j ≠ 0 ∧ j.natAbs.log2 < 9000 := by
  unfold divOk at h
  rw [Bool.and_eq_true] at h
  have b := small_log h.2
  exact ⟨of_decide_eq_true h.1, by omega⟩
/-- what str takes -/
def strOk (i : Int) : Bool := decide (i.natAbs < 2 ^ 1920)
theorem strOk_1 {i : Int} (h : strOk i = true) : i.natAbs.log2 < 1920 := log_lt (by omega) (of_decide_eq_true h)
def fits (n : Nat) : Bool := decide (n ≤ 1000000)
def repL (k : Int) (xs : List D) : List D := (List.replicate k.toNat xs).flatten
def binD (op : Operator) (a b : D) : Option R := match op, a, b with
  | .Add, .int i, .int j => some (.dat (.int (i + j)))
  | .Add, .str x, .str y => if fits (x.length + y.length) then some (.dat (.str (x ++ y))) else none
  | .Add, .tup x, .tup y => if fits (x.length + y.length) then some (.dat (.tup (x ++ y))) else none
  | .Add, .lst x, .lst y => if fits (x.length + y.length) then some (.own (.lst (x ++ y))) else none
  | .Sub, .int i, .int j => some (.dat (.int (i - j)))
  | .Mult, .int i, .int j => if mulOk i j then some (.dat (.int (i * j))) else none
  | .Mult, .lst x, .int k => if decide (0 ≤ k) && decide (k ≤ 1000) && decide (x.length ≤ 1000) then some (.own (.lst (repL k x))) else none
  | .Mult, .tup x, .int k => if decide (-1000 ≤ k) && decide (k ≤ 1000) && decide (x.length ≤ 1000) then some (.dat (.tup (repL k x))) else none
  | .Mod, .int i, .int j => if decide (j ≠ 0) then some (.dat (.int (i.fmod j))) else none
  | .FloorDiv, .int i, .int j => if divOk j then some (.dat (.int (i.fdiv j))) else none
  | .Pow, .int i, .int j => if decide (0 ≤ j) && decide (j ≤ 1000) && decide (i.natAbs < 18446744073709551616) then some (.dat (.int (i ^ j.toNat))) else none
  | _, _, _ => none
def eqD (a b : D) : Option Bool := match a.py, b.py with
  | some x, some y => if decide (x.depth ≤ 60) then some (PyData.eqv x y) else none
  | _, _ => none
def cmpD (op : CmpOp) (a b : D) : Option Bool := match op with
  | .Eq => eqD a b
  | .NotEq => (eqD a b).map (!·)
  | .Lt => match a, b with | .int i, .int j => some (decide (i < j)) | _, _ => none
  | .LtE => match a, b with | .int i, .int j => some (decide (i ≤ j)) | _, _ => none
  | .Gt => match a, b with | .int i, .int j => some (decide (j < i)) | _, _ => none
  | .GtE => match a, b with | .int i, .int j => some (decide (j ≤ i)) | _, _ => none
  | .Is => match b with | .non => some (match a with | .non => true | _ => false) | .bl y => (match a with | .bl x => some (decide (x = y)) | _ => none) | _ => none
  | .IsNot => match b with | .non => some (match a with | .non => false | _ => true) | .bl y => (match a with | .bl x => some (!decide (x = y)) | _ => none) | _ => none
  | .In => match a.py, b with
    | some x, .lst ys => (D.pyAll ys).bind fun zs => if decide (x.depth ≤ 60) then some (zs.any fun y => PyData.eqv y x) else none
    | some x, .tup ys => (D.pyAll ys).bind fun zs => if decide (x.depth ≤ 60) then some (zs.any fun y => PyData.eqv y x) else none
    | _, _ => none
  | .NotIn => match a.py, b with
    | some x, .lst ys => (D.pyAll ys).bind fun zs => if decide (x.depth ≤ 60) then some (!zs.any fun y => PyData.eqv y x) else none
    | some x, .tup ys => (D.pyAll ys).bind fun zs => if decide (x.depth ≤ 60) then some (!zs.any fun y => PyData.eqv y x) else none
    | _, _ => none
def tru (d : D) : Option Bool := match d with
  | .non => some false
  | .bl b => some b
  | .int i => some (i != 0)
  | .tup xs => some (!xs.isEmpty)
  | .lst xs => some (!xs.isEmpty)
  | _ => none
/-- a sequence's items -/
def items (d : D) : Option (List D) := match d with
  | .tup xs => some xs
  | .lst xs => some xs
  | _ => none
def idxD (a b : D) : Option D := match a, b with
  | .scr ns, .int i => (L2.atI ns i).map .int
  | .tup xs, .int i => L2.atI xs i
  | .lst xs, .int i => L2.atI xs i
  | _, _ => none
def cutD (xs : List D) (lo hi : Option Int) : List D := (xs.drop (HT.sIx xs.length 0 lo)).take (HT.sIx xs.length xs.length hi - HT.sIx xs.length 0 lo)
def slcD (a : D) (lo hi : Option Int) : Option R := match a with
  | .tup xs => some (.dat (.tup (cutD xs lo hi)))
  | .lst xs => some (.own (.lst (cutD xs lo hi)))
  | _ => none
def dInts : List D → Option (List Int)
  | [] => some []
  | .int i :: r => (dInts r).map (i :: ·)
  | _ :: _ => none
def dBools : List D → Option (List Bool)
  | [] => some []
  | .bl i :: r => (dBools r).map (i :: ·)
  | _ :: _ => none
def maxI : List Int → Int
  | [] => 0
  | x :: r => r.foldl (fun m y => if m < y then y else m) x
def minI : List Int → Int
  | [] => 0
  | x :: r => r.foldl (fun m y => if y < m then y else m) x
/-- a walked thing's items -/
def rngL (lo hi : Int) : List D := (List.range (hi - lo).toNat).map fun i => .int (lo + (i : Nat))
/-- put into a sorted list, ahead of its equals -/
def insB {α : Type} (lt : α → α → Bool) (x : α) : List α → List α
  | [] => [x]
  | y :: ys => if lt y x then y :: insB lt x ys else x :: y :: ys
def sortB {α : Type} (lt : α → α → Bool) : List α → List α
  | [] => []
  | x :: xs => insB lt x (sortB lt xs)
def tInts : List D → Option (List (List Int))
  | [] => some []
  | .tup xs :: r => (dInts xs).bind fun ns => (tInts r).map (ns :: ·)
  | _ :: _ => none
def tupI (ns : List Int) : D := .tup (ns.map .int)
/-- sorted of ints, of tuples of ints -/
def sortD (x : List D) : Option (List D) := match dInts x with
  | some ns => some ((sortB (fun a b => decide (a < b)) ns).map .int)
  | none => (tInts x).map fun ts => (sortB HT.lexLt ts).map tupI
/-- repr of data -/
def reprD (d : D) : Option Str := d.py.bind fun x => if x.showable && !x.hasDict && decide (x.shown.length ≤ 100000) && decide (x.depth ≤ 60) then some x.shown else none
def bltD (f : Bf) (xs : List D) : Option R := match f, xs with
  | .len, [.tup x] => some (.dat (.int x.length))
  | .len, [.lst x] => some (.dat (.int x.length))
  | .len, [.scr x] => some (.dat (.int x.length))
  | .abs, [.int i] => some (.dat (.int (if i < 0 then -i else i)))
  | .int, [.int i] => some (.dat (.int i))
  | .int, [.bl b] => some (.dat (.int (if b then 1 else 0)))
  | .str, [.int i] => if strOk i then some (.dat (.str (toString i))) else none
  | .repr, [d] => (reprD d).map fun x => .dat (.str x)
  | .tuple, [.tup x] => some (.dat (.tup x))
  | .tuple, [.lst x] => some (.dat (.tup x))
  | .list, [.tup x] => some (.own (.lst x))
  | .list, [.lst x] => some (.own (.lst x))
  | .sum, [.lst x] => (dInts x).map fun ns => .dat (.int ns.sum)
  | .sum, [.tup x] => (dInts x).map fun ns => .dat (.int ns.sum)
  | .all, [.lst x] => (dBools x).map fun bs => .dat (.bl (bs.all id))
  | .any, [.lst x] => (dBools x).map fun bs => .dat (.bl (bs.any id))
  | .max, [.lst x] => (dInts x).bind fun ns => if ns.isEmpty then none else some (.dat (.int (maxI ns)))
  | .min, [.lst x] => (dInts x).bind fun ns => if ns.isEmpty then none else some (.dat (.int (minI ns)))
  | .max2, [.int i, .int j] => some (.dat (.int (if j > i then j else i)))
  | .min2, [.int i, .int j] => some (.dat (.int (if j < i then j else i)))
  | .gcd, [.int i, .int j] => some (.dat (.int (Nat.gcd i.natAbs j.natAbs : Nat)))
  | .sorted, [.lst x] => (sortD x).map fun y => .own (.lst y)
  | .sorted, [.tup x] => (sortD x).map fun y => .own (.lst y)
  | .lrng1, [.int j] => if decide (j.natAbs ≤ 1000000) then some (.own (.lst (rngL 0 j))) else none
  | .lrng2, [.int i, .int j] => if decide (i.natAbs ≤ 1000000) && decide (j.natAbs ≤ 1000000) then some (.own (.lst (rngL i j))) else none
  | _, _ => none
def tyOf (d : D) : Option Ty := match d with
  | .bl _ => some .bool
  | .int _ => some .int
  | .str _ => some .str
  | .tup _ => some .tuple
  | .lst _ => some .list
  | .dct _ _ => some .dict
  | _ => none
def isiD (d : D) (t : Ty) : Option Bool := match d, t with
  | .non, _ => some false
  | .bl _, .bool => some true
  | .bl _, .int => some true
  | .bl _, _ => some false
  | .int _, .int => some true
  | .int _, _ => some false
  | .str _, .str => some true
  | .str _, _ => some false
  | .tup _, .tuple => some true
  | .tup _, _ => some false
  | .lst _, .list => some true
  | .lst _, _ => some false
  | .dct _ _, .dict => some true
  | .dct _ _, _ => some false
  | _, _ => none
/-- a method: the answer, and the list behind it -/
def mthD (m : Mt) (o : D) (as : List D) : Option (R × D) := match m, o, as with
  | .append, .lst xs, [d] => if fits (xs.length + 1) then some (.dat .non, .lst (xs ++ [d])) else none
  | .extend, .lst xs, [.lst ys] => if fits (xs.length + ys.length) then some (.dat .non, .lst (xs ++ ys)) else none
  | .pop, .lst xs, [] => xs.getLast?.map fun d => (.dat d, .lst xs.dropLast)
  | .popAt, .lst xs, [.int i] => if decide (0 ≤ i) && decide (i < xs.length) then (xs[i.toNat]?).map fun d => (.dat d, .lst (xs.eraseIdx i.toNat)) else none
  | _, _, _ => none
/-- methods that only read -/
def rdmD (m : Mt) (o : D) (as : List D) : Option R := match m, o, as with
  | .count, .lst xs, [.int k] => (dInts xs).map fun ns => .dat (.int (ns.count k : Nat))
  | .index, .lst xs, [.int k] => (dInts xs).bind fun ns => (ns.findIdx? (· == k)).map fun (j : Nat) => .dat (.int (j : Int))
  | _, _, _ => none
def small62 (i : Int) : Bool := decide (-(2 ^ 62) ≤ i) && decide (i < 2 ^ 62)
def enumL (xs : List D) : List D := (xs.zipIdx).map fun p => .tup [.int (p.2 : Nat), p.1]
def zipL (xs ys : List D) : List D := (xs.zip ys).map fun p => .tup [p.1, p.2]
/-- data by names of slots -/
def setNms : List Nat → List D → En → Option En
  | [], [], ρ => some ρ
  | i :: is, d :: ds, ρ => (store i (.dat d) ρ).bind (setNms is ds)
  | _, _, _ => none
/-- slots' own things become data, new things stay -/
def settle : List R → En → Option (List R × En)
  | [], ρ => some ([], ρ)
  | .ptr i :: rs, ρ => (frz (.ptr i) ρ).bind fun q => (settle rs q.2).map fun p => (.dat q.1 :: p.1, p.2)
  | r :: rs, ρ => (settle rs ρ).map fun p => (r :: p.1, p.2)
def setRs : List Nat → List R → En → Option En
  | [], [], ρ => some ρ
  | i :: is, r :: rs, ρ => (store i r ρ).bind (setRs is rs)
  | _, _, _ => none
/-- a place is stored: o[k] = d -/
def setIxD (o k d : D) : Option D := match o, k with
  | .lst xs, .int n => (L2.ixN xs.length n).map fun j => .lst (xs.set j d)
  | _, _ => none
def setIx (o : R) (k d : D) (ρ : En) : Option En := match o with
  | .ptr i => match getS ρ i with
    | .own b false x => (setIxD x k d).map fun y => ρ.set i (.own b false y)
    | _ => none
  | _ => none
def wipeS (ρ : En) : List Nat → En
  | [] => ρ
  | i :: is => (wipeS ρ is).set i .emp
/-- the slots of a block's own names as they stood -/
def backS (ρ0 ρ : En) : List Nat → En
  | [] => ρ
  | i :: is => (backS ρ0 ρ is).set i (getS ρ0 i)
/-- a slot that a block's name may cover -/
def plainS : Sl → Bool
  | .own _ _ _ => false
  | .cls _ => false
  | _ => true

/-! ### the evaluator; cal: what the defs do -/
/-- a part of a catcher's answer: a text, None, what the exception kept, its repr behind a text -/
inductive Pt where
  | str (x : Str)
  | non
  | fld
  | rpr (pre : Option Str)
inductive An where
  | tup (ps : List Pt)
  | one (p : Pt)
def ptD (p : Pt) (d : Option D) : Option D := match p with
  | .str x => some (.str x)
  | .non => some .non
  | .fld => d
  | .rpr none => d.bind fun y => (reprD y).map D.str
  | .rpr (some pre) => d.bind fun y => (reprD y).bind fun x => if fits (pre.length + x.length) then some (.str (pre ++ x)) else none
def ptsD (d : Option D) : List Pt → Option (List D)
  | [] => some []
  | p :: ps => match ptD p d, ptsD d ps with
    | some x, some xs => some (x :: xs)
    | _, _ => none
def anD (a : An) (d : Option D) : Option D := match a with
  | .tup ps => (ptsD d ps).bind fun xs => if fits xs.length then some (.tup xs) else none
  | .one p => ptD p d
structure Hd where
  cls : Nat
  ans : An
structure Cat where
  hs : List Hd
  fin : An
structure Pr where
  cal : Nat → List Ar → Out
  ref : Nat → List Nat
  cat : Nat → Cat
/-- the arguments that are not by reference become data -/
def args1 (ref : List Nat) : Nat → List R → En → Option (List R × En)
  | _, [], ρ => some ([], ρ)
  | k, r :: rs, ρ => match ref.contains k with
    | true => (args1 ref (k + 1) rs ρ).map fun p => (r :: p.1, p.2)
    | false => (frz r ρ).bind fun q => (args1 ref (k + 1) rs q.2).map fun p => (.dat q.1 :: p.1, p.2)
def arOf (r : R) (ρ : En) : Option Ar := match r with
  | .dat d => some (.dat d)
  | .own d => some (.own false d)
  | .ptr i => match getS ρ i with
    | .dat d => some (.dat d)
    | .own _ l d => some (.own l d)
    | .emp => none
    | .cls _ => none
def args2 : List R → En → Option (List Ar)
  | [], _ => some []
  | r :: rs, ρ => match arOf r ρ, args2 rs ρ with
    | some a, some as => some (a :: as)
    | _, _ => none
def ptrs : List R → List Nat
  | [] => []
  | .ptr i :: rs => i :: ptrs rs
  | _ :: rs => ptrs rs
def noDup : List Nat → Bool
  | [] => true
  | i :: is => !is.contains i && noDup is
/-- what has become of what was handed in -/
def lookOut (j : Nat) : List R → List (Option D) → Option D
  | .ptr i :: rs, o :: os => match i == j, o with
    | true, some d => some d
    | _, _ => lookOut j rs os
  | _ :: rs, _ :: os => lookOut j rs os
  | _, _ => none
def putS (rs : List R) (os : List (Option D)) (j : Nat) (x : Sl) : Sl := match x with
  | .own b l d => .own b l ((lookOut j rs os).getD d)
  | x => x
def putOut (rs : List R) (os : List (Option D)) (ρ : En) : En := ρ.mapIdx (putS rs os)
def callO (p : Pr) (f : Nat) (rs : List R) (ρ : En) : O R := match args1 (p.ref f) 0 rs ρ with
  | some (qs, ρ1) => (match args2 qs ρ1, noDup (ptrs qs) with
    | some as, true => (match p.cal f as with
      | .ret r out => .ok r (putOut qs out ρ1)
      | .exc c d out => .exc c d (putOut qs out ρ1)
      | .bad => .bad)
    | _, _ => .bad)
  | none => .bad
def frzs : List R → En → Option (List D × En)
  | [], ρ => some ([], ρ)
  | r :: rs, ρ => (frz r ρ).bind fun q => (frzs rs q.2).map fun p => (q.1 :: p.1, p.2)
def pks : List R → En → Option (List D)
  | [], _ => some []
  | r :: rs, ρ => match pk r ρ, pks rs ρ with
    | some d, some ds => some (d :: ds)
    | _, _ => none
/-- a method of o, the operands as they came -/
def mthO (m : Mt) (ro : R) (rs : List R) (ρ : En) : O R := match ro with
  | .ptr i => (match frzs rs ρ with
    | some (ds, ρ3) => (match getS ρ3 i with
      | .own b false x => (match mthD m x ds with
        | some (r, y) => .ok r (ρ3.set i (.own b false y))
        | none => O.of (rdmD m x ds) ρ3)
      | x => (match rdS x with
        | some d => O.of (rdmD m d ds) ρ3
        | none => .bad))
    | none => .bad)
  | ro => (match pk ro ρ, pks rs ρ with
    | some d, some ds => O.of (rdmD m d ds) ρ
    | _, _ => .bad)
section
variable (e : C → En → O R)
/-- operands from the left -/
def evs : List C → En → O (List R)
  | [], ρ => .ok [] ρ
  | c :: cs, ρ => (e c ρ).bind fun r ρ1 => (evs cs ρ1).bind fun rs ρ2 => .ok (r :: rs) ρ2
/-- a display's items, stars spread -/
def disp : List C → En → O (List D)
  | [], ρ => .ok [] ρ
  | .star c :: cs, ρ => (e c ρ).bind fun r ρ1 => match (pk r ρ1).bind items with
    | some xs => (disp cs ρ1).bind fun ds ρ2 => .ok (xs ++ ds) ρ2
    | none => .bad
  | c :: cs, ρ => (e c ρ).bind fun r ρ1 => match frz r ρ1 with
    | some (d, ρ2) => (disp cs ρ2).bind fun ds ρ3 => .ok (d :: ds) ρ3
    | none => .bad
def peek (c : C) (ρ : En) : O D := (e c ρ).bind fun r ρ1 => O.of (pk r ρ1) ρ1
def hold (c : C) (ρ : En) : O D := (e c ρ).bind fun r ρ1 => match frz r ρ1 with
  | some (d, ρ2) => .ok d ρ2
  | none => .bad
/-- two operands, read -/
def two (a b : C) (f : D → D → Option R) (ρ : En) : O R := (e a ρ).bind fun ra ρ1 => (e b ρ1).bind fun rb ρ2 => match pk ra ρ2, pk rb ρ2 with
  | some x, some y => O.of (f x y) ρ2
  | _, _ => .bad
/-- a slice's part: left out, or an int -/
def evO (c : Option C) (ρ : En) : O (Option Int) := match c with
  | none => O.ok none ρ
  | some l => (peek e l ρ).bind fun d ρ2 => match d with
    | .int i => .ok (some i) ρ2
    | _ => .bad
/-- what is walked, the slots that are lent -/
def evW (a : C) (ρ : En) : O (List D × List Nat) := (e a ρ).bind fun r ρ1 => match lend r ρ1 with
  | some (d, ρ2, l) => O.of ((items d).map fun xs => (xs, l)) ρ2
  | none => .bad
def evI (it : I) (ρ : En) : O (List D × List Nat) := match it with
  | .seq a => evW e a ρ
  | .rng1 a => (peek e a ρ).bind fun d ρ1 => match d with
    | .int j => if small62 j then .ok (rngL 0 j, []) ρ1 else .bad
    | _ => .bad
  | .rng2 a b => (peek e a ρ).bind fun d ρ1 => (peek e b ρ1).bind fun d2 ρ2 => match d, d2 with
    | .int i, .int j => if small62 i && small62 j then .ok (rngL i j, []) ρ2 else .bad
    | _, _ => .bad
  | .enum a => (e a ρ).bind fun r ρ1 => match lend r ρ1 with
    | some (.lst xs, ρ2, l) => .ok (enumL xs, l) ρ2
    | some (.tup xs, ρ2, l) => .ok (enumL xs, l) ρ2
    | _ => .bad
  | .zip a b => (e a ρ).bind fun ra ρ1 => (e b ρ1).bind fun rb ρ2 => match lend ra ρ2 with
    | some (d, ρ3, l) => (match lend rb ρ3 with
      | some (d2, ρ4, l2) => (match d, d2 with
        | .lst xs, .lst ys => .ok (zipL xs ys, l2 ++ l) ρ4
        | .tup xs, .tup ys => .ok (zipL xs ys, l2 ++ l) ρ4
        | _, _ => .bad)
      | none => .bad)
    | none => .bad
/-- a target takes data -/
def setG (g : G) (d : D) (ρ : En) : O Unit := match g with
  | .nm i => (O.of (store i (.dat d) ρ) ρ).bind fun ρ1 _ => .ok () ρ1
  | .tup is => (match d with
    | .tup ds => (O.of (setNms is ds ρ) ρ).bind fun ρ1 _ => .ok () ρ1
    | _ => .bad)
  | .sub o i => (e o ρ).bind fun r ρ1 => (peek e i ρ1).bind fun k ρ2 => (O.of (setIx r k d ρ2) ρ2).bind fun ρ3 _ => .ok () ρ3
  | .subs _ => .bad
/-- a part of an f-string, as a text -/
def partS (c : C) (ρ : En) : O Str := (peek e c ρ).bind fun d ρ1 => match d with
  | .str x => if fits x.length then .ok x ρ1 else .bad
  | .int i => if strOk i then .ok (toString i) ρ1 else .bad
  | _ => .bad
def fstL : List C → Str → En → O Str
  | [], acc, ρ => .ok acc ρ
  | c :: cs, acc, ρ => (partS e c ρ).bind fun y ρ1 => if fits ((acc ++ y).length) then fstL cs (acc ++ y) ρ1 else .bad
end
section
variable (e : C → En → O R) (t : T → En → O Bool)
/-- a comprehension's turns; own: the slots of the block's own names -/
def turns (g : G) (cond : Option T) (elt : C) (own : List Nat) : List D → List D → En → O (List D)
  | [], acc, ρ => match own.all fun i => plainS (getS ρ i) with
    | true => .ok acc ρ
    | false => .bad
  | x :: xs, acc, ρ => match own.all fun i => plainS (getS ρ i) with
    | true => (setG e g x (wipeS ρ own)).bind fun _ ρ1 => (match cond with
      | none => O.ok true ρ1
      | some c => t c ρ1).bind fun b ρ2 => (match b with
        | true => (hold e elt ρ2).bind fun d ρ3 => (match fits (acc.length + 1) with
          | true => turns g cond elt own xs (acc ++ [d]) ρ3
          | false => .bad)
        | false => turns g cond elt own xs acc ρ2)
    | false => .bad
end
def wipeT (ρ1 : En) (own ls : List Nat) (x : O (List D)) : O R := match x with
  | .ok ds ρ2 => .ok (.own (.lst ds)) (unlend ls (backS ρ1 ρ2 own))
  | _ => .bad
/-- which clause takes the class c -/
def clause (c : Nat) : List Hd → Option Hd
  | [] => none
  | h :: hs => if h.cls == c then some h else clause c hs
/-- lambdas of slot i called one by one from the j-th on, each by e (through a catcher) -/
def metL (e : C → En → O R) (i : Nat) : Nat → Nat → En → O (List D)
  | 0, j, ρ => (match getS ρ i with
    | .cls cs => if cs.length = j then .ok [] ρ else .bad
    | _ => .bad)
  | m + 1, j, ρ => (match getS ρ i with
    | .cls cs => (match cs[j]? with
      | some c => (match e c ρ with
        | .ok (.dat d) ρ1 => (match metL e i m (j + 1) ρ1 with
          | .ok ds ρ2 => .ok (d :: ds) ρ2
          | _ => .bad)
        | _ => .bad)
      | none => .bad)
    | _ => .bad)
/-- what a def answers that is handed data and keeps nothing -/
def metO (p : Pr) (f : Nat) (dd : D) (ms : List D) (ρ : En) : O R := match fits ms.length with
  | true => (match p.cal f [.dat dd, .dat (.lst ms)] with
    | .ret (.dat d) _ => .ok (.dat d) ρ
    | _ => .bad)
  | false => .bad
section
variable (p : Pr)
mutual
def ev : Nat → C → En → O R
  | 0, _, _ => .bad
  | n + 1, c, ρ => match c with
    | .var i => (match getS ρ i with
      | .dat d => .ok (.dat d) ρ
      | .own _ _ _ => .ok (.ptr i) ρ
      | .emp => .bad
      | .cls _ => .bad)
    | .lit d => .ok (.dat d) ρ
    | .bin op a b => two (ev n) a b (binD op) ρ
    | .neg a => (peek (ev n) a ρ).bind fun d ρ1 => match d with
      | .int i => .ok (.dat (.int (-i))) ρ1
      | _ => .bad
    | .cmp op a b => two (ev n) a b (fun x y => (cmpD op x y).map fun k => .dat (.bl k)) ρ
    | .chn o1 o2 a b c => (ev n a ρ).bind fun ra ρ1 => (ev n b ρ1).bind fun rb ρ2 => match pk ra ρ2, pk rb ρ2 with
      | some x, some y => (match cmpD o1 x y with
        | some true => (ev n c ρ2).bind fun rc ρ3 => (match pk rb ρ3, pk rc ρ3 with
          | some y, some z => O.of ((cmpD o2 y z).map fun k => .dat (.bl k)) ρ3
          | _, _ => .bad)
        | some false => .ok (.dat (.bl false)) ρ2
        | none => .bad)
      | _, _ => .bad
    | .andv a b => (peek (ev n) a ρ).bind fun d ρ1 => match d with
      | .bl true => ev n b ρ1
      | .bl false => .ok (.dat (.bl false)) ρ1
      | _ => .bad
    | .orv a b => (peek (ev n) a ρ).bind fun d ρ1 => match d with
      | .bl true => .ok (.dat (.bl true)) ρ1
      | .bl false => ev n b ρ1
      | _ => .bad
    | .notv a => (peek (ev n) a ρ).bind fun d ρ1 => match d with
      | .bl k => .ok (.dat (.bl (!k))) ρ1
      | _ => .bad
    | .ite t a b => (evT n t ρ).bind fun k ρ1 => match k with
      | true => ev n a ρ1
      | false => ev n b ρ1
    | .tup es => (disp (ev n) es ρ).bind fun ds ρ1 => if fits ds.length then .ok (.dat (.tup ds)) ρ1 else .bad
    | .lst es => (disp (ev n) es ρ).bind fun ds ρ1 => if fits ds.length then .ok (.own (.lst ds)) ρ1 else .bad
    | .star _ => .bad
    | .emp => .ok (.own (.dct [] [])) ρ
    | .idx a b => two (ev n) a b (fun x y => (idxD x y).map R.dat) ρ
    | .slc a lo hi => (ev n a ρ).bind fun ra ρ1 => (evO (ev n) lo ρ1).bind fun l ρ2 => (evO (ev n) hi ρ2).bind fun h ρ3 => match pk ra ρ3 with
      | some x => O.of (slcD x l h) ρ3
      | none => .bad
    | .rev a => (peek (ev n) a ρ).bind fun d ρ1 => match d with
      | .lst xs => .ok (.own (.lst xs.reverse)) ρ1
      | _ => .bad
    | .blt f es => (evs (ev n) es ρ).bind fun rs ρ1 => match pks rs ρ1 with
      | some ds => O.of (bltD f ds) ρ1
      | none => .bad
    | .isi a ty => (peek (ev n) a ρ).bind fun d ρ1 => O.of ((isiD d ty).map fun k => .dat (.bl k)) ρ1
    | .call f es => (evs (ev n) es ρ).bind fun rs ρ1 => callO p f rs ρ1
    | .callv i es => (match getS ρ i with
      | .dat (.fn f) => (evs (ev n) es ρ).bind fun rs ρ1 => callO p f rs ρ1
      | _ => .bad)
    | .mth m o es => (ev n o ρ).bind fun ro ρ1 => match pk ro ρ1 with
      | some (.lst _) => (evs (ev n) es ρ1).bind fun rs ρ2 => mthO m ro rs ρ2
      | _ => .bad
    | .comp elt g it cond own => (evI (ev n) it ρ).bind fun w ρ1 => wipeT ρ1 own w.2 (turns (ev n) (evT n) g cond elt own w.1 [] ρ1)
    | .fst es => (fstL (ev n) es Str.empty ρ).bind fun x ρ1 => .ok (.dat (.str x)) ρ1
    | .cat g body => (match ev n body ρ with
      | .ok _ ρ1 => O.of ((anD (p.cat g).fin none).map R.dat) ρ1
      | .exc c d ρ1 => (match clause c (p.cat g).hs with
        | some h => O.of ((anD h.ans d).map R.dat) ρ1
        | none => .bad)
      | .bad => .bad)
    | .mets f g i due => (match getS ρ i with
      | .cls cs => (hold (ev n) due ρ).bind fun dd ρ1 => (metL (fun c ρ => ev n (.cat g c) ρ) i cs.length 0 ρ1).bind fun ms ρ2 => metO p f dd ms ρ2
      | _ => .bad)
    | .zip0 f es => (evs (ev n) es ρ).bind fun rs ρ1 => match frzs rs ρ1 with
      | some (ds, ρ2) => (match p.cal f (ds.map Ar.dat) with
        | .bad => .bad
        | _ => .ok (.own (.lst [])) ρ2)
      | none => .bad
def evT : Nat → T → En → O Bool
  | 0, _, _ => .bad
  | n + 1, t, ρ => match t with
    | .val a => (peek (ev n) a ρ).bind fun d ρ1 => O.of (tru d) ρ1
    | .and a b => (evT n a ρ).bind fun k ρ1 => match k with
      | true => evT n b ρ1
      | false => .ok false ρ1
    | .or a b => (evT n a ρ).bind fun k ρ1 => match k with
      | true => .ok true ρ1
      | false => evT n b ρ1
    | .not a => (evT n a ρ).bind fun k ρ1 => .ok (!k) ρ1
end
end
/-! ### statements -/
def O.fl {α : Type} (x : O α) (f : α → En → F) : F := match x with
  | .ok a ρ => f a ρ
  | .exc c d ρ => .exc c d ρ
  | .bad => .bad
def F.of (x : Option En) : F := match x with
  | some ρ => .nx ρ
  | none => .bad
/-- what follows a block's end -/
def F.then (x : F) (f : En → F) : F := match x with
  | .nx ρ => f ρ
  | x => x
section
variable (e : C → En → O R) (t : T → En → O Bool)
def subsF : List (C × C) → List D → En → F
  | [], [], ρ => .nx ρ
  | (o, i) :: gs, d :: ds, ρ => (setG e (.sub o i) d ρ).fl fun _ ρ1 => subsF gs ds ρ1
  | _, _, _ => .bad
/-- a target takes a result -/
def setGR (g : G) (r : R) (ρ : En) : F := match g with
  | .nm i => F.of (store i r ρ)
  | .subs gs => (match pk r ρ with
    | some (.tup ds) => (match ds.length == gs.length with
      | true => subsF e gs ds ρ
      | false => .bad)
    | _ => .bad)
  | .sub o i => (match frz r ρ with
    | some (d, ρ1) => (setG e (.sub o i) d ρ1).fl fun _ ρ2 => .nx ρ2
    | none => .bad)
  | .tup is => (match pk r ρ with
    | some (.tup ds) => F.of (setNms is ds ρ)
    | _ => .bad)
/-- a loop's turns, the body b -/
def loopF (g : G) (b : En → F) : List D → En → F
  | [], ρ => .nx ρ
  | x :: xs, ρ => (setG e g x ρ).fl fun _ ρ1 => match b ρ1 with
    | .nx ρ2 => loopF g b xs ρ2
    | .ct ρ2 => loopF g b xs ρ2
    | .bk ρ2 => .nx ρ2
    | x => x
def whlF (c : T) (b : En → F) : Nat → En → F
  | 0, _ => .bad
  | k + 1, ρ => (t c ρ).fl fun v ρ1 => match v with
    | false => .nx ρ1
    | true => match b ρ1 with
      | .nx ρ2 => whlF c b k ρ2
      | .ct ρ2 => whlF c b k ρ2
      | .bk ρ2 => .nx ρ2
      | x => x
end
/-- the most turns of a while -/
def most : Nat := 100000
def augD (op : Operator) (a b : D) : Option D := match op, a, b with
  | .Add, .int i, .int j => some (.int (i + j))
  | .Sub, .int i, .int j => some (.int (i - j))
  | .Mult, .int i, .int j => if mulOk i j then some (.int (i * j)) else none
  | _, _, _ => none
/-- what a def gives back: a slot's own thing goes with it -/
def outR (r : R) (ρ : En) : Option R := match r with
  | .ptr i => (match getS ρ i with
    | .own false false d => some (.own d)
    | _ => none)
  | r => some r
def exsL (x : S → En → F) : List S → En → F
  | [], ρ => .nx ρ
  | s :: ss, ρ => (x s ρ).then (exsL x ss)
section
variable (p : Pr)
def ex : Nat → S → En → F
  | 0, _, _ => .bad
  | n + 1, s, ρ => match s with
    | .asg g e => (ev p n e ρ).fl fun r ρ1 => setGR (ev p n) g r ρ1
    | .par is es => (evs (ev p n) es ρ).fl fun rs ρ1 => F.of ((settle rs ρ1).bind fun q => setRs is q.1 q.2)
    | .aug i op e => (match getS ρ i with
      | .dat a => (peek (ev p n) e ρ).fl fun b ρ1 => F.of ((augD op a b).bind fun d => store i (.dat d) ρ1)
      | _ => .bad)
    | .exp e => (ev p n e ρ).fl fun _ ρ1 => .nx ρ1
    | .ret e => (ev p n e ρ).fl fun r ρ1 => (match outR r ρ1 with
      | some q => .rt q ρ1
      | none => .bad)
    | .retn => .rt (.dat .non) ρ
    | .cond t a b => (evT p n t ρ).fl fun k ρ1 => match k with
      | true => exsL (ex n) a ρ1
      | false => exsL (ex n) b ρ1
    | .loop g it b => (evI (ev p n) it ρ).fl fun w ρ1 => (loopF (ev p n) g (exsL (ex n) b) w.1 ρ1).then fun ρ2 => .nx (unlend w.2 ρ2)
    | .whl t b => whlF (evT p n) t (exsL (ex n) b) most ρ
    | .rais c none => .exc c none ρ
    | .rais c (some e) => (hold (ev p n) e ρ).fl fun d ρ1 => .exc c (some d) ρ1
    | .pass => .nx ρ
    | .brk => .bk ρ
    | .cont => .ct ρ
    | .clos i cs => if decide (i < ρ.length) && freeS (getS ρ i) && fits cs.length then .nx (ρ.set i (.cls cs)) else .bad
    | .nev => .bad
end
/-! ### defs -/
structure Fn where
  args : Nat
  slots : Nat
  ref : List Nat
  body : List S
def arS : Ar → Sl
  | .dat d => .dat d
  | .own l d => .own true l d
/-- what has become of the arguments that were handed in to be changed -/
def outs : List Ar → En → List (Option D)
  | [], _ => []
  | .dat _ :: as, ρ => none :: outs as ρ.tail
  | .own _ _ :: as, ρ => rdS (ρ.headD .emp) :: outs as ρ.tail
/-- a def called: fuel for its body -/
def runF (p : Pr) (n : Nat) (f : Fn) (as : List Ar) : Out := if as.length = f.args then
    (match exsL (ex p n) f.body (as.map arS ++ List.replicate (f.slots - f.args) .emp) with
    | .nx ρ => .ret (.dat .non) (outs as ρ)
    | .rt r ρ => .ret r (outs as ρ)
    | .exc c d ρ => .exc c d (outs as ρ)
    | _ => .bad)
  else .bad
/-! ### generators that are walked to their end -/
inductive Gs where
  | pl (s : S)
  | yld (c : C)
  | cond (t : T) (a b : List Gs)
  | whl (t : T) (b : List Gs)
  | nev
def genL (x : Gs → En → List D → F × List D) : List Gs → En → List D → F × List D
  | [], ρ, acc => (.nx ρ, acc)
  | s :: ss, ρ, acc => match x s ρ acc with
    | (.nx ρ1, a) => genL x ss ρ1 a
    | r => r
def genW (t : En → O Bool) (b : En → List D → F × List D) : Nat → En → List D → F × List D
  | 0, _, acc => (.bad, acc)
  | n + 1, ρ, acc => match t ρ with
    | .ok true ρ1 => (match b ρ1 acc with
      | (.nx ρ2, a) => genW t b n ρ2 a
      | (.ct ρ2, a) => genW t b n ρ2 a
      | (.bk ρ2, a) => (.nx ρ2, a)
      | r => r)
    | .ok false ρ1 => (.nx ρ1, acc)
    | .exc c d ρ1 => (.exc c d ρ1, acc)
    | .bad => (.bad, acc)
def exG (p : Pr) : Nat → Gs → En → List D → F × List D
  | 0, _, _, acc => (.bad, acc)
  | n + 1, s, ρ, acc => match s with
    | .pl s => (ex p n s ρ, acc)
    | .yld c => if fits (acc.length + 1) then (match hold (ev p n) c ρ with
      | .ok d ρ1 => (.nx ρ1, acc ++ [d])
      | .exc c d ρ1 => (.exc c d ρ1, acc)
      | .bad => (.bad, acc)) else (.bad, acc)
    | .cond t a b => (match evT p n t ρ with
      | .ok true ρ1 => genL (exG p n) a ρ1 acc
      | .ok false ρ1 => genL (exG p n) b ρ1 acc
      | .exc c d ρ1 => (.exc c d ρ1, acc)
      | .bad => (.bad, acc))
    | .whl t b => genW (evT p n t) (genL (exG p n) b) most ρ acc
    | .nev => (.bad, acc)
structure Gn where
  args : Nat
  slots : Nat
  body : List Gs
def runG (p : Pr) (n : Nat) (f : Gn) (as : List Ar) : Out := if as.length = f.args then
    (match genL (exG p n) f.body (as.map arS ++ List.replicate (f.slots - f.args) .emp) [] with
    | (.nx ρ, acc) => .ret (.own (.lst acc)) (outs as ρ)
    | (.exc c d ρ, _) => .exc c d (outs as ρ)
    | _ => .bad)
  else .bad
/-- the program's defs, called to a depth; generator defs stand behind the others, what they give is the list of it -/
structure Prg where
  fns : List Fn
  cats : List Cat
  gens : List Gn
  lcs : List Fn := []
def fuel : Nat := 60
/-- what follows in a def whose first statement called the lambdas that it got, each through a catcher: slot 1 what was due, slot 2 the answers -/
def runL (p : Pr) (n : Nat) (f : Fn) (as : List Ar) : Out := match as with
  | [.dat dd, .dat ms] => (match exsL (ex p n) f.body (.emp :: .dat dd :: .dat ms :: List.replicate (f.slots - 3) .emp) with
    | .nx _ => .ret (.dat .non) [none, none]
    | .rt r _ => .ret r [none, none]
    | .exc c d _ => .exc c d [none, none]
    | _ => .bad)
  | _ => .bad
def lcC (ls : List Fn) (p : Pr) (k : Nat) (as : List Ar) : Out := match ls[k]? with
  | some f => runL p fuel f as
  | none => .bad
def genC (gs : List Gn) (ls : List Fn) (p : Pr) (k : Nat) (as : List Ar) : Out := match gs[k]? with
  | some g => runG p fuel g as
  | none => lcC ls p (k - gs.length) as
def Prg.pr (P : Prg) (cal : Nat → List Ar → Out) : Pr := ⟨cal, fun k => ((P.fns[k]?).map (·.ref)).getD [], fun g => (P.cats[g]?).getD ⟨[], .one .non⟩⟩
def Prg.cal (P : Prg) : Nat → Nat → List Ar → Out
  | 0, _, _ => .bad
  | l + 1, k, as => match P.fns[k]? with
    | some f => runF (P.pr (P.cal l)) fuel f as
    | none => genC P.gens P.lcs (P.pr (P.cal l)) (k - P.fns.length) as
end Pv
end PvA_
section PvMono_
set_option maxRecDepth 100000
/-! PvMono: the evaluator by defs that answer less answers less, and nothing else. -/
namespace Pv
open PySem
def LO {α : Type} (x y : O α) : Prop := x = .bad ∨ y = x
def LF (x y : F) : Prop := x = .bad ∨ y = x
theorem LO.refl {α : Type} (x : O α) : LO x x := .inr rfl
theorem LF.refl (x : F) : LF x x := .inr rfl
theorem LO.bind {α β : Type} {x y : O α} {f g : α → En → O β} (h : LO x y) (hf : ∀ a ρ, LO (f a ρ) (g a ρ)) : LO (x.bind f) (y.bind g) := by
  rcases h with h | h
  · subst h; exact .inl rfl
  · subst h
    cases y with
    | ok a ρ => exact hf a ρ
    | exc c d ρ => exact .inr rfl
    | bad => exact .inl rfl
theorem LO.fl {α : Type} {x y : O α} {f g : α → En → F} (h : LO x y) (hf : ∀ a ρ, LF (f a ρ) (g a ρ)) : LF (x.fl f) (y.fl g) := by
  rcases h with h | h
  · subst h; exact .inl rfl
  · subst h
    cases y with
    | ok a ρ => exact hf a ρ
    | exc c d ρ => exact .inr rfl
    | bad => exact .inl rfl
theorem LF.then {x y : F} {f g : En → F} (h : LF x y) (hf : ∀ ρ, LF (f ρ) (g ρ)) : LF (x.then f) (y.then g) := by
  rcases h with h | h
  · subst h; exact .inl rfl
  · subst h
    cases y with
    | nx ρ => exact hf ρ
    | bad => exact .inl rfl
    | _ => exact .inr rfl
section
variable {e e' : C → En → O R} {t t' : T → En → O Bool} (hE : ∀ c ρ, LO (e c ρ) (e' c ρ)) (hT : ∀ c ρ, LO (t c ρ) (t' c ρ))
include hE
theorem l_evs : ∀ cs ρ, LO (evs e cs ρ) (evs e' cs ρ)
  | [], ρ => .inr rfl
  | c :: cs, ρ => (hE c ρ).bind fun r ρ1 => (l_evs cs ρ1).bind fun rs ρ2 => .inr rfl
theorem l_peek (c : C) (ρ : En) : LO (peek e c ρ) (peek e' c ρ) := (hE c ρ).bind fun _ _ => .inr rfl
theorem l_hold (c : C) (ρ : En) : LO (hold e c ρ) (hold e' c ρ) := (hE c ρ).bind fun _ _ => .inr rfl
theorem l_two (a b : C) (f : D → D → Option R) (ρ : En) : LO (two e a b f ρ) (two e' a b f ρ) := (hE a ρ).bind fun _ ρ1 => (hE b ρ1).bind fun _ _ => .inr rfl
theorem l_disp : ∀ cs ρ, LO (disp e cs ρ) (disp e' cs ρ)
  | [], ρ => .inr rfl
  | c :: cs, ρ => by
    have ih := l_disp cs
    have other : LO ((e c ρ).bind fun r ρ1 => match frz r ρ1 with | some (d, ρ2) => (disp e cs ρ2).bind fun ds ρ3 => .ok (d :: ds) ρ3 | none => .bad) ((e' c ρ).bind fun r ρ1 => match frz r ρ1 with | some (d, ρ2) => (disp e' cs ρ2).bind fun ds ρ3 => .ok (d :: ds) ρ3 | none => .bad) :=
      (hE c ρ).bind fun r ρ1 => by
        cases frz r ρ1 with
        | none => exact .inr rfl
        | some q => exact (ih q.2).bind fun _ _ => .inr rfl
    cases c with
    | star a =>
      exact (hE a ρ).bind fun r ρ1 => by
        cases (pk r ρ1).bind items with
        | none => exact .inr rfl
        | some xs => exact (ih ρ1).bind fun _ _ => .inr rfl
    | _ => exact other
theorem l_evO (c : Option C) (ρ : En) : LO (evO e c ρ) (evO e' c ρ) := by
  cases c with
  | none => exact .inr rfl
  | some l => exact (l_peek hE l ρ).bind fun _ _ => .inr rfl
theorem l_evI (it : I) (ρ : En) : LO (evI e it ρ) (evI e' it ρ) := by
  cases it with
  | seq a => exact (hE a ρ).bind fun _ _ => .inr rfl
  | rng1 a => exact (l_peek hE a ρ).bind fun _ _ => .inr rfl
  | rng2 a b => exact (l_peek hE a ρ).bind fun _ ρ1 => (l_peek hE b ρ1).bind fun _ _ => .inr rfl
  | enum a => exact (hE a ρ).bind fun _ _ => .inr rfl
  | zip a b => exact (hE a ρ).bind fun _ ρ1 => (hE b ρ1).bind fun _ _ => .inr rfl
theorem l_setG (g : G) (d : D) (ρ : En) : LO (setG e g d ρ) (setG e' g d ρ) := by
  cases g with
  | sub o i => exact (hE o ρ).bind fun _ ρ1 => (l_peek hE i ρ1).bind fun _ _ => .inr rfl
  | _ => exact .inr rfl
theorem l_fstL : ∀ cs acc ρ, LO (fstL e cs acc ρ) (fstL e' cs acc ρ)
  | [], _, _ => .inr rfl
  | c :: cs, acc, ρ => LO.bind (show LO (partS e c ρ) (partS e' c ρ) from (l_peek hE c ρ).bind fun _ _ => .inr rfl) fun y ρ1 => by
    by_cases h : fits ((acc ++ y).length) = true
    · show LO (if _ then _ else _) (if _ then _ else _)
      rw [if_pos h, if_pos h]
      exact l_fstL cs (acc ++ y) ρ1
    · show LO (if _ then _ else _) (if _ then _ else _)
      rw [if_neg h, if_neg h]
      exact .inr rfl
include hT
theorem l_turns (g : G) (cond : Option T) (elt : C) (own : List Nat) : ∀ xs acc ρ, LO (turns e t g cond elt own xs acc ρ) (turns e' t' g cond elt own xs acc ρ)
  | [], acc, ρ => by unfold turns; exact .inr rfl
  | x :: xs, acc, ρ => by
    unfold turns
    cases own.all fun i => plainS (getS ρ i) with
    | false => exact .inr rfl
    | true =>
      refine (l_setG hE g x _).bind fun _ ρ1 => LO.bind ?_ fun b ρ2 => ?_
      · cases cond with
        | none => exact .inr rfl
        | some c => exact hT c ρ1
      · cases b with
        | true =>
          refine (l_hold hE elt ρ2).bind fun d ρ3 => ?_
          cases fits (acc.length + 1) with
          | true => exact l_turns g cond elt own xs _ ρ3
          | false => exact .inr rfl
        | false => exact l_turns g cond elt own xs acc ρ2
end
theorem l_wipeT {ρ : En} {own ls : List Nat} {x y : O (List D)} (h : LO x y) : LO (wipeT ρ own ls x) (wipeT ρ own ls y) := by
  rcases h with h | h
  · subst h; exact .inl rfl
  · subst h; exact .inr rfl
/-- p answers less -/
structure LP (p q : Pr) : Prop where
  cal : ∀ f as, p.cal f as = .bad ∨ q.cal f as = p.cal f as
  ref : q.ref = p.ref
  cat : q.cat = p.cat
section
variable {p q : Pr} (h : LP p q)
include h
theorem l_callO (f : Nat) (rs : List R) (ρ : En) : LO (callO p f rs ρ) (callO q f rs ρ) := by
  unfold callO
  rw [h.ref]
  cases args1 (p.ref f) 0 rs ρ with
  | none => exact .inr rfl
  | some z =>
    obtain ⟨qs, ρ1⟩ := z
    show LO (match args2 qs ρ1, noDup (ptrs qs) with | some as, true => _ | _, _ => .bad) (match args2 qs ρ1, noDup (ptrs qs) with | some as, true => _ | _, _ => .bad)
    cases args2 qs ρ1 with
    | none => exact .inr rfl
    | some as =>
      cases noDup (ptrs qs) with
      | false => exact .inr rfl
      | true =>
        rcases h.cal f as with z | z
        · refine .inl ?_
          show (match p.cal f as with | .ret r out => O.ok r (putOut qs out ρ1) | .exc c d out => .exc c d (putOut qs out ρ1) | .bad => .bad) = _
          rw [z]
        · refine .inr ?_
          show (match q.cal f as with | .ret r out => O.ok r (putOut qs out ρ1) | .exc c d out => .exc c d (putOut qs out ρ1) | .bad => .bad) = (match p.cal f as with | .ret r out => O.ok r (putOut qs out ρ1) | .exc c d out => .exc c d (putOut qs out ρ1) | .bad => .bad)
          rw [z]
omit h in
theorem l_metL {e e' : C → En → O R} (hE : ∀ c ρ, LO (e c ρ) (e' c ρ)) (i : Nat) : ∀ m j ρ, LO (metL e i m j ρ) (metL e' i m j ρ)
  | 0, j, ρ => .inr rfl
  | m + 1, j, ρ => by
    unfold metL
    cases getS ρ i with
    | cls cs =>
      dsimp only
      cases cs[j]? with
      | none => exact .inr rfl
      | some c =>
        dsimp only
        rcases hE c ρ with z | z
        · rw [z]; exact .inl rfl
        · rw [z]
          cases e c ρ with
          | bad => exact .inr rfl
          | exc _ _ _ => exact .inr rfl
          | ok r ρ1 =>
            cases r with
            | own _ => exact .inr rfl
            | ptr _ => exact .inr rfl
            | dat d =>
              dsimp only
              rcases l_metL hE i m (j + 1) ρ1 with z | z
              · rw [z]; exact .inl rfl
              · rw [z]; exact .inr rfl
    | _ => exact .inr rfl
theorem l_metO (f : Nat) (dd : D) (ms : List D) (ρ : En) : LO (metO p f dd ms ρ) (metO q f dd ms ρ) := by
  unfold metO
  cases fits ms.length with
  | false => exact .inr rfl
  | true =>
    dsimp only
    rcases h.cal f [.dat dd, .dat (.lst ms)] with z | z
    · rw [z]; exact .inl rfl
    · rw [z]; exact .inr rfl
theorem l_ev : ∀ n, (∀ c ρ, LO (ev p n c ρ) (ev q n c ρ)) ∧ ∀ c ρ, LO (evT p n c ρ) (evT q n c ρ)
  | 0 => ⟨fun c ρ => by unfold ev; exact .inr rfl, fun c ρ => by unfold evT; exact .inr rfl⟩
  | n + 1 => by
    obtain ⟨hE, hT⟩ := l_ev n
    refine ⟨fun c ρ => ?_, fun c ρ => ?_⟩
    · unfold ev
      cases c with
      | var i => exact .inr rfl
      | lit d => exact .inr rfl
      | bin op a b => exact l_two hE a b _ ρ
      | neg a => exact (l_peek hE a ρ).bind fun _ _ => .inr rfl
      | cmp op a b => exact l_two hE a b _ ρ
      | chn o1 o2 a b c =>
        refine (hE a ρ).bind fun ra ρ1 => (hE b ρ1).bind fun rb ρ2 => ?_
        cases pk ra ρ2 with
        | none => exact .inr rfl
        | some x =>
          cases pk rb ρ2 with
          | none => exact .inr rfl
          | some y =>
            show LO (match cmpD o1 x y with | some true => _ | some false => _ | none => _) (match cmpD o1 x y with | some true => _ | some false => _ | none => _)
            cases cmpD o1 x y with
            | none => exact .inr rfl
            | some k =>
              cases k with
              | false => exact .inr rfl
              | true => exact (hE c ρ2).bind fun _ _ => .inr rfl
      | andv a b =>
        refine (l_peek hE a ρ).bind fun d ρ1 => ?_
        cases d with
        | bl k => cases k with
          | true => exact hE b ρ1
          | false => exact .inr rfl
        | _ => exact .inr rfl
      | orv a b =>
        refine (l_peek hE a ρ).bind fun d ρ1 => ?_
        cases d with
        | bl k => cases k with
          | false => exact hE b ρ1
          | true => exact .inr rfl
        | _ => exact .inr rfl
      | notv a => exact (l_peek hE a ρ).bind fun _ _ => .inr rfl
      | ite t a b =>
        refine (hT t ρ).bind fun k ρ1 => ?_
        cases k with
        | true => exact hE a ρ1
        | false => exact hE b ρ1
      | tup es => exact (l_disp hE es ρ).bind fun _ _ => .inr rfl
      | lst es => exact (l_disp hE es ρ).bind fun _ _ => .inr rfl
      | star a => exact .inr rfl
      | emp => exact .inr rfl
      | idx a b => exact l_two hE a b _ ρ
      | slc a lo hi => exact (hE a ρ).bind fun _ ρ1 => (l_evO hE lo ρ1).bind fun _ ρ2 => (l_evO hE hi ρ2).bind fun _ _ => .inr rfl
      | rev a => exact (l_peek hE a ρ).bind fun _ _ => .inr rfl
      | blt f es => exact (l_evs hE es ρ).bind fun _ _ => .inr rfl
      | isi a ty => exact (l_peek hE a ρ).bind fun _ _ => .inr rfl
      | call f es => exact (l_evs hE es ρ).bind fun rs ρ1 => l_callO h f rs ρ1
      | callv i es =>
        show LO (match getS ρ i with | .dat (.fn f) => _ | _ => .bad) (match getS ρ i with | .dat (.fn f) => _ | _ => .bad)
        cases getS ρ i with
        | dat d =>
          cases d with
          | fn f => exact (l_evs hE es ρ).bind fun rs ρ1 => l_callO h f rs ρ1
          | _ => exact .inr rfl
        | _ => exact .inr rfl
      | mth m o es =>
        refine (hE o ρ).bind fun ro ρ1 => ?_
        cases pk ro ρ1 with
        | none => exact .inr rfl
        | some d =>
          cases d with
          | lst xs => exact (l_evs hE es ρ1).bind fun _ _ => .inr rfl
          | _ => exact .inr rfl
      | comp elt g it cond own => exact (l_evI hE it ρ).bind fun w ρ1 => l_wipeT (l_turns hE hT g cond elt own w.1 [] ρ1)
      | fst es => exact (l_fstL hE es _ ρ).bind fun _ _ => .inr rfl
      | cat g body =>
        dsimp only
        rw [h.cat]
        rcases hE body ρ with z | z
        · exact .inl (by rw [z])
        · exact .inr (by rw [z])
      | mets f g i due =>
        show LO (match getS ρ i with | .cls cs => _ | _ => .bad) (match getS ρ i with | .cls cs => _ | _ => .bad)
        cases getS ρ i with
        | cls cs => exact (l_hold hE due ρ).bind fun dd ρ1 => (l_metL (fun c ρ => hE (.cat g c) ρ) i cs.length 0 ρ1).bind fun ms ρ2 => l_metO h f dd ms ρ2
        | _ => exact .inr rfl
      | zip0 f es =>
        refine (l_evs hE es ρ).bind fun rs ρ1 => ?_
        cases frzs rs ρ1 with
        | none => exact .inr rfl
        | some z =>
          obtain ⟨ds, ρ2⟩ := z
          dsimp only
          rcases h.cal f (ds.map Ar.dat) with z | z
          · rw [z]; exact .inl rfl
          · rw [z]; exact .inr rfl
    · unfold evT
      cases c with
      | val a => exact (l_peek hE a ρ).bind fun _ _ => .inr rfl
      | and a b =>
        refine (hT a ρ).bind fun k ρ1 => ?_
        cases k with
        | true => exact hT b ρ1
        | false => exact .inr rfl
      | or a b =>
        refine (hT a ρ).bind fun k ρ1 => ?_
        cases k with
        | false => exact hT b ρ1
        | true => exact .inr rfl
      | not a => exact (hT a ρ).bind fun _ _ => .inr rfl
end
section
variable {e e' : C → En → O R} {t t' : T → En → O Bool} (hE : ∀ c ρ, LO (e c ρ) (e' c ρ)) (hT : ∀ c ρ, LO (t c ρ) (t' c ρ))
include hE
theorem l_subsF : ∀ gs ds ρ, LF (subsF e gs ds ρ) (subsF e' gs ds ρ)
  | [], [], _ => .inr rfl
  | [], _ :: _, _ => .inr rfl
  | _ :: _, [], _ => .inr rfl
  | (o, i) :: gs, d :: ds, ρ => (l_setG hE (.sub o i) d ρ).fl fun _ ρ1 => l_subsF gs ds ρ1
theorem l_setGR (g : G) (r : R) (ρ : En) : LF (setGR e g r ρ) (setGR e' g r ρ) := by
  cases g with
  | nm i => exact .inr rfl
  | tup is => exact .inr rfl
  | sub o i =>
    show LF (match frz r ρ with | some (d, ρ1) => _ | none => .bad) (match frz r ρ with | some (d, ρ1) => _ | none => .bad)
    cases frz r ρ with
    | none => exact .inr rfl
    | some z => exact (l_setG hE (.sub o i) z.1 z.2).fl fun _ _ => .inr rfl
  | subs gs =>
    show LF (match pk r ρ with | some (.tup ds) => _ | _ => .bad) (match pk r ρ with | some (.tup ds) => _ | _ => .bad)
    cases pk r ρ with
    | none => exact .inr rfl
    | some d =>
      cases d with
      | tup ds =>
        show LF (match ds.length == gs.length with | true => _ | false => _) (match ds.length == gs.length with | true => _ | false => _)
        cases ds.length == gs.length with
        | true => exact l_subsF hE gs ds ρ
        | false => exact .inr rfl
      | _ => exact .inr rfl
theorem l_loopF {g : G} {b b' : En → F} (hb : ∀ ρ, LF (b ρ) (b' ρ)) : ∀ xs ρ, LF (loopF e g b xs ρ) (loopF e' g b' xs ρ)
  | [], ρ => .inr rfl
  | x :: xs, ρ => by
    unfold loopF
    refine (l_setG hE g x ρ).fl fun _ ρ1 => ?_
    rcases hb ρ1 with z | z
    · exact .inl (by rw [z])
    · rw [z]
      cases b ρ1 with
      | nx ρ2 => exact l_loopF hb xs ρ2
      | ct ρ2 => exact l_loopF hb xs ρ2
      | _ => exact .inr rfl
omit hE in
include hT in
theorem l_whlF {c : T} {b b' : En → F} (hb : ∀ ρ, LF (b ρ) (b' ρ)) : ∀ k ρ, LF (whlF t c b k ρ) (whlF t' c b' k ρ)
  | 0, ρ => .inr rfl
  | k + 1, ρ => by
    unfold whlF
    refine (hT c ρ).fl fun v ρ1 => ?_
    cases v with
    | false => exact .inr rfl
    | true =>
      dsimp only
      rcases hb ρ1 with z | z
      · exact .inl (by rw [z])
      · rw [z]
        cases b ρ1 with
        | nx ρ2 => exact l_whlF hb k ρ2
        | ct ρ2 => exact l_whlF hb k ρ2
        | _ => exact .inr rfl
end
theorem l_exsL {x x' : S → En → F} (hx : ∀ s ρ, LF (x s ρ) (x' s ρ)) : ∀ ss ρ, LF (exsL x ss ρ) (exsL x' ss ρ)
  | [], ρ => .inr rfl
  | s :: ss, ρ => (hx s ρ).then fun ρ1 => l_exsL hx ss ρ1
section
variable {p q : Pr} (h : LP p q)
include h
theorem l_ex : ∀ n s ρ, LF (ex p n s ρ) (ex q n s ρ)
  | 0, s, ρ => by unfold ex; exact .inr rfl
  | n + 1, s, ρ => by
    obtain ⟨hE, hT⟩ := l_ev h n
    have ih := l_ex n
    unfold ex
    cases s with
    | asg g e => exact (hE e ρ).fl fun r ρ1 => l_setGR hE g r ρ1
    | par is es => exact (l_evs hE es ρ).fl fun _ _ => .inr rfl
    | aug i op e =>
      show LF (match getS ρ i with | .dat a => _ | _ => .bad) (match getS ρ i with | .dat a => _ | _ => .bad)
      cases getS ρ i with
      | dat a => exact (l_peek hE e ρ).fl fun _ _ => .inr rfl
      | _ => exact .inr rfl
    | exp e => exact (hE e ρ).fl fun _ _ => .inr rfl
    | ret e => exact (hE e ρ).fl fun _ _ => .inr rfl
    | retn => exact .inr rfl
    | cond t a b =>
      refine (hT t ρ).fl fun k ρ1 => ?_
      cases k with
      | true => exact l_exsL ih a ρ1
      | false => exact l_exsL ih b ρ1
    | loop g it b => exact (l_evI hE it ρ).fl fun w ρ1 => (l_loopF hE (fun ρ => l_exsL ih b ρ) w.1 ρ1).then fun _ => .inr rfl
    | whl t b => exact l_whlF hT (fun ρ => l_exsL ih b ρ) most ρ
    | rais c o =>
      cases o with
      | none => exact .inr rfl
      | some e => exact (l_hold hE e ρ).fl fun _ _ => .inr rfl
    | pass => exact .inr rfl
    | brk => exact .inr rfl
    | cont => exact .inr rfl
    | clos i cs => exact .inr rfl
    | nev => exact .inr rfl
theorem l_runF (n : Nat) (f : Fn) (as : List Ar) : runF p n f as = .bad ∨ runF q n f as = runF p n f as := by
  unfold runF
  by_cases c : as.length = f.args
  · rw [if_pos c, if_pos c]
    rcases l_exsL (l_ex h n) f.body (as.map arS ++ List.replicate (f.slots - f.args) .emp) with z | z
    · exact .inl (by rw [z])
    · exact .inr (by rw [z])
  · exact .inl (if_neg c)
abbrev LG (x y : F × List D) : Prop := x.1 = .bad ∨ y = x
omit h in
theorem l_genL {x y : Gs → En → List D → F × List D} (hx : ∀ s ρ acc, LG (x s ρ acc) (y s ρ acc)) : ∀ ss ρ acc, LG (genL x ss ρ acc) (genL y ss ρ acc)
  | [], ρ, acc => .inr rfl
  | s :: ss, ρ, acc => by
    unfold genL
    rcases hx s ρ acc with z | z
    · rcases hs : x s ρ acc with ⟨f, a⟩
      rw [hs] at z
      have z : f = .bad := z
      subst z
      exact .inl rfl
    · rw [z]
      rcases hs : x s ρ acc with ⟨f, a⟩
      cases f with
      | nx ρ1 => exact l_genL hx ss ρ1 a
      | _ => exact .inr rfl
omit h in
theorem l_genW {t u : En → O Bool} {x y : En → List D → F × List D} (ht : ∀ ρ, LO (t ρ) (u ρ)) (hx : ∀ ρ acc, LG (x ρ acc) (y ρ acc)) : ∀ n ρ acc, LG (genW t x n ρ acc) (genW u y n ρ acc)
  | 0, ρ, acc => .inl rfl
  | n + 1, ρ, acc => by
    unfold genW
    rcases ht ρ with z | z
    · rw [z]; exact .inl rfl
    · rw [z]
      cases t ρ with
      | bad => exact .inl rfl
      | exc c d ρ1 => exact .inr rfl
      | ok b ρ1 =>
        cases b with
        | false => exact .inr rfl
        | true =>
          dsimp only
          rcases hx ρ1 acc with z | z
          · rcases hs : x ρ1 acc with ⟨f, a⟩
            rw [hs] at z
            have z : f = .bad := z
            subst z
            exact .inl rfl
          · rw [z]
            rcases hs : x ρ1 acc with ⟨f, a⟩
            cases f with
            | nx ρ2 => exact l_genW ht hx n ρ2 a
            | ct ρ2 => exact l_genW ht hx n ρ2 a
            | _ => exact .inr rfl
theorem l_exG : ∀ n s ρ acc, LG (exG p n s ρ acc) (exG q n s ρ acc)
  | 0, s, ρ, acc => .inl (by unfold exG; rfl)
  | n + 1, s, ρ, acc => by
    obtain ⟨hE, hT⟩ := l_ev h n
    have ih := l_exG n
    unfold exG
    cases s with
    | pl s =>
      dsimp only
      rcases l_ex h n s ρ with z | z
      · exact .inl z
      · exact .inr (by rw [z])
    | yld c =>
      dsimp only
      by_cases g : fits (acc.length + 1) = true
      · rw [if_pos g, if_pos g]
        rcases l_hold hE c ρ with z | z
        · rw [z]; exact .inl rfl
        · rw [z]; exact .inr rfl
      · rw [if_neg g]; exact .inl rfl
    | cond t a b =>
      dsimp only
      rcases hT t ρ with z | z
      · rw [z]; exact .inl rfl
      · rw [z]
        cases evT p n t ρ with
        | bad => exact .inl rfl
        | exc c d ρ1 => exact .inr rfl
        | ok k ρ1 =>
          cases k with
          | true => exact l_genL ih a ρ1 acc
          | false => exact l_genL ih b ρ1 acc
    | whl t b => exact l_genW (hT t) (fun ρ acc => l_genL ih b ρ acc) most ρ acc
    | nev => exact .inl rfl
theorem l_runG (n : Nat) (f : Gn) (as : List Ar) : runG p n f as = .bad ∨ runG q n f as = runG p n f as := by
  unfold runG
  by_cases c : as.length = f.args
  · rw [if_pos c, if_pos c]
    rcases l_genL (l_exG h n) f.body (as.map arS ++ List.replicate (f.slots - f.args) .emp) [] with z | z
    · rcases hs : genL (exG p n) f.body (as.map arS ++ List.replicate (f.slots - f.args) .emp) [] with ⟨g, a⟩
      rw [hs] at z
      have z : g = .bad := z
      subst z
      exact .inl (by rw [hs])
    · exact .inr (by rw [z])
  · exact .inl (if_neg c)
theorem l_runL (n : Nat) (f : Fn) (as : List Ar) : runL p n f as = .bad ∨ runL q n f as = runL p n f as := by
  unfold runL
  split
  · rename_i dd ms
    rcases l_exsL (l_ex h n) f.body (.emp :: .dat dd :: .dat ms :: List.replicate (f.slots - 3) .emp) with z | z
    · exact .inl (by rw [z])
    · exact .inr (by rw [z])
  · exact .inl rfl
theorem l_genC (gs : List Gn) (ls : List Fn) (k : Nat) (as : List Ar) : genC gs ls p k as = .bad ∨ genC gs ls q k as = genC gs ls p k as := by
  unfold genC
  cases gs[k]? with
  | none =>
    show lcC ls p _ as = .bad ∨ lcC ls q _ as = lcC ls p _ as
    unfold lcC
    cases ls[k - gs.length]? with
    | none => exact .inl rfl
    | some f => exact l_runL h fuel f as
  | some g => exact l_runG h fuel g as
end
/-! ### defs with known answers -/
def calA (P : Prg) (acc : Nat → Option (Nat × (List Ar → Out))) : Nat → Nat → List Ar → Out
  | 0, _, _ => .bad
  | l + 1, k, as => match acc k with
    | some mg => (match Nat.ble mg.1 (l + 1) with
      | true => mg.2 as
      | false => .bad)
    | none => (match P.fns[k]? with
      | some f => runF (P.pr (calA P acc l)) fuel f as
      | none => genC P.gens P.lcs (P.pr (calA P acc l)) (k - P.fns.length) as)
theorem calA_ok {P : Prg} {acc : Nat → Option (Nat × (List Ar → Out))} (h : ∀ k m g, acc k = some (m, g) → ∀ l, m ≤ l → ∀ as, g as = .bad ∨ P.cal l k as = g as) : ∀ l k as, calA P acc l k as = .bad ∨ P.cal l k as = calA P acc l k as
  | 0, k, as => .inl (by unfold calA; rfl)
  | l + 1, k, as => by
    have ih := calA_ok h l
    unfold calA
    cases e : acc k with
    | some mg =>
      obtain ⟨m, g⟩ := mg
      dsimp only
      cases b : Nat.ble m (l + 1) with
      | false => exact .inl rfl
      | true => exact h k m g e (l + 1) (Nat.le_of_ble_eq_true b) as
    | none =>
      dsimp only
      unfold Prg.cal
      cases P.fns[k]? with
      | none => exact l_genC (p := P.pr (calA P acc l)) (q := P.pr (P.cal l)) ⟨ih, rfl, rfl⟩ P.gens P.lcs (k - P.fns.length) as
      | some f => exact l_runF (p := P.pr (calA P acc l)) (q := P.pr (P.cal l)) ⟨ih, rfl, rfl⟩ fuel f as
end Pv
end PvMono_
section PvSr_
set_option maxRecDepth 100000
/-! PvSr: sorting, plain. -/
namespace SrtO
open HT (lexLt)
theorem lex_asym : ∀ a b : List Int, lexLt a b = true → lexLt b a = false
  | [], [], h => rfl
  | [], _ :: _, _ => rfl
  | _ :: _, [], h => nomatch h
  | x :: a, y :: b, h => by
    rw [HT.lexLt_cons] at h ⊢
    by_cases e : x = y
    · rw [if_pos e] at h
      rw [if_pos e.symm]
      exact lex_asym a b h
    · rw [if_neg e] at h
      rw [if_neg fun z => e z.symm]
      have := of_decide_eq_true h
      exact decide_eq_false (by omega)
theorem lex_tr : ∀ x y z : List Int, lexLt y x = false → lexLt z y = false → lexLt z x = false
  | x, y, [], h1, h2 => by
    cases y with
    | nil => exact h1
    | cons b y => exact nomatch h2
  | [], y, c :: z, h1, h2 => rfl
  | a :: x, [], c :: z, h1, h2 => nomatch h1
  | a :: x, b :: y, c :: z, h1, h2 => by
    rw [HT.lexLt_cons] at h1 h2 ⊢
    by_cases e1 : b = a
    · rw [if_pos e1] at h1
      by_cases e2 : c = b
      · rw [if_pos e2] at h2
        rw [if_pos (e2.trans e1)]
        exact lex_tr x y z h1 h2
      · rw [if_neg e2] at h2
        have := of_decide_eq_false h2
        rw [if_neg (by omega)]
        exact decide_eq_false (by omega)
    · rw [if_neg e1] at h1
      have g1 := of_decide_eq_false h1
      by_cases e2 : c = b
      · rw [if_neg (by omega)]
        exact decide_eq_false (by omega)
      · rw [if_neg e2] at h2
        have g2 := of_decide_eq_false h2
        rw [if_neg (by omega)]
        exact decide_eq_false (by omega)
end SrtO
namespace Pv
open PySem
section
variable {α : Type} {lt : α → α → Bool}
theorem insB_perm (x : α) : ∀ l : List α, (insB lt x l).Perm (x :: l)
  | [] => List.Perm.refl _
  | y :: ys => by
    unfold insB
    split
    · exact ((insB_perm x ys).cons y).trans (List.Perm.swap x y ys)
    · exact List.Perm.refl _
theorem sortB_perm : ∀ l : List α, (sortB lt l).Perm l
  | [] => List.Perm.refl _
  | x :: xs => (insB_perm x (sortB lt xs)).trans ((sortB_perm xs).cons x)
theorem insB_srt (O : SrtO.Swo lt) (x : α) : ∀ l : List α, l.Pairwise (fun a b => lt b a = false) → (insB lt x l).Pairwise (fun a b => lt b a = false)
  | [], _ => List.pairwise_singleton _ _
  | y :: ys, h => by
    obtain ⟨h1, h2⟩ := List.pairwise_cons.mp h
    unfold insB
    split
    · rename_i c
      refine List.pairwise_cons.mpr ⟨fun z hz => ?_, insB_srt O x ys h2⟩
      rcases List.mem_cons.mp ((insB_perm x ys).mem_iff.mp hz) with rfl | hz
      · exact O.asym _ _ c
      · exact h1 z hz
    · rename_i c
      have c : lt y x = false := by cases e : lt y x with
        | false => rfl
        | true => exact absurd e c
      refine List.pairwise_cons.mpr ⟨fun z hz => ?_, h⟩
      rcases List.mem_cons.mp hz with rfl | hz
      · exact c
      · exact O.tr _ _ _ c (h1 z hz)
theorem sortB_srt (O : SrtO.Swo lt) : ∀ l : List α, (sortB lt l).Pairwise (fun a b => lt b a = false)
  | [] => List.Pairwise.nil
  | x :: xs => insB_srt O x _ (sortB_srt O xs)
theorem srt_eq (O : SrtO.Swo lt) (anti : ∀ a b, lt a b = false → lt b a = false → a = b) {l m : List α} (h : l.Pairwise (fun a b => lt b a = false)) (p : l.Perm m) : l = sortB lt m :=
  List.Perm.eq_of_pairwise (le := fun a b => lt b a = false) (fun a b _ _ h1 h2 => anti _ _ h2 h1) h (sortB_srt O m) (p.trans (sortB_perm m).symm)
end
theorem swoI : SrtO.Swo (fun a b : Int => decide (a < b)) := by
  refine ⟨fun x y h => ?_, fun x y z h1 h2 => ?_⟩
  · have := of_decide_eq_true h; exact decide_eq_false (by omega)
  · have a := of_decide_eq_false h1; have b := of_decide_eq_false h2; exact decide_eq_false (by omega)
theorem swoL : SrtO.Swo HT.lexLt := ⟨SrtO.lex_asym, SrtO.lex_tr⟩
theorem lex_anti : ∀ a b : List Int, HT.lexLt a b = false → HT.lexLt b a = false → a = b
  | [], [], _, _ => rfl
  | [], _ :: _, h, _ => nomatch h
  | _ :: _, [], _, h => nomatch h
  | x :: a, y :: b, h1, h2 => by
    rw [HT.lexLt_cons] at h1 h2
    by_cases e : x = y
    · subst e
      rw [if_pos rfl] at h1 h2
      rw [lex_anti a b h1 h2]
    · rw [if_neg e] at h1
      rw [if_neg fun z => e z.symm] at h2
      have g1 := of_decide_eq_false h1
      have g2 := of_decide_eq_false h2
      omega
theorem sortI_eq {l m : List Int} (h : l.Pairwise (· ≤ ·)) (p : l.Perm m) : l = sortB (fun a b => decide (a < b)) m :=
  srt_eq swoI (fun a b h1 h2 => by have a1 := of_decide_eq_false h1; have a2 := of_decide_eq_false h2; omega) (h.imp fun {a b} k => decide_eq_false (by omega)) p
theorem sortB_len {α : Type} (lt : α → α → Bool) (l : List α) : (sortB lt l).length = l.length := (sortB_perm l).length_eq
end Pv
end PvSr_
section Sx_
set_option maxRecDepth 1000000
set_option exponentiation.threshold 5000
/-! Sx: symbolic steps that are alike in every law. -/
namespace Pv.Sx
open Pv PySem

def dI (xs : List Int) : List D := xs.map D.int
theorem eq_int (a b : Int) : eqD (.int a) (.int b) = some (decide (a = b)) := by
  unfold eqD
  simp [D.py, PyData.depth, PyData.eqv]
  exact Bool.eq_iff_iff.mpr (by simp)

theorem mod_int (i : Int) : binD .Mod (.int i) (.int 2) = some (.dat (.int (i.fmod 2))) := rfl
theorem div_int {i j : Int} (h : divOk j = true) : binD .FloorDiv (.int i) (.int j) = some (.dat (.int (i.fdiv j))) := if_pos h
theorem mul_int {i j : Int} (h : mulOk i j = true) : binD .Mult (.int i) (.int j) = some (.dat (.int (i * j))) := if_pos h
theorem add_int (i j : Int) : binD .Add (.int i) (.int j) = some (.dat (.int (i + j))) := rfl
theorem sub_int (i j : Int) : binD .Sub (.int i) (.int j) = some (.dat (.int (i - j))) := rfl

theorem atI_nat {α : Type} (xs : List α) (k : Nat) (x : α) (h : xs[k]? = some x) : L2.atI xs (k : Int) = some x := by
  have hk : k < xs.length := (List.getElem?_eq_some_iff.mp h).1
  unfold L2.atI L2.ixN
  rw [if_pos (by omega), if_pos (by omega)]
  exact h
theorem ixN_nat (n k : Nat) (h : k < n) : L2.ixN n (k : Int) = some k := by
  unfold L2.ixN
  rw [if_pos (by omega), if_pos (by omega)]
  rfl

theorem rng_nat (m : Nat) : rngL 0 (m : Int) = (List.range' 0 m).map fun i => D.int (0 + (i : Nat)) := by
  unfold rngL
  rw [List.range_eq_range']
  rfl

def putR (rs : List R) (os : List (Option D)) : Nat → En → En
  | _, [] => []
  | j, x :: ρ => putS rs os j x :: putR rs os (j + 1) ρ
theorem putR_eq (rs : List R) (os : List (Option D)) : ∀ (ρ : En) (j : Nat), ρ.mapIdx (fun i => putS rs os (i + j)) = putR rs os j ρ
  | [], j => rfl
  | x :: ρ, j => by
    rw [List.mapIdx_cons, Nat.zero_add]
    have h := putR_eq rs os ρ (j + 1)
    have e : (fun i => putS rs os (i + 1 + j)) = fun i => putS rs os (i + (j + 1)) := by
      funext i
      rw [show i + 1 + j = i + (j + 1) by omega]
    rw [e, h]
    rfl
theorem putOut_R (rs : List R) (os : List (Option D)) (ρ : En) : putOut rs os ρ = putR rs os 0 ρ := putR_eq rs os ρ 0

theorem small_of {i : Int} (h : i.natAbs < 2 ^ 1000) : small i = true := decide_eq_true (Nat.lt_of_lt_of_le h (Nat.pow_le_pow_right (by decide) (by decide)))
theorem mul_of {i j : Int} (hi : i.natAbs < 2 ^ 1000) (hj : j.natAbs < 2 ^ 1000) : mulOk i j = true := by
  unfold mulOk
  rw [small_of hi, small_of hj]; rfl
theorem div_of {j : Int} (h0 : j ≠ 0) (hj : j.natAbs < 2 ^ 1000) : divOk j = true := by
  unfold divOk
  rw [decide_eq_true h0, small_of hj]; rfl
/-- 10^240 fits -/
theorem lt1000 {n : Nat} (h : n < 1000000000000000000000000000000000000000000000000000000000000000000000000000000000000000000000000000000000000000000000000000000000000000000000000000000000000000000000000000000000000000000000000000000000000000000000000000000000000000000000000) : n < 2 ^ 1000 := Nat.lt_of_lt_of_le h (Nat.le_of_ble_eq_true (by decide +kernel))

theorem mod_ok {i j : Int} (h : j ≠ 0) : binD .Mod (.int i) (.int j) = some (.dat (.int (i.fmod j))) := if_pos (decide_eq_true h)

abbrev dl (a b c : Int) : D := .lst [.int a, .int b, .int c]
abbrev rE (a b c n : Int) (s2 s3 s4 : Sl) : En := [.own true false (dl a b c), .dat (.int n), s2, s3, s4]
theorem at0 (x y z : D) : L2.atI [x, y, z] 0 = some x := rfl
theorem at1 (x y z : D) : L2.atI [x, y, z] 1 = some y := rfl
theorem at2 (x y z : D) : L2.atI [x, y, z] 2 = some z := rfl
theorem ix0 (x y z d : D) : setIxD (.lst [x, y, z]) (.int 0) d = some (.lst [d, y, z]) := rfl
theorem ix2 (x y z d : D) : setIxD (.lst [x, y, z]) (.int 2) d = some (.lst [x, y, d]) := rfl
theorem st2 (x0 x1 x3 x4 : Sl) (d : D) : store 2 (.dat d) [x0, x1, .emp, x3, x4] = some [x0, x1, .dat d, x3, x4] := rfl
theorem st3 (x0 x1 x2 x4 : Sl) (d : D) : store 3 (.dat d) [x0, x1, x2, .emp, x4] = some [x0, x1, x2, .dat d, x4] := rfl
theorem st4 (x0 x1 x2 x3 : Sl) (d : D) : store 4 (.dat d) [x0, x1, x2, x3, .emp] = some [x0, x1, x2, x3, .dat d] := rfl
theorem blt_int (i : Int) : bltD .int [.int i] = some (.dat (.int i)) := rfl
theorem fm_lo {a : Int} {m : Int} (h : 0 < m) : 0 ≤ a.fmod m := Int.fmod_nonneg_of_pos a h
theorem fm_hi {a : Int} {m : Int} (h : 0 < m) : a.fmod m < m := Int.fmod_lt_of_pos a h

def rollB : List Pv.S := [(.cond (.val (.cmp .Gt (.idx (.var 0) (.lit (.int 0))) (.lit (.int 0)))) [(.asg (.nm 2) (.bin .Mod (.blt .int [(.idx (.var 0) (.lit (.int 0)))]) (.var 1))), (.asg (.sub (.var 0) (.lit (.int 0))) (.bin .FloorDiv (.idx (.var 0) (.lit (.int 0))) (.var 1))), (.ret (.var 2))] []),
    (.asg (.sub (.var 0) (.lit (.int 2))) (.bin .Add (.idx (.var 0) (.lit (.int 2))) (.lit (.int 1)))),
    (.asg (.nm 3) (.bin .Mod (.blt .int [(.bin .Add (.idx (.var 0) (.lit (.int 1))) (.bin .Mult (.lit (.int 67867979)) (.idx (.var 0) (.lit (.int 2)))))]) (.lit (.int 2305843009213693723)))),
    (.asg (.nm 4) (.bin .Add (.bin .Mult (.bin .Mod (.blt .int [(.bin .Add (.bin .Mult (.var 3) (.var 3)) (.bin .Mult (.lit (.int 103)) (.idx (.var 0) (.lit (.int 2)))))]) (.lit (.int 2305843009213693549))) (.lit (.int 6700429))) (.var 3))),
    (.ret (.bin .Mod (.blt .int [(.bin .FloorDiv (.var 4) (.lit (.int 65543)))]) (.var 1)))]
theorem roll_hi (p : Pr) (a b c n : Int) (ha : 0 < a) (hn : 0 < n) (hn2 : n ≤ 100000000000000000000000000000000000000000000000000) : ∃ s2, exsL (Pv.ex p 60) rollB (rE a b c n .emp .emp .emp) = .rt (.dat (.int (a.fmod n))) (rE (a.fdiv n) b c n s2 .emp .emp) := by
  have e1 : decide (0 < a) = true := decide_eq_true ha
  have e2 := mod_ok (i := a) (j := n) (by omega)
  have e3 : binD .FloorDiv (.int a) (.int n) = some (.dat (.int (a.fdiv n))) := div_int (div_of (by omega) (lt1000 (by omega)))
  refine ⟨.dat (.int (a.fmod n)), ?_⟩
  unfold rollB
  simp only [exsL, Pv.ex, ev, evs, evT, two, peek, O.bind, O.fl, O.of, F.then, F.of, pk, pks, frz, getS, rdS, idxD, at0, ix0, blt_int, e2, e3, cmpD, e1, tru, st2, st3, st4, setGR, setG, setIx, outR, List.getD_cons_zero, List.getD_cons_succ, Option.map, List.set_cons_zero]
theorem roll_lo (p : Pr) (a b c n : Int) (ha : ¬ 0 < a) (hn : 0 < n) (hc : 0 ≤ c) (hc2 : c ≤ 1000) : ∃ (v : Int) (s3 s4 : Sl), exsL (Pv.ex p 60) rollB (rE a b c n .emp .emp .emp) = .rt (.dat (.int (v.fmod n))) (rE a b (c + 1) n .emp s3 s4) := by
  have e1 : decide (0 < a) = false := decide_eq_false ha
  have q1 := mod_ok (i := b + 67867979 * (c + 1)) (j := 2305843009213693723) (by omega)
  have l1 := fm_lo (a := b + 67867979 * (c + 1)) (m := 2305843009213693723) (by omega)
  have l2 := fm_hi (a := b + 67867979 * (c + 1)) (m := 2305843009213693723) (by omega)
  generalize hx : (b + 67867979 * (c + 1)).fmod 2305843009213693723 = x at q1 l1 l2
  have q2 := mod_ok (i := x * x + 103 * (c + 1)) (j := 2305843009213693549) (by omega)
  have l3 := fm_lo (a := x * x + 103 * (c + 1)) (m := 2305843009213693549) (by omega)
  have l4 := fm_hi (a := x * x + 103 * (c + 1)) (m := 2305843009213693549) (by omega)
  generalize hy : (x * x + 103 * (c + 1)).fmod 2305843009213693549 = y at q2 l3 l4
  have m1 : binD .Mult (.int 67867979) (.int (c + 1)) = some (.dat (.int (67867979 * (c + 1)))) := mul_int (mul_of (by exact lt1000 (by decide)) (lt1000 (by omega)))
  have m2 : binD .Mult (.int x) (.int x) = some (.dat (.int (x * x))) := mul_int (mul_of (lt1000 (by omega)) (lt1000 (by omega)))
  have m3 : binD .Mult (.int 103) (.int (c + 1)) = some (.dat (.int (103 * (c + 1)))) := mul_int (mul_of (by exact lt1000 (by decide)) (lt1000 (by omega)))
  have m4 : binD .Mult (.int y) (.int 6700429) = some (.dat (.int (y * 6700429))) := mul_int (mul_of (lt1000 (by omega)) (by exact lt1000 (by decide)))
  have m5 : binD .FloorDiv (.int (y * 6700429 + x)) (.int 65543) = some (.dat (.int ((y * 6700429 + x).fdiv 65543))) := div_int (div_of (by omega) (by exact lt1000 (by decide)))
  have m6 := mod_ok (i := (y * 6700429 + x).fdiv 65543) (j := n) (by omega)
  refine ⟨(y * 6700429 + x).fdiv 65543, .dat (.int x), .dat (.int (y * 6700429 + x)), ?_⟩
  unfold rollB
  simp only [exsL, Pv.ex, ev, evs, evT, two, peek, O.bind, O.fl, O.of, F.then, F.of, pk, pks, frz, getS, rdS, idxD, at0, at1, at2, ix2, blt_int, add_int, m1, q1, m2, m3, q2, m4, m5, m6, cmpD, e1, tru, st2, st3, st4, setGR, setG, setIx, outR, List.getD_cons_zero, List.getD_cons_succ, Option.map, List.set_cons_zero]

/-- dice that rolled at most k times -/
def GD (k : Nat) (d : D) : Prop := ∃ a b c : Int, d = dl a b c ∧ 0 ≤ c ∧ c ≤ k

/-- a def's answer from its body's run -/
theorem cal_rt {P : Prg} {l k : Nat} {f : Fn} {as : List Ar} {r : R} {ρ : En} (hf : P.fns[k]? = some f) (hl : as.length = f.args) (h : exsL (Pv.ex (P.pr (P.cal l)) 60) f.body (as.map arS ++ List.replicate (f.slots - f.args) .emp) = .rt r ρ) : P.cal (l + 1) k as = .ret r (outs as ρ) := by
  unfold Prg.cal
  rw [hf]
  show runF _ 60 f as = _
  unfold runF
  rw [if_pos hl, h]
theorem cal_nx {P : Prg} {l k : Nat} {f : Fn} {as : List Ar} {ρ : En} (hf : P.fns[k]? = some f) (hl : as.length = f.args) (h : exsL (Pv.ex (P.pr (P.cal l)) 60) f.body (as.map arS ++ List.replicate (f.slots - f.args) .emp) = .nx ρ) : P.cal (l + 1) k as = .ret (.dat .non) (outs as ρ) := by
  unfold Prg.cal
  rw [hf]
  show runF _ 60 f as = _
  unfold runF
  rw [if_pos hl, h]
theorem cal_exc {P : Prg} {l k c : Nat} {d : Option D} {f : Fn} {as : List Ar} {ρ : En} (hf : P.fns[k]? = some f) (hl : as.length = f.args) (h : exsL (Pv.ex (P.pr (P.cal l)) 60) f.body (as.map arS ++ List.replicate (f.slots - f.args) .emp) = .exc c d ρ) : P.cal (l + 1) k as = .exc c d (outs as ρ) := by
  unfold Prg.cal
  rw [hf]
  show runF _ 60 f as = _
  unfold runF
  rw [if_pos hl, h]
theorem cal_roll {P : Prg} {ir : Nat} (hf : P.fns[ir]? = some ⟨2, 5, [0], rollB⟩) (l : Nat) {k : Nat} {d : D} {n : Int} (hd : GD k d) (hk : k ≤ 1000) (hn : 0 < n) (hn2 : n ≤ 100000000000000000000000000000000000000000000000000) : ∃ v d', P.cal (l + 1) ir [.own false d, .dat (.int n)] = .ret (.dat (.int v)) [some d', none] ∧ 0 ≤ v ∧ v < n ∧ GD (k + 1) d' := by
  obtain ⟨a, b, c, rfl, hc, hc2⟩ := hd
  by_cases ha : 0 < a
  · obtain ⟨s2, h⟩ := roll_hi (P.pr (P.cal l)) a b c n ha hn hn2
    have e := cal_rt (as := [.own false (dl a b c), .dat (.int n)]) hf rfl h
    exact ⟨a.fmod n, dl (a.fdiv n) b c, e, fm_lo hn, fm_hi hn, a.fdiv n, b, c, rfl, hc, by omega⟩
  · obtain ⟨v, s3, s4, h⟩ := roll_lo (P.pr (P.cal l)) a b c n ha hn hc (by omega)
    have e := cal_rt (as := [.own false (dl a b c), .dat (.int n)]) hf rfl h
    exact ⟨v.fmod n, dl a b (c + 1), e, fm_lo hn, fm_hi hn, a, b, c + 1, rfl, by omega, by omega⟩

theorem c00 : List.contains [0] 0 = true := rfl
theorem c01 : List.contains [0] (0 + 1) = false := rfl
theorem blt_lenL (x : List D) : bltD .len [.lst x] = some (.dat (.int x.length)) := rfl
theorem callO_eq {p : Pr} {f : Nat} {rs qs : List R} {ρ ρ1 : En} {as : List Ar} {r : R} {out : List (Option D)} (h1 : args1 (p.ref f) 0 rs ρ = some (qs, ρ1)) (h2 : args2 qs ρ1 = some as) (h3 : noDup (ptrs qs) = true) (h4 : p.cal f as = .ret r out) : callO p f rs ρ = .ok r (putR qs out 0 ρ1) := by
  unfold callO
  rw [h1]
  dsimp only
  rw [h2, h3]
  dsimp only
  rw [h4]
  dsimp only
  rw [putOut_R]
theorem callO_exc {p : Pr} {f c : Nat} {d : Option D} {rs qs : List R} {ρ ρ1 : En} {as : List Ar} {out : List (Option D)} (h1 : args1 (p.ref f) 0 rs ρ = some (qs, ρ1)) (h2 : args2 qs ρ1 = some as) (h3 : noDup (ptrs qs) = true) (h4 : p.cal f as = .exc c d out) : callO p f rs ρ = .exc c d (putR qs out 0 ρ1) := by
  unfold callO
  rw [h1]
  dsimp only
  rw [h2, h3]
  dsimp only
  rw [h4]
  dsimp only
  rw [putOut_R]

def pickB (ir : Nat) : List Pv.S := [(.ret (.idx (.var 1) (.call ir [(.var 0), (.blt .len [(.var 1)])])))]
theorem cal_pick {P : Prg} {ir ip : Nat} (hf : P.fns[ir]? = some ⟨2, 5, [0], rollB⟩) (hg : P.fns[ip]? = some ⟨2, 2, [0], pickB ir⟩) (l : Nat) {k : Nat} {d : D} {menu : List D} (hd : GD k d) (hk : k ≤ 1000) (h0 : 0 < menu.length) (h1 : menu.length ≤ 1000) : ∃ x ∈ menu, ∃ d', P.cal (l + 2) ip [.own false d, .dat (.lst menu)] = .ret (.dat x) [some d', none] ∧ GD (k + 1) d' := by
  obtain ⟨v, d', hr, v0, v1, g⟩ := cal_roll hf l hd hk (n := (menu.length : Int)) (by omega) (by omega)
  have hv : v.toNat < menu.length := by omega
  have hat : L2.atI menu v = some menu[v.toNat] := by
    have := atI_nat menu v.toNat menu[v.toNat] (List.getElem?_eq_getElem hv)
    rwa [Int.toNat_of_nonneg v0] at this
  have href : (P.pr (P.cal (l + 1))).ref ir = [0] := by
    show ((P.fns[ir]?).map (·.ref)).getD [] = [0]
    rw [hf]; rfl
  refine ⟨menu[v.toNat], List.getElem_mem hv, d', ?_, g⟩
  have hc : callO (P.pr (P.cal (l + 1))) ir [.ptr 0, .dat (.int menu.length)] [.own true false d, .dat (.lst menu)] = .ok (.dat (.int v)) [.own true false d', .dat (.lst menu)] := callO_eq (qs := [.ptr 0, .dat (.int menu.length)]) (ρ1 := [.own true false d, .dat (.lst menu)]) (as := [.own false d, .dat (.int menu.length)]) (out := [some d', none]) (by rw [href]; rfl) rfl rfl hr
  refine cal_rt (ρ := [.own true false d', .dat (.lst menu)]) hg rfl ?_
  show exsL (Pv.ex (P.pr (P.cal (l + 1))) 60) (pickB ir) [.own true false d, .dat (.lst menu)] = _
  unfold pickB
  simp only [exsL, Pv.ex, ev, evs, two, O.bind, O.fl, O.of, F.then, pk, pks, getS, rdS, blt_lenL, hc, idxD, hat, outR, List.getD_cons_zero, List.getD_cons_succ, Option.map]

theorem p58 : binD .Pow (.int 10) (.int 58) = some (.dat (.int (10 ^ 58))) := rfl
theorem p60 : binD .Pow (.int 10) (.int 60) = some (.dat (.int (10 ^ 60))) := rfl
theorem p17 : binD .Pow (.int 10) (.int 17) = some (.dat (.int (10 ^ 17))) := rfl
theorem blt_abs (i : Int) : bltD .abs [.int i] = some (.dat (.int (if i < 0 then -i else i))) := rfl
theorem blt_max2 (i j : Int) : bltD .max2 [.int i, .int j] = some (.dat (.int (if j > i then j else i))) := rfl
theorem blt_bl (b : Bool) : bltD .int [.bl b] = some (.dat (.int (if b then 1 else 0))) := rfl
theorem blt_lenS (x : List Int) : bltD .len [.scr x] = some (.dat (.int x.length)) := rfl
theorem du2 (x0 x1 x3 : Sl) (d : D) : store 2 (.dat d) [x0, x1, .emp, x3] = some [x0, x1, .dat d, x3] := rfl
theorem du3 (x0 x1 x2 : Sl) (d : D) : store 3 (.dat d) [x0, x1, x2, .emp] = some [x0, x1, x2, .dat d] := rfl
theorem fits3 (x y z : D) : fits [x, y, z].length = true := rfl

def diceB : List Pv.S := [(.asg (.nm 2) (.ite (.val (.cmp .Lt (.var 1) (.blt .len [(.var 0)]))) (.blt .int [(.idx (.var 0) (.var 1))]) (.bin .Add (.bin .Mult (.lit (.int 83)) (.var 1)) (.lit (.int 61))))),
    (.asg (.nm 3) (.bin .Mod (.blt .max2 [(.lit (.int 0)), (.bin .Sub (.blt .abs [(.var 2)]) (.bin .Pow (.lit (.int 10)) (.lit (.int 17))))]) (.bin .Mult (.bin .Pow (.lit (.int 10)) (.lit (.int 58))) (.bin .Pow (.lit (.int 10)) (.lit (.int 60)))))),
    (.ret (.lst [(.var 3), (.bin .Add (.bin .Add (.bin .Add (.bin .Mult (.bin .Mod (.blt .abs [(.var 2)]) (.lit (.int 1152921504606846883))) (.lit (.int 67))) (.bin .Mult (.lit (.int 937)) (.var 1))) (.bin .Mult (.lit (.int 37)) (.blt .int [(.cmp .Lt (.var 2) (.lit (.int 0)))]))) (.lit (.int 29))), (.lit (.int 0))]))]
theorem cal_dice {P : Prg} {id : Nat} (hf : P.fns[id]? = some ⟨2, 4, [], diceB⟩) (l : Nat) (ns : List Int) (k : Nat) (hk : k ≤ 100) : ∃ d, P.cal (l + 1) id [.dat (.scr ns), .dat (.int k)] = .ret (.own d) [none, none] ∧ GD 0 d := by
  have m0 : binD .Mult (.int (10 ^ 58)) (.int (10 ^ 60)) = some (.dat (.int (10 ^ 58 * 10 ^ 60))) := mul_int (by decide +kernel)
  have mm := fun i => mod_ok (i := i) (j := 10 ^ 58 * 10 ^ 60) (by decide +kernel)
  have m83 : binD .Mult (.int 83) (.int k) = some (.dat (.int (83 * k))) := mul_int (mul_of (by exact lt1000 (by decide)) (lt1000 (by omega)))
  have m9 : binD .Mult (.int 937) (.int k) = some (.dat (.int (937 * k))) := mul_int (mul_of (by exact lt1000 (by decide)) (lt1000 (by omega)))
  have m37 : ∀ b : Bool, binD .Mult (.int 37) (.int (if b then 1 else 0)) = some (.dat (.int (37 * (if b then 1 else 0)))) := fun b => mul_int (by cases b <;> decide +kernel)
  have ma := fun i => mod_ok (i := i) (j := 1152921504606846883) (by omega)
  have m67 : ∀ i : Int, binD .Mult (.int (i.fmod 1152921504606846883)) (.int 67) = some (.dat (.int (i.fmod 1152921504606846883 * 67))) := fun i => by
    have l1 := fm_lo (a := i) (m := 1152921504606846883) (by omega)
    have l2 := fm_hi (a := i) (m := 1152921504606846883) (by omega)
    exact mul_int (mul_of (lt1000 (by omega)) (by exact lt1000 (by decide)))
  have hb : ∃ x ρ, exsL (Pv.ex (P.pr (P.cal l)) 60) diceB [.dat (.scr ns), .dat (.int k), .emp, .emp] = .rt (.own x) ρ ∧ GD 0 x := by
    unfold diceB
    by_cases h : k < ns.length
    · have e1 : decide ((k : Int) < (ns.length : Int)) = true := decide_eq_true (by omega)
      have hat : L2.atI ns (k : Int) = some ns[k] := atI_nat ns k ns[k] (List.getElem?_eq_getElem h)
      simp only [exsL, Pv.ex, ev, evT, evs, disp, two, peek, O.bind, O.fl, O.of, F.then, F.of, frz, pk, pks, getS, rdS, blt_lenS, blt_abs, blt_max2, blt_bl, blt_int, cmpD, tru, e1, idxD, hat, m0, mm, m9, m37, ma, m67, p58, p60, p17, add_int, sub_int, du2, du3, setGR, outR, fits3, if_true, List.getD_cons_zero, List.getD_cons_succ, Option.map]
      exact ⟨_, _, rfl, _, _, _, rfl, by omega, by omega⟩
    · have e1 : decide ((k : Int) < (ns.length : Int)) = false := decide_eq_false (by omega)
      simp only [exsL, Pv.ex, ev, evT, evs, disp, two, peek, O.bind, O.fl, O.of, F.then, F.of, frz, pk, pks, getS, rdS, blt_lenS, blt_abs, blt_max2, blt_bl, blt_int, cmpD, tru, e1, m83, m0, mm, m9, m37, ma, m67, p58, p60, p17, add_int, sub_int, du2, du3, setGR, outR, fits3, if_true, List.getD_cons_zero, List.getD_cons_succ, Option.map]
      exact ⟨_, _, rfl, _, _, _, rfl, by omega, by omega⟩
  obtain ⟨x, ρ, h1, h2⟩ := hb
  exact ⟨x, cal_rt (ρ := ρ) hf rfl h1, h2⟩

theorem ex_nx {p : Pr} {n : Nat} {s : Pv.S} {ss : List Pv.S} {ρ ρ' : En} (h : Pv.ex p n s ρ = .nx ρ') : exsL (Pv.ex p n) (s :: ss) ρ = exsL (Pv.ex p n) ss ρ' := by
  show (Pv.ex p n s ρ).then _ = _
  rw [h]
  rfl
theorem ex_rt {p : Pr} {n : Nat} {s : Pv.S} {ss : List Pv.S} {r : R} {ρ ρ' : En} (h : Pv.ex p n s ρ = .rt r ρ') : exsL (Pv.ex p n) (s :: ss) ρ = .rt r ρ' := by
  show (Pv.ex p n s ρ).then _ = _
  rw [h]
  rfl

theorem look_dat (j : Nat) : ∀ (rs : List R) (os : List (Option D)), ptrs rs = [] → lookOut j rs os = none
  | [], os, _ => by unfold lookOut; rfl
  | r :: rs, [], _ => by cases r <;> (unfold lookOut; rfl)
  | r :: rs, o :: os, h => by
    cases r with
    | ptr i => unfold ptrs at h; exact (List.cons_ne_nil _ _ h).elim
    | dat d => unfold ptrs at h; unfold lookOut; exact look_dat j rs os h
    | own d => unfold ptrs at h; unfold lookOut; exact look_dat j rs os h
theorem putR_dat {rs : List R} {os : List (Option D)} (h : ptrs rs = []) : ∀ (ρ : En) (j : Nat), putR rs os j ρ = ρ
  | [], j => rfl
  | x :: ρ, j => by
    show putS rs os j x :: putR rs os (j + 1) ρ = _
    rw [putR_dat h ρ (j + 1)]
    congr 1
    unfold putS
    cases x with
    | own b l d => dsimp only; rw [look_dat j rs os h]; rfl
    | _ => rfl

theorem args1_dat (ref : List Nat) : ∀ (vs : List D) (k : Nat) (ρ : En), args1 ref k (vs.map R.dat) ρ = some (vs.map R.dat, ρ)
  | [], k, ρ => rfl
  | v :: vs, k, ρ => by
    show args1 ref k (.dat v :: vs.map R.dat) ρ = _
    unfold args1
    cases ref.contains k with
    | true => dsimp only; rw [args1_dat ref vs (k + 1) ρ]; rfl
    | false => dsimp only [frz, Option.bind]; rw [args1_dat ref vs (k + 1) ρ]; rfl
theorem args2_dat : ∀ (vs : List D) (ρ : En), args2 (vs.map R.dat) ρ = some (vs.map Ar.dat)
  | [], ρ => rfl
  | v :: vs, ρ => by
    show args2 (.dat v :: vs.map R.dat) ρ = _
    unfold args2
    rw [args2_dat vs ρ]
    rfl
theorem ptrs_dat : ∀ (vs : List D), ptrs (vs.map R.dat) = []
  | [] => rfl
  | v :: vs => ptrs_dat vs
/-- a call whose operands are data -/
theorem callO_dat {p : Pr} {f : Nat} {vs : List D} {r : R} {out : List (Option D)} {ρ : En} (h : p.cal f (vs.map Ar.dat) = .ret r out) : callO p f (vs.map R.dat) ρ = .ok r ρ := by
  rw [callO_eq (args1_dat _ vs 0 ρ) (args2_dat vs ρ) (by rw [ptrs_dat]; rfl) h, putR_dat (ptrs_dat vs)]
theorem callO_datX {p : Pr} {f c : Nat} {d : Option D} {vs : List D} {out : List (Option D)} {ρ : En} (h : p.cal f (vs.map Ar.dat) = .exc c d out) : callO p f (vs.map R.dat) ρ = .exc c d ρ := by
  rw [callO_exc (args1_dat _ vs 0 ρ) (args2_dat vs ρ) (by rw [ptrs_dat]; rfl) h, putR_dat (ptrs_dat vs)]
theorem c1 {p : Pr} {f : Nat} {a : D} {r : R} {out : List (Option D)} {ρ : En} (h : p.cal f [.dat a] = .ret r out) : callO p f [.dat a] ρ = .ok r ρ := callO_dat (vs := [a]) h
theorem c2 {p : Pr} {f : Nat} {a b : D} {r : R} {out : List (Option D)} {ρ : En} (h : p.cal f [.dat a, .dat b] = .ret r out) : callO p f [.dat a, .dat b] ρ = .ok r ρ := callO_dat (vs := [a, b]) h
theorem c3 {p : Pr} {f : Nat} {a b c : D} {r : R} {out : List (Option D)} {ρ : En} (h : p.cal f [.dat a, .dat b, .dat c] = .ret r out) : callO p f [.dat a, .dat b, .dat c] ρ = .ok r ρ := callO_dat (vs := [a, b, c]) h
theorem c1X {p : Pr} {f c : Nat} {d : Option D} {a : D} {out : List (Option D)} {ρ : En} (h : p.cal f [.dat a] = .exc c d out) : callO p f [.dat a] ρ = .exc c d ρ := callO_datX (vs := [a]) h
theorem c2X {p : Pr} {f c : Nat} {d : Option D} {a b : D} {out : List (Option D)} {ρ : En} (h : p.cal f [.dat a, .dat b] = .exc c d out) : callO p f [.dat a, .dat b] ρ = .exc c d ρ := callO_datX (vs := [a, b]) h
theorem c3X {p : Pr} {f c' : Nat} {d : Option D} {a b c : D} {out : List (Option D)} {ρ : En} (h : p.cal f [.dat a, .dat b, .dat c] = .exc c' d out) : callO p f [.dat a, .dat b, .dat c] ρ = .exc c' d ρ := callO_datX (vs := [a, b, c]) h

theorem q1 {P : Prg} {l f : Nat} {a : D} {r : R} {out : List (Option D)} {ρ : En} (h : P.cal l f [.dat a] = .ret r out) : callO (P.pr (P.cal l)) f [.dat a] ρ = .ok r ρ := c1 (p := P.pr (P.cal l)) h
theorem q1X {P : Prg} {l f x : Nat} {d : Option D} {a : D} {out : List (Option D)} {ρ : En} (h : P.cal l f [.dat a] = .exc x d out) : callO (P.pr (P.cal l)) f [.dat a] ρ = .exc x d ρ := c1X (p := P.pr (P.cal l)) h
theorem q2 {P : Prg} {l f : Nat} {a b : D} {r : R} {out : List (Option D)} {ρ : En} (h : P.cal l f [.dat a, .dat b] = .ret r out) : callO (P.pr (P.cal l)) f [.dat a, .dat b] ρ = .ok r ρ := c2 (p := P.pr (P.cal l)) h
theorem q2X {P : Prg} {l f x : Nat} {d : Option D} {a b : D} {out : List (Option D)} {ρ : En} (h : P.cal l f [.dat a, .dat b] = .exc x d out) : callO (P.pr (P.cal l)) f [.dat a, .dat b] ρ = .exc x d ρ := c2X (p := P.pr (P.cal l)) h
theorem q3 {P : Prg} {l f : Nat} {a b c : D} {r : R} {out : List (Option D)} {ρ : En} (h : P.cal l f [.dat a, .dat b, .dat c] = .ret r out) : callO (P.pr (P.cal l)) f [.dat a, .dat b, .dat c] ρ = .ok r ρ := c3 (p := P.pr (P.cal l)) h
theorem q3X {P : Prg} {l f x : Nat} {d : Option D} {a b c : D} {out : List (Option D)} {ρ : En} (h : P.cal l f [.dat a, .dat b, .dat c] = .exc x d out) : callO (P.pr (P.cal l)) f [.dat a, .dat b, .dat c] ρ = .exc x d ρ := c3X (p := P.pr (P.cal l)) h
theorem ret_cmp {p : Pr} {n : Nat} {op : CmpOp} {a b : C} {ra rb : R} {ρ ρ1 ρ2 : En} {x y : D} {k : Bool} (h1 : ev p n a ρ = .ok ra ρ1) (h2 : ev p n b ρ1 = .ok rb ρ2) (h3 : pk ra ρ2 = some x) (h4 : pk rb ρ2 = some y) (h5 : cmpD op x y = some k) : Pv.ex p (n + 2) (.ret (.cmp op a b)) ρ = .rt (.dat (.bl k)) ρ2 := by
  have e : ev p (n + 1) (.cmp op a b) ρ = .ok (.dat (.bl k)) ρ2 := by
    show (ev p n a ρ).bind (fun ra ρ1 => (ev p n b ρ1).bind fun rb ρ2 => match pk ra ρ2, pk rb ρ2 with
      | some x, some y => O.of ((cmpD op x y).map fun k => R.dat (.bl k)) ρ2
      | _, _ => .bad) = _
    rw [h1]
    show (ev p n b ρ1).bind _ = _
    rw [h2]
    show (match pk ra ρ2, pk rb ρ2 with
      | some x, some y => O.of ((cmpD op x y).map fun k => R.dat (.bl k)) ρ2
      | _, _ => .bad) = _
    rw [h3, h4]
    dsimp only
    rw [h5]
    rfl
  show (ev p (n + 1) (.cmp op a b) ρ).fl _ = _
  rw [e]
  rfl

theorem eq_self {d : D} {x : PyData} (h : d.py = some x) (hd : Nat.ble x.depth 60 = true) (hp : PyData.plain x = true) : eqD d d = some true := by
  unfold eqD
  rw [h]
  dsimp only
  rw [if_pos (decide_eq_true (Nat.le_of_ble_eq_true hd)), PySem.SeqAt.eqv_refl_plain x hp]

end Pv.Sx
end Sx_
section Sy_
set_option maxRecDepth 1000000
set_option exponentiation.threshold 5000
/-! Sy: draws within an expression, the dice in slot 0. -/
namespace Pv.Sx
open Pv PySem
theorem putR0 {v d' : D} : ∀ (ρ : En) (j : Nat), putR [.ptr 0, .dat v] [some d', none] (j + 1) ρ = ρ
  | [], j => rfl
  | x :: ρ, j => by
    show putS [.ptr 0, .dat v] [some d', none] (j + 1) x :: putR [.ptr 0, .dat v] [some d', none] (j + 1 + 1) ρ = _
    rw [putR0 ρ (j + 1)]
    cases x <;> rfl
theorem putR0' {d' : D} : ∀ (ρ : En) (j : Nat), putR [.ptr 0] [some d'] (j + 1) ρ = ρ
  | [], j => rfl
  | x :: ρ, j => by
    show putS [.ptr 0] [some d'] (j + 1) x :: putR [.ptr 0] [some d'] (j + 1 + 1) ρ = _
    rw [putR0' ρ (j + 1)]
    cases x <;> rfl
/-- a def that draws: dice and one operand -/
theorem ev_draw {P : Prg} {l f n : Nat} {d d' v : D} {r : R} {es : List C} {rv : R} {ρ ρ1 : En} {d0 : D} (href : (P.pr (P.cal l)).ref f = [0]) (hrv : rv = .dat v ∨ rv = .own v) (he : evs (ev (P.pr (P.cal l)) n) es (.own true false d0 :: ρ) = .ok [.ptr 0, rv] (.own true false d :: ρ1)) (h : P.cal l f [.own false d, .dat v] = .ret r [some d', none]) :
    ev (P.pr (P.cal l)) (n + 1) (.call f es) (.own true false d0 :: ρ) = .ok r (.own true false d' :: ρ1) := by
  have hc : callO (P.pr (P.cal l)) f [.ptr 0, rv] (.own true false d :: ρ1) = .ok r (putR [.ptr 0, .dat v] [some d', none] 0 (.own true false d :: ρ1)) :=
    callO_eq (qs := [.ptr 0, .dat v]) (ρ1 := .own true false d :: ρ1) (as := [.own false d, .dat v]) (by rw [href]; rcases hrv with rfl | rfl <;> rfl) rfl rfl h
  show (evs (ev (P.pr (P.cal l)) n) es (.own true false d0 :: ρ)).bind (fun rs ρ1 => callO (P.pr (P.cal l)) f rs ρ1) = _
  rw [he]
  show callO (P.pr (P.cal l)) f [.ptr 0, rv] (.own true false d :: ρ1) = _
  rw [hc]
  show O.ok r (.own true false d' :: putR [.ptr 0, .dat v] [some d', none] 1 ρ1) = _
  rw [putR0 ρ1 0]
theorem ref_of {P : Prg} {l f : Nat} {fn : Fn} (h : P.fns[f]? = some fn) : (P.pr (P.cal l)).ref f = fn.ref := by
  show ((P.fns[f]?).map (·.ref)).getD [] = fn.ref
  rw [h]; rfl
section
variable {P : Prg} {ir ip : Nat} (hf : P.fns[ir]? = some ⟨2, 5, [0], rollB⟩) (hg : P.fns[ip]? = some ⟨2, 2, [0], pickB ir⟩)
include hf
theorem ev_roll {l n k : Nat} {d d0 : D} {m : Int} {es : List C} {ρ ρ1 : En} (hd : GD k d) (hk : k ≤ 1000) (h0 : 0 < m) (h1 : m ≤ 100000000000000000000000000000000000000000000000000) (he : evs (ev (P.pr (P.cal (l + 1))) n) es (.own true false d0 :: ρ) = .ok [.ptr 0, .dat (.int m)] (.own true false d :: ρ1)) :
    ∃ v d', ev (P.pr (P.cal (l + 1))) (n + 1) (.call ir es) (.own true false d0 :: ρ) = .ok (.dat (.int v)) (.own true false d' :: ρ1) ∧ 0 ≤ v ∧ v < m ∧ GD (k + 1) d' := by
  obtain ⟨v, d', h, v0, v1, g⟩ := cal_roll hf l hd hk h0 h1
  exact ⟨v, d', ev_draw (ref_of hf) (.inl rfl) he h, v0, v1, g⟩
include hg
theorem ev_pick {l n k : Nat} {d d0 : D} {M : List D} {rv : R} {es : List C} {ρ ρ1 : En} (hd : GD k d) (hk : k ≤ 1000) (h0 : 0 < M.length) (h1 : M.length ≤ 1000) (hrv : rv = .dat (.lst M) ∨ rv = .own (.lst M)) (he : evs (ev (P.pr (P.cal (l + 2))) n) es (.own true false d0 :: ρ) = .ok [.ptr 0, rv] (.own true false d :: ρ1)) :
    ∃ x ∈ M, ∃ d', ev (P.pr (P.cal (l + 2))) (n + 1) (.call ip es) (.own true false d0 :: ρ) = .ok (.dat x) (.own true false d' :: ρ1) ∧ GD (k + 1) d' := by
  obtain ⟨x, hx, d', h, g⟩ := cal_pick hf hg l hd hk h0 h1
  exact ⟨x, hx, d', ev_draw (ref_of hg) hrv he h, g⟩
omit hg
def nearB (ir : Nat) : List Pv.S := [(.ret (.bin .Sub (.call ir [(.var 0), (.bin .Add (.bin .Mult (.lit (.int 2)) (.var 1)) (.lit (.int 1)))]) (.var 1)))]
theorem cal_near {iN : Nat} (hn : P.fns[iN]? = some ⟨2, 2, [0], nearB ir⟩) (l : Nat) {k : Nat} {d : D} {m : Int} (hd : GD k d) (hk : k ≤ 1000) (h0 : 0 ≤ m) (h1 : m ≤ 10000000000000000000000000000000000000000000000000) : ∃ v d', P.cal (l + 2) iN [.own false d, .dat (.int m)] = .ret (.dat (.int v)) [some d', none] ∧ -m ≤ v ∧ v ≤ m ∧ GD (k + 1) d' := by
  have em : binD .Mult (.int 2) (.int m) = some (.dat (.int (2 * m))) := mul_int (mul_of (by exact lt1000 (by decide)) (lt1000 (by omega)))
  have he : evs (ev (P.pr (P.cal (l + 1))) 57) [(.var 0), (.bin .Add (.bin .Mult (.lit (.int 2)) (.var 1)) (.lit (.int 1)))] [.own true false d, .dat (.int m)] = .ok [.ptr 0, .dat (.int (2 * m + 1))] [.own true false d, .dat (.int m)] := by
    simp only [evs, ev, two, O.bind, O.of, pk, getS, rdS, em, add_int, List.getD_cons_zero, List.getD_cons_succ]
  obtain ⟨v, d', h, v0, v1, g⟩ := ev_roll hf (l := l) hd hk (m := 2 * m + 1) (by omega) (by omega) he
  refine ⟨v - m, d', ?_, by omega, by omega, g⟩
  refine cal_rt (ρ := [.own true false d', .dat (.int m)]) hn rfl ?_
  show exsL (Pv.ex (P.pr (P.cal (l + 1))) 60) (nearB ir) [.own true false d, .dat (.int m)] = _
  unfold nearB
  show (O.fl (O.bind (ev (P.pr (P.cal (l + 1))) 58 (.call ir [(.var 0), (.bin .Add (.bin .Mult (.lit (.int 2)) (.var 1)) (.lit (.int 1)))]) [.own true false d, .dat (.int m)]) _) _).then _ = _
  rw [h]
  rfl
theorem ev_near {iN : Nat} (hn : P.fns[iN]? = some ⟨2, 2, [0], nearB ir⟩) {l n k : Nat} {d d0 : D} {m : Int} {es : List C} {ρ ρ1 : En} (hd : GD k d) (hk : k ≤ 1000) (h0 : 0 ≤ m) (h1 : m ≤ 10000000000000000000000000000000000000000000000000) (he : evs (ev (P.pr (P.cal (l + 2))) n) es (.own true false d0 :: ρ) = .ok [.ptr 0, .dat (.int m)] (.own true false d :: ρ1)) :
    ∃ v d', ev (P.pr (P.cal (l + 2))) (n + 1) (.call iN es) (.own true false d0 :: ρ) = .ok (.dat (.int v)) (.own true false d' :: ρ1) ∧ -m ≤ v ∧ v ≤ m ∧ GD (k + 1) d' := by
  obtain ⟨v, d', h, v0, v1, g⟩ := cal_near hf hn l hd hk h0 h1
  exact ⟨v, d', ev_draw (ref_of hn) (.inl rfl) he h, v0, v1, g⟩
end
/-- a def that draws, with the dice alone -/
theorem ev_draw1 {P : Prg} {l f n : Nat} {d d' : D} {r : R} {es : List C} {ρ ρ1 : En} {d0 : D} (href : (P.pr (P.cal l)).ref f = [0]) (he : evs (ev (P.pr (P.cal l)) n) es (.own true false d0 :: ρ) = .ok [.ptr 0] (.own true false d :: ρ1)) (h : P.cal l f [.own false d] = .ret r [some d']) :
    ev (P.pr (P.cal l)) (n + 1) (.call f es) (.own true false d0 :: ρ) = .ok r (.own true false d' :: ρ1) := by
  have hc : callO (P.pr (P.cal l)) f [.ptr 0] (.own true false d :: ρ1) = .ok r (putR [.ptr 0] [some d'] 0 (.own true false d :: ρ1)) :=
    callO_eq (qs := [.ptr 0]) (ρ1 := .own true false d :: ρ1) (as := [.own false d]) (by rw [href]; rfl) rfl rfl h
  show (evs (ev (P.pr (P.cal l)) n) es (.own true false d0 :: ρ)).bind (fun rs ρ1 => callO (P.pr (P.cal l)) f rs ρ1) = _
  rw [he]
  show callO (P.pr (P.cal l)) f [.ptr 0] (.own true false d :: ρ1) = _
  rw [hc]
  show O.ok r (.own true false d' :: putR [.ptr 0] [some d'] 1 ρ1) = _
  rw [putR0' ρ1 0]
end Pv.Sx
end Sy_
section Sz_
set_option maxRecDepth 100000
/-! Sz: steps put together. -/
namespace Pv.Sx
open Pv PySem
section
variable {p : Pr} {n : Nat}
theorem evT_val {c : C} {r : R} {d : D} {b : Bool} {ρ ρ1 : En} (h : ev p n c ρ = .ok r ρ1) (hp : pk r ρ1 = some d) (ht : tru d = some b) : evT p (n + 1) (.val c) ρ = .ok b ρ1 := by
  simp only [evT, peek, h, O.bind, O.of, hp, ht]
theorem evT_bl {c : C} {b : Bool} {ρ ρ1 : En} (h : ev p n c ρ = .ok (.dat (.bl b)) ρ1) : evT p (n + 1) (.val c) ρ = .ok b ρ1 := evT_val h rfl rfl
theorem evT_not {t : T} {b : Bool} {ρ ρ1 : En} (h : evT p n t ρ = .ok b ρ1) : evT p (n + 1) (.not t) ρ = .ok (!b) ρ1 := by
  simp only [evT, h, O.bind]
theorem evT_orf {t u : T} {b : Bool} {ρ ρ1 ρ2 : En} (h : evT p n t ρ = .ok false ρ1) (h2 : evT p n u ρ1 = .ok b ρ2) : evT p (n + 1) (.or t u) ρ = .ok b ρ2 := by
  simp only [evT, h, h2, O.bind]
theorem evT_andt {t u : T} {b : Bool} {ρ ρ1 ρ2 : En} (h : evT p n t ρ = .ok true ρ1) (h2 : evT p n u ρ1 = .ok b ρ2) : evT p (n + 1) (.and t u) ρ = .ok b ρ2 := by
  simp only [evT, h, h2, O.bind]
theorem evT_andf {t u : T} {ρ ρ1 : En} (h : evT p n t ρ = .ok false ρ1) : evT p (n + 1) (.and t u) ρ = .ok false ρ1 := by
  simp only [evT, h, O.bind]
theorem ex_condf {t : T} {a b : List Pv.S} {ρ ρ1 : En} (h : evT p n t ρ = .ok false ρ1) : Pv.ex p (n + 1) (.cond t a b) ρ = exsL (Pv.ex p n) b ρ1 := by
  simp only [Pv.ex, h, O.fl]
theorem ex_condt {t : T} {a b : List Pv.S} {ρ ρ1 : En} (h : evT p n t ρ = .ok true ρ1) : Pv.ex p (n + 1) (.cond t a b) ρ = exsL (Pv.ex p n) a ρ1 := by
  simp only [Pv.ex, h, O.fl]
theorem ex_if {t : T} {a : List Pv.S} {ρ ρ1 : En} (h : evT p n t ρ = .ok false ρ1) : Pv.ex p (n + 1) (.cond t a []) ρ = .nx ρ1 := by
  rw [ex_condf h]; rfl
theorem ex_asg {i : Nat} {e : C} {r : R} {ρ ρ1 ρ2 : En} (h : ev p n e ρ = .ok r ρ1) (hs : store i r ρ1 = some ρ2) : Pv.ex p (n + 1) (.asg (.nm i) e) ρ = .nx ρ2 := by
  simp only [Pv.ex, h, O.fl, setGR, hs, F.of]
theorem ex_exp {e : C} {r : R} {ρ ρ1 : En} (h : ev p n e ρ = .ok r ρ1) : Pv.ex p (n + 1) (.exp e) ρ = .nx ρ1 := by
  simp only [Pv.ex, h, O.fl]
theorem ex_ret {e : C} {r q : R} {ρ ρ1 : En} (h : ev p n e ρ = .ok r ρ1) (ho : outR r ρ1 = some q) : Pv.ex p (n + 1) (.ret e) ρ = .rt q ρ1 := by
  simp only [Pv.ex, h, O.fl, ho]
theorem ev_blt1 {f : Bf} {a : C} {r q : R} {d : D} {ρ ρ1 : En} (h : ev p n a ρ = .ok r ρ1) (hp : pk r ρ1 = some d) (hb : bltD f [d] = some q) : ev p (n + 1) (.blt f [a]) ρ = .ok q ρ1 := by
  simp only [ev, evs, h, O.bind, pks, hp, hb, O.of]
theorem ev_call {f : Nat} {es : List C} {rs : List R} {r : R} {ρ ρ1 ρ2 : En} (h : evs (ev p n) es ρ = .ok rs ρ1) (hc : callO p f rs ρ1 = .ok r ρ2) : ev p (n + 1) (.call f es) ρ = .ok r ρ2 := by
  simp only [ev, h, O.bind, hc]
theorem evs_1 {a : C} {r : R} {ρ ρ1 : En} (h : ev p n a ρ = .ok r ρ1) : evs (ev p n) [a] ρ = .ok [r] ρ1 := by
  simp only [evs, h, O.bind]
theorem evs_2 {a b : C} {r q : R} {ρ ρ1 ρ2 : En} (h : ev p n a ρ = .ok r ρ1) (h2 : ev p n b ρ1 = .ok q ρ2) : evs (ev p n) [a, b] ρ = .ok [r, q] ρ2 := by
  simp only [evs, h, h2, O.bind]
theorem evs_3 {a b c : C} {r q s : R} {ρ ρ1 ρ2 ρ3 : En} (h : ev p n a ρ = .ok r ρ1) (h2 : ev p n b ρ1 = .ok q ρ2) (h3 : ev p n c ρ2 = .ok s ρ3) : evs (ev p n) [a, b, c] ρ = .ok [r, q, s] ρ3 := by
  simp only [evs, h, h2, h3, O.bind]
theorem ev_cmp {op : CmpOp} {a b : C} {ra rb : R} {ρ ρ1 ρ2 : En} {x y : D} {k : Bool} (h1 : ev p n a ρ = .ok ra ρ1) (h2 : ev p n b ρ1 = .ok rb ρ2) (h3 : pk ra ρ2 = some x) (h4 : pk rb ρ2 = some y) (h5 : cmpD op x y = some k) : ev p (n + 1) (.cmp op a b) ρ = .ok (.dat (.bl k)) ρ2 := by
  simp only [ev, two, h1, h2, h3, h4, h5, O.bind, O.of, Option.map]
theorem ev_bin {op : Operator} {a b : C} {ra rb q : R} {ρ ρ1 ρ2 : En} {x y : D} (h1 : ev p n a ρ = .ok ra ρ1) (h2 : ev p n b ρ1 = .ok rb ρ2) (h3 : pk ra ρ2 = some x) (h4 : pk rb ρ2 = some y) (h5 : binD op x y = some q) : ev p (n + 1) (.bin op a b) ρ = .ok q ρ2 := by
  simp only [ev, two, h1, h2, h3, h4, h5, O.bind, O.of]
theorem ev_andt {a b : C} {r q : R} {ρ ρ1 ρ2 : En} (h1 : ev p n a ρ = .ok r ρ1) (hp : pk r ρ1 = some (.bl true)) (h2 : ev p n b ρ1 = .ok q ρ2) : ev p (n + 1) (.andv a b) ρ = .ok q ρ2 := by
  simp only [ev, peek, h1, h2, hp, O.bind, O.of]
theorem ev_neg {a : C} {r : R} {i : Int} {ρ ρ1 : En} (h1 : ev p n a ρ = .ok r ρ1) (hp : pk r ρ1 = some (.int i)) : ev p (n + 1) (.neg a) ρ = .ok (.dat (.int (-i))) ρ1 := by
  simp only [ev, peek, h1, hp, O.bind, O.of]
theorem ev_idx {a b : C} {ra rb : R} {ρ ρ1 ρ2 : En} {x y q : D} (h1 : ev p n a ρ = .ok ra ρ1) (h2 : ev p n b ρ1 = .ok rb ρ2) (h3 : pk ra ρ2 = some x) (h4 : pk rb ρ2 = some y) (h5 : idxD x y = some q) : ev p (n + 1) (.idx a b) ρ = .ok (.dat q) ρ2 := by
  simp only [ev, two, h1, h2, h3, h4, h5, O.bind, O.of, Option.map]
theorem peek_of {a : C} {r : R} {d : D} {ρ ρ1 : En} (h : ev p n a ρ = .ok r ρ1) (hp : pk r ρ1 = some d) : peek (ev p n) a ρ = .ok d ρ1 := by
  simp only [peek, h, O.bind, hp, O.of]
/-! ### comprehensions -/
theorem turns_map {i : Nat} {c : C} {g : D → D} {E : Sl → En} (h1 : ∀ s s', (E s).set i s' = E s') (h2 : ∀ s, getS (E s) i = s) (h3 : ∀ s, i < (E s).length) : ∀ (xs acc : List D) (s : Sl), plainS s = true → (∀ x ∈ xs, ev p n c (E (.dat x)) = .ok (.dat (g x)) (E (.dat x))) → acc.length + xs.length ≤ 1000 → ∃ s', turns (ev p n) (evT p n) (.nm i) none c [i] xs acc (E s) = .ok (acc ++ xs.map g) (E s')
  | [], acc, s, hs, h, hl => by
    refine ⟨s, ?_⟩
    unfold turns
    simp only [List.all_cons, List.all_nil, Bool.and_true, h2, hs, List.map_nil, List.append_nil]
  | x :: xs, acc, s, hs, h, hl => by
    rw [List.length_cons] at hl
    obtain ⟨s', ih⟩ := turns_map (c := c) (g := g) h1 h2 h3 xs (acc ++ [g x]) (.dat x) rfl (fun y hy => h y (List.mem_cons_of_mem _ hy)) (by rw [List.length_append]; show acc.length + 1 + xs.length ≤ 1000; omega)
    refine ⟨s', ?_⟩
    have hx := h x (List.mem_cons_self ..)
    have hf : fits (acc.length + 1) = true := decide_eq_true (by omega)
    have st : store i (.dat x) (E .emp) = some (E (.dat x)) := by
      unfold store
      rw [decide_eq_true (h3 _), h2]
      show some ((E .emp).set i (.dat x)) = _
      rw [h1]
    unfold turns
    simp only [List.all_cons, List.all_nil, Bool.and_true, h2, hs, wipeS, h1, setG, st, O.of, O.bind, hold, hx, frz, hf]
    rw [ih, List.map_cons, List.append_assoc]
    rfl
theorem comp_map {i : Nat} {c : C} {it : I} {g : D → D} {E : Sl → En} {ρ0 : En} {xs : List D} {ls : List Nat} {s : Sl} (h1 : ∀ s s', (E s).set i s' = E s') (h2 : ∀ s, getS (E s) i = s) (h3 : ∀ s, i < (E s).length) (hi : evI (ev p n) it ρ0 = .ok (xs, ls) (E s)) (hs : plainS s = true) (h : ∀ x ∈ xs, ev p n c (E (.dat x)) = .ok (.dat (g x)) (E (.dat x))) (hl : xs.length ≤ 1000) : ev p (n + 1) (.comp c (.nm i) it none [i]) ρ0 = .ok (.own (.lst (xs.map g))) (unlend ls (E s)) := by
  obtain ⟨s', e⟩ := turns_map (p := p) (n := n) (c := c) (g := g) h1 h2 h3 xs [] s hs h (by simpa using hl)
  show O.bind (evI (ev p n) it ρ0) (fun w ρ1 => wipeT ρ1 [i] w.2 (turns (ev p n) (evT p n) (.nm i) none c [i] w.1 [] ρ1)) = _
  rw [hi]
  show wipeT (E s) [i] ls (turns (ev p n) (evT p n) (.nm i) none c [i] xs [] (E s)) = _
  rw [e]
  show O.ok _ (unlend ls ((E s').set i (getS (E s) i))) = _
  rw [h1, h2]
  rfl
/-- draws: the dice in slot 0 -/
theorem turns_draw {i : Nat} {c : C} {Q : D → Prop} {E : D → Sl → En} {m : Nat} (h1 : ∀ d s s', (E d s).set i s' = E d s') (h2 : ∀ d s, getS (E d s) i = s) (h3 : ∀ d s, i < (E d s).length) (h : ∀ k d x, k < m → GD k d → ∃ v d', ev p n c (E d (.dat x)) = .ok (.dat v) (E d' (.dat x)) ∧ Q v ∧ GD (k + 1) d') : ∀ (xs acc : List D) (k : Nat) (d : D) (s : Sl), plainS s = true → GD k d → k + xs.length ≤ m → acc.length + xs.length ≤ 1000 → ∃ vs d' s', vs.length = xs.length ∧ (∀ v ∈ vs, Q v) ∧ GD (k + xs.length) d' ∧ turns (ev p n) (evT p n) (.nm i) none c [i] xs acc (E d s) = .ok (acc ++ vs) (E d' s')
  | [], acc, k, d, s, hs, g, hk, hl => by
    refine ⟨[], d, s, rfl, fun v hv => (List.not_mem_nil hv).elim, g, ?_⟩
    unfold turns
    simp only [List.all_cons, List.all_nil, Bool.and_true, h2, hs, List.append_nil]
  | x :: xs, acc, k, d, s, hs, g, hk, hl => by
    rw [List.length_cons] at hl hk
    obtain ⟨v, d1, hx, hq, g1⟩ := h k d x (by omega) g
    obtain ⟨vs, d', s', hlen, hall, g', ih⟩ := turns_draw h1 h2 h3 h xs (acc ++ [v]) (k + 1) d1 (.dat x) rfl g1 (by omega) (by rw [List.length_append]; show acc.length + 1 + xs.length ≤ 1000; omega)
    refine ⟨v :: vs, d', s', congrArg Nat.succ hlen, ?_, by rw [List.length_cons, show k + (xs.length + 1) = k + 1 + xs.length by omega]; exact g', ?_⟩
    · intro w hw
      rcases List.mem_cons.mp hw with rfl | hw
      · exact hq
      · exact hall w hw
    have hf : fits (acc.length + 1) = true := decide_eq_true (by omega)
    have st : store i (.dat x) (E d .emp) = some (E d (.dat x)) := by
      unfold store
      rw [decide_eq_true (h3 _ _), h2]
      show some ((E d .emp).set i (.dat x)) = _
      rw [h1]
    unfold turns
    simp only [List.all_cons, List.all_nil, Bool.and_true, h2, hs, wipeS, h1, setG, st, O.of, O.bind, hold, hx, frz, hf]
    rw [ih, List.append_assoc]
    rfl
theorem comp_draw {i : Nat} {c : C} {Q : D → Prop} {E : D → Sl → En} {m k : Nat} {it : I} {ρ0 : En} {xs : List D} {d : D} {s : Sl} (h1 : ∀ d s s', (E d s).set i s' = E d s') (h2 : ∀ d s, getS (E d s) i = s) (h3 : ∀ d s, i < (E d s).length) (h : ∀ k d x, k < m → GD k d → ∃ v d', ev p n c (E d (.dat x)) = .ok (.dat v) (E d' (.dat x)) ∧ Q v ∧ GD (k + 1) d') (hi : evI (ev p n) it ρ0 = .ok (xs, []) (E d s)) (hs : plainS s = true) (g : GD k d) (hk : k + xs.length ≤ m) (hl : xs.length ≤ 1000) : ∃ vs d', vs.length = xs.length ∧ (∀ v ∈ vs, Q v) ∧ GD (k + xs.length) d' ∧ ev p (n + 1) (.comp c (.nm i) it none [i]) ρ0 = .ok (.own (.lst vs)) (E d' s) := by
  obtain ⟨vs, d', s', hlen, hall, g', e⟩ := turns_draw h1 h2 h3 h xs [] k d s hs g hk (by simpa using hl)
  refine ⟨vs, d', hlen, hall, g', ?_⟩
  show O.bind (evI (ev p n) it ρ0) (fun w ρ1 => wipeT ρ1 [i] w.2 (turns (ev p n) (evT p n) (.nm i) none c [i] w.1 [] ρ1)) = _
  rw [hi]
  show wipeT (E d s) [i] [] (turns (ev p n) (evT p n) (.nm i) none c [i] xs [] (E d s)) = _
  rw [e]
  show O.ok _ ((E d' s').set i (getS (E d s) i)) = _
  rw [h1, h2]
  rfl
/-! ### loops -/
theorem ex_loop {g : G} {it : I} {b : List Pv.S} {ρ ρ1 ρ2 : En} {xs : List D} {ls : List Nat} (hi : evI (ev p n) it ρ = .ok (xs, ls) ρ1) (hl : loopF (ev p n) g (exsL (Pv.ex p n) b) xs ρ1 = .nx ρ2) : Pv.ex p (n + 1) (.loop g it b) ρ = .nx (unlend ls ρ2) := by
  show (O.fl (evI (ev p n) it ρ) fun w ρ1 => (loopF (ev p n) g (exsL (Pv.ex p n) b) w.1 ρ1).then fun ρ2 => .nx (unlend w.2 ρ2)) = _
  rw [hi]
  show (loopF (ev p n) g (exsL (Pv.ex p n) b) xs ρ1).then _ = _
  rw [hl]
  rfl
theorem loop_step {e : C → En → O R} {g : G} {b : En → F} {x : D} {xs : List D} {ρ ρ1 ρ2 : En} (hg : setG e g x ρ = .ok () ρ1) (hb : b ρ1 = .nx ρ2) : loopF e g b (x :: xs) ρ = loopF e g b xs ρ2 := by
  conv => lhs; unfold loopF
  rw [hg]
  show (match b ρ1 with | .nx ρ2 => _ | .ct ρ2 => _ | .bk ρ2 => _ | x => x) = _
  rw [hb]
theorem evI_rng2 {a b : C} {ρ ρ1 ρ2 : En} {i j : Int} (ha : peek (ev p n) a ρ = .ok (.int i) ρ1) (hb : peek (ev p n) b ρ1 = .ok (.int j) ρ2) (hi : small62 i = true) (hj : small62 j = true) : evI (ev p n) (.rng2 a b) ρ = .ok (rngL i j, []) ρ2 := by
  simp only [evI, ha, hb, hi, hj, O.bind, Bool.and_self, if_true]
theorem evI_rng1 {a : C} {ρ ρ1 : En} {i : Int} (ha : peek (ev p n) a ρ = .ok (.int i) ρ1) (hi : small62 i = true) : evI (ev p n) (.rng1 a) ρ = .ok (rngL 0 i, []) ρ1 := by
  simp only [evI, ha, hi, O.bind, if_true]
theorem evI_seq {a : C} {r : R} {ρ ρ1 ρ2 : En} {d : D} {xs : List D} {ls : List Nat} (h : ev p n a ρ = .ok r ρ1) (hl : lend r ρ1 = some (d, ρ2, ls)) (hx : items d = some xs) : evI (ev p n) (.seq a) ρ = .ok (xs, ls) ρ2 := by
  simp only [evI, evW, h, hl, hx, O.bind, O.of, Option.map]
theorem evI_enumT {a : C} {r : R} {ρ ρ1 ρ2 : En} {xs : List D} {ls : List Nat} (h : ev p n a ρ = .ok r ρ1) (hl : lend r ρ1 = some (.tup xs, ρ2, ls)) : evI (ev p n) (.enum a) ρ = .ok (enumL xs, ls) ρ2 := by
  simp only [evI, h, hl, O.bind]
theorem evI_enumL {a : C} {r : R} {ρ ρ1 ρ2 : En} {xs : List D} {ls : List Nat} (h : ev p n a ρ = .ok r ρ1) (hl : lend r ρ1 = some (.lst xs, ρ2, ls)) : evI (ev p n) (.enum a) ρ = .ok (enumL xs, ls) ρ2 := by
  simp only [evI, h, hl, O.bind]
end
theorem small_n {m : Nat} (h : m ≤ 1000000) : small62 (m : Int) = true := by
  unfold small62
  rw [Bool.and_eq_true]
  exact ⟨decide_eq_true (by omega), decide_eq_true (by omega)⟩
theorem small_i {i : Int} (h : i.natAbs ≤ 1000000) : small62 i = true := by
  unfold small62
  rw [Bool.and_eq_true]
  exact ⟨decide_eq_true (by omega), decide_eq_true (by omega)⟩
/-- an enumeration from a number on -/
def enF : Nat → List D → List D
  | _, [] => []
  | a, x :: xs => .tup [.int a, x] :: enF (a + 1) xs
theorem enum_F (xs : List D) : enumL xs = enF 0 xs := by
  have h : ∀ (xs : List D) (a : Nat), (xs.zipIdx a).map (fun p => D.tup [.int (p.2 : Nat), p.1]) = enF a xs := by
    intro xs
    induction xs with
    | nil => intro a; rfl
    | cons x xs ih =>
      intro a
      rw [List.zipIdx_cons, List.map_cons, ih (a + 1)]
      rfl
  exact h xs 0
theorem rng_from (lo : Int) (m : Nat) : rngL lo (lo + m) = (List.range' 0 m).map fun i => D.int (lo + (i : Nat)) := by
  unfold rngL
  rw [List.range_eq_range', show (lo + (m : Int) - lo).toNat = m by omega]
theorem dBools_true : ∀ xs : List D, dBools (xs.map fun _ => D.bl true) = some (xs.map fun _ => true)
  | [] => rfl
  | x :: xs => by
    show (dBools (xs.map fun _ => D.bl true)).map (true :: ·) = _
    rw [dBools_true xs]
    rfl
theorem all_true (xs : List D) : bltD .all [.lst (xs.map fun _ => D.bl true)] = some (.dat (.bl true)) := by
  show (dBools _).map (fun bs => R.dat (.bl (bs.all id))) = _
  rw [dBools_true]
  show some (R.dat (.bl ((xs.map fun _ => true).all id))) = _
  congr 3
  rw [List.all_eq_true]
  intro b hb
  obtain ⟨_, _, rfl⟩ := List.mem_map.mp hb
  rfl
theorem pyAll_int : ∀ xs : List Int, D.pyAll (xs.map D.int) = some (xs.map PyData.int)
  | [] => rfl
  | x :: xs => by
    show (match D.py (.int x), D.pyAll (xs.map D.int) with
      | some d, some ds => some (d :: ds)
      | _, _ => none) = _
    rw [pyAll_int xs]
    rfl
theorem in_int (i : Int) (xs : List Int) : cmpD .In (.int i) (.tup (xs.map D.int)) = some (xs.any fun y => decide (y = i)) := by
  show (D.pyAll (xs.map D.int)).bind (fun zs => if decide ((PyData.int i).depth ≤ 60) then some (zs.any fun y => PyData.eqv y (.int i)) else none) = _
  rw [pyAll_int]
  have e : ∀ y : Int, PyData.eqv (.int y) (.int i) = decide (y = i) := fun y => by
    simp [PyData.eqv]
    exact Bool.eq_iff_iff.mpr (by simp)
  show (if decide ((PyData.int i).depth ≤ 60) then some ((xs.map PyData.int).any fun y => PyData.eqv y (.int i)) else none) = _
  rw [if_pos (show decide ((PyData.int i).depth ≤ 60) = true from rfl), List.any_map]
  have e2 : ((fun y => PyData.eqv y (.int i)) ∘ PyData.int) = fun y : Int => decide (y = i) := funext e
  rw [e2]
theorem GD.more {k k' : Nat} {d : D} (h : GD k d) (hk : k ≤ k') : GD k' d := by
  obtain ⟨a, b, c, e, h0, h1⟩ := h
  exact ⟨a, b, c, e, h0, by omega⟩
/-- a slot's own thing is handed in as data -/
theorem q1p {P : Prg} {l f i : Nat} {r : R} {out : List (Option D)} {d : D} {ρ : En} (href : (P.pr (P.cal l)).ref f = []) (hs : getS ρ i = .own false false d) (h : P.cal l f [.dat d] = .ret r out) : callO (P.pr (P.cal l)) f [.ptr i] ρ = .ok r (ρ.set i (.dat d)) := by
  have h1 : args1 ((P.pr (P.cal l)).ref f) 0 [.ptr i] ρ = some ([.dat d], ρ.set i (.dat d)) := by
    rw [href]
    simp only [args1, List.contains_nil, frz, hs, Option.bind, Option.map]
  rw [callO_eq h1 rfl rfl h, putR_dat rfl]
end Pv.Sx
end Sz_
section Sw_
set_option maxRecDepth 100000
/-! Sw: steps for all laws: levels, comprehensions and loops over told items, equality. -/
namespace Pv.Sx
open Pv PySem
/-! ### levels -/
theorem cal_succ (P : Prg) : ∀ l k as, P.cal l k as = .bad ∨ P.cal (l + 1) k as = P.cal l k as
  | 0, k, as => .inl (by unfold Prg.cal; rfl)
  | l + 1, k, as => by
    unfold Prg.cal
    cases P.fns[k]? with
    | none => exact l_genC (p := P.pr (P.cal l)) (q := P.pr (P.cal (l + 1))) ⟨cal_succ P l, rfl, rfl⟩ P.gens P.lcs (k - P.fns.length) as
    | some f => exact l_runF (p := P.pr (P.cal l)) (q := P.pr (P.cal (l + 1))) ⟨cal_succ P l, rfl, rfl⟩ fuel f as
theorem cal_up {P : Prg} {k : Nat} {as : List Ar} {o : Out} (hb : o ≠ .bad) : ∀ {m l : Nat}, l ≤ m → P.cal l k as = o → P.cal m k as = o
  | 0, l, h, e => by have : l = 0 := by omega
                     subst this; exact e
  | m + 1, l, h, e => by
    rcases Nat.lt_or_eq_of_le h with g | g
    · have := cal_up (P := P) (k := k) (as := as) hb (Nat.le_of_lt_succ g) e
      rcases cal_succ P m k as with z | z
      · rw [z] at this; exact absurd this.symm hb
      · rw [z]; exact this
    · subst g; exact e
theorem rup {P : Prg} {k l : Nat} (m : Nat) {as : List Ar} {r : R} {out : List (Option D)} (e : P.cal l k as = .ret r out) (h : l ≤ m := by omega) : P.cal m k as = .ret r out := cal_up (o := .ret r out) (by intro z; cases z) h e
theorem xup {P : Prg} {k l c : Nat} (m : Nat) {as : List Ar} {d : Option D} {out : List (Option D)} (e : P.cal l k as = .exc c d out) (h : l ≤ m := by omega) : P.cal m k as = .exc c d out := cal_up (o := .exc c d out) (by intro z; cases z) h e
/-! ### slots stored -/
def putAt : Nat → Sl → En → Option En
  | _, _, [] => none
  | 0, x, y :: ρ => if freeS y = true then some (x :: ρ) else none
  | n + 1, x, y :: ρ => (putAt n x ρ).map (y :: ·)
theorem putAt_eq (x : Sl) : ∀ (ρ : En) (i : Nat), putAt i x ρ = if (decide (i < ρ.length) && freeS (getS ρ i)) = true then some (ρ.set i x) else none
  | [], i => by cases i <;> rfl
  | y :: ρ, 0 => by
    show (if freeS y = true then some (x :: ρ) else none) = _
    have : decide (0 < (y :: ρ).length) = true := decide_eq_true (Nat.succ_pos _)
    rw [this, Bool.true_and]; rfl
  | y :: ρ, i + 1 => by
    show (putAt i x ρ).map (y :: ·) = _
    rw [putAt_eq x ρ i]
    have e1 : decide (i + 1 < (y :: ρ).length) = decide (i < ρ.length) := decide_eq_decide.mpr (by rw [List.length_cons]; omega)
    have e2 : getS (y :: ρ) (i + 1) = getS ρ i := rfl
    rw [e1, e2]
    split <;> rfl
theorem store_dat (i : Nat) (d : D) (ρ : En) : store i (.dat d) ρ = putAt i (.dat d) ρ := (putAt_eq _ ρ i).symm
theorem store_own (i : Nat) (d : D) (ρ : En) : store i (.own d) ρ = putAt i (.own false false d) ρ := (putAt_eq _ ρ i).symm
theorem putAt_z (x y : Sl) (ρ : En) : putAt 0 x (y :: ρ) = if freeS y = true then some (x :: ρ) else none := rfl
theorem putAt_s (n : Nat) (x y : Sl) (ρ : En) : putAt (n + 1) x (y :: ρ) = (putAt n x ρ).map (y :: ·) := rfl
theorem free_emp : freeS .emp = true := rfl
theorem free_dat (d : D) : freeS (.dat d) = true := rfl
theorem free_own (d : D) : freeS (.own false false d) = true := rfl
theorem pr_cal (P : Prg) (c : Nat → List Ar → Out) (f : Nat) (as : List Ar) : (P.pr c).cal f as = c f as := rfl
/-! ### comprehensions over told items -/
def osl (s : Sl) : Option D → Sl
  | none => s
  | some d => .dat d
section
variable {p : Pr} {n : Nat}
theorem turns_E {β : Type} {enc : β → D} {g : G} {cond : Option T} {elt : C} {own : List Nat} {E : Option β → En} {q : β → Bool} {f : β → D}
    (hpl : ∀ a, (own.all fun i => plainS (getS (E a) i)) = true) : ∀ (ns : List β) (acc : List D) (a : Option β),
    (∀ a, ∀ b ∈ ns, setG (ev p n) g (enc b) (wipeS (E a) own) = .ok () (E (some b))) →
    (∀ b ∈ ns, (match cond with | none => O.ok true (E (some b)) | some c => evT p n c (E (some b))) = .ok (q b) (E (some b))) →
    (∀ b ∈ ns, q b = true → hold (ev p n) elt (E (some b)) = .ok (f b) (E (some b))) → acc.length + ns.length ≤ 1000000 →
    ∃ a', turns (ev p n) (evT p n) g cond elt own (ns.map enc) acc (E a) = .ok (acc ++ (ns.filter q).map f) (E a')
  | [], acc, a, h1, h2, h3, hl => by
    refine ⟨a, ?_⟩
    show (match own.all fun i => plainS (getS (E a) i) with | true => O.ok acc (E a) | false => .bad) = _
    rw [hpl]
    simp
  | b :: ns, acc, a, h1, h2, h3, hl => by
    rw [List.length_cons] at hl
    have e1 := h1 a b List.mem_cons_self
    have e2 := h2 b List.mem_cons_self
    have st : turns (ev p n) (evT p n) g cond elt own ((b :: ns).map enc) acc (E a) = (match q b with
        | true => (hold (ev p n) elt (E (some b))).bind fun d ρ3 => (match fits (acc.length + 1) with
          | true => turns (ev p n) (evT p n) g cond elt own (ns.map enc) (acc ++ [d]) ρ3
          | false => .bad)
        | false => turns (ev p n) (evT p n) g cond elt own (ns.map enc) acc (E (some b))) := by
      show (match own.all fun i => plainS (getS (E a) i) with
        | true => (setG (ev p n) g (enc b) (wipeS (E a) own)).bind fun _ ρ1 => (match cond with
          | none => O.ok true ρ1
          | some c => evT p n c ρ1).bind fun b ρ2 => (match b with
            | true => (hold (ev p n) elt ρ2).bind fun d ρ3 => (match fits (acc.length + 1) with
              | true => turns (ev p n) (evT p n) g cond elt own (ns.map enc) (acc ++ [d]) ρ3
              | false => .bad)
            | false => turns (ev p n) (evT p n) g cond elt own (ns.map enc) acc ρ2)
        | false => .bad) = _
      rw [hpl, e1]
      dsimp only [O.bind]
      rw [e2]
    rw [st]
    cases hq : q b with
    | true =>
      rw [h3 b List.mem_cons_self hq]
      have hf : fits (acc.length + 1) = true := decide_eq_true (by omega)
      dsimp only [O.bind]
      rw [hf]
      obtain ⟨a', ih⟩ := turns_E hpl ns (acc ++ [f b]) (some b) (fun a c hc => h1 a c (List.mem_cons_of_mem _ hc)) (fun c hc => h2 c (List.mem_cons_of_mem _ hc)) (fun c hc => h3 c (List.mem_cons_of_mem _ hc)) (by rw [List.length_append]; show acc.length + 1 + ns.length ≤ _; omega)
      refine ⟨a', ih.trans ?_⟩
      rw [List.filter_cons_of_pos hq, List.map_cons, List.append_assoc]; rfl
    | false =>
      obtain ⟨a', ih⟩ := turns_E hpl ns acc (some b) (fun a c hc => h1 a c (List.mem_cons_of_mem _ hc)) (fun c hc => h2 c (List.mem_cons_of_mem _ hc)) (fun c hc => h3 c (List.mem_cons_of_mem _ hc)) (by omega)
      refine ⟨a', ih.trans ?_⟩
      rw [List.filter_cons_of_neg (by rw [hq]; exact Bool.false_ne_true)]
theorem comp_E {β : Type} (enc : β → D) (ns : List β) (E : Option β → En) (q : β → Bool) (f : β → D) {g : G} {cond : Option T} {elt : C} {own ls : List Nat} {it : I} {ρ0 : En}
    (hi : evI (ev p n) it ρ0 = .ok (ns.map enc, ls) (E none)) (hpl : ∀ a, (own.all fun i => plainS (getS (E a) i)) = true) (hb : ∀ a, backS (E none) (E a) own = E none)
    (h1 : ∀ a, ∀ b ∈ ns, setG (ev p n) g (enc b) (wipeS (E a) own) = .ok () (E (some b)))
    (h2 : ∀ b ∈ ns, (match cond with | none => O.ok true (E (some b)) | some c => evT p n c (E (some b))) = .ok (q b) (E (some b)))
    (h3 : ∀ b ∈ ns, q b = true → hold (ev p n) elt (E (some b)) = .ok (f b) (E (some b))) (hl : ns.length ≤ 1000000) :
    ev p (n + 1) (.comp elt g it cond own) ρ0 = .ok (.own (.lst ((ns.filter q).map f))) (unlend ls (E none)) := by
  obtain ⟨a', e⟩ := turns_E (p := p) (n := n) hpl ns [] none h1 h2 h3 (by simpa using hl)
  show O.bind (evI (ev p n) it ρ0) (fun w ρ1 => wipeT ρ1 own w.2 (turns (ev p n) (evT p n) g cond elt own w.1 [] ρ1)) = _
  rw [hi]
  show wipeT (E none) own ls (turns (ev p n) (evT p n) g cond elt own (ns.map enc) [] (E none)) = _
  rw [e]
  show O.ok _ (unlend ls (backS (E none) (E a') own)) = _
  rw [hb]
  rfl
/-- .. without a test -/
theorem comp_M {β : Type} (enc : β → D) (ns : List β) (E : Option β → En) (f : β → D) {g : G} {elt : C} {own ls : List Nat} {it : I} {ρ0 : En}
    (hi : evI (ev p n) it ρ0 = .ok (ns.map enc, ls) (E none)) (hpl : ∀ a, (own.all fun i => plainS (getS (E a) i)) = true) (hb : ∀ a, backS (E none) (E a) own = E none)
    (h1 : ∀ a, ∀ b ∈ ns, setG (ev p n) g (enc b) (wipeS (E a) own) = .ok () (E (some b)))
    (h3 : ∀ b ∈ ns, hold (ev p n) elt (E (some b)) = .ok (f b) (E (some b))) (hl : ns.length ≤ 1000000) :
    ev p (n + 1) (.comp elt g it none own) ρ0 = .ok (.own (.lst (ns.map f))) (unlend ls (E none)) := by
  have := comp_E (p := p) (n := n) enc ns E (fun _ => true) f (cond := none) hi hpl hb h1 (fun _ _ => rfl) (fun b hb _ => h3 b hb) hl
  rw [this]
  have e : ns.filter (fun _ => true) = ns := List.filter_eq_self.mpr fun _ _ => rfl
  rw [e]
/-! ### loops over told items -/
theorem loop_F {β S : Type} (enc : β → D) (E : S → En) (step : S → β → S) (Inv : S → Prop) {e : C → En → O R} {g : G} {body : En → F} : ∀ (ns : List β) (s : S), Inv s →
    (∀ s, ∀ b ∈ ns, Inv s → Inv (step s b) ∧ ∃ ρ1, setG e g (enc b) (E s) = .ok () ρ1 ∧ (body ρ1 = .nx (E (step s b)) ∨ body ρ1 = .ct (E (step s b)))) →
    loopF e g body (ns.map enc) (E s) = .nx (E (ns.foldl step s)) ∧ Inv (ns.foldl step s)
  | [], s, hs, h => ⟨rfl, hs⟩
  | b :: ns, s, hs, h => by
    obtain ⟨h1, ρ1, h2, h3⟩ := h s b List.mem_cons_self hs
    obtain ⟨ih, ih2⟩ := loop_F enc E step Inv (e := e) (g := g) (body := body) ns (step s b) h1 fun s c hc => h s c (List.mem_cons_of_mem _ hc)
    refine ⟨?_, ih2⟩
    show (setG e g (enc b) (E s)).fl (fun _ ρ1 => match body ρ1 with
      | .nx ρ2 => loopF e g body (ns.map enc) ρ2
      | .ct ρ2 => loopF e g body (ns.map enc) ρ2
      | .bk ρ2 => .nx ρ2
      | x => x) = _
    rw [h2]
    show (match body ρ1 with
      | .nx ρ2 => loopF e g body (ns.map enc) ρ2
      | .ct ρ2 => loopF e g body (ns.map enc) ρ2
      | .bk ρ2 => .nx ρ2
      | x => x) = _
    rcases h3 with h3 | h3
    · rw [h3]; exact ih
    · rw [h3]; exact ih
/-- a loop that goes through, or returns r at the first item that fails -/
theorem loop_A {β S : Type} (enc : β → D) (E : S → En) (ok : β → Bool) {r : R} {e : C → En → O R} {g : G} {body : En → F} : ∀ (ns : List β) (s : S),
    (∀ s, ∀ b ∈ ns, ∃ ρ1, setG e g (enc b) (E s) = .ok () ρ1 ∧ (ok b = true → ∃ s', body ρ1 = .nx (E s')) ∧ (ok b = false → ∃ ρ2, body ρ1 = .rt r ρ2)) →
    (ns.all ok = true → ∃ s', loopF e g body (ns.map enc) (E s) = .nx (E s')) ∧ (ns.all ok = false → ∃ ρ2, loopF e g body (ns.map enc) (E s) = .rt r ρ2)
  | [], s, h => ⟨fun _ => ⟨s, rfl⟩, fun z => nomatch z⟩
  | b :: ns, s, h => by
    obtain ⟨ρ1, h1, h2, h3⟩ := h s b List.mem_cons_self
    have st : loopF e g body ((b :: ns).map enc) (E s) = (match body ρ1 with
      | .nx ρ2 => loopF e g body (ns.map enc) ρ2
      | .ct ρ2 => loopF e g body (ns.map enc) ρ2
      | .bk ρ2 => .nx ρ2
      | x => x) := by
      show (setG e g (enc b) (E s)).fl (fun _ ρ1 => match body ρ1 with
        | .nx ρ2 => loopF e g body (ns.map enc) ρ2
        | .ct ρ2 => loopF e g body (ns.map enc) ρ2
        | .bk ρ2 => .nx ρ2
        | x => x) = _
      rw [h1]; rfl
    rw [st, List.all_cons]
    cases hb : ok b with
    | true =>
      obtain ⟨s', e'⟩ := h2 hb
      rw [e', Bool.true_and]
      exact loop_A enc E ok ns s' fun s c hc => h s c (List.mem_cons_of_mem _ hc)
    | false =>
      obtain ⟨ρ2, e'⟩ := h3 hb
      rw [e']
      exact ⟨fun z => (nomatch z), fun _ => ⟨ρ2, rfl⟩⟩
end
/-! ### tests of ints -/
theorem and_tt {a b : Bool} (ha : a = true) (hb : b = true) : (a && b) = true := by rw [ha, hb]; rfl
/-! ### equality -/
mutual
/-- no more than n deep, of None, bools, ints, texts -/
def okD : Nat → D → Bool
  | _, .non => true
  | _, .bl _ => true
  | _, .int _ => true
  | _, .str _ => true
  | n, .tup xs => match n with | 0 => false | n + 1 => okDs n xs
  | n, .lst xs => match n with | 0 => false | n + 1 => okDs n xs
  | _, _ => false
def okDs : Nat → List D → Bool
  | _, [] => true
  | n, x :: xs => okD n x && okDs n xs
end
mutual
theorem okD_py : ∀ (n : Nat) (d : D), okD n d = true → ∃ x, d.py = some x ∧ x.depth ≤ n ∧ x.plain = true
  | n, .non, h => ⟨.none, rfl, Nat.zero_le _, rfl⟩
  | n, .bl b, h => ⟨.bool b, rfl, Nat.zero_le _, rfl⟩
  | n, .int b, h => ⟨.int b, rfl, Nat.zero_le _, rfl⟩
  | n, .str b, h => ⟨.str b, rfl, Nat.zero_le _, rfl⟩
  | n, .tup xs, h => by
    cases n with
    | zero => exact nomatch h
    | succ n =>
      obtain ⟨ys, h1, h2, h3⟩ := okDs_py n xs h
      refine ⟨.tuple ys, ?_, ?_, ?_⟩
      · unfold D.py; rw [h1]; rfl
      · unfold PyData.depth; omega
      · unfold PyData.plain; exact h3
  | n, .lst xs, h => by
    cases n with
    | zero => exact nomatch h
    | succ n =>
      obtain ⟨ys, h1, h2, h3⟩ := okDs_py n xs h
      refine ⟨.list ys, ?_, ?_, ?_⟩
      · unfold D.py; rw [h1]; rfl
      · unfold PyData.depth; omega
      · unfold PyData.plain; exact h3
  | n, .scr _, h => nomatch h
  | n, .fn _, h => nomatch h
  | n, .dct _ _, h => nomatch h
  | n, .obj _ _, h => nomatch h
theorem okDs_py : ∀ (n : Nat) (xs : List D), okDs n xs = true → ∃ ys, D.pyAll xs = some ys ∧ PyData.depthAll ys ≤ n ∧ PyData.plainAll ys = true
  | n, [], h => ⟨[], rfl, Nat.zero_le _, rfl⟩
  | n, x :: xs, h => by
    have h : (okD n x && okDs n xs) = true := h
    rw [Bool.and_eq_true] at h
    obtain ⟨y, a1, a2, a3⟩ := okD_py n x h.1
    obtain ⟨ys, b1, b2, b3⟩ := okDs_py n xs h.2
    refine ⟨y :: ys, ?_, ?_, ?_⟩
    · unfold D.pyAll; rw [a1, b1]
    · unfold PyData.depthAll; omega
    · unfold PyData.plainAll; rw [a3, b3]; rfl
end
theorem okDs_all {n : Nat} : ∀ {xs : List D}, (∀ x ∈ xs, okD n x = true) → okDs n xs = true
  | [], _ => rfl
  | x :: xs, h => by
    show (okD n x && okDs n xs) = true
    rw [h x List.mem_cons_self, okDs_all fun y hy => h y (List.mem_cons_of_mem _ hy)]; rfl
theorem eq_rf {n : Nat} {d : D} (h : okD n d = true) (hn : n ≤ 60) : eqD d d = some true := by
  obtain ⟨x, h1, h2, h3⟩ := okD_py n d h
  unfold eqD
  rw [h1]
  dsimp only
  rw [if_pos (decide_eq_true (by omega)), PySem.SeqAt.eqv_refl_plain x h3]
theorem cmpE_rf {n : Nat} {d : D} (h : okD n d = true) (hn : n ≤ 60) : cmpD .Eq d d = some true := eq_rf h hn
theorem cmpN_rf {n : Nat} {d : D} (h : okD n d = true) (hn : n ≤ 60) : cmpD .NotEq d d = some false := by
  show (eqD d d).map (!·) = _
  rw [eq_rf h hn]; rfl
mutual
/-- no bools, too -/
def inD : Nat → D → Bool
  | _, .non => true
  | _, .int _ => true
  | _, .str _ => true
  | n, .tup xs => match n with | 0 => false | n + 1 => inDs n xs
  | n, .lst xs => match n with | 0 => false | n + 1 => inDs n xs
  | _, _ => false
def inDs : Nat → List D → Bool
  | _, [] => true
  | n, x :: xs => inD n x && inDs n xs
end
mutual
def dsm : D → D → Bool
  | .non, .non => true
  | .int a, .int b => decide (a = b)
  | .str a, .str b => decide (a = b)
  | .tup a, .tup b => dsms a b
  | .lst a, .lst b => dsms a b
  | _, _ => false
def dsms : List D → List D → Bool
  | [], [] => true
  | a :: as, b :: bs => dsm a b && dsms as bs
  | _, _ => false
end
mutual
theorem dsm_eqv : ∀ (n : Nat) (a b : D) (x y : PyData), inD n a = true → inD n b = true → a.py = some x → b.py = some y → PyData.eqv x y = dsm a b
  | n, .non, b, x, y, h1, h2, e1, e2 => by
    injection e1 with e1; subst e1
    cases b <;> (try exact absurd h2 Bool.false_ne_true) <;> (unfold D.py at e2)
    case non => injection e2 with e2; subst e2; rfl
    case int => injection e2 with e2; subst e2; rfl
    case str => injection e2 with e2; subst e2; rfl
    case tup xs => cases q : D.pyAll xs with
      | none => rw [q] at e2; exact nomatch e2
      | some ys => rw [q] at e2; injection e2 with e2; subst e2; rfl
    case lst xs => cases q : D.pyAll xs with
      | none => rw [q] at e2; exact nomatch e2
      | some ys => rw [q] at e2; injection e2 with e2; subst e2; rfl
  | n, .int i, b, x, y, h1, h2, e1, e2 => by
    injection e1 with e1; subst e1
    cases b <;> (try exact absurd h2 Bool.false_ne_true) <;> (unfold D.py at e2)
    case non => injection e2 with e2; subst e2; rfl
    case int j =>
      injection e2 with e2; subst e2
      show PyData.eqv (.int i) (.int j) = decide (i = j)
      rw [PyData.eqv]; exact Bool.eq_iff_iff.mpr (by simp)
    case str => injection e2 with e2; subst e2; rfl
    case tup xs => cases q : D.pyAll xs with
      | none => rw [q] at e2; exact nomatch e2
      | some ys => rw [q] at e2; injection e2 with e2; subst e2; rfl
    case lst xs => cases q : D.pyAll xs with
      | none => rw [q] at e2; exact nomatch e2
      | some ys => rw [q] at e2; injection e2 with e2; subst e2; rfl
  | n, .str i, b, x, y, h1, h2, e1, e2 => by
    injection e1 with e1; subst e1
    cases b <;> (try exact absurd h2 Bool.false_ne_true) <;> (unfold D.py at e2)
    case non => injection e2 with e2; subst e2; rfl
    case int => injection e2 with e2; subst e2; rfl
    case str j =>
      injection e2 with e2; subst e2
      show PyData.eqv (.str i) (.str j) = decide (i = j)
      rw [PyData.eqv]; exact Bool.eq_iff_iff.mpr (by simp)
    case tup xs => cases q : D.pyAll xs with
      | none => rw [q] at e2; exact nomatch e2
      | some ys => rw [q] at e2; injection e2 with e2; subst e2; rfl
    case lst xs => cases q : D.pyAll xs with
      | none => rw [q] at e2; exact nomatch e2
      | some ys => rw [q] at e2; injection e2 with e2; subst e2; rfl
  | n, .tup as, b, x, y, h1, h2, e1, e2 => by
    unfold D.py at e1
    cases q1 : D.pyAll as with
    | none => rw [q1] at e1; exact nomatch e1
    | some xs =>
      rw [q1] at e1; injection e1 with e1; subst e1
      cases b <;> (try exact absurd h2 Bool.false_ne_true) <;> (unfold D.py at e2)
      case non => injection e2 with e2; subst e2; rfl
      case int => injection e2 with e2; subst e2; rfl
      case str => injection e2 with e2; subst e2; rfl
      case tup bs => cases q : D.pyAll bs with
        | none => rw [q] at e2; exact nomatch e2
        | some ys =>
          rw [q] at e2; injection e2 with e2; subst e2
          cases n with
          | zero => exact nomatch h1
          | succ n => exact dsms_eqv n as bs xs ys h1 h2 q1 q
      case lst xs => cases q : D.pyAll xs with
        | none => rw [q] at e2; exact nomatch e2
        | some ys => rw [q] at e2; injection e2 with e2; subst e2; rfl
  | n, .lst as, b, x, y, h1, h2, e1, e2 => by
    unfold D.py at e1
    cases q1 : D.pyAll as with
    | none => rw [q1] at e1; exact nomatch e1
    | some xs =>
      rw [q1] at e1; injection e1 with e1; subst e1
      cases b <;> (try exact absurd h2 Bool.false_ne_true) <;> (unfold D.py at e2)
      case non => injection e2 with e2; subst e2; rfl
      case int => injection e2 with e2; subst e2; rfl
      case str => injection e2 with e2; subst e2; rfl
      case tup xs => cases q : D.pyAll xs with
        | none => rw [q] at e2; exact nomatch e2
        | some ys => rw [q] at e2; injection e2 with e2; subst e2; rfl
      case lst bs => cases q : D.pyAll bs with
        | none => rw [q] at e2; exact nomatch e2
        | some ys =>
          rw [q] at e2; injection e2 with e2; subst e2
          cases n with
          | zero => exact nomatch h1
          | succ n => exact dsms_eqv n as bs xs ys h1 h2 q1 q
  | n, .bl _, b, x, y, h1, h2, e1, e2 => nomatch h1
  | n, .scr _, b, x, y, h1, h2, e1, e2 => nomatch h1
  | n, .fn _, b, x, y, h1, h2, e1, e2 => nomatch h1
  | n, .dct _ _, b, x, y, h1, h2, e1, e2 => nomatch h1
  | n, .obj _ _, b, x, y, h1, h2, e1, e2 => nomatch h1
theorem dsms_eqv : ∀ (n : Nat) (a b : List D) (x y : List PyData), inDs n a = true → inDs n b = true → D.pyAll a = some x → D.pyAll b = some y → PyData.eqvAll x y = dsms a b
  | n, [], [], x, y, h1, h2, e1, e2 => by injection e1 with e1; injection e2 with e2; subst e1; subst e2; rfl
  | n, [], b :: bs, x, y, h1, h2, e1, e2 => by
    injection e1 with e1; subst e1
    unfold D.pyAll at e2
    cases q : D.py b with
    | none => rw [q] at e2; exact nomatch e2
    | some u => cases q2 : D.pyAll bs with
      | none => rw [q, q2] at e2; exact nomatch e2
      | some us => rw [q, q2] at e2; injection e2 with e2; subst e2; rfl
  | n, a :: as, [], x, y, h1, h2, e1, e2 => by
    injection e2 with e2; subst e2
    unfold D.pyAll at e1
    cases q : D.py a with
    | none => rw [q] at e1; exact nomatch e1
    | some u => cases q2 : D.pyAll as with
      | none => rw [q, q2] at e1; exact nomatch e1
      | some us => rw [q, q2] at e1; injection e1 with e1; subst e1; rfl
  | n, a :: as, b :: bs, x, y, h1, h2, e1, e2 => by
    have h1 : (inD n a && inDs n as) = true := h1
    have h2 : (inD n b && inDs n bs) = true := h2
    rw [Bool.and_eq_true] at h1 h2
    unfold D.pyAll at e1 e2
    cases q : D.py a with
    | none => rw [q] at e1; exact nomatch e1
    | some u => cases q2 : D.pyAll as with
      | none => rw [q, q2] at e1; exact nomatch e1
      | some us =>
        rw [q, q2] at e1; injection e1 with e1; subst e1
        cases r : D.py b with
        | none => rw [r] at e2; exact nomatch e2
        | some v => cases r2 : D.pyAll bs with
          | none => rw [r, r2] at e2; exact nomatch e2
          | some vs =>
            rw [r, r2] at e2; injection e2 with e2; subst e2
            show (PyData.eqv u v && PyData.eqvAll us vs) = (dsm a b && dsms as bs)
            rw [dsm_eqv n a b u v h1.1 h2.1 q r, dsms_eqv n as bs us vs h1.2 h2.2 q2 r2]
end
mutual
theorem inD_ok : ∀ (n : Nat) (d : D), inD n d = true → okD n d = true
  | n, .non, h => rfl
  | n, .int _, h => rfl
  | n, .str _, h => rfl
  | n, .tup xs, h => by
    cases n with
    | zero => exact nomatch h
    | succ n => exact inDs_ok n xs h
  | n, .lst xs, h => by
    cases n with
    | zero => exact nomatch h
    | succ n => exact inDs_ok n xs h
  | n, .bl _, h => nomatch h
  | n, .scr _, h => nomatch h
  | n, .fn _, h => nomatch h
  | n, .dct _ _, h => nomatch h
  | n, .obj _ _, h => nomatch h
theorem inDs_ok : ∀ (n : Nat) (d : List D), inDs n d = true → okDs n d = true
  | n, [], h => rfl
  | n, x :: xs, h => by
    have h : (inD n x && inDs n xs) = true := h
    rw [Bool.and_eq_true] at h
    show (okD n x && okDs n xs) = true
    rw [inD_ok n x h.1, inDs_ok n xs h.2]; rfl
end
mutual
theorem dsm_eq : ∀ (a b : D), dsm a b = true → a = b
  | .non, b, h => by cases b <;> first | rfl | exact absurd h Bool.false_ne_true
  | .int a, b, h => by cases b <;> first | exact congrArg D.int (of_decide_eq_true h) | exact absurd h Bool.false_ne_true
  | .str a, b, h => by cases b <;> first | exact congrArg D.str (of_decide_eq_true h) | exact absurd h Bool.false_ne_true
  | .tup a, b, h => by cases b <;> first | exact congrArg D.tup (dsms_eq _ _ h) | exact absurd h Bool.false_ne_true
  | .lst a, b, h => by cases b <;> first | exact congrArg D.lst (dsms_eq _ _ h) | exact absurd h Bool.false_ne_true
  | .bl _, b, h => by cases b <;> exact nomatch h
  | .scr _, b, h => by cases b <;> exact nomatch h
  | .fn _, b, h => by cases b <;> exact nomatch h
  | .dct _ _, b, h => by cases b <;> exact nomatch h
  | .obj _ _, b, h => by cases b <;> exact nomatch h
theorem dsms_eq : ∀ (a b : List D), dsms a b = true → a = b
  | [], [], _ => rfl
  | [], _ :: _, h => nomatch h
  | _ :: _, [], h => nomatch h
  | a :: as, b :: bs, h => by
    have h : (dsm a b && dsms as bs) = true := h
    rw [Bool.and_eq_true] at h
    rw [dsm_eq a b h.1, dsms_eq as bs h.2]
end
theorem eq_in {n : Nat} {a b : D} (h1 : inD n a = true) (h2 : inD n b = true) (hn : n ≤ 60) : eqD a b = some (dsm a b) := by
  obtain ⟨x, a1, a2, a3⟩ := okD_py n a (inD_ok n a h1)
  obtain ⟨y, b1, b2, b3⟩ := okD_py n b (inD_ok n b h2)
  unfold eqD
  rw [a1, b1]
  dsimp only
  rw [if_pos (decide_eq_true (by omega)), dsm_eqv n a b x y h1 h2 a1 b1]
mutual
theorem dsm_rf : ∀ (n : Nat) (a : D), inD n a = true → dsm a a = true
  | n, .non, h => rfl
  | n, .int a, h => decide_eq_true rfl
  | n, .str a, h => decide_eq_true rfl
  | n, .tup a, h => by
    cases n with
    | zero => exact nomatch h
    | succ n => exact dsms_rf n a h
  | n, .lst a, h => by
    cases n with
    | zero => exact nomatch h
    | succ n => exact dsms_rf n a h
  | n, .bl _, h => nomatch h
  | n, .scr _, h => nomatch h
  | n, .fn _, h => nomatch h
  | n, .dct _ _, h => nomatch h
  | n, .obj _ _, h => nomatch h
theorem dsms_rf : ∀ (n : Nat) (a : List D), inDs n a = true → dsms a a = true
  | n, [], h => rfl
  | n, x :: xs, h => by
    have h : (inD n x && inDs n xs) = true := h
    rw [Bool.and_eq_true] at h
    show (dsm x x && dsms xs xs) = true
    rw [dsm_rf n x h.1, dsms_rf n xs h.2]; rfl
end
theorem inDs_all {n : Nat} : ∀ {xs : List D}, (∀ x ∈ xs, inD n x = true) → inDs n xs = true
  | [], _ => rfl
  | x :: xs, h => by
    show (inD n x && inDs n xs) = true
    rw [h x List.mem_cons_self, inDs_all fun y hy => h y (List.mem_cons_of_mem _ hy)]; rfl
/-- x in ys -/
theorem any_in {n : Nat} {a : D} {x : PyData} (hn : n ≤ 60) (h1 : inD n a = true) (e1 : a.py = some x) : ∀ {ys : List D} {zs : List PyData}, inDs n ys = true → D.pyAll ys = some zs → (zs.any fun y => PyData.eqv y x) = ys.any fun y => dsm y a
  | [], zs, h, e => by injection e with e; subst e; rfl
  | y :: ys, zs, h, e => by
    have h : (inD n y && inDs n ys) = true := h
    rw [Bool.and_eq_true] at h
    unfold D.pyAll at e
    cases q : D.py y with
    | none => rw [q] at e; exact nomatch e
    | some v => cases q2 : D.pyAll ys with
      | none => rw [q, q2] at e; exact nomatch e
      | some vs =>
        rw [q, q2] at e; injection e with e; subst e
        rw [List.any_cons, List.any_cons, any_in hn h1 e1 h.2 q2, dsm_eqv n y a v x h.1 h1 q e1]
theorem in_lst {n : Nat} {a : D} {ys : List D} (hn : n ≤ 60) (h1 : inD n a = true) (h2 : inDs n ys = true) : cmpD .In a (.lst ys) = some (ys.any fun y => dsm y a) := by
  obtain ⟨x, a1, a2, a3⟩ := okD_py n a (inD_ok n a h1)
  obtain ⟨zs, b1, b2, b3⟩ := okDs_py n ys (inDs_ok n ys h2)
  show (match a.py, D.lst ys with
    | some x, .lst ys => (D.pyAll ys).bind fun zs => if decide (x.depth ≤ 60) then some (zs.any fun y => PyData.eqv y x) else none
    | some x, .tup ys => (D.pyAll ys).bind fun zs => if decide (x.depth ≤ 60) then some (zs.any fun y => PyData.eqv y x) else none
    | _, _ => none) = _
  rw [a1]
  show (D.pyAll ys).bind (fun zs => if decide (x.depth ≤ 60) then some (zs.any fun y => PyData.eqv y x) else none) = _
  rw [b1]
  show (if decide (x.depth ≤ 60) then some (zs.any fun y => PyData.eqv y x) else none) = _
  rw [if_pos (decide_eq_true (by omega)), any_in hn h1 a1 h2 b1]
theorem notin_lst {n : Nat} {a : D} {ys : List D} (hn : n ≤ 60) (h1 : inD n a = true) (h2 : inDs n ys = true) : cmpD .NotIn a (.lst ys) = some (!ys.any fun y => dsm y a) := by
  obtain ⟨x, a1, a2, a3⟩ := okD_py n a (inD_ok n a h1)
  obtain ⟨zs, b1, b2, b3⟩ := okDs_py n ys (inDs_ok n ys h2)
  show (match a.py, D.lst ys with
    | some x, .lst ys => (D.pyAll ys).bind fun zs => if decide (x.depth ≤ 60) then some (!zs.any fun y => PyData.eqv y x) else none
    | some x, .tup ys => (D.pyAll ys).bind fun zs => if decide (x.depth ≤ 60) then some (!zs.any fun y => PyData.eqv y x) else none
    | _, _ => none) = _
  rw [a1]
  show (D.pyAll ys).bind (fun zs => if decide (x.depth ≤ 60) then some (!zs.any fun y => PyData.eqv y x) else none) = _
  rw [b1]
  show (if decide (x.depth ≤ 60) then some (!zs.any fun y => PyData.eqv y x) else none) = _
  rw [if_pos (decide_eq_true (by omega)), any_in hn h1 a1 h2 b1]
end Pv.Sx
end Sw_
section Sm_
set_option maxRecDepth 100000
/-! Sm: the stepper. -/
namespace Pv.Sx
open Pv PySem
theorem putOut_nil (rs : List R) (os : List (Option D)) : putOut rs os [] = [] := rfl
theorem callO_ret {p : Pr} {f : Nat} {rs qs : List R} {ρ ρ1 : En} {as : List Ar} {r : R} {out : List (Option D)} (h1 : args1 (p.ref f) 0 rs ρ = some (qs, ρ1)) (h2 : args2 qs ρ1 = some as) (h3 : noDup (ptrs qs) = true) (h4 : p.cal f as = .ret r out) : callO p f rs ρ = .ok r (putR qs out 0 ρ1) := callO_eq h1 h2 h3 h4
theorem contains_nil (k : Nat) : List.contains ([] : List Nat) k = false := rfl
theorem putR_nil (rs : List R) (os : List (Option D)) (j : Nat) : putR rs os j [] = [] := rfl
theorem putR_dat' (rs : List R) (os : List (Option D)) (j : Nat) (d : D) (ρ : En) : putR rs os j (.dat d :: ρ) = .dat d :: putR rs os (j + 1) ρ := rfl
theorem putR_emp' (rs : List R) (os : List (Option D)) (j : Nat) (ρ : En) : putR rs os j (.emp :: ρ) = .emp :: putR rs os (j + 1) ρ := rfl
theorem putR_own' (rs : List R) (os : List (Option D)) (j : Nat) (b l : Bool) (d : D) (ρ : En) : putR rs os j (.own b l d :: ρ) = .own b l ((lookOut j rs os).getD d) :: putR rs os (j + 1) ρ := rfl
theorem callO_P (P : Prg) (c : Nat → List Ar → Out) (f : Nat) (rs : List R) (ρ : En) : callO (P.pr c) f rs ρ = match args1 ((P.pr c).ref f) 0 rs ρ with
    | some (qs, ρ1) => (match args2 qs ρ1, noDup (ptrs qs) with
      | some as, true => (match c f as with
        | .ret r out => .ok r (putR qs out 0 ρ1)
        | .exc x d out => .exc x d (putR qs out 0 ρ1)
        | .bad => .bad)
      | _, _ => .bad)
    | none => .bad := by
  unfold callO
  cases args1 ((P.pr c).ref f) 0 rs ρ with
  | none => rfl
  | some q =>
    obtain ⟨qs, ρ1⟩ := q
    dsimp only
    cases args2 qs ρ1 with
    | none => rfl
    | some as =>
      cases noDup (ptrs qs) with
      | false => rfl
      | true =>
        dsimp only
        rw [pr_cal]
        cases c f as with
        | ret r out => dsimp only; rw [putOut_R]
        | exc x d out => dsimp only; rw [putOut_R]
        | bad => rfl
theorem small62_lit {i : Int} (h : i.natAbs ≤ 1000000) : small62 i = true := small_i h
theorem store_ptr (i k : Nat) (ρ : En) : store i (.ptr k) ρ = if (decide (i < ρ.length) && freeS (getS ρ i)) = true then (frz (.ptr k) ρ).map (fun p => p.2.set i (.dat p.1)) else none := rfl
theorem blt_len1 (x : List D) : bltD .len [.lst x] = some (.dat (.int x.length)) := rfl
theorem blt_len2 (x : List D) : bltD .len [.tup x] = some (.dat (.int x.length)) := rfl
theorem blt_len3 (x : List Int) : bltD .len [.scr x] = some (.dat (.int x.length)) := rfl
theorem blt_tup1 (x : List D) : bltD .tuple [.lst x] = some (.dat (.tup x)) := rfl
theorem blt_tup2 (x : List D) : bltD .tuple [.tup x] = some (.dat (.tup x)) := rfl
theorem blt_list1 (x : List D) : bltD .list [.lst x] = some (.own (.lst x)) := rfl
theorem blt_list2 (x : List D) : bltD .list [.tup x] = some (.own (.lst x)) := rfl
theorem isi_ii (i : Int) : isiD (.int i) .int = some true := rfl
theorem isi_ib (i : Int) : isiD (.int i) .bool = some false := rfl
theorem isi_tt (x : List D) : isiD (.tup x) .tuple = some true := rfl
theorem cmp_lt (i j : Int) : cmpD .Lt (.int i) (.int j) = some (decide (i < j)) := rfl
theorem cmp_le (i j : Int) : cmpD .LtE (.int i) (.int j) = some (decide (i ≤ j)) := rfl
theorem cmp_gt (i j : Int) : cmpD .Gt (.int i) (.int j) = some (decide (j < i)) := rfl
theorem cmp_ge (i j : Int) : cmpD .GtE (.int i) (.int j) = some (decide (j ≤ i)) := rfl
theorem cmp_eqi (i j : Int) : cmpD .Eq (.int i) (.int j) = some (decide (i = j)) := eq_int i j
theorem cmp_nei (i j : Int) : cmpD .NotEq (.int i) (.int j) = some (!decide (i = j)) := by
  show (eqD (.int i) (.int j)).map (!·) = _
  rw [eq_int]; rfl
theorem tru_bl (b : Bool) : tru (.bl b) = some b := rfl
theorem idx_l (xs : List D) (i : Int) : idxD (.lst xs) (.int i) = L2.atI xs i := rfl
theorem idx_t (xs : List D) (i : Int) : idxD (.tup xs) (.int i) = L2.atI xs i := rfl
section
variable {p : Pr} {n : Nat}
/-- comprehensions, the slots changed on the way -/
theorem turns_G {β : Type} {enc : β → D} {g : G} {cond : Option T} {elt : C} {own : List Nat} {E : Option β → En} {q : β → Bool} {f : β → D}
    (hpl : ∀ a, (own.all fun i => plainS (getS (E a) i)) = true) : ∀ (ns : List β) (acc : List D) (a : Option β),
    (∀ a, ∀ b ∈ ns, ∃ ρ1 ρ2, setG (ev p n) g (enc b) (wipeS (E a) own) = .ok () ρ1 ∧ (match cond with | none => O.ok true ρ1 | some c => evT p n c ρ1) = .ok (q b) ρ2 ∧
      (q b = true → hold (ev p n) elt ρ2 = .ok (f b) (E (some b))) ∧ (q b = false → ρ2 = E (some b))) → acc.length + ns.length ≤ 1000000 →
    ∃ a', turns (ev p n) (evT p n) g cond elt own (ns.map enc) acc (E a) = .ok (acc ++ (ns.filter q).map f) (E a') ∧ (a' = none → ns = [] ∧ a = none)
  | [], acc, a, h, hl => by
    refine ⟨a, ?_, fun z => ⟨rfl, z⟩⟩
    show (match own.all fun i => plainS (getS (E a) i) with | true => O.ok acc (E a) | false => .bad) = _
    rw [hpl]
    simp
  | b :: ns, acc, a, h, hl => by
    rw [List.length_cons] at hl
    obtain ⟨ρ1, ρ2, e1, e2, e3, e4⟩ := h a b List.mem_cons_self
    have st : turns (ev p n) (evT p n) g cond elt own ((b :: ns).map enc) acc (E a) = (match q b with
        | true => (hold (ev p n) elt ρ2).bind fun d ρ3 => (match fits (acc.length + 1) with
          | true => turns (ev p n) (evT p n) g cond elt own (ns.map enc) (acc ++ [d]) ρ3
          | false => .bad)
        | false => turns (ev p n) (evT p n) g cond elt own (ns.map enc) acc ρ2) := by
      show (match own.all fun i => plainS (getS (E a) i) with
        | true => (setG (ev p n) g (enc b) (wipeS (E a) own)).bind fun _ ρ1 => (match cond with
          | none => O.ok true ρ1
          | some c => evT p n c ρ1).bind fun b ρ2 => (match b with
            | true => (hold (ev p n) elt ρ2).bind fun d ρ3 => (match fits (acc.length + 1) with
              | true => turns (ev p n) (evT p n) g cond elt own (ns.map enc) (acc ++ [d]) ρ3
              | false => .bad)
            | false => turns (ev p n) (evT p n) g cond elt own (ns.map enc) acc ρ2)
        | false => .bad) = _
      rw [hpl, e1]
      dsimp only [O.bind]
      rw [e2]
    rw [st]
    cases hq : q b with
    | true =>
      rw [e3 hq]
      have hf : fits (acc.length + 1) = true := decide_eq_true (by omega)
      dsimp only [O.bind]
      rw [hf]
      obtain ⟨a', ih, ih2⟩ := turns_G hpl ns (acc ++ [f b]) (some b) (fun a c hc => h a c (List.mem_cons_of_mem _ hc)) (by rw [List.length_append]; show acc.length + 1 + ns.length ≤ _; omega)
      refine ⟨a', ih.trans ?_, fun z => nomatch (ih2 z).2⟩
      rw [List.filter_cons_of_pos hq, List.map_cons, List.append_assoc]; rfl
    | false =>
      dsimp only
      rw [e4 hq]
      obtain ⟨a', ih, ih2⟩ := turns_G hpl ns acc (some b) (fun a c hc => h a c (List.mem_cons_of_mem _ hc)) (by omega)
      refine ⟨a', ih.trans ?_, fun z => nomatch (ih2 z).2⟩
      rw [List.filter_cons_of_neg (by rw [hq]; exact Bool.false_ne_true)]
theorem comp_G {β : Type} (enc : β → D) (ns : List β) (E : Option β → En) (q : β → Bool) (f : β → D) {g : G} {cond : Option T} {elt : C} {own ls : List Nat} {it : I} {ρ0 : En}
    (hi : evI (ev p n) it ρ0 = .ok (ns.map enc, ls) (E none)) (hpl : ∀ a, (own.all fun i => plainS (getS (E a) i)) = true)
    (h : ∀ a, ∀ b ∈ ns, ∃ ρ1 ρ2, setG (ev p n) g (enc b) (wipeS (E a) own) = .ok () ρ1 ∧ (match cond with | none => O.ok true ρ1 | some c => evT p n c ρ1) = .ok (q b) ρ2 ∧
      (q b = true → hold (ev p n) elt ρ2 = .ok (f b) (E (some b))) ∧ (q b = false → ρ2 = E (some b))) (hl : ns.length ≤ 1000000) :
    ∃ a', (a' = none → ns = []) ∧ ev p (n + 1) (.comp elt g it cond own) ρ0 = .ok (.own (.lst ((ns.filter q).map f))) (unlend ls (backS (E none) (E a') own)) := by
  obtain ⟨a', e, z⟩ := turns_G (p := p) (n := n) hpl ns [] none h (by simpa using hl)
  refine ⟨a', fun w => (z w).1, ?_⟩
  show O.bind (evI (ev p n) it ρ0) (fun w ρ1 => wipeT ρ1 own w.2 (turns (ev p n) (evT p n) g cond elt own w.1 [] ρ1)) = _
  rw [hi]
  show wipeT (E none) own ls (turns (ev p n) (evT p n) g cond elt own (ns.map enc) [] (E none)) = _
  rw [e]
  rfl
/-- loops by places -/
theorem loop_L {e : C → En → O R} {g : G} {body : En → F} (E : Nat → En) (xs : List D) (h : ∀ k x, xs[k]? = some x → ∃ ρ1, setG e g x (E k) = .ok () ρ1 ∧ (body ρ1 = .nx (E (k + 1)) ∨ body ρ1 = .ct (E (k + 1)))) : loopF e g body xs (E 0) = .nx (E xs.length) := by
  have key : ∀ (ys : List D) (k : Nat), xs.drop k = ys → loopF e g body ys (E k) = .nx (E (k + ys.length)) := by
    intro ys
    induction ys with
    | nil => intro k _; rfl
    | cons y ys ih =>
      intro k hk
      have hy : xs[k]? = some y := by
        have := congrArg List.head? hk
        rw [List.head?_drop] at this
        exact this
      obtain ⟨ρ1, h1, h2⟩ := h k y hy
      have ih := ih (k + 1) (by rw [← List.drop_drop, hk]; rfl)
      show (setG e g y (E k)).fl (fun _ ρ1 => match body ρ1 with
        | .nx ρ2 => loopF e g body ys ρ2
        | .ct ρ2 => loopF e g body ys ρ2
        | .bk ρ2 => .nx ρ2
        | x => x) = _
      rw [h1]
      show (match body ρ1 with
        | .nx ρ2 => loopF e g body ys ρ2
        | .ct ρ2 => loopF e g body ys ρ2
        | .bk ρ2 => .nx ρ2
        | x => x) = _
      have e2 : k + (y :: ys).length = k + 1 + ys.length := by rw [List.length_cons]; omega
      rw [e2]
      rcases h2 with h2 | h2
      · rw [h2]; exact ih
      · rw [h2]; exact ih
  have := key xs 0 rfl
  rwa [Nat.zero_add] at this
theorem rngL_at {lo : Int} {m k : Nat} {x : D} (h : (rngL lo (lo + m))[k]? = some x) : k < m ∧ x = .int (lo + k) := by
  rw [rng_from, List.getElem?_map] at h
  cases e : (List.range' 0 m)[k]? with
  | none => rw [e] at h; exact nomatch h
  | some j =>
    rw [e] at h; injection h with h
    obtain ⟨h1, h2⟩ := List.getElem?_eq_some_iff.mp e
    rw [List.length_range'] at h1
    rw [List.getElem_range'] at h2
    exact ⟨h1, by rw [← h, ← h2]; simp⟩
theorem rngL_len' (lo : Int) (m : Nat) : (rngL lo (lo + m)).length = m := by rw [rng_from, List.length_map, List.length_range']
theorem loop_N {e : C → En → O R} {g : G} {body : En → F} (E : Nat → En) (lo : Int) (m : Nat) (h : ∀ k, k < m → ∃ ρ1, setG e g (.int (lo + k)) (E k) = .ok () ρ1 ∧ (body ρ1 = .nx (E (k + 1)) ∨ body ρ1 = .ct (E (k + 1)))) : loopF e g body (rngL lo (lo + m)) (E 0) = .nx (E m) := by
  have := loop_L (e := e) (g := g) (body := body) E (rngL lo (lo + m)) fun k x hx => by
    obtain ⟨h1, rfl⟩ := rngL_at hx
    exact h k h1
  rwa [rngL_len'] at this
end
/-! ### sums, tests of lists -/
theorem dBools_map {β : Type} (g : β → Bool) : ∀ ns : List β, dBools (ns.map fun b => D.bl (g b)) = some (ns.map g)
  | [] => rfl
  | b :: ns => by
    show (dBools (ns.map fun b => D.bl (g b))).map (g b :: ·) = _
    rw [dBools_map g ns]; rfl
theorem any_map {β : Type} (g : β → Bool) (ns : List β) : bltD .any [.lst (ns.map fun b => D.bl (g b))] = some (.dat (.bl (ns.any g))) := by
  show (dBools _).map (fun bs => R.dat (.bl (bs.any id))) = _
  rw [dBools_map]
  show some (R.dat (.bl ((ns.map g).any id))) = _
  rw [List.any_map]; rfl
theorem all_map {β : Type} (g : β → Bool) (ns : List β) : bltD .all [.lst (ns.map fun b => D.bl (g b))] = some (.dat (.bl (ns.all g))) := by
  show (dBools _).map (fun bs => R.dat (.bl (bs.all id))) = _
  rw [dBools_map]
  show some (R.dat (.bl ((ns.map g).all id))) = _
  rw [List.all_map]; rfl
theorem dInts_map {β : Type} (g : β → Int) : ∀ ns : List β, dInts (ns.map fun b => D.int (g b)) = some (ns.map g)
  | [] => rfl
  | b :: ns => by
    show (dInts (ns.map fun b => D.int (g b))).map (g b :: ·) = _
    rw [dInts_map g ns]; rfl
theorem sum_map {β : Type} (g : β → Int) (ns : List β) : bltD .sum [.lst (ns.map fun b => D.int (g b))] = some (.dat (.int (ns.map g).sum)) := by
  show (dInts _).map (fun ns => R.dat (.int ns.sum)) = _
  rw [dInts_map]; rfl
theorem dInts_dI (xs : List Int) : dInts (dI xs) = some xs := by
  have := dInts_map (fun i : Int => i) xs
  rwa [List.map_id'] at this
theorem at_dI {xs : List Int} {k : Nat} (h : k < xs.length) : L2.atI (dI xs) (k : Int) = some (.int (xs.getD k 0)) := by
  refine atI_nat _ k _ ?_
  unfold dI
  rw [List.getElem?_map, List.getElem?_eq_getElem h, List.getD_eq_getElem?_getD, List.getElem?_eq_getElem h]; rfl
theorem at_map {β : Type} {f : β → D} {xs : List β} {k : Nat} {x : β} (h : xs[k]? = some x) : L2.atI (xs.map f) (k : Int) = some (f x) := by
  refine atI_nat _ k _ ?_
  rw [List.getElem?_map, h]; rfl
/-! ### sorted -/
theorem tInts_map : ∀ ts : List (List Int), tInts (ts.map tupI) = some ts
  | [] => rfl
  | t :: ts => by
    show (dInts (t.map D.int)).bind (fun ns => (tInts (ts.map tupI)).map (ns :: ·)) = _
    have e : dInts (t.map D.int) = some t := dInts_dI t
    rw [e, tInts_map ts]; rfl
theorem dInts_tups {ts : List (List Int)} (h : ts ≠ []) : dInts (ts.map tupI) = none := by
  cases ts with
  | nil => exact absurd rfl h
  | cons t ts => rfl
theorem sort_tups {ts : List (List Int)} (h : ts ≠ []) : bltD .sorted [.lst (ts.map tupI)] = some (.own (.lst ((sortB HT.lexLt ts).map tupI))) := by
  show (sortD (ts.map tupI)).map (fun y => R.own (.lst y)) = _
  unfold sortD
  rw [dInts_tups h, tInts_map]; rfl
theorem sort_ints (ns : List Int) : bltD .sorted [.lst (dI ns)] = some (.own (.lst (dI (sortB (fun a b => decide (a < b)) ns)))) := by
  show (sortD (dI ns)).map (fun y => R.own (.lst y)) = _
  unfold sortD
  rw [dInts_dI]; rfl
theorem sort_intsT (ns : List Int) : bltD .sorted [.tup (dI ns)] = some (.own (.lst (dI (sortB (fun a b => decide (a < b)) ns)))) := by
  show (sortD (dI ns)).map (fun y => R.own (.lst y)) = _
  unfold sortD
  rw [dInts_dI]; rfl
/-! ### repeated -/
theorem mul_lst {xs : List D} {k : Int} (h0 : 0 ≤ k) (h1 : k ≤ 1000) (hl : xs.length ≤ 1000) : binD .Mult (.lst xs) (.int k) = some (.own (.lst (repL k xs))) := if_pos (and_tt (and_tt (decide_eq_true h0) (decide_eq_true h1)) (decide_eq_true hl))
theorem mul_tup {xs : List D} {k : Int} (h0 : -1000 ≤ k) (h1 : k ≤ 1000) (hl : xs.length ≤ 1000) : binD .Mult (.tup xs) (.int k) = some (.dat (.tup (repL k xs))) := if_pos (and_tt (and_tt (decide_eq_true h0) (decide_eq_true h1)) (decide_eq_true hl))
theorem repL_1 (k : Int) (x : D) : repL k [x] = List.replicate k.toNat x := by
  unfold repL
  rw [List.flatten_replicate_singleton]
theorem fits_ok {n : Nat} (h : n ≤ 1000000) : fits n = true := decide_eq_true h
theorem add_lst {x y : List D} (h : x.length + y.length ≤ 1000000) : binD .Add (.lst x) (.lst y) = some (.own (.lst (x ++ y))) := if_pos (fits_ok h)
theorem add_tup {x y : List D} (h : x.length + y.length ≤ 1000000) : binD .Add (.tup x) (.tup y) = some (.dat (.tup (x ++ y))) := if_pos (fits_ok h)
theorem cut_from (xs : List D) (k : Nat) (h : k ≤ xs.length) : cutD xs (some (k : Int)) none = xs.drop k := by
  unfold cutD
  have e : HT.sIx xs.length 0 (some (k : Int)) = k := by
    rw [HT.sIx_nat]
    exact Nat.min_eq_left h
  have e2 : HT.sIx xs.length xs.length none = xs.length := rfl
  rw [e, e2]
  exact List.take_of_length_le (by rw [List.length_drop]; omega)
theorem eq_nilL {n : Nat} {xs : List D} (h : inDs n xs = true) (hn : n ≤ 59) : cmpD .Eq (.lst xs) (.lst []) = some xs.isEmpty := by
  show eqD _ _ = _
  rw [eq_in (n := n + 1) (a := .lst xs) (b := .lst []) h rfl (by omega)]
  cases xs <;> rfl
theorem ne_nilL {n : Nat} {xs : List D} (h : inDs n xs = true) (hn : n ≤ 59) : cmpD .NotEq (.lst xs) (.lst []) = some (!xs.isEmpty) := by
  show (eqD _ _).map (!·) = _
  have : eqD (.lst xs) (.lst []) = some xs.isEmpty := eq_nilL h hn
  rw [this]; rfl
/-- tables by places -/
def tI (m : Nat) (f : Nat → Int) : List D := (List.range m).map fun j => .int (f j)
theorem tI_len (m : Nat) (f : Nat → Int) : (tI m f).length = m := by unfold tI; rw [List.length_map, List.length_range]
theorem tI_at {m i : Nat} (f : Nat → Int) (h : i < m) : (tI m f)[i]? = some (.int (f i)) := by
  unfold tI
  rw [List.getElem?_map, List.getElem?_range h]; rfl
theorem at_tI {m i : Nat} (f : Nat → Int) (h : i < m) : L2.atI (tI m f) (i : Int) = some (.int (f i)) := atI_nat _ _ _ (tI_at f h)
theorem tI_congr {m : Nat} {f g : Nat → Int} (h : ∀ j, j < m → f j = g j) : tI m f = tI m g := by
  unfold tI
  refine List.map_congr_left fun j hj => ?_
  rw [h j (List.mem_range.mp hj)]
theorem tI_set {m i : Nat} (f : Nat → Int) (v : Int) (h : i < m) : (tI m f).set i (.int v) = tI m (fun j => if j = i then v else f j) := by
  apply List.ext_getElem?
  intro j
  by_cases c : j < m
  · rw [tI_at _ c, List.getElem?_set]
    by_cases e : i = j
    · subst e
      rw [if_pos rfl, if_pos (by rw [tI_len]; exact h), if_pos rfl]
    · rw [if_neg e, tI_at f c, if_neg fun z => e z.symm]
  · rw [List.getElem?_eq_none (by rw [List.length_set, tI_len]; omega), List.getElem?_eq_none (by rw [tI_len]; omega)]
theorem ix_tI {m i : Nat} (f : Nat → Int) (v : Int) (h : i < m) : setIxD (.lst (tI m f)) (.int (i : Int)) (.int v) = some (.lst (tI m (fun j => if j = i then v else f j))) := by
  show (L2.ixN (tI m f).length (i : Int)).map (fun j => D.lst ((tI m f).set j (.int v))) = _
  rw [tI_len, ixN_nat _ _ h]
  show some (D.lst ((tI m f).set i (.int v))) = _
  rw [tI_set f v h]
theorem repl_tI (m : Nat) (v : Int) : List.replicate m (D.int v) = tI m fun _ => v := by
  apply List.ext_getElem?
  intro j
  by_cases c : j < m
  · rw [tI_at _ c, List.getElem?_replicate, if_pos c]
  · rw [List.getElem?_eq_none (by rw [List.length_replicate]; omega), List.getElem?_eq_none (by rw [tI_len]; omega)]
theorem filter_any {α : Type} (q : α → Bool) : ∀ l : List α, (!(l.filter q).isEmpty) = l.any q
  | [] => rfl
  | d :: ds => by
    rw [List.any_cons]
    cases hq : q d with
    | true => rw [List.filter_cons_of_pos hq]; rfl
    | false => rw [List.filter_cons_of_neg (by rw [hq]; exact Bool.false_ne_true), Bool.false_or]; exact filter_any q ds
theorem ev_dat {p : Pr} {n i : Nat} {ρ : En} {d : D} (h : getS ρ i = .dat d) : ev p (n + 1) (.var i) ρ = .ok (.dat d) ρ := by
  simp only [ev, h]
theorem peek_dat {p : Pr} {n i : Nat} {ρ : En} {d : D} (h : getS ρ i = .dat d) : peek (ev p (n + 1)) (.var i) ρ = .ok d ρ := by
  simp only [peek, ev_dat h, O.bind, pk, O.of]
theorem evI_rngV {p : Pr} {n i m : Nat} {ρ : En} (h : getS ρ i = .dat (.int (m : Nat))) (hm : m ≤ 1000000) : evI (ev p (n + 1)) (.rng1 (.var i)) ρ = .ok (rngL 0 (m : Int), []) ρ := evI_rng1 (peek_dat h) (small_n hm)
theorem evI_datT {p : Pr} {n i : Nat} {ρ : En} {xs : List D} (h : getS ρ i = .dat (.tup xs)) : evI (ev p (n + 1)) (.seq (.var i)) ρ = .ok (xs, []) ρ := evI_seq (ev_dat h) rfl rfl
theorem evI_datL {p : Pr} {n i : Nat} {ρ : En} {xs : List D} (h : getS ρ i = .dat (.lst xs)) : evI (ev p (n + 1)) (.seq (.var i)) ρ = .ok (xs, []) ρ := evI_seq (ev_dat h) rfl rfl
theorem fits_0 : fits 0 = true := rfl
theorem fits_1 : fits 1 = true := rfl
theorem fits_2 : fits 2 = true := rfl
theorem fits_3 : fits 3 = true := rfl
theorem fits_4 : fits 4 = true := rfl
theorem fits_5 : fits 5 = true := rfl
theorem fits_6 : fits 6 = true := rfl
theorem fits_7 : fits 7 = true := rfl
theorem fits_8 : fits 8 = true := rfl
theorem fits_9 : fits 9 = true := rfl
theorem fits_10 : fits 10 = true := rfl
theorem fits_11 : fits 11 = true := rfl
theorem fits_12 : fits 12 = true := rfl
theorem fits_13 : fits 13 = true := rfl
theorem fits_14 : fits 14 = true := rfl
theorem fits_15 : fits 15 = true := rfl
theorem fits_16 : fits 16 = true := rfl
theorem fits_17 : fits 17 = true := rfl
theorem fits_18 : fits 18 = true := rfl
theorem fits_19 : fits 19 = true := rfl
theorem fits_20 : fits 20 = true := rfl
theorem fits_21 : fits 21 = true := rfl
theorem fits_22 : fits 22 = true := rfl
theorem fits_23 : fits 23 = true := rfl
theorem fits_24 : fits 24 = true := rfl
/-! ### calls by data alone -/
theorem outs_dat : ∀ (vs : List D) (ρ : En), outs (vs.map Ar.dat) ρ = vs.map fun _ => none
  | [], ρ => rfl
  | v :: vs, ρ => by
    show none :: outs (vs.map Ar.dat) ρ.tail = _
    rw [outs_dat vs]; rfl
theorem cal_rtD {P : Prg} {l k : Nat} {f : Fn} {vs : List D} {r : R} {ρ : En} (hf : P.fns[k]? = some f) (hl : vs.length = f.args) (h : exsL (Pv.ex (P.pr (P.cal l)) 60) f.body (vs.map Sl.dat ++ List.replicate (f.slots - f.args) .emp) = .rt r ρ) : P.cal (l + 1) k (vs.map Ar.dat) = .ret r (vs.map fun _ => none) := by
  have e : (vs.map Ar.dat).map arS = vs.map Sl.dat := by rw [List.map_map]; rfl
  have := cal_rt (P := P) (l := l) (k := k) (f := f) (as := vs.map Ar.dat) (r := r) (ρ := ρ) hf (by rw [List.length_map]; exact hl) (by rw [e]; exact h)
  rw [this, outs_dat]
theorem cal_nxD {P : Prg} {l k : Nat} {f : Fn} {vs : List D} {ρ : En} (hf : P.fns[k]? = some f) (hl : vs.length = f.args) (h : exsL (Pv.ex (P.pr (P.cal l)) 60) f.body (vs.map Sl.dat ++ List.replicate (f.slots - f.args) .emp) = .nx ρ) : P.cal (l + 1) k (vs.map Ar.dat) = .ret (.dat .non) (vs.map fun _ => none) := by
  have e : (vs.map Ar.dat).map arS = vs.map Sl.dat := by rw [List.map_map]; rfl
  have := cal_nx (P := P) (l := l) (k := k) (f := f) (as := vs.map Ar.dat) (ρ := ρ) hf (by rw [List.length_map]; exact hl) (by rw [e]; exact h)
  rw [this, outs_dat]
theorem cal_rtE {P : Prg} {l k : Nat} (f : Fn) (vs : List D) (ρ0 : En) {as : List Ar} {r : R} {ρ : En} {os : List (Option D)} (ha : vs.map Ar.dat = as) (hf : P.fns[k]? = some f) (hl : vs.length = f.args) (h0 : vs.map Sl.dat ++ List.replicate (f.slots - f.args) .emp = ρ0) (ho : (vs.map fun _ => none) = os) (h : exsL (Pv.ex (P.pr (P.cal l)) 60) f.body ρ0 = .rt r ρ) : P.cal (l + 1) k as = .ret r os := by
  subst h0; subst ho; subst ha
  exact cal_rtD hf hl h
theorem cal_nxE {P : Prg} {l k : Nat} (f : Fn) (vs : List D) (ρ0 : En) {as : List Ar} {ρ : En} {os : List (Option D)} (ha : vs.map Ar.dat = as) (hf : P.fns[k]? = some f) (hl : vs.length = f.args) (h0 : vs.map Sl.dat ++ List.replicate (f.slots - f.args) .emp = ρ0) (ho : (vs.map fun _ => none) = os) (h : exsL (Pv.ex (P.pr (P.cal l)) 60) f.body ρ0 = .nx ρ) : P.cal (l + 1) k as = .ret (.dat .non) os := by
  subst h0; subst ho; subst ha
  exact cal_nxD hf hl h
/-- .. by the dice, too -/
theorem cal_rtF {P : Prg} {l k : Nat} (f : Fn) (as : List Ar) (ρ0 : En) {r : R} {ρ : En} {os : List (Option D)} (hf : P.fns[k]? = some f) (hl : as.length = f.args) (h0 : as.map arS ++ List.replicate (f.slots - f.args) .emp = ρ0) (h : exsL (Pv.ex (P.pr (P.cal l)) 60) f.body ρ0 = .rt r ρ) (ho : outs as ρ = os) : P.cal (l + 1) k as = .ret r os := by
  subst h0; subst ho
  exact cal_rt hf hl h
end Pv.Sx
end Sm_
section Sd_
set_option maxRecDepth 100000
/-! Sd: _law_shuffled. -/
namespace Pv.Sx
open Pv PySem
theorem mth_pop {xs : List D} {v : Int} (h0 : 0 ≤ v) (h1 : v.toNat < xs.length) : mthD .popAt (.lst xs) [.int v] = some (.dat xs[v.toNat], .lst (xs.eraseIdx v.toNat)) := by
  show (if (decide (0 ≤ v) && decide (v < (xs.length : Int))) = true then (xs[v.toNat]?).map fun d => (R.dat d, D.lst (xs.eraseIdx v.toNat)) else none) = _
  rw [if_pos (and_tt (decide_eq_true h0) (decide_eq_true (by omega))), List.getElem?_eq_getElem h1]; rfl
theorem mth_app {xs : List D} {d : D} (h : xs.length + 1 ≤ 1000000) : mthD .append (.lst xs) [d] = some (.dat .non, .lst (xs ++ [d])) := if_pos (fits_ok h)
theorem perm_erase {α : Type} : ∀ (l : List α) (i : Nat) (h : i < l.length), (l[i] :: l.eraseIdx i).Perm l
  | [], i, h => absurd h (Nat.not_lt_zero _)
  | x :: l, 0, h => List.Perm.refl _
  | x :: l, i + 1, h => by
    show (l[i]'(Nat.lt_of_succ_lt_succ h) :: x :: l.eraseIdx i).Perm (x :: l)
    exact (List.Perm.swap x _ _).trans ((perm_erase l i (Nat.lt_of_succ_lt_succ h)).cons x)
def shufB (ir : Nat) : List Pv.S := [(.par [2, 3] [(.blt .list [(.var 1)]), (.lst [])]),
    (.loop (.nm 4) (.rng1 (.blt .len [(.var 1)])) [(.exp (.mth .append (.var 3) [(.mth .popAt (.var 2) [(.call ir [(.var 0), (.blt .len [(.var 2)])])])]))]),
    (.ret (.var 3))]
section
variable {P : Prg} {ir : Nat} (hf : P.fns[ir]? = some ⟨2, 5, [0], rollB⟩)
include hf
theorem shuf_turn {l k : Nat} {d x1 q : D} {left found : List D} (hd : GD k d) (hk : k ≤ 1000) (h0 : 0 < left.length) (h1 : left.length ≤ 1000) (h2 : found.length ≤ 1000) :
    ∃ (i : Nat) (x d' : D), left[i]? = some x ∧ GD (k + 1) d' ∧ exsL (Pv.ex (P.pr (P.cal (l + 1))) 59) [(.exp (.mth .append (.var 3) [(.mth .popAt (.var 2) [(.call ir [(.var 0), (.blt .len [(.var 2)])])])]))] [.own true false d, .dat x1, .own false false (.lst left), .own false false (.lst found), .dat q] =
      .nx [.own true false d', .dat x1, .own false false (.lst (left.eraseIdx i)), .own false false (.lst (found ++ [x])), .dat q] := by
  obtain ⟨v, d', hr, v0, v1, g⟩ := cal_roll hf l hd hk (n := (left.length : Int)) (by omega) (by omega)
  have hv : v.toNat < left.length := by omega
  have href : (P.pr (P.cal (l + 1))).ref ir = [0] := by
    show ((P.fns[ir]?).map (·.ref)).getD [] = [0]
    rw [hf]; rfl
  refine ⟨v.toNat, left[v.toNat], d', List.getElem?_eq_getElem hv, g, ?_⟩
  have e1 := mth_pop v0 hv
  have e2 := mth_app (xs := found) (d := left[v.toNat]) (by omega)
  obtain ⟨c, hcal⟩ : ∃ c, c = P.cal (l + 1) := ⟨_, rfl⟩
  rw [← hcal] at hr href ⊢
  simp -implicitDefEqProofs only [exsL, osl, Pv.ex, ev, evs, evT, evI, evW, evO, two, peek, hold, disp, O.bind, O.fl, O.of, F.then, F.of, pk, pks, frz, frzs, getS, rdS, lend, items, setGR, setG, setNms, settle, setRs, setIx, store_dat, store_own, putAt_z, putAt_s, free_emp, free_dat, free_own, outR, callO_P, args1, args2, arOf, ptrs, noDup, c00, c01, contains_nil, putR_nil, putR_dat', putR_emp', putR_own', lookOut, beq_self_eq_true, unlend, unlS, List.getD_cons_zero, List.getD_cons_succ, List.set_cons_zero, List.set_cons_succ, List.length_nil, List.length_cons, Option.map, Option.bind, Option.getD, if_true, Bool.not_true, Bool.not_false, Bool.false_eq_true, if_false, blt_len1, blt_len2, blt_len3, blt_tup1, blt_tup2, blt_list1, blt_list2, isi_ii, isi_ib, isi_tt, cmp_lt, cmp_le, cmp_gt, cmp_ge, cmp_eqi, cmp_nei, tru_bl, idx_l, idx_t, add_int, sub_int, Bool.and_self, Bool.and_true, Bool.true_and, Bool.and_false, Bool.false_and, fits_0, fits_1, fits_2, fits_3, fits_4, fits_5, fits_6, fits_7, fits_8, fits_9, fits_10, fits_11, fits_12, fits_13, fits_14, fits_15, fits_16, fits_17, fits_18, fits_19, fits_20, fits_21, fits_22, fits_23, fits_24, Nat.reduceAdd, Nat.reduceBEq, putR0, putR0', href, hr, mthO, e1, e2]
theorem shuf_loop {l : Nat} {x1 : D} : ∀ (m a k : Nat) (d : D) (left found : List D) (s4 : Sl), left.length = m → freeS s4 = true → GD k d → k + m ≤ 1000 → m ≤ 1000 → found.length + m ≤ 1000 →
    ∃ (ys : List D) (d' : D) (s4' : Sl), ys.Perm left ∧ GD (k + m) d' ∧ loopF (ev (P.pr (P.cal (l + 1))) 59) (.nm 4) (exsL (Pv.ex (P.pr (P.cal (l + 1))) 59) [(.exp (.mth .append (.var 3) [(.mth .popAt (.var 2) [(.call ir [(.var 0), (.blt .len [(.var 2)])])])]))]) ((List.range' a m).map fun i => D.int (0 + (i : Nat))) [.own true false d, .dat x1, .own false false (.lst left), .own false false (.lst found), s4] =
      .nx [.own true false d', .dat x1, .own false false (.lst []), .own false false (.lst (found ++ ys)), s4']
  | 0, a, k, d, left, found, s4, hl, hs, hd, h1, h2, h3 => by
    have : left = [] := List.eq_nil_of_length_eq_zero hl
    subst this
    exact ⟨[], d, s4, List.Perm.refl _, hd, by rw [List.append_nil]; rfl⟩
  | m + 1, a, k, d, left, found, s4, hl, hs, hd, h1, h2, h3 => by
    obtain ⟨i, x, d1, hx, g, hb⟩ := shuf_turn hf (l := l) (x1 := x1) (left := left) (found := found) (q := .int (0 + (a : Nat))) hd (by omega) (by omega) (by omega) (by omega)
    obtain ⟨hi, hx'⟩ := List.getElem?_eq_some_iff.mp hx
    have he : (left.eraseIdx i).length = m := by rw [List.length_eraseIdx_of_lt hi]; omega
    obtain ⟨ys, d2, s', hp, g2, ih⟩ := shuf_loop m (a + 1) (k + 1) d1 (left.eraseIdx i) (found ++ [x]) (.dat (.int (0 + (a : Nat)))) he rfl g (by omega) (by omega) (by rw [List.length_append]; show found.length + 1 + m ≤ 1000; omega)
    refine ⟨x :: ys, d2, s', ?_, by rw [show k + (m + 1) = k + 1 + m by omega]; exact g2, ?_⟩
    · refine (hp.cons x).trans ?_
      rw [← hx']
      exact perm_erase left i hi
    · rw [List.range'_succ, List.map_cons]
      have hg : setG (ev (P.pr (P.cal (l + 1))) 59) (.nm 4) (.int (0 + (a : Nat))) [.own true false d, .dat x1, .own false false (.lst left), .own false false (.lst found), s4] = .ok () [.own true false d, .dat x1, .own false false (.lst left), .own false false (.lst found), .dat (.int (0 + (a : Nat)))] := by
        simp -implicitDefEqProofs only [exsL, osl, Pv.ex, ev, evs, evT, evI, evW, evO, two, peek, hold, disp, O.bind, O.fl, O.of, F.then, F.of, pk, pks, frz, frzs, getS, rdS, lend, items, setGR, setG, setNms, settle, setRs, setIx, store_dat, store_own, putAt_z, putAt_s, free_emp, free_dat, free_own, outR, callO_P, args1, args2, arOf, ptrs, noDup, c00, c01, contains_nil, putR_nil, putR_dat', putR_emp', putR_own', lookOut, beq_self_eq_true, unlend, unlS, List.getD_cons_zero, List.getD_cons_succ, List.set_cons_zero, List.set_cons_succ, List.length_nil, List.length_cons, Option.map, Option.bind, Option.getD, if_true, Bool.not_true, Bool.not_false, Bool.false_eq_true, if_false, blt_len1, blt_len2, blt_len3, blt_tup1, blt_tup2, blt_list1, blt_list2, isi_ii, isi_ib, isi_tt, cmp_lt, cmp_le, cmp_gt, cmp_ge, cmp_eqi, cmp_nei, tru_bl, idx_l, idx_t, add_int, sub_int, Bool.and_self, Bool.and_true, Bool.true_and, Bool.and_false, Bool.false_and, fits_0, fits_1, fits_2, fits_3, fits_4, fits_5, fits_6, fits_7, fits_8, fits_9, fits_10, fits_11, fits_12, fits_13, fits_14, fits_15, fits_16, fits_17, fits_18, fits_19, fits_20, fits_21, fits_22, fits_23, fits_24, Nat.reduceAdd, Nat.reduceBEq, putR0, putR0', hs]
      rw [loop_step hg hb, ih, List.append_assoc]; rfl
theorem cal_shuf {is : Nat} (hg : P.fns[is]? = some ⟨2, 5, [0], shufB ir⟩) (l : Nat) {k : Nat} {d x : D} {xs : List D} (hx : x = .lst xs ∨ x = .tup xs) (hd : GD k d) (hk : k + xs.length ≤ 1000) (hl : xs.length ≤ 500) :
    ∃ (ys : List D) (d' : D), ys.Perm xs ∧ GD (k + xs.length) d' ∧ P.cal (l + 2) is [.own false d, .dat x] = .ret (.own (.lst ys)) [some d', none] := by
  obtain ⟨ys, d', s4, hp, g, hL⟩ := shuf_loop hf (l := l) (x1 := x) xs.length 0 k d xs [] .emp rfl rfl hd (by omega) (by omega) (by simp; omega)
  refine ⟨ys, d', hp, g, ?_⟩
  have h0 : Pv.ex (P.pr (P.cal (l + 1))) 60 (.par [2, 3] [(.blt .list [(.var 1)]), (.lst [])]) [.own true false d, .dat x, .emp, .emp, .emp] = .nx [.own true false d, .dat x, .own false false (.lst xs), .own false false (.lst []), .emp] := by
    rcases hx with rfl | rfl <;> rfl
  have e1 : bltD .len [x] = some (.dat (.int xs.length)) := by rcases hx with rfl | rfl <;> rfl
  have hi : evI (ev (P.pr (P.cal (l + 1))) 59) (.rng1 (.blt .len [(.var 1)])) [.own true false d, .dat x, .own false false (.lst xs), .own false false (.lst []), .emp] = .ok (rngL 0 (xs.length : Int), []) [.own true false d, .dat x, .own false false (.lst xs), .own false false (.lst []), .emp] := by
    refine evI_rng1 ?_ (small_n (by omega))
    simp -implicitDefEqProofs only [exsL, osl, Pv.ex, ev, evs, evT, evI, evW, evO, two, peek, hold, disp, O.bind, O.fl, O.of, F.then, F.of, pk, pks, frz, frzs, getS, rdS, lend, items, setGR, setG, setNms, settle, setRs, setIx, store_dat, store_own, putAt_z, putAt_s, free_emp, free_dat, free_own, outR, callO_P, args1, args2, arOf, ptrs, noDup, c00, c01, contains_nil, putR_nil, putR_dat', putR_emp', putR_own', lookOut, beq_self_eq_true, unlend, unlS, List.getD_cons_zero, List.getD_cons_succ, List.set_cons_zero, List.set_cons_succ, List.length_nil, List.length_cons, Option.map, Option.bind, Option.getD, if_true, Bool.not_true, Bool.not_false, Bool.false_eq_true, if_false, blt_len1, blt_len2, blt_len3, blt_tup1, blt_tup2, blt_list1, blt_list2, isi_ii, isi_ib, isi_tt, cmp_lt, cmp_le, cmp_gt, cmp_ge, cmp_eqi, cmp_nei, tru_bl, idx_l, idx_t, add_int, sub_int, Bool.and_self, Bool.and_true, Bool.true_and, Bool.and_false, Bool.false_and, fits_0, fits_1, fits_2, fits_3, fits_4, fits_5, fits_6, fits_7, fits_8, fits_9, fits_10, fits_11, fits_12, fits_13, fits_14, fits_15, fits_16, fits_17, fits_18, fits_19, fits_20, fits_21, fits_22, fits_23, fits_24, Nat.reduceAdd, Nat.reduceBEq, putR0, putR0', e1]
  rw [← rng_nat] at hL
  have h1 := ex_loop hi hL
  refine cal_rtF ⟨2, 5, [0], shufB ir⟩ [.own false d, .dat x] [.own true false d, .dat x, .emp, .emp, .emp] (ρ := [.own true false d', .dat x, .own false false (.lst []), .own false false (.lst ([] ++ ys)), s4]) hg rfl rfl ((ex_nx h0).trans ((ex_nx h1).trans (ex_rt (r := .own (.lst ([] ++ ys))) ?_))) rfl
  rfl
end
/-! ### comprehensions that draw, w times a turn -/
section
variable {p : Pr} {n : Nat}
theorem turns_D {i w : Nat} {c : C} {Q : D → Prop} {E : D → Sl → En} {m : Nat} (h1 : ∀ d s s', (E d s).set i s' = E d s') (h2 : ∀ d s, getS (E d s) i = s) (h3 : ∀ d s, i < (E d s).length) (h : ∀ k d x, k + w ≤ m → GD k d → ∃ v d', ev p n c (E d (.dat x)) = .ok (.dat v) (E d' (.dat x)) ∧ Q v ∧ GD (k + w) d') : ∀ (xs acc : List D) (k : Nat) (d : D) (s : Sl), plainS s = true → GD k d → k + w * xs.length ≤ m → acc.length + xs.length ≤ 1000 → ∃ vs d' s', vs.length = xs.length ∧ (∀ v ∈ vs, Q v) ∧ GD (k + w * xs.length) d' ∧ turns (ev p n) (evT p n) (.nm i) none c [i] xs acc (E d s) = .ok (acc ++ vs) (E d' s')
  | [], acc, k, d, s, hs, g, hk, hl => by
    refine ⟨[], d, s, rfl, fun v hv => (List.not_mem_nil hv).elim, g, ?_⟩
    unfold turns
    simp only [List.all_cons, List.all_nil, Bool.and_true, h2, hs, List.append_nil]
  | x :: xs, acc, k, d, s, hs, g, hk, hl => by
    rw [List.length_cons] at hl hk
    have hw : w * (xs.length + 1) = w + w * xs.length := by rw [Nat.mul_add, Nat.mul_one, Nat.add_comm]
    obtain ⟨v, d1, hx, hq, g1⟩ := h k d x (by omega) g
    obtain ⟨vs, d', s', hlen, hall, g', ih⟩ := turns_D h1 h2 h3 h xs (acc ++ [v]) (k + w) d1 (.dat x) rfl g1 (by omega) (by rw [List.length_append]; show acc.length + 1 + xs.length ≤ 1000; omega)
    refine ⟨v :: vs, d', s', congrArg Nat.succ hlen, ?_, by rw [List.length_cons, hw, ← Nat.add_assoc]; exact g', ?_⟩
    · intro u hu
      rcases List.mem_cons.mp hu with rfl | hu
      · exact hq
      · exact hall u hu
    have hf : fits (acc.length + 1) = true := decide_eq_true (by omega)
    have st : store i (.dat x) (E d .emp) = some (E d (.dat x)) := by
      unfold store
      rw [decide_eq_true (h3 _ _), h2]
      show some ((E d .emp).set i (.dat x)) = _
      rw [h1]
    unfold turns
    simp only [List.all_cons, List.all_nil, Bool.and_true, h2, hs, wipeS, h1, setG, st, O.of, O.bind, hold, hx, frz, hf]
    rw [ih, List.append_assoc]
    rfl
theorem comp_D (i w : Nat) (c : C) (Q : D → Prop) (E : D → Sl → En) (m k : Nat) {it : I} {ρ0 : En} {xs : List D} {d : D} {s : Sl} (h1 : ∀ d s s', (E d s).set i s' = E d s') (h2 : ∀ d s, getS (E d s) i = s) (h3 : ∀ d s, i < (E d s).length) (h : ∀ k d x, k + w ≤ m → GD k d → ∃ v d', ev p n c (E d (.dat x)) = .ok (.dat v) (E d' (.dat x)) ∧ Q v ∧ GD (k + w) d') (hi : evI (ev p n) it ρ0 = .ok (xs, []) (E d s)) (hs : plainS s = true) (g : GD k d) (hk : k + w * xs.length ≤ m) (hl : xs.length ≤ 1000) : ∃ vs d', vs.length = xs.length ∧ (∀ v ∈ vs, Q v) ∧ GD (k + w * xs.length) d' ∧ ev p (n + 1) (.comp c (.nm i) it none [i]) ρ0 = .ok (.own (.lst vs)) (E d' s) := by
  obtain ⟨vs, d', s', hlen, hall, g', e⟩ := turns_D h1 h2 h3 h xs [] k d s hs g hk (by simpa using hl)
  refine ⟨vs, d', hlen, hall, g', ?_⟩
  show O.bind (evI (ev p n) it ρ0) (fun w ρ1 => wipeT ρ1 [i] w.2 (turns (ev p n) (evT p n) (.nm i) none c [i] w.1 [] ρ1)) = _
  rw [hi]
  show wipeT (E d s) [i] [] (turns (ev p n) (evT p n) (.nm i) none c [i] xs [] (E d s)) = _
  rw [e]
  show O.ok _ ((E d' s').set i (getS (E d s) i)) = _
  rw [h1, h2]
  rfl
end
theorem ints_ofQ {Q : Int → Prop} {vs : List D} (h : ∀ v ∈ vs, ∃ i : Int, v = .int i ∧ Q i) : ∃ is : List Int, vs = dI is ∧ ∀ i ∈ is, Q i := by
  induction vs with
  | nil => exact ⟨[], rfl, fun i hi => nomatch hi⟩
  | cons v vs ih =>
    obtain ⟨i, rfl, q⟩ := h v List.mem_cons_self
    obtain ⟨is, rfl, hq⟩ := ih fun u hu => h u (List.mem_cons_of_mem _ hu)
    refine ⟨i :: is, rfl, fun j hj => ?_⟩
    rcases List.mem_cons.mp hj with rfl | hj
    · exact q
    · exact hq j hj
theorem blt_rep {v : D} {t : Str} (h : reprD v = some t) : bltD .repr [v] = some (.dat (.str t)) := by
  show (reprD v).map (fun x => R.dat (.str x)) = _
  rw [h]
  rfl
theorem rep_bl (b : Bool) : bltD .repr [.bl b] = some (.dat (.str (if b then "True" else "False"))) := by
  cases b <;> rfl
theorem cmp_strE (s : Str) : cmpD .Eq (.str s) (.str s) = some true := cmpE_rf (n := 0) rfl (by decide)
theorem cmp_strN (s : Str) : cmpD .NotEq (.str s) (.str s) = some false := cmpN_rf (n := 0) rfl (by decide)
end Pv.Sx
end Sd_
section Sc_
set_option maxRecDepth 100000
/-! Sc: loops that keep a promise. -/
namespace Pv.Sx
open Pv PySem
/-- each turn, from what is kept, makes Q, and Q keeps it -/
theorem loop_I {e : C → En → O R} {g : G} {body : En → F} {I Q : En → Prop} (hq : ∀ ρ, Q ρ → I ρ) : ∀ (xs : List D) (ρ : En), (∀ x ∈ xs, ∀ ρ, I ρ → ∃ ρ1 ρ2, setG e g x ρ = .ok () ρ1 ∧ body ρ1 = .nx ρ2 ∧ Q ρ2) → I ρ → ∃ ρ', loopF e g body xs ρ = .nx ρ' ∧ I ρ' ∧ (xs ≠ [] → Q ρ')
  | [], ρ, _, hi => ⟨ρ, rfl, hi, fun z => absurd rfl z⟩
  | x :: xs, ρ, h, hi => by
    obtain ⟨ρ1, ρ2, h1, h2, h3⟩ := h x List.mem_cons_self ρ hi
    obtain ⟨ρ', h4, h5, h6⟩ := loop_I hq xs ρ2 (fun y hy => h y (List.mem_cons_of_mem _ hy)) (hq _ h3)
    refine ⟨ρ', (loop_step h1 h2).trans h4, h5, fun _ => ?_⟩
    cases xs with
    | nil =>
      injection h4 with h4
      rw [← h4]; exact h3
    | cons y ys => exact h6 (by intro z; cases z)
/-- how many cells are asked -/
theorem cells_n (l : Nat) (b : Nat) (hb : 1 ≤ b) (hb2 : b ≤ 60) : ∃ m : Nat, (if (if (l : Int) < (b : Nat) then (l : Int) else (b : Nat)) > 1 then (if (l : Int) < (b : Nat) then (l : Int) else (b : Nat)) else 1) = (m : Int) ∧ m ≠ 0 ∧ m ≤ 60 := by
  by_cases h1 : (l : Int) < (b : Nat)
  · rw [if_pos h1]
    by_cases h2 : (l : Int) > 1
    · rw [if_pos h2]; exact ⟨l, rfl, by omega, by omega⟩
    · rw [if_neg h2]; exact ⟨1, rfl, by omega, by omega⟩
  · rw [if_neg h1]
    by_cases h2 : ((b : Nat) : Int) > 1
    · rw [if_pos h2]; exact ⟨b, rfl, by omega, by omega⟩
    · rw [if_neg h2]; exact ⟨1, rfl, by omega, by omega⟩
theorem blt_min2 (i j : Int) : bltD .min2 [.int i, .int j] = some (.dat (.int (if j < i then j else i))) := rfl
/-- the law's outer loop: over max(1, min(b, len(script))) -/
theorem ex_cells {p : Pr} {ns : List Int} {b : Nat} {ρ0 : En} {g : G} {body : List Pv.S} {I Q : En → Prop} (hb : 1 ≤ b) (hb2 : b ≤ 60) (h0 : getS ρ0 0 = .dat (.scr ns)) (hq : ∀ ρ, Q ρ → I ρ)
    (h : ∀ (k : Nat), k ≤ 60 → ∀ ρ, I ρ → ∃ ρ1 ρ2, setG (ev p 59) g (.int k) ρ = .ok () ρ1 ∧ exsL (Pv.ex p 59) body ρ1 = .nx ρ2 ∧ Q ρ2) (hi : I ρ0) :
    ∃ ρ', Pv.ex p 60 (.loop g (.rng1 (.blt .max2 [(.lit (.int 1)), (.blt .min2 [(.lit (.int (b : Nat))), (.blt .len [(.var 0)])])])) body) ρ0 = .nx ρ' ∧ Q ρ' := by
  obtain ⟨m, hm, hm1, hm2⟩ := cells_n ns.length b hb hb2
  have hx : ∀ x ∈ rngL 0 (m : Int), ∃ k : Nat, k ≤ 60 ∧ x = .int k := fun x hx => by
    rw [rng_nat] at hx
    obtain ⟨i, hi, rfl⟩ := List.mem_map.mp hx
    have := List.mem_range'_1.mp hi
    exact ⟨i, by omega, by rw [Int.zero_add]⟩
  have hne : rngL 0 (m : Int) ≠ [] := by
    rw [rng_nat]
    cases m with
    | zero => exact absurd rfl hm1
    | succ m => rw [List.range'_succ, List.map_cons]; intro z; cases z
  obtain ⟨ρ', h4, h5, h6⟩ := loop_I (e := ev p 59) (g := g) (body := exsL (Pv.ex p 59) body) hq (rngL 0 (m : Int)) ρ0 (fun x hxm ρ hi => by
    obtain ⟨k, hk, rfl⟩ := hx x hxm
    exact h k hk ρ hi) hi
  refine ⟨ρ', ?_, h6 hne⟩
  have hp : peek (ev p 59) (.blt .max2 [(.lit (.int 1)), (.blt .min2 [(.lit (.int (b : Nat))), (.blt .len [(.var 0)])])]) ρ0 = .ok (.int m) ρ0 := by
    simp only [ev, evs, peek, O.bind, O.of, pk, pks, h0, rdS, blt_lenS, blt_min2, blt_max2, hm]
  exact ex_loop (evI_rng1 hp (small_n (by omega))) h4
end Pv.Sx
end Sc_
section Co05_
set_option maxRecDepth 100000
namespace Pv.K05
open Pv PySem
/-- is_whole -/
def f_is_whole : Fn := ⟨1, 1, [], [(.ret (.andv (.isi (.var 0) .int) (.notv (.isi (.var 0) .bool))))]⟩
/-- is_short -/
def f_is_short : Fn := ⟨1, 1, [], [(.ret (.andv (.call 0 [(.var 0)]) (.chn .Lt .Lt (.neg (.lit (.int 1000000000000000000000000000000000000000000000000000000000000))) (.var 0) (.lit (.int 1000000000000000000000000000000000000000000000000000000000000)))))]⟩
/-- is_from -/
def f_is_from : Fn := ⟨3, 3, [], [(.ret (.andv (.call 0 [(.var 0)]) (.chn .LtE .LtE (.var 1) (.var 0) (.var 2))))]⟩
/-- require_from -/
def f_require_from : Fn := ⟨3, 3, [], [(.cond (.not (.val (.call 2 [(.var 0), (.var 1), (.var 2)]))) [(.rais 3 (some (.var 0)))] [])]⟩
/-- odd_indices -/
def f_odd_indices : Fn := ⟨1, 3, [], [(.ret (.comp (.var 1) (.tup [1, 2]) (.enum (.var 0)) (some (.val (.cmp .Eq (.bin .Mod (.var 2) (.lit (.int 2))) (.lit (.int 1))))) [1, 2]))]⟩
/-- degree_in -/
def f_degree_in : Fn := ⟨2, 4, [], [(.ret (.blt .sum [(.comp (.bin .Mult (.var 2) (.var 3)) (.tup [2, 3]) (.zip (.var 0) (.var 1)) none [2, 3])]))]⟩
/-- one_word -/
def f_one_word : Fn := ⟨1, 1, [], [(.ret (.bin .Mult (.tup [(.lit (.int 0))]) (.blt .len [(.var 0)])))]⟩
/-- letter_word -/
def f_letter_word : Fn := ⟨2, 3, [], [(.ret (.blt .tuple [(.comp (.blt .int [(.cmp .Eq (.var 2) (.var 1))]) (.nm 2) (.rng1 (.blt .len [(.var 0)])) none [2])]))]⟩
/-- product_in -/
def f_product_in : Fn := ⟨3, 9, [], [(.asg (.nm 3) (.call 4 [(.var 0)])),
    (.cond (.val (.blt .any [(.comp (.cmp .Gt (.bin .Add (.idx (.var 1) (.var 4)) (.idx (.var 2) (.var 4))) (.lit (.int 1))) (.nm 4) (.seq (.var 3)) none [4])])) [(.ret (.lit .non))] []),
    (.par [5, 6] [(.lit (.int 1)), (.blt .sum [(.comp (.idx (.var 1) (.var 4)) (.nm 4) (.seq (.var 3)) none [4])])]),
    (.loop (.nm 4) (.seq (.var 3)) [(.aug 6 .Sub (.idx (.var 1) (.var 4))), (.cond (.and (.val (.cmp .Eq (.idx (.var 2) (.var 4)) (.lit (.int 1)))) (.val (.cmp .Eq (.bin .Mod (.var 6) (.lit (.int 2))) (.lit (.int 1))))) [(.asg (.nm 5) (.neg (.var 5)))] [])]),
    (.ret (.tup [(.var 5), (.blt .tuple [(.comp (.bin .Add (.var 7) (.var 8)) (.tup [7, 8]) (.zip (.var 1) (.var 2)) none [7, 8])])]))]⟩
/-- counts_in -/
def f_counts_in : Fn := ⟨2, 6, [], [(.asg (.nm 2) (.lst [(.lit (.int 1)), (.star (.bin .Mult (.lst [(.lit (.int 0))]) (.var 1)))])),
    (.loop (.nm 3) (.seq (.var 0)) [(.cond (.val (.cmp .Eq (.bin .Mod (.var 3) (.lit (.int 2))) (.lit (.int 0)))) [(.loop (.nm 4) (.rng2 (.var 3) (.bin .Add (.var 1) (.lit (.int 1)))) [(.asg (.sub (.var 2) (.var 4)) (.bin .Add (.idx (.var 2) (.var 4)) (.idx (.var 2) (.bin .Sub (.var 4) (.var 3)))))])] [(.asg (.nm 2) (.comp (.bin .Add (.var 5) (.ite (.val (.cmp .GtE (.var 4) (.var 3))) (.idx (.var 2) (.bin .Sub (.var 4) (.var 3))) (.lit (.int 0)))) (.tup [4, 5]) (.enum (.var 2)) none [4, 5]))])]),
    (.ret (.var 2))]⟩
/-- count_in -/
def f_count_in : Fn := ⟨2, 2, [], [(.ret (.ite (.val (.cmp .GtE (.var 1) (.lit (.int 0)))) (.idx (.call 9 [(.var 0), (.var 1)]) (.var 1)) (.lit (.int 0))))]⟩
/-- longer_words -/
def f_longer_words : Fn := ⟨4, 9, [], [(.par [4, 5] [(.idx (.var 0) (.blt .len [(.var 2)])), (.lst [])]),
    (.asg (.nm 6) (.ite (.val (.cmp .Eq (.bin .Mod (.var 4) (.lit (.int 2))) (.lit (.int 0)))) (.bin .FloorDiv (.var 3) (.var 4)) (.blt .min2 [(.lit (.int 1)), (.bin .FloorDiv (.var 3) (.var 4))]))),
    (.loop (.nm 7) (.rng1 (.bin .Add (.var 6) (.lit (.int 1)))) [(.asg (.nm 8) (.bin .Sub (.var 3) (.bin .Mult (.var 7) (.var 4)))), (.cond (.val (.cmp .Gt (.idx (.idx (.var 1) (.bin .Add (.blt .len [(.var 2)]) (.lit (.int 1)))) (.var 8)) (.lit (.int 0)))) [(.exp (.mth .append (.var 5) [(.tup [(.tup [(.star (.var 2)), (.var 7)]), (.var 8)])]))] [])]),
    (.ret (.var 5))]⟩
/-- words_in -/
def f_words_in : Fn := ⟨2, 2, [], [(.ret (.call 33 [(.var 0), (.var 1)]))]⟩
/-- is_letters -/
def f_is_letters : Fn := ⟨1, 2, [], [(.cond (.or (.not (.val (.isi (.var 0) .tuple))) (.val (.cmp .Gt (.blt .len [(.var 0)]) (.lit (.int 24))))) [(.ret (.lit (.bl false)))] []),
    (.ret (.blt .all [(.comp (.call 2 [(.var 1), (.lit (.int 1)), (.lit (.int 40))]) (.nm 1) (.seq (.var 0)) none [1])]))]⟩
/-- require_letters -/
def f_require_letters : Fn := ⟨1, 1, [], [(.cond (.not (.val (.call 13 [(.var 0)]))) [(.rais 0 none)] [])]⟩
/-- is_word_in -/
def f_is_word_in : Fn := ⟨2, 4, [], [(.cond (.or (.not (.val (.isi (.var 1) .tuple))) (.val (.cmp .NotEq (.blt .len [(.var 1)]) (.blt .len [(.var 0)])))) [(.ret (.lit (.bl false)))] []),
    (.cond (.not (.val (.blt .all [(.comp (.andv (.call 1 [(.var 2)]) (.cmp .GtE (.var 2) (.lit (.int 0)))) (.nm 2) (.seq (.var 1)) none [2])]))) [(.ret (.lit (.bl false)))] []),
    (.ret (.andv (.blt .all [(.comp (.cmp .Lt (.idx (.var 1) (.var 3)) (.lit (.int 2))) (.nm 3) (.seq (.call 4 [(.var 0)])) none [3])]) (.cmp .LtE (.call 5 [(.var 0), (.var 1)]) (.lit (.int 400)))))]⟩
/-- require_word -/
def f_require_word : Fn := ⟨2, 2, [], [(.cond (.not (.val (.call 15 [(.var 0), (.var 1)]))) [(.rais 1 none)] [])]⟩
/-- is_word -/
def f_is_word : Fn := ⟨2, 2, [], [(.exp (.call 14 [(.var 0)])),
    (.ret (.call 15 [(.var 0), (.var 1)]))]⟩
/-- word_degree -/
def f_word_degree : Fn := ⟨2, 2, [], [(.exp (.call 14 [(.var 0)])),
    (.exp (.call 16 [(.var 0), (.var 1)])),
    (.ret (.call 5 [(.var 0), (.var 1)]))]⟩
/-- word_length -/
def f_word_length : Fn := ⟨2, 2, [], [(.exp (.call 14 [(.var 0)])),
    (.exp (.call 16 [(.var 0), (.var 1)])),
    (.ret (.blt .sum [(.var 1)]))]⟩
/-- word_product -/
def f_word_product : Fn := ⟨3, 3, [], [(.exp (.call 14 [(.var 0)])),
    (.exp (.call 16 [(.var 0), (.var 1)])),
    (.exp (.call 16 [(.var 0), (.var 2)])),
    (.ret (.call 8 [(.var 0), (.var 1), (.var 2)]))]⟩
/-- words_of -/
def f_words_of : Fn := ⟨2, 2, [], [(.exp (.call 14 [(.var 0)])),
    (.exp (.call 3 [(.var 1), (.lit (.int 0)), (.lit (.int 80))])),
    (.cond (.val (.cmp .Gt (.call 10 [(.var 0), (.var 1)]) (.lit (.int 400)))) [(.rais 4 (some (.lit (.int 400))))] []),
    (.ret (.blt .tuple [(.call 12 [(.var 0), (.var 1)])]))]⟩
/-- word_count -/
def f_word_count : Fn := ⟨2, 2, [], [(.exp (.call 14 [(.var 0)])),
    (.exp (.call 3 [(.var 1), (.lit (.int 0)), (.lit (.int 80))])),
    (.ret (.call 10 [(.var 0), (.var 1)]))]⟩
/-- even_letters -/
def f_even_letters : Fn := ⟨1, 3, [], [(.exp (.call 14 [(.var 0)])),
    (.ret (.blt .tuple [(.comp (.var 1) (.tup [1, 2]) (.enum (.var 0)) (some (.val (.cmp .Eq (.bin .Mod (.var 2) (.lit (.int 2))) (.lit (.int 0))))) [1, 2])]))]⟩
/-- odd_letters -/
def f_odd_letters : Fn := ⟨1, 1, [], [(.exp (.call 14 [(.var 0)])),
    (.ret (.blt .tuple [(.call 4 [(.var 0)])]))]⟩
/-- top_word -/
def f_top_word : Fn := ⟨1, 1, [], [(.exp (.call 14 [(.var 0)])),
    (.cond (.val (.cmp .Lt (.blt .len [(.call 4 [(.var 0)])]) (.blt .len [(.var 0)]))) [(.rais 2 none)] []),
    (.ret (.bin .Mult (.tup [(.lit (.int 1))]) (.blt .len [(.var 0)])))]⟩
/-- sorted_word -/
def f_sorted_word : Fn := ⟨2, 6, [], [(.exp (.call 14 [(.var 0)])),
    (.cond (.or (.not (.val (.isi (.var 1) .tuple))) (.val (.cmp .Gt (.blt .len [(.var 1)]) (.lit (.int 40))))) [(.rais 2 none)] []),
    (.cond (.not (.val (.blt .all [(.comp (.call 2 [(.var 2), (.lit (.int 0)), (.bin .Sub (.blt .len [(.var 0)]) (.lit (.int 1)))]) (.nm 2) (.seq (.var 1)) none [2])]))) [(.rais 2 none)] []),
    (.par [3, 4] [(.lit (.int 1)), (.call 6 [(.var 0)])]),
    (.loop (.nm 2) (.seq (.var 1)) [(.asg (.nm 5) (.call 8 [(.var 0), (.var 4), (.call 7 [(.var 0), (.var 2)])])), (.cond (.val (.cmp .Is (.var 5) (.lit .non))) [(.ret (.lit .non))] []), (.par [3, 4] [(.bin .Mult (.var 3) (.idx (.var 5) (.lit (.int 0)))), (.idx (.var 5) (.lit (.int 1)))])]),
    (.ret (.tup [(.var 3), (.var 4)]))]⟩
/-- _law_dice -/
def f__law_dice : Fn := ⟨2, 4, [], [(.asg (.nm 2) (.ite (.val (.cmp .Lt (.var 1) (.blt .len [(.var 0)]))) (.blt .int [(.idx (.var 0) (.var 1))]) (.bin .Add (.bin .Mult (.lit (.int 83)) (.var 1)) (.lit (.int 61))))),
    (.asg (.nm 3) (.bin .Mod (.blt .max2 [(.lit (.int 0)), (.bin .Sub (.blt .abs [(.var 2)]) (.bin .Pow (.lit (.int 10)) (.lit (.int 17))))]) (.bin .Mult (.bin .Pow (.lit (.int 10)) (.lit (.int 58))) (.bin .Pow (.lit (.int 10)) (.lit (.int 60)))))),
    (.ret (.lst [(.var 3), (.bin .Add (.bin .Add (.bin .Add (.bin .Mult (.bin .Mod (.blt .abs [(.var 2)]) (.lit (.int 1152921504606846883))) (.lit (.int 67))) (.bin .Mult (.lit (.int 937)) (.var 1))) (.bin .Mult (.lit (.int 37)) (.blt .int [(.cmp .Lt (.var 2) (.lit (.int 0)))]))) (.lit (.int 29))), (.lit (.int 0))]))]⟩
/-- _law_roll -/
def f__law_roll : Fn := ⟨2, 5, [0], [(.cond (.val (.cmp .Gt (.idx (.var 0) (.lit (.int 0))) (.lit (.int 0)))) [(.asg (.nm 2) (.bin .Mod (.blt .int [(.idx (.var 0) (.lit (.int 0)))]) (.var 1))), (.asg (.sub (.var 0) (.lit (.int 0))) (.bin .FloorDiv (.idx (.var 0) (.lit (.int 0))) (.var 1))), (.ret (.var 2))] []),
    (.asg (.sub (.var 0) (.lit (.int 2))) (.bin .Add (.idx (.var 0) (.lit (.int 2))) (.lit (.int 1)))),
    (.asg (.nm 3) (.bin .Mod (.blt .int [(.bin .Add (.idx (.var 0) (.lit (.int 1))) (.bin .Mult (.lit (.int 67867979)) (.idx (.var 0) (.lit (.int 2)))))]) (.lit (.int 2305843009213693723)))),
    (.asg (.nm 4) (.bin .Add (.bin .Mult (.bin .Mod (.blt .int [(.bin .Add (.bin .Mult (.var 3) (.var 3)) (.bin .Mult (.lit (.int 103)) (.idx (.var 0) (.lit (.int 2)))))]) (.lit (.int 2305843009213693549))) (.lit (.int 6700429))) (.var 3))),
    (.ret (.bin .Mod (.blt .int [(.bin .FloorDiv (.var 4) (.lit (.int 65543)))]) (.var 1)))]⟩
/-- _law_pick -/
def f__law_pick : Fn := ⟨2, 2, [0], [(.ret (.idx (.var 1) (.call 28 [(.var 0), (.blt .len [(.var 1)])])))]⟩
/-- _law_words_right -/
def f__law_words_right : Fn := ⟨1, 7, [0], [(.asg (.nm 1) (.call 29 [(.var 0), (.lst [(.lit .non), (.lit (.int 2)), (.lst [(.lit (.int 2)), (.lit (.int 3))]), (.tup [(.lit (.int 0))]), (.tup [(.lit (.int 41))]), (.tup [(.lit (.int 2)), (.lit (.bl true))]), (.tup [(.lit (.str "2"))]), (.bin .Mult (.tup [(.lit (.int 2))]) (.lit (.int 25))), .emp, (.tup [(.neg (.lit (.int 1)))]), (.lit (.str "letters")), (.tup [(.tup [(.lit (.int 2))])])])])),
    (.asg (.nm 2) (.call 29 [(.var 0), (.lst [(.lit .non), (.lit (.int 1)), (.lst [(.lit (.int 0)), (.lit (.int 0)), (.lit (.int 0))]), (.tup [(.lit (.int 0)), (.lit (.int 0))]), (.tup [(.lit (.int 0)), (.lit (.int 2)), (.lit (.int 0))]), (.tup [(.neg (.lit (.int 1))), (.lit (.int 0)), (.lit (.int 0))]), (.tup [(.lit (.int 0)), (.lit (.bl true)), (.lit (.int 0))]), (.tup [(.lit (.str "0")), (.lit (.int 0)), (.lit (.int 0))]), (.tup [(.lit (.int 201)), (.lit (.int 0)), (.lit (.int 0))]), .emp, (.tup [(.lit (.int 0)), (.lit (.int 0)), (.lit (.int 0)), (.lit (.int 0))]), (.lit (.str "word"))])])),
    (.asg (.nm 3) (.tup [(.lit (.int 2)), (.lit (.int 3)), (.lit (.int 3))])),
    (.loop (.nm 4) (.seq (.tup [(.lit (.fn 18)), (.lit (.fn 19))])) [(.asg (.nm 5) (.lst [(.cat 0 (.callv 4 [(.var 1), (.var 2)]))])), (.exp (.mth .append (.var 5) [(.cat 0 (.callv 4 [(.var 3), (.var 2)]))])), (.exp (.mth .append (.var 5) [(.cat 0 (.callv 4 [(.var 3), (.tup [(.lit (.int 200)), (.lit (.int 0)), (.lit (.int 0))])]))])), (.cond (.val (.cmp .NotEq (.var 5) (.lst [(.tup [(.lit (.str "refused")), (.lit (.str "letters"))]), (.tup [(.lit (.str "refused")), (.lit (.str "word"))]), (.tup [(.lit (.str "fine"))])]))) [(.ret (.lit (.bl false)))] [])]),
    (.loop (.nm 4) (.seq (.tup [(.lit (.fn 23)), (.lit (.fn 24)), (.lit (.fn 25))])) [(.cond (.val (.cmp .NotEq (.cat 0 (.callv 4 [(.var 1)])) (.tup [(.lit (.str "refused")), (.lit (.str "letters"))]))) [(.ret (.lit (.bl false)))] [])]),
    (.clos 6 [(.call 20 [(.var 1), (.var 2), (.var 2)]), (.call 20 [(.var 3), (.var 2), (.lit .non)]), (.call 20 [(.var 3), (.tup [(.lit (.int 1)), (.lit (.int 1)), (.lit (.int 1))]), (.var 2)]), (.call 17 [(.var 1), (.var 2)]), (.call 17 [(.var 3), (.var 2)]), (.call 25 [(.var 3)]), (.call 25 [(.tup [(.lit (.int 3)), (.lit (.int 3)), (.lit (.int 39))])])]),
    (.ret (.mets 35 0 6 (.lst [(.lit (.str "letters")), (.lit (.str "word")), (.lit (.str "word")), (.lit (.str "letters")), (.lit (.str "")), (.lit (.str "operation")), (.lit (.str ""))])))]⟩
/-- _law_others_right -/
def f__law_others_right : Fn := ⟨1, 8, [0], [(.asg (.nm 1) (.call 29 [(.var 0), (.lst [(.lit .non), (.lit (.int 2)), (.lst [(.lit (.int 2)), (.lit (.int 3))]), (.tup [(.lit (.int 0))]), (.tup [(.lit (.int 41))]), (.tup [(.lit (.int 2)), (.lit (.bl true))]), (.tup [(.lit (.str "2"))]), (.bin .Mult (.tup [(.lit (.int 2))]) (.lit (.int 25))), .emp])])),
    (.asg (.nm 2) (.call 29 [(.var 0), (.lst [(.lit .non), (.neg (.lit (.int 1))), (.lit (.int 81)), (.lit (.bl true)), (.lit (.str "3")), (.tup [(.lit (.int 3))]), (.bin .Pow (.lit (.int 10)) (.lit (.int 60)))])])),
    (.asg (.nm 3) (.call 29 [(.var 0), (.lst [(.lit .non), (.lit (.int 0)), (.lst [(.lit (.int 0))]), (.tup [(.lit (.int 3))]), (.tup [(.neg (.lit (.int 1)))]), (.tup [(.lit (.bl true))]), (.tup [(.lit (.str "0"))]), (.bin .Mult (.tup [(.lit (.int 0))]) (.lit (.int 41))), .emp, (.tup [(.tup [(.lit (.int 0))])]), (.tup [(.bin .Pow (.lit (.int 10)) (.lit (.int 60)))])])])),
    (.asg (.nm 4) (.tup [(.lit (.int 2)), (.lit (.int 3)), (.lit (.int 3))])),
    (.clos 5 [(.call 21 [(.var 1), (.var 2)]), (.call 21 [(.var 4), (.var 2)]), (.call 22 [(.var 1), (.var 2)]), (.call 22 [(.var 4), (.var 2)]), (.call 34 [(.var 1), (.var 2)]), (.call 34 [(.var 4), (.var 2)]), (.call 26 [(.var 1), (.var 3)]), (.call 26 [(.var 4), (.var 3)]), (.call 26 [(.var 4), (.bin .Mult (.tup [(.lit (.int 0))]) (.lit (.int 40)))]), (.call 21 [(.tup [(.lit (.int 2)), (.lit (.int 2)), (.lit (.int 2)), (.lit (.int 2))]), (.lit (.int 80))]), (.call 21 [(.bin .Mult (.tup [(.lit (.int 1))]) (.lit (.int 24))), (.lit (.int 12))]), (.call 22 [(.bin .Mult (.tup [(.lit (.int 2))]) (.lit (.int 24))), (.lit (.int 80))])]),
    (.asg (.nm 6) (.bin .Add (.lit (.str "number ")) (.blt .repr [(.var 2)]))),
    (.asg (.nm 7) (.lst [(.lit (.str "letters")), (.var 6), (.lit (.str "letters")), (.var 6), (.lit (.str "letters")), (.var 6), (.lit (.str "letters")), (.lit (.str "operation")), (.lit (.str "")), (.lit (.str "many 400")), (.lit (.str "many 400")), (.lit (.str ""))])),
    (.ret (.andv (.mets 35 0 5 (.var 7)) (.cmp .Eq (.zip0 34 [(.var 1), (.var 2)]) (.lst []))))]⟩
/-- law -/
def f_law : Fn := ⟨1, 3, [], [(.loop (.nm 1) (.rng1 (.blt .max2 [(.lit (.int 1)), (.blt .min2 [(.lit (.int 4)), (.blt .len [(.var 0)])])])) [(.asg (.nm 2) (.call 27 [(.var 0), (.var 1)])), (.cond (.or (.not (.val (.call 30 [(.var 2)]))) (.not (.val (.call 31 [(.var 2)])))) [(.ret (.lit (.bl false)))] [])]),
    (.ret (.andv (.cmp .Eq (.lst [(.lit (.int 24)), (.lit (.int 40)), (.lit (.int 80)), (.lit (.int 400))]) (.lst [(.lit (.int 24)), (.lit (.int 40)), (.lit (.int 80)), (.lit (.int 400))])) (.cmp .Eq (.blt .len [(.call 21 [(.tup [(.lit (.int 2)), (.lit (.int 2)), (.lit (.int 2))]), (.lit (.int 52))])]) (.lit (.int 378)))))]⟩
/-- each_in -/
def g_each_in : Gn := ⟨2, 7, [(.pl (.asg (.nm 2) (.comp (.call 9 [(.slc (.var 0) (some (.var 3)) none), (.var 1)]) (.nm 3) (.rng1 (.bin .Add (.blt .len [(.var 0)]) (.lit (.int 1)))) none [3]))),
    (.pl (.asg (.nm 4) (.ite (.val (.cmp .Gt (.idx (.idx (.var 2) (.lit (.int 0))) (.var 1)) (.lit (.int 0)))) (.lst [(.tup [(.tup []), (.var 1)])]) (.lst [])))),
    (.whl (.val (.cmp .NotEq (.var 4) (.lst []))) [(.pl (.asg (.tup [5, 6]) (.mth .pop (.var 4) []))), (.cond (.val (.cmp .Eq (.blt .len [(.var 5)]) (.blt .len [(.var 0)]))) [(.yld (.var 5))] [(.pl (.exp (.mth .extend (.var 4) [(.rev (.call 11 [(.var 0), (.var 2), (.var 5), (.var 6)]))])))])])]⟩
/-- each_word -/
def g_each_word : Gn := ⟨2, 4, [(.pl (.exp (.call 14 [(.var 0)]))),
    (.pl (.exp (.call 3 [(.var 1), (.lit (.int 0)), (.lit (.int 80))]))),
    .nev]⟩
/-- _law_are_met, behind its first statement -/
def l__law_are_met : Fn := ⟨2, 5, [], [(.ret (.cmp .Eq (.var 2) (.comp (.ite (.val (.cmp .NotEq (.var 4) (.lit (.str "")))) (.tup [(.lit (.str "refused")), (.var 4)]) (.tup [(.lit (.str "fine"))])) (.nm 4) (.seq (.var 1)) none [4])))]⟩
/-- _law_met -/
def c__law_met : Cat := ⟨[⟨0, .tup [.str "refused", .str "letters"]⟩, ⟨1, .tup [.str "refused", .str "word"]⟩, ⟨2, .tup [.str "refused", .str "operation"]⟩, ⟨3, .tup [.str "refused", .rpr (some "number ")]⟩, ⟨4, .tup [.str "refused", .rpr (some "many ")]⟩], .tup [.str "fine"]⟩
def P : Prg := ⟨[f_is_whole, f_is_short, f_is_from, f_require_from, f_odd_indices, f_degree_in, f_one_word, f_letter_word, f_product_in, f_counts_in, f_count_in, f_longer_words, f_words_in, f_is_letters, f_require_letters, f_is_word_in, f_require_word, f_is_word, f_word_degree, f_word_length, f_word_product, f_words_of, f_word_count, f_even_letters, f_odd_letters, f_top_word, f_sorted_word, f__law_dice, f__law_roll, f__law_pick, f__law_words_right, f__law_others_right, f_law], [c__law_met], [g_each_in, g_each_word], [l__law_are_met]⟩
end Pv.K05
end Co05_
section Pa05_
set_option maxRecDepth 1000000
/-! Pa05: what the defs of words answer to values that are wrong. -/
namespace Pv.K05
open Pv PySem Pv.Sx
abbrev three : D := .tup [.int 2, .int 3, .int 3]
abbrev n25 : D := .tup (List.replicate 25 (.int 2))
abbrev m1 : List D := [.non, .int 2, .lst [.int 2, .int 3], .tup [.int 0], .tup [.int 41], .tup [.int 2, .bl true], .tup [.str "2"], n25, .dct [] [], .tup [.int (-1)], .str "letters", .tup [.tup [.int 2]]]
abbrev m2 : List D := [.non, .int 1, .lst [.int 0, .int 0, .int 0], .tup [.int 0, .int 0], .tup [.int 0, .int 2, .int 0], .tup [.int (-1), .int 0, .int 0], .tup [.int 0, .bl true, .int 0], .tup [.str "0", .int 0, .int 0], .tup [.int 201, .int 0, .int 0], .dct [] [], .tup [.int 0, .int 0, .int 0, .int 0], .str "word"]
abbrev m3 : List D := [.non, .int 2, .lst [.int 2, .int 3], .tup [.int 0], .tup [.int 41], .tup [.int 2, .bl true], .tup [.str "2"], n25, .dct [] []]
abbrev m4 : List D := [.non, .int (-1), .int 81, .bl true, .str "3", .tup [.int 3], .int (10 ^ 60)]
abbrev m5 : List D := [.non, .int 0, .lst [.int 0], .tup [.int 3], .tup [.int (-1)], .tup [.bl true], .tup [.str "0"], .tup (List.replicate 41 (.int 0)), .dct [] [], .tup [.tup [.int 0]], .tup [.int (10 ^ 60)]]
/-- told of each item -/
def AllM (p : D → Prop) : List D → Prop
  | [] => True
  | x :: xs => p x ∧ AllM p xs
theorem AllM.get {p : D → Prop} : ∀ {l : List D}, AllM p l → ∀ x ∈ l, p x
  | _ :: _, h, x, e => by
    rcases List.mem_cons.mp e with z | z
    · rw [z]; exact h.1
    · exact AllM.get h.2 x z
theorem let1 : AllM (fun x => P.cal 4 14 [.dat x] = .exc 0 none [none]) m1 := by
  refine ⟨?_, ?_, ?_, ?_, ?_, ?_, ?_, ?_, ?_, ?_, ?_, ?_, trivial⟩ <;> kernel_rfl
theorem let3 : AllM (fun x => P.cal 4 14 [.dat x] = .exc 0 none [none]) m3 := by
  refine ⟨?_, ?_, ?_, ?_, ?_, ?_, ?_, ?_, ?_, trivial⟩ <;> kernel_rfl
theorem let_3 : P.cal 4 14 [.dat three] = .ret (.dat .non) [none] := by kernel_rfl
theorem wrd2 : AllM (fun x => P.cal 4 15 [.dat three, .dat x] = .ret (.dat (.bl false)) [none, none] ∧ P.cal 4 16 [.dat three, .dat x] = .exc 1 none [none, none]) m2 := by
  refine ⟨⟨?_, ?_⟩, ⟨?_, ?_⟩, ⟨?_, ?_⟩, ⟨?_, ?_⟩, ⟨?_, ?_⟩, ⟨?_, ?_⟩, ⟨?_, ?_⟩, ⟨?_, ?_⟩, ⟨?_, ?_⟩, ⟨?_, ?_⟩, ⟨?_, ?_⟩, ⟨?_, ?_⟩, trivial⟩ <;> kernel_rfl
theorem wrd_1 : P.cal 4 16 [.dat three, .dat (.tup [.int 1, .int 1, .int 1])] = .ret (.dat .non) [none, none] := by kernel_rfl
theorem deg4 : AllM (fun x => P.cal 4 3 [.dat x, .dat (.int 0), .dat (.int 80)] = .exc 3 (some x) [none, none, none]) m4 := by
  refine ⟨?_, ?_, ?_, ?_, ?_, ?_, ?_, trivial⟩ <;> kernel_rfl
theorem sor5 : AllM (fun x => P.cal 5 26 [.dat three, .dat x] = .exc 2 none [none, none]) m5 := by
  refine ⟨?_, ?_, ?_, ?_, ?_, ?_, ?_, ?_, ?_, ?_, ?_, trivial⟩ <;> kernel_rfl
theorem wd200 : P.cal 5 18 [.dat three, .dat (.tup [.int 200, .int 0, .int 0])] = .ret (.dat (.int 400)) [none, none] := by kernel_rfl
theorem wl200 : P.cal 5 19 [.dat three, .dat (.tup [.int 200, .int 0, .int 0])] = .ret (.dat (.int 200)) [none, none] := by kernel_rfl
theorem top3 : P.cal 5 25 [.dat three] = .exc 2 none [none] := by kernel_rfl
theorem top39 : P.cal 5 25 [.dat (.tup [.int 3, .int 3, .int 39])] = .ret (.dat (.tup [.int 1, .int 1, .int 1])) [none] := by kernel_rfl
end Pv.K05
end Pa05_
section Pb05_
set_option maxRecDepth 1000000
/-! Pb05: closed calls. -/
namespace Pv.K05
open Pv PySem Pv.Sx
theorem many1 : P.cal 5 21 [.dat (.tup [.int 2, .int 2, .int 2, .int 2]), .dat (.int 80)] = .exc 4 (some (.int 400)) [none, none] := by kernel_rfl
theorem many2 : P.cal 5 21 [.dat (.tup (List.replicate 24 (.int 1))), .dat (.int 12)] = .exc 4 (some (.int 400)) [none, none] := by kernel_rfl
theorem many3 : P.cal 5 22 [.dat (.tup (List.replicate 24 (.int 2))), .dat (.int 80)] = .ret (.dat (.int 93993414551124795)) [none, none] := by kernel_rfl
theorem sor40 : P.cal 5 26 [.dat three, .dat (.tup (List.replicate 40 (.int 0)))] = .ret (.dat (.tup [.int 1, .tup [.int 40, .int 0, .int 0]])) [none, none] := by kernel_rfl
end Pv.K05
end Pb05_
section Pc05_
set_option maxRecDepth 1000000
/-! Pc05: wrong letters first, wrong words then. -/
namespace Pv.K05
open Pv PySem Pv.Sx
theorem rf (c : Nat → List Ar → Out) : (P.pr c).ref 14 = [] ∧ (P.pr c).ref 16 = [] ∧ (P.pr c).ref 15 = [] ∧ (P.pr c).ref 3 = [] := ⟨rfl, rfl, rfl, rfl⟩
/-- the first statement asks the letters -/
theorem ex14 {c : Nat → List Ar → Out} {n : Nat} {x : D} {out : List (Option D)} {ρ : En} (h : c 14 [.dat x] = .exc 0 none out) : Pv.ex (P.pr c) (n + 3) (.exp (.call 14 [(.var 0)])) (.dat x :: ρ) = .exc 0 none (.dat x :: ρ) := by
  have hp : ∀ (ρ : En) (j : Nat), putR [R.dat x] out j ρ = ρ := putR_dat rfl
  have r := (rf c).1
  simp -implicitDefEqProofs only [exsL, osl, Pv.ex, ev, evs, evT, evI, evW, evO, two, peek, hold, disp, O.bind, O.fl, O.of, F.then, F.of, pk, pks, frz, frzs, getS, rdS, lend, items, setGR, setG, setNms, settle, setRs, setIx, store_dat, store_own, putAt_z, putAt_s, free_emp, free_dat, free_own, outR, callO_P, args1, args2, arOf, ptrs, noDup, c00, c01, contains_nil, putR_nil, putR_dat', putR_emp', putR_own', lookOut, beq_self_eq_true, unlend, unlS, List.getD_cons_zero, List.getD_cons_succ, List.set_cons_zero, List.set_cons_succ, List.length_nil, List.length_cons, Option.map, Option.bind, Option.getD, if_true, Bool.not_true, Bool.not_false, Bool.false_eq_true, if_false, blt_len1, blt_len2, blt_len3, blt_tup1, blt_tup2, blt_list1, blt_list2, isi_ii, isi_ib, isi_tt, cmp_lt, cmp_le, cmp_gt, cmp_ge, cmp_eqi, cmp_nei, tru_bl, idx_l, idx_t, add_int, sub_int, Bool.and_self, Bool.and_true, Bool.true_and, Bool.and_false, Bool.false_and, fits_0, fits_1, fits_2, fits_3, fits_4, fits_5, fits_6, fits_7, fits_8, fits_9, fits_10, fits_11, fits_12, fits_13, fits_14, fits_15, fits_16, fits_17, fits_18, fits_19, fits_20, fits_21, fits_22, fits_23, fits_24, Nat.reduceAdd, Nat.reduceBEq, putR0, putR0', r, h, hp]
theorem ok14 {c : Nat → List Ar → Out} {n : Nat} {x : D} {out : List (Option D)} {ρ : En} (h : c 14 [.dat x] = .ret (.dat .non) out) : Pv.ex (P.pr c) (n + 3) (.exp (.call 14 [(.var 0)])) (.dat x :: ρ) = .nx (.dat x :: ρ) := by
  have hp : ∀ (ρ : En) (j : Nat), putR [R.dat x] out j ρ = ρ := putR_dat rfl
  have r := (rf c).1
  simp -implicitDefEqProofs only [exsL, osl, Pv.ex, ev, evs, evT, evI, evW, evO, two, peek, hold, disp, O.bind, O.fl, O.of, F.then, F.of, pk, pks, frz, frzs, getS, rdS, lend, items, setGR, setG, setNms, settle, setRs, setIx, store_dat, store_own, putAt_z, putAt_s, free_emp, free_dat, free_own, outR, callO_P, args1, args2, arOf, ptrs, noDup, c00, c01, contains_nil, putR_nil, putR_dat', putR_emp', putR_own', lookOut, beq_self_eq_true, unlend, unlS, List.getD_cons_zero, List.getD_cons_succ, List.set_cons_zero, List.set_cons_succ, List.length_nil, List.length_cons, Option.map, Option.bind, Option.getD, if_true, Bool.not_true, Bool.not_false, Bool.false_eq_true, if_false, blt_len1, blt_len2, blt_len3, blt_tup1, blt_tup2, blt_list1, blt_list2, isi_ii, isi_ib, isi_tt, cmp_lt, cmp_le, cmp_gt, cmp_ge, cmp_eqi, cmp_nei, tru_bl, idx_l, idx_t, add_int, sub_int, Bool.and_self, Bool.and_true, Bool.true_and, Bool.and_false, Bool.false_and, fits_0, fits_1, fits_2, fits_3, fits_4, fits_5, fits_6, fits_7, fits_8, fits_9, fits_10, fits_11, fits_12, fits_13, fits_14, fits_15, fits_16, fits_17, fits_18, fits_19, fits_20, fits_21, fits_22, fits_23, fits_24, Nat.reduceAdd, Nat.reduceBEq, putR0, putR0', r, h, hp]
theorem ex_xc {p : Pr} {n : Nat} {s : Pv.S} {ss : List Pv.S} {ρ ρ1 : En} {c : Nat} {d : Option D} (h : Pv.ex p n s ρ = .exc c d ρ1) : exsL (Pv.ex p n) (s :: ss) ρ = .exc c d ρ1 := by
  show (Pv.ex p n s ρ).then _ = _
  rw [h]; rfl
section
variable {x y z : D}
theorem x18 (h : P.cal 4 14 [.dat x] = .exc 0 none [none]) : P.cal 5 18 [.dat x, .dat y] = .exc 0 none [none, none] := cal_exc (as := [.dat x, .dat y]) rfl rfl (ex_xc (ex14 (n := 57) h))
theorem x19 (h : P.cal 4 14 [.dat x] = .exc 0 none [none]) : P.cal 5 19 [.dat x, .dat y] = .exc 0 none [none, none] := cal_exc (as := [.dat x, .dat y]) rfl rfl (ex_xc (ex14 (n := 57) h))
theorem x20 (h : P.cal 4 14 [.dat x] = .exc 0 none [none]) : P.cal 5 20 [.dat x, .dat y, .dat z] = .exc 0 none [none, none, none] := cal_exc (as := [.dat x, .dat y, .dat z]) rfl rfl (ex_xc (ex14 (n := 57) h))
theorem x17 (h : P.cal 4 14 [.dat x] = .exc 0 none [none]) : P.cal 5 17 [.dat x, .dat y] = .exc 0 none [none, none] := cal_exc (as := [.dat x, .dat y]) rfl rfl (ex_xc (ex14 (n := 57) h))
theorem x23 (h : P.cal 4 14 [.dat x] = .exc 0 none [none]) : P.cal 5 23 [.dat x] = .exc 0 none [none] := cal_exc (as := [.dat x]) rfl rfl (ex_xc (ex14 (n := 57) h))
theorem x24 (h : P.cal 4 14 [.dat x] = .exc 0 none [none]) : P.cal 5 24 [.dat x] = .exc 0 none [none] := cal_exc (as := [.dat x]) rfl rfl (ex_xc (ex14 (n := 57) h))
theorem x25 (h : P.cal 4 14 [.dat x] = .exc 0 none [none]) : P.cal 5 25 [.dat x] = .exc 0 none [none] := cal_exc (as := [.dat x]) rfl rfl (ex_xc (ex14 (n := 57) h))
theorem x21 (h : P.cal 4 14 [.dat x] = .exc 0 none [none]) : P.cal 5 21 [.dat x, .dat y] = .exc 0 none [none, none] := cal_exc (as := [.dat x, .dat y]) rfl rfl (ex_xc (ex14 (n := 57) h))
theorem x22 (h : P.cal 4 14 [.dat x] = .exc 0 none [none]) : P.cal 5 22 [.dat x, .dat y] = .exc 0 none [none, none] := cal_exc (as := [.dat x, .dat y]) rfl rfl (ex_xc (ex14 (n := 57) h))
theorem x26 (h : P.cal 4 14 [.dat x] = .exc 0 none [none]) : P.cal 5 26 [.dat x, .dat y] = .exc 0 none [none, none] := cal_exc (as := [.dat x, .dat y]) rfl rfl (ex_xc (ex14 (n := 57) h))
/-- a generator def's answer -/
theorem cal_gx {P : Prg} {l k c : Nat} {d : Option D} {g : Gn} {as : List Ar} {ρ : En} {acc : List D} (h0 : P.fns[k]? = none) (hg : P.gens[k - P.fns.length]? = some g) (hl : as.length = g.args)
    (h : genL (exG (P.pr (P.cal l)) 60) g.body (as.map arS ++ List.replicate (g.slots - g.args) .emp) [] = (.exc c d ρ, acc)) : P.cal (l + 1) k as = .exc c d (outs as ρ) := by
  unfold Prg.cal
  rw [h0]
  show genC P.gens P.lcs _ _ as = _
  unfold genC
  rw [hg]
  show runG _ 60 g as = _
  unfold runG
  rw [if_pos hl, h]
theorem gn_xc {p : Pr} {n : Nat} {s : Pv.S} {ss : List Gs} {ρ ρ1 : En} {c : Nat} {d : Option D} {acc : List D} (h : Pv.ex p n s ρ = .exc c d ρ1) : genL (exG p (n + 1)) (.pl s :: ss) ρ acc = (.exc c d ρ1, acc) := by
  show (match (Pv.ex p n s ρ, acc) with | (.nx ρ1, a) => genL (exG p (n + 1)) ss ρ1 a | r => r) = _
  rw [h]
theorem gn_nx {p : Pr} {n : Nat} {s : Pv.S} {ss : List Gs} {ρ ρ1 : En} {acc : List D} (h : Pv.ex p n s ρ = .nx ρ1) : genL (exG p (n + 1)) (.pl s :: ss) ρ acc = genL (exG p (n + 1)) ss ρ1 acc := by
  show (match (Pv.ex p n s ρ, acc) with | (.nx ρ1, a) => genL (exG p (n + 1)) ss ρ1 a | r => r) = _
  rw [h]
theorem x34 (h : P.cal 4 14 [.dat x] = .exc 0 none [none]) : P.cal 5 34 [.dat x, .dat y] = .exc 0 none [none, none] := cal_gx (as := [.dat x, .dat y]) rfl rfl rfl (gn_xc (ex14 (n := 56) h))
/-- words -/
theorem ex16 {c : Nat → List Ar → Out} {n : Nat} {x y : D} {out : List (Option D)} {ρ : En} (h : c 16 [.dat x, .dat y] = .exc 1 none out) : Pv.ex (P.pr c) (n + 3) (.exp (.call 16 [(.var 0), (.var 1)])) (.dat x :: .dat y :: ρ) = .exc 1 none (.dat x :: .dat y :: ρ) := by
  have hp : ∀ (ρ : En) (j : Nat), putR [R.dat x, R.dat y] out j ρ = ρ := putR_dat rfl
  have r := (rf c).2.1
  simp -implicitDefEqProofs only [exsL, osl, Pv.ex, ev, evs, evT, evI, evW, evO, two, peek, hold, disp, O.bind, O.fl, O.of, F.then, F.of, pk, pks, frz, frzs, getS, rdS, lend, items, setGR, setG, setNms, settle, setRs, setIx, store_dat, store_own, putAt_z, putAt_s, free_emp, free_dat, free_own, outR, callO_P, args1, args2, arOf, ptrs, noDup, c00, c01, contains_nil, putR_nil, putR_dat', putR_emp', putR_own', lookOut, beq_self_eq_true, unlend, unlS, List.getD_cons_zero, List.getD_cons_succ, List.set_cons_zero, List.set_cons_succ, List.length_nil, List.length_cons, Option.map, Option.bind, Option.getD, if_true, Bool.not_true, Bool.not_false, Bool.false_eq_true, if_false, blt_len1, blt_len2, blt_len3, blt_tup1, blt_tup2, blt_list1, blt_list2, isi_ii, isi_ib, isi_tt, cmp_lt, cmp_le, cmp_gt, cmp_ge, cmp_eqi, cmp_nei, tru_bl, idx_l, idx_t, add_int, sub_int, Bool.and_self, Bool.and_true, Bool.true_and, Bool.and_false, Bool.false_and, fits_0, fits_1, fits_2, fits_3, fits_4, fits_5, fits_6, fits_7, fits_8, fits_9, fits_10, fits_11, fits_12, fits_13, fits_14, fits_15, fits_16, fits_17, fits_18, fits_19, fits_20, fits_21, fits_22, fits_23, fits_24, Nat.reduceAdd, Nat.reduceBEq, putR0, putR0', r, h, hp]
theorem ok16 {c : Nat → List Ar → Out} {n : Nat} {x y : D} {out : List (Option D)} {ρ : En} (h : c 16 [.dat x, .dat y] = .ret (.dat .non) out) : Pv.ex (P.pr c) (n + 3) (.exp (.call 16 [(.var 0), (.var 1)])) (.dat x :: .dat y :: ρ) = .nx (.dat x :: .dat y :: ρ) := by
  have hp : ∀ (ρ : En) (j : Nat), putR [R.dat x, R.dat y] out j ρ = ρ := putR_dat rfl
  have r := (rf c).2.1
  simp -implicitDefEqProofs only [exsL, osl, Pv.ex, ev, evs, evT, evI, evW, evO, two, peek, hold, disp, O.bind, O.fl, O.of, F.then, F.of, pk, pks, frz, frzs, getS, rdS, lend, items, setGR, setG, setNms, settle, setRs, setIx, store_dat, store_own, putAt_z, putAt_s, free_emp, free_dat, free_own, outR, callO_P, args1, args2, arOf, ptrs, noDup, c00, c01, contains_nil, putR_nil, putR_dat', putR_emp', putR_own', lookOut, beq_self_eq_true, unlend, unlS, List.getD_cons_zero, List.getD_cons_succ, List.set_cons_zero, List.set_cons_succ, List.length_nil, List.length_cons, Option.map, Option.bind, Option.getD, if_true, Bool.not_true, Bool.not_false, Bool.false_eq_true, if_false, blt_len1, blt_len2, blt_len3, blt_tup1, blt_tup2, blt_list1, blt_list2, isi_ii, isi_ib, isi_tt, cmp_lt, cmp_le, cmp_gt, cmp_ge, cmp_eqi, cmp_nei, tru_bl, idx_l, idx_t, add_int, sub_int, Bool.and_self, Bool.and_true, Bool.true_and, Bool.and_false, Bool.false_and, fits_0, fits_1, fits_2, fits_3, fits_4, fits_5, fits_6, fits_7, fits_8, fits_9, fits_10, fits_11, fits_12, fits_13, fits_14, fits_15, fits_16, fits_17, fits_18, fits_19, fits_20, fits_21, fits_22, fits_23, fits_24, Nat.reduceAdd, Nat.reduceBEq, putR0, putR0', r, h, hp]
theorem ex16b {c : Nat → List Ar → Out} {n : Nat} {x y z : D} {out : List (Option D)} {ρ : En} (h : c 16 [.dat x, .dat z] = .exc 1 none out) : Pv.ex (P.pr c) (n + 3) (.exp (.call 16 [(.var 0), (.var 2)])) (.dat x :: .dat y :: .dat z :: ρ) = .exc 1 none (.dat x :: .dat y :: .dat z :: ρ) := by
  have hp : ∀ (ρ : En) (j : Nat), putR [R.dat x, R.dat z] out j ρ = ρ := putR_dat rfl
  have r := (rf c).2.1
  simp -implicitDefEqProofs only [exsL, osl, Pv.ex, ev, evs, evT, evI, evW, evO, two, peek, hold, disp, O.bind, O.fl, O.of, F.then, F.of, pk, pks, frz, frzs, getS, rdS, lend, items, setGR, setG, setNms, settle, setRs, setIx, store_dat, store_own, putAt_z, putAt_s, free_emp, free_dat, free_own, outR, callO_P, args1, args2, arOf, ptrs, noDup, c00, c01, contains_nil, putR_nil, putR_dat', putR_emp', putR_own', lookOut, beq_self_eq_true, unlend, unlS, List.getD_cons_zero, List.getD_cons_succ, List.set_cons_zero, List.set_cons_succ, List.length_nil, List.length_cons, Option.map, Option.bind, Option.getD, if_true, Bool.not_true, Bool.not_false, Bool.false_eq_true, if_false, blt_len1, blt_len2, blt_len3, blt_tup1, blt_tup2, blt_list1, blt_list2, isi_ii, isi_ib, isi_tt, cmp_lt, cmp_le, cmp_gt, cmp_ge, cmp_eqi, cmp_nei, tru_bl, idx_l, idx_t, add_int, sub_int, Bool.and_self, Bool.and_true, Bool.true_and, Bool.and_false, Bool.false_and, fits_0, fits_1, fits_2, fits_3, fits_4, fits_5, fits_6, fits_7, fits_8, fits_9, fits_10, fits_11, fits_12, fits_13, fits_14, fits_15, fits_16, fits_17, fits_18, fits_19, fits_20, fits_21, fits_22, fits_23, fits_24, Nat.reduceAdd, Nat.reduceBEq, putR0, putR0', r, h, hp]
theorem w18 (h : P.cal 4 16 [.dat three, .dat y] = .exc 1 none [none, none]) : P.cal 5 18 [.dat three, .dat y] = .exc 1 none [none, none] := cal_exc (as := [.dat three, .dat y]) rfl rfl ((ex_nx (ok14 (n := 57) let_3)).trans (ex_xc (ex16 (n := 57) h)))
theorem w19 (h : P.cal 4 16 [.dat three, .dat y] = .exc 1 none [none, none]) : P.cal 5 19 [.dat three, .dat y] = .exc 1 none [none, none] := cal_exc (as := [.dat three, .dat y]) rfl rfl ((ex_nx (ok14 (n := 57) let_3)).trans (ex_xc (ex16 (n := 57) h)))
theorem w20 (h : P.cal 4 16 [.dat three, .dat y] = .exc 1 none [none, none]) : P.cal 5 20 [.dat three, .dat y, .dat z] = .exc 1 none [none, none, none] := cal_exc (as := [.dat three, .dat y, .dat z]) rfl rfl ((ex_nx (ok14 (n := 57) let_3)).trans (ex_xc (ex16 (n := 57) h)))
theorem w20b (h : P.cal 4 16 [.dat three, .dat y] = .exc 1 none [none, none]) : P.cal 5 20 [.dat three, .dat (.tup [.int 1, .int 1, .int 1]), .dat y] = .exc 1 none [none, none, none] := cal_exc (as := [.dat three, .dat (.tup [.int 1, .int 1, .int 1]), .dat y]) rfl rfl ((ex_nx (ok14 (n := 57) let_3)).trans ((ex_nx (ok16 (n := 57) wrd_1)).trans (ex_xc (ex16b (n := 57) h))))
theorem w17 (h : P.cal 4 15 [.dat three, .dat y] = .ret (.dat (.bl false)) [none, none]) : P.cal 5 17 [.dat three, .dat y] = .ret (.dat (.bl false)) [none, none] := by
  have e : Pv.ex (P.pr (P.cal 4)) 60 (.ret (.call 15 [(.var 0), (.var 1)])) [.dat three, .dat y] = .rt (.dat (.bl false)) [.dat three, .dat y] := by
    obtain ⟨c, hcal⟩ : ∃ c, c = P.cal 4 := ⟨_, rfl⟩
    rw [← hcal] at h ⊢
    have r := (rf c).2.2.1
    have hp : ∀ (ρ : En) (j : Nat), putR [R.dat three, R.dat y] [none, none] j ρ = ρ := putR_dat rfl
    simp -implicitDefEqProofs only [exsL, osl, Pv.ex, ev, evs, evT, evI, evW, evO, two, peek, hold, disp, O.bind, O.fl, O.of, F.then, F.of, pk, pks, frz, frzs, getS, rdS, lend, items, setGR, setG, setNms, settle, setRs, setIx, store_dat, store_own, putAt_z, putAt_s, free_emp, free_dat, free_own, outR, callO_P, args1, args2, arOf, ptrs, noDup, c00, c01, contains_nil, putR_nil, putR_dat', putR_emp', putR_own', lookOut, beq_self_eq_true, unlend, unlS, List.getD_cons_zero, List.getD_cons_succ, List.set_cons_zero, List.set_cons_succ, List.length_nil, List.length_cons, Option.map, Option.bind, Option.getD, if_true, Bool.not_true, Bool.not_false, Bool.false_eq_true, if_false, blt_len1, blt_len2, blt_len3, blt_tup1, blt_tup2, blt_list1, blt_list2, isi_ii, isi_ib, isi_tt, cmp_lt, cmp_le, cmp_gt, cmp_ge, cmp_eqi, cmp_nei, tru_bl, idx_l, idx_t, add_int, sub_int, Bool.and_self, Bool.and_true, Bool.true_and, Bool.and_false, Bool.false_and, fits_0, fits_1, fits_2, fits_3, fits_4, fits_5, fits_6, fits_7, fits_8, fits_9, fits_10, fits_11, fits_12, fits_13, fits_14, fits_15, fits_16, fits_17, fits_18, fits_19, fits_20, fits_21, fits_22, fits_23, fits_24, Nat.reduceAdd, Nat.reduceBEq, putR0, putR0', r, h, hp]
  exact cal_rt (P := P) (l := 4) (k := 17) (as := [.dat three, .dat y]) rfl rfl ((ex_nx (ok14 (n := 57) let_3)).trans (ex_rt e))
/-- degrees -/
theorem ex3 {c : Nat → List Ar → Out} {n : Nat} {x y : D} {out : List (Option D)} {ρ : En} (h : c 3 [.dat y, .dat (.int 0), .dat (.int 80)] = .exc 3 (some y) out) : Pv.ex (P.pr c) (n + 3) (.exp (.call 3 [(.var 1), (.lit (.int 0)), (.lit (.int 80))])) (.dat x :: .dat y :: ρ) = .exc 3 (some y) (.dat x :: .dat y :: ρ) := by
  have hp : ∀ (ρ : En) (j : Nat), putR [R.dat y, R.dat (.int 0), R.dat (.int 80)] out j ρ = ρ := putR_dat rfl
  have r := (rf c).2.2.2
  simp -implicitDefEqProofs only [exsL, osl, Pv.ex, ev, evs, evT, evI, evW, evO, two, peek, hold, disp, O.bind, O.fl, O.of, F.then, F.of, pk, pks, frz, frzs, getS, rdS, lend, items, setGR, setG, setNms, settle, setRs, setIx, store_dat, store_own, putAt_z, putAt_s, free_emp, free_dat, free_own, outR, callO_P, args1, args2, arOf, ptrs, noDup, c00, c01, contains_nil, putR_nil, putR_dat', putR_emp', putR_own', lookOut, beq_self_eq_true, unlend, unlS, List.getD_cons_zero, List.getD_cons_succ, List.set_cons_zero, List.set_cons_succ, List.length_nil, List.length_cons, Option.map, Option.bind, Option.getD, if_true, Bool.not_true, Bool.not_false, Bool.false_eq_true, if_false, blt_len1, blt_len2, blt_len3, blt_tup1, blt_tup2, blt_list1, blt_list2, isi_ii, isi_ib, isi_tt, cmp_lt, cmp_le, cmp_gt, cmp_ge, cmp_eqi, cmp_nei, tru_bl, idx_l, idx_t, add_int, sub_int, Bool.and_self, Bool.and_true, Bool.true_and, Bool.and_false, Bool.false_and, fits_0, fits_1, fits_2, fits_3, fits_4, fits_5, fits_6, fits_7, fits_8, fits_9, fits_10, fits_11, fits_12, fits_13, fits_14, fits_15, fits_16, fits_17, fits_18, fits_19, fits_20, fits_21, fits_22, fits_23, fits_24, Nat.reduceAdd, Nat.reduceBEq, putR0, putR0', r, h, hp]
theorem d21 (h : P.cal 4 3 [.dat y, .dat (.int 0), .dat (.int 80)] = .exc 3 (some y) [none, none, none]) : P.cal 5 21 [.dat three, .dat y] = .exc 3 (some y) [none, none] := cal_exc (as := [.dat three, .dat y]) rfl rfl ((ex_nx (ok14 (n := 57) let_3)).trans (ex_xc (ex3 (n := 57) h)))
theorem d22 (h : P.cal 4 3 [.dat y, .dat (.int 0), .dat (.int 80)] = .exc 3 (some y) [none, none, none]) : P.cal 5 22 [.dat three, .dat y] = .exc 3 (some y) [none, none] := cal_exc (as := [.dat three, .dat y]) rfl rfl ((ex_nx (ok14 (n := 57) let_3)).trans (ex_xc (ex3 (n := 57) h)))
theorem d34 (h : P.cal 4 3 [.dat y, .dat (.int 0), .dat (.int 80)] = .exc 3 (some y) [none, none, none]) : P.cal 5 34 [.dat three, .dat y] = .exc 3 (some y) [none, none] := cal_gx (as := [.dat three, .dat y]) rfl rfl rfl ((gn_nx (ok14 (n := 56) let_3)).trans (gn_xc (ex3 (n := 56) h)))
end
end Pv.K05
end Pc05_
section Pd05_
set_option maxRecDepth 1000000
/-! Pd05: whether wrong letters and words are refused. -/
namespace Pv.K05
open Pv PySem Pv.Sx
theorem hR : P.fns[28]? = some ⟨2, 5, [0], rollB⟩ := rfl
theorem hP : P.fns[29]? = some ⟨2, 2, [0], pickB 28⟩ := rfl
abbrev ref_ (x : Str) : D := .tup [.str "refused", .str x]
abbrev fine_ : D := .tup [.str "fine"]
/-- the catcher's answer -/
theorem cat_eq {c : Nat → List Ar → Out} {n : Nat} {b : C} {ρ : En} : ev (P.pr c) (n + 1) (.cat 0 b) ρ = (match ev (P.pr c) n b ρ with
    | .ok _ ρ1 => O.of ((anD c__law_met.fin none).map R.dat) ρ1
    | .exc k d ρ1 => (match clause k c__law_met.hs with
      | some h => O.of ((anD h.ans d).map R.dat) ρ1
      | none => .bad)
    | .bad => .bad) := by
  conv => lhs; unfold ev
  rfl
theorem catOk {c : Nat → List Ar → Out} {n : Nat} {b : C} {ρ ρ1 : En} {r : R} (h : ev (P.pr c) n b ρ = .ok r ρ1) : ev (P.pr c) (n + 1) (.cat 0 b) ρ = .ok (.dat fine_) ρ1 := by
  rw [cat_eq, h]; rfl
theorem cat0 {c : Nat → List Ar → Out} {n : Nat} {b : C} {ρ ρ1 : En} (h : ev (P.pr c) n b ρ = .exc 0 none ρ1) : ev (P.pr c) (n + 1) (.cat 0 b) ρ = .ok (.dat (ref_ "letters")) ρ1 := by
  rw [cat_eq, h]; rfl
theorem cat1 {c : Nat → List Ar → Out} {n : Nat} {b : C} {ρ ρ1 : En} (h : ev (P.pr c) n b ρ = .exc 1 none ρ1) : ev (P.pr c) (n + 1) (.cat 0 b) ρ = .ok (.dat (ref_ "word")) ρ1 := by
  rw [cat_eq, h]; rfl
theorem cat2 {c : Nat → List Ar → Out} {n : Nat} {b : C} {ρ ρ1 : En} (h : ev (P.pr c) n b ρ = .exc 2 none ρ1) : ev (P.pr c) (n + 1) (.cat 0 b) ρ = .ok (.dat (ref_ "operation")) ρ1 := by
  rw [cat_eq, h]; rfl
theorem cat4 {c : Nat → List Ar → Out} {n : Nat} {b : C} {ρ ρ1 : En} (h : ev (P.pr c) n b ρ = .exc 4 (some (.int 400)) ρ1) : ev (P.pr c) (n + 1) (.cat 0 b) ρ = .ok (.dat (ref_ "many 400")) ρ1 := by
  rw [cat_eq, h]; kernel_rfl
theorem cat3 {c : Nat → List Ar → Out} {n : Nat} {b : C} {ρ ρ1 : En} {d t : D} (h : ev (P.pr c) n b ρ = .exc 3 (some d) ρ1) (ht : anD (.tup [.str "refused", .rpr (some "number ")]) (some d) = some t) : ev (P.pr c) (n + 1) (.cat 0 b) ρ = .ok (.dat t) ρ1 := by
  rw [cat_eq, h]
  show O.of ((anD (.tup [.str "refused", .rpr (some "number ")]) (some d)).map R.dat) ρ1 = _
  rw [ht]; rfl
/-- lambdas' answers, one by one -/
inductive Ms (c : Nat → List Ar → Out) (n : Nat) (ρ : En) : List C → List D → Prop where
  | nil : Ms c n ρ [] []
  | cons {b : C} {bs : List C} {d : D} {ds : List D} (h : ev (P.pr c) n (.cat 0 b) ρ = .ok (.dat d) ρ) (r : Ms c n ρ bs ds) : Ms c n ρ (b :: bs) (d :: ds)
theorem metL_ms {c : Nat → List Ar → Out} {n i : Nat} {ρ : En} {all : List C} (hs : getS ρ i = .cls all) : ∀ {bs : List C} {ds : List D} {pre : List C}, Ms c n ρ bs ds → all = pre ++ bs → metL (fun b ρ => ev (P.pr c) n (.cat 0 b) ρ) i bs.length pre.length ρ = .ok ds ρ
  | [], _, pre, .nil, e => by
    rw [List.append_nil] at e
    show metL _ i 0 pre.length ρ = _
    unfold metL
    rw [hs, e]
    exact if_pos rfl
  | b :: bs, _, pre, .cons (d := d) (ds := ds) h r, e => by
    have ih := metL_ms hs (pre := pre ++ [b]) r (by rw [e, List.append_assoc]; rfl)
    rw [List.length_append] at ih
    show metL _ i (bs.length + 1) pre.length ρ = _
    unfold metL
    rw [hs]
    dsimp only
    have g : all[pre.length]? = some b := by
      rw [e, List.getElem?_append_right (Nat.le_refl _), Nat.sub_self]; rfl
    rw [g]
    dsimp only
    rw [h]
    dsimp only
    rw [show metL (fun b ρ => ev (P.pr c) n (.cat 0 b) ρ) i bs.length (pre.length + 1) ρ = .ok ds ρ from ih]
/-- x(calls, due) -/
theorem mets_ok {c : Nat → List Ar → Out} {n i f : Nat} {ρ ρ1 : En} {cs : List C} {ds : List D} {due : C} {dd d : D} {out : List (Option D)} (hs : getS ρ i = .cls cs) (hs1 : getS ρ1 i = .cls cs) (hd : hold (ev (P.pr c) n) due ρ = .ok dd ρ1) (hm : Ms c n ρ1 cs ds) (hf : fits ds.length = true) (h : c f [.dat dd, .dat (.lst ds)] = .ret (.dat d) out) :
    ev (P.pr c) (n + 1) (.mets f 0 i due) ρ = .ok (.dat d) ρ1 := by
  have e : ev (P.pr c) (n + 1) (.mets f 0 i due) ρ = (match getS ρ i with
      | .cls cs => (hold (ev (P.pr c) n) due ρ).bind fun dd ρ1 => (metL (fun c' ρ => ev (P.pr c) n (.cat 0 c') ρ) i cs.length 0 ρ1).bind fun ms ρ2 => metO (P.pr c) f dd ms ρ2
      | _ => .bad) := by
    conv => lhs; unfold ev
    all_goals rfl
  rw [e, hs]
  dsimp only
  rw [hd]
  have em := metL_ms hs1 (pre := []) hm rfl
  show (metL _ i cs.length 0 ρ1).bind _ = _
  rw [show metL (fun c' ρ => ev (P.pr c) n (.cat 0 c') ρ) i cs.length 0 ρ1 = .ok ds ρ1 from em]
  show metO (P.pr c) f dd ds ρ1 = _
  unfold metO
  rw [hf]
  show (match c f [.dat dd, .dat (.lst ds)] with | .ret (.dat d) _ => O.ok (R.dat d) ρ1 | _ => .bad) = _
  rw [h]
end Pv.K05
end Pd05_
section Pe05_
set_option maxRecDepth 1000000
/-! Pe05: _law_words_right. -/
namespace Pv.K05
open Pv PySem Pv.Sx
variable {c : Nat → List Ar → Out}
theorem ptr_dat : ∀ ds : List D, ptrs (ds.map R.dat) = []
  | [] => rfl
  | _ :: ds => ptr_dat ds
theorem args1_dat : ∀ (ds : List D) (k : Nat) (ρ : En), args1 [] k (ds.map R.dat) ρ = some (ds.map R.dat, ρ)
  | [], _, _ => rfl
  | d :: ds, k, ρ => by
    show (args1 [] (k + 1) (ds.map R.dat) ρ).map (fun p => (R.dat d :: p.1, p.2)) = _
    rw [args1_dat ds]; rfl
theorem args2_dat : ∀ (ds : List D) (ρ : En), args2 (ds.map R.dat) ρ = some (ds.map Ar.dat)
  | [], _ => rfl
  | d :: ds, ρ => by
    show (match some (Ar.dat d), args2 (ds.map R.dat) ρ with | some a, some as => some (a :: as) | _, _ => none) = _
    rw [args2_dat ds]; rfl
theorem callO_d {k : Nat} {ds : List D} {ρ : En} (hr : (P.pr c).ref k = []) : callO (P.pr c) k (ds.map R.dat) ρ = (match c k (ds.map Ar.dat) with
    | .ret r out => .ok r ρ
    | .exc cc d out => .exc cc d ρ
    | .bad => .bad) := by
  unfold callO
  rw [hr, args1_dat]
  dsimp only
  rw [args2_dat, ptr_dat]
  have hp : ∀ out, putOut (ds.map R.dat) out ρ = ρ := fun out => by rw [putOut_R]; exact putR_dat (ptr_dat ds) ρ 0
  show (match c k (ds.map Ar.dat) with | .ret r out => O.ok r (putOut (ds.map R.dat) out ρ) | .exc cc d out => .exc cc d (putOut (ds.map R.dat) out ρ) | .bad => .bad) = _
  cases c k (ds.map Ar.dat) with
  | ret r out => dsimp only; rw [hp]
  | exc cc d out => dsimp only; rw [hp]
  | bad => rfl
theorem call_eq {n k : Nat} {es : List C} {ds : List D} {ρ : En} (hr : (P.pr c).ref k = []) (he : evs (ev (P.pr c) n) es ρ = .ok (ds.map R.dat) ρ) : ev (P.pr c) (n + 1) (.call k es) ρ = (match c k (ds.map Ar.dat) with
    | .ret r out => .ok r ρ
    | .exc cc d out => .exc cc d ρ
    | .bad => .bad) := by
  have e : ev (P.pr c) (n + 1) (.call k es) ρ = (evs (ev (P.pr c) n) es ρ).bind fun rs ρ1 => callO (P.pr c) k rs ρ1 := by
    conv => lhs; unfold ev
    try rfl
  rw [e, he]
  exact callO_d hr
theorem callv_eq {n i k : Nat} {es : List C} {ds : List D} {ρ : En} (hi : getS ρ i = .dat (.fn k)) (hr : (P.pr c).ref k = []) (he : evs (ev (P.pr c) n) es ρ = .ok (ds.map R.dat) ρ) : ev (P.pr c) (n + 1) (.callv i es) ρ = (match c k (ds.map Ar.dat) with
    | .ret r out => .ok r ρ
    | .exc cc d out => .exc cc d ρ
    | .bad => .bad) := by
  have e : ev (P.pr c) (n + 1) (.callv i es) ρ = (match getS ρ i with
      | .dat (.fn f) => (evs (ev (P.pr c) n) es ρ).bind fun rs ρ1 => callO (P.pr c) f rs ρ1
      | _ => .bad) := by
    conv => lhs; unfold ev
    try rfl
  rw [e, hi]
  dsimp only
  rw [he]
  exact callO_d hr
theorem cl_x {n k cc : Nat} {d : Option D} {out : List (Option D)} {es : List C} {ρ : En} (ds : List D) (h : c k (ds.map Ar.dat) = .exc cc d out) (hr : (P.pr c).ref k = []) (he : evs (ev (P.pr c) n) es ρ = .ok (ds.map R.dat) ρ) : ev (P.pr c) (n + 1) (.call k es) ρ = .exc cc d ρ := by
  rw [call_eq hr he, h]
theorem cl_r {n k : Nat} {r : R} {out : List (Option D)} {es : List C} {ρ : En} (ds : List D) (h : c k (ds.map Ar.dat) = .ret r out) (hr : (P.pr c).ref k = []) (he : evs (ev (P.pr c) n) es ρ = .ok (ds.map R.dat) ρ) : ev (P.pr c) (n + 1) (.call k es) ρ = .ok r ρ := by
  rw [call_eq hr he, h]
theorem cv_x {n i k cc : Nat} {d : Option D} {out : List (Option D)} {es : List C} {ρ : En} (ds : List D) (h : c k (ds.map Ar.dat) = .exc cc d out) (hi : getS ρ i = .dat (.fn k)) (hr : (P.pr c).ref k = []) (he : evs (ev (P.pr c) n) es ρ = .ok (ds.map R.dat) ρ) : ev (P.pr c) (n + 1) (.callv i es) ρ = .exc cc d ρ := by
  rw [callv_eq hi hr he, h]
theorem cv_r {n i k : Nat} {r : R} {out : List (Option D)} {es : List C} {ρ : En} (ds : List D) (h : c k (ds.map Ar.dat) = .ret r out) (hi : getS ρ i = .dat (.fn k)) (hr : (P.pr c).ref k = []) (he : evs (ev (P.pr c) n) es ρ = .ok (ds.map R.dat) ρ) : ev (P.pr c) (n + 1) (.callv i es) ρ = .ok r ρ := by
  rw [callv_eq hi hr he, h]
abbrev wE (d : D) (s1 s2 s3 s4 s5 s6 : Sl) : En := [.own true false d, s1, s2, s3, s4, s5, s6]
def wB (i : Nat) : Pv.S := f__law_words_right.body.getD i .pass
theorem wB_all : f__law_words_right.body = [wB 0, wB 1, wB 2, wB 3, wB 4, wB 5, wB 6] := rfl
theorem r29 (c : Nat → List Ar → Out) : (P.pr c).ref 29 = [0] := rfl
def mC1 : List C := [(.lit .non), (.lit (.int 2)), (.lst [(.lit (.int 2)), (.lit (.int 3))]), (.tup [(.lit (.int 0))]), (.tup [(.lit (.int 41))]), (.tup [(.lit (.int 2)), (.lit (.bl true))]), (.tup [(.lit (.str "2"))]), (.bin .Mult (.tup [(.lit (.int 2))]) (.lit (.int 25))), .emp, (.tup [(.neg (.lit (.int 1)))]), (.lit (.str "letters")), (.tup [(.tup [(.lit (.int 2))])])]
def mC2 : List C := [(.lit .non), (.lit (.int 1)), (.lst [(.lit (.int 0)), (.lit (.int 0)), (.lit (.int 0))]), (.tup [(.lit (.int 0)), (.lit (.int 0))]), (.tup [(.lit (.int 0)), (.lit (.int 2)), (.lit (.int 0))]), (.tup [(.neg (.lit (.int 1))), (.lit (.int 0)), (.lit (.int 0))]), (.tup [(.lit (.int 0)), (.lit (.bl true)), (.lit (.int 0))]), (.tup [(.lit (.str "0")), (.lit (.int 0)), (.lit (.int 0))]), (.tup [(.lit (.int 201)), (.lit (.int 0)), (.lit (.int 0))]), .emp, (.tup [(.lit (.int 0)), (.lit (.int 0)), (.lit (.int 0)), (.lit (.int 0))]), (.lit (.str "word"))]
theorem wB0 : wB 0 = .asg (.nm 1) (.call 29 [(.var 0), (.lst mC1)]) := rfl
theorem wB1 : wB 1 = .asg (.nm 2) (.call 29 [(.var 0), (.lst mC2)]) := rfl
theorem mE1 (p : Pr) (ρ : En) : ev p 58 (.lst mC1) ρ = .ok (.own (.lst m1)) ρ := by kernel_rfl
theorem mE2 (p : Pr) (ρ : En) : ev p 58 (.lst mC2) ρ = .ok (.own (.lst m2)) ρ := by kernel_rfl
theorem w_0 {d d' x : D} {s2 s3 s4 s5 s6 : Sl} (h : c 29 [.own false d, .dat (.lst m1)] = .ret (.dat x) [some d', none]) : Pv.ex (P.pr c) 60 (wB 0) (wE d .emp .emp .emp .emp .emp .emp) = .nx (wE d' (.dat x) .emp .emp .emp .emp .emp) := by
  have m := mE1
  rw [wB0]
  unfold wE
  simp -implicitDefEqProofs only [exsL, osl, Pv.ex, ev, evs, evT, evI, evW, evO, two, peek, hold, disp, O.bind, O.fl, O.of, F.then, F.of, pk, pks, frz, frzs, getS, rdS, lend, items, setGR, setG, setNms, settle, setRs, setIx, store_dat, store_own, putAt_z, putAt_s, free_emp, free_dat, free_own, outR, callO_P, args1, args2, arOf, ptrs, noDup, c00, c01, contains_nil, putR_nil, putR_dat', putR_emp', putR_own', lookOut, beq_self_eq_true, unlend, unlS, List.getD_cons_zero, List.getD_cons_succ, List.set_cons_zero, List.set_cons_succ, List.length_nil, List.length_cons, Option.map, Option.bind, Option.getD, if_true, Bool.not_true, Bool.not_false, Bool.false_eq_true, if_false, blt_len1, blt_len2, blt_len3, blt_tup1, blt_tup2, blt_list1, blt_list2, isi_ii, isi_ib, isi_tt, cmp_lt, cmp_le, cmp_gt, cmp_ge, cmp_eqi, cmp_nei, tru_bl, idx_l, idx_t, add_int, sub_int, Bool.and_self, Bool.and_true, Bool.true_and, Bool.and_false, Bool.false_and, fits_0, fits_1, fits_2, fits_3, fits_4, fits_5, fits_6, fits_7, fits_8, fits_9, fits_10, fits_11, fits_12, fits_13, fits_14, fits_15, fits_16, fits_17, fits_18, fits_19, fits_20, fits_21, fits_22, fits_23, fits_24, Nat.reduceAdd, Nat.reduceBEq, putR0, putR0', r29, ↓m, h]
theorem w_1 {d d' x y : D} {s2 s3 s4 s5 s6 : Sl} (h : c 29 [.own false d, .dat (.lst m2)] = .ret (.dat x) [some d', none]) : Pv.ex (P.pr c) 60 (wB 1) (wE d (.dat y) .emp .emp .emp .emp .emp) = .nx (wE d' (.dat y) (.dat x) .emp .emp .emp .emp) := by
  have m := mE2
  rw [wB1]
  unfold wE
  simp -implicitDefEqProofs only [exsL, osl, Pv.ex, ev, evs, evT, evI, evW, evO, two, peek, hold, disp, O.bind, O.fl, O.of, F.then, F.of, pk, pks, frz, frzs, getS, rdS, lend, items, setGR, setG, setNms, settle, setRs, setIx, store_dat, store_own, putAt_z, putAt_s, free_emp, free_dat, free_own, outR, callO_P, args1, args2, arOf, ptrs, noDup, c00, c01, contains_nil, putR_nil, putR_dat', putR_emp', putR_own', lookOut, beq_self_eq_true, unlend, unlS, List.getD_cons_zero, List.getD_cons_succ, List.set_cons_zero, List.set_cons_succ, List.length_nil, List.length_cons, Option.map, Option.bind, Option.getD, if_true, Bool.not_true, Bool.not_false, Bool.false_eq_true, if_false, blt_len1, blt_len2, blt_len3, blt_tup1, blt_tup2, blt_list1, blt_list2, isi_ii, isi_ib, isi_tt, cmp_lt, cmp_le, cmp_gt, cmp_ge, cmp_eqi, cmp_nei, tru_bl, idx_l, idx_t, add_int, sub_int, Bool.and_self, Bool.and_true, Bool.true_and, Bool.and_false, Bool.false_and, fits_0, fits_1, fits_2, fits_3, fits_4, fits_5, fits_6, fits_7, fits_8, fits_9, fits_10, fits_11, fits_12, fits_13, fits_14, fits_15, fits_16, fits_17, fits_18, fits_19, fits_20, fits_21, fits_22, fits_23, fits_24, Nat.reduceAdd, Nat.reduceBEq, putR0, putR0', r29, ↓m, h]
theorem w_2 {d x y : D} : Pv.ex (P.pr c) 60 (wB 2) (wE d (.dat y) (.dat x) .emp .emp .emp .emp) = .nx (wE d (.dat y) (.dat x) (.dat three) .emp .emp .emp) := by kernel_rfl
/-! ### degrees and lengths -/
abbrev w200 : D := .tup [.int 200, .int 0, .int 0]
abbrev told3 : D := .lst [ref_ "letters", ref_ "word", fine_]
def tB : List Pv.S := [(.asg (.nm 5) (.lst [(.cat 0 (.callv 4 [(.var 1), (.var 2)]))])), (.exp (.mth .append (.var 5) [(.cat 0 (.callv 4 [(.var 3), (.var 2)]))])), (.exp (.mth .append (.var 5) [(.cat 0 (.callv 4 [(.var 3), (.tup [(.lit (.int 200)), (.lit (.int 0)), (.lit (.int 0))])]))])), (.cond (.val (.cmp .NotEq (.var 5) (.lst [(.tup [(.lit (.str "refused")), (.lit (.str "letters"))]), (.tup [(.lit (.str "refused")), (.lit (.str "word"))]), (.tup [(.lit (.str "fine"))])]))) [(.ret (.lit (.bl false)))] [])]
theorem wB3 : wB 3 = .loop (.nm 4) (.seq (.tup [(.lit (.fn 18)), (.lit (.fn 19))])) tB := rfl
theorem mth_app {xs : List D} {d : D} (h : fits (xs.length + 1) = true) : mthD .append (.lst xs) [d] = some (.dat .non, .lst (xs ++ [d])) := if_pos h
theorem t_run {k : Nat} {v : R} {o0 o1 o2 : List (Option D)} {d nn bb : D} {s5 : Sl} (hr : (P.pr c).ref k = []) (h0 : c k [.dat nn, .dat bb] = .exc 0 none o0) (h1 : c k [.dat three, .dat bb] = .exc 1 none o1) (h2 : c k [.dat three, .dat w200] = .ret v o2) (hf : freeS s5 = true) :
    exsL (Pv.ex (P.pr c) 59) tB (wE d (.dat nn) (.dat bb) (.dat three) (.dat (.fn k)) s5 .emp) = .nx (wE d (.dat nn) (.dat bb) (.dat three) (.dat (.fn k)) (.own false false told3) .emp) := by
  have a0 : ev (P.pr c) 57 (.cat 0 (.callv 4 [(.var 1), (.var 2)])) (wE d (.dat nn) (.dat bb) (.dat three) (.dat (.fn k)) s5 .emp) = .ok (.dat (ref_ "letters")) _ := cat0 (cv_x [nn, bb] h0 rfl hr rfl)
  have e0 : Pv.ex (P.pr c) 59 (.asg (.nm 5) (.lst [(.cat 0 (.callv 4 [(.var 1), (.var 2)]))])) (wE d (.dat nn) (.dat bb) (.dat three) (.dat (.fn k)) s5 .emp) = .nx (wE d (.dat nn) (.dat bb) (.dat three) (.dat (.fn k)) (.own false false (.lst [ref_ "letters"])) .emp) := by
    unfold wE at a0 ⊢
    simp -implicitDefEqProofs only [exsL, osl, Pv.ex, ev, evs, evT, evI, evW, evO, two, peek, hold, disp, O.bind, O.fl, O.of, F.then, F.of, pk, pks, frz, frzs, getS, rdS, lend, items, setGR, setG, setNms, settle, setRs, setIx, store_dat, store_own, putAt_z, putAt_s, free_emp, free_dat, free_own, outR, callO_P, args1, args2, arOf, ptrs, noDup, c00, c01, contains_nil, putR_nil, putR_dat', putR_emp', putR_own', lookOut, beq_self_eq_true, unlend, unlS, List.getD_cons_zero, List.getD_cons_succ, List.set_cons_zero, List.set_cons_succ, List.length_nil, List.length_cons, Option.map, Option.bind, Option.getD, if_true, Bool.not_true, Bool.not_false, Bool.false_eq_true, if_false, blt_len1, blt_len2, blt_len3, blt_tup1, blt_tup2, blt_list1, blt_list2, isi_ii, isi_ib, isi_tt, cmp_lt, cmp_le, cmp_gt, cmp_ge, cmp_eqi, cmp_nei, tru_bl, idx_l, idx_t, add_int, sub_int, Bool.and_self, Bool.and_true, Bool.true_and, Bool.and_false, Bool.false_and, fits_0, fits_1, fits_2, fits_3, fits_4, fits_5, fits_6, fits_7, fits_8, fits_9, fits_10, fits_11, fits_12, fits_13, fits_14, fits_15, fits_16, fits_17, fits_18, fits_19, fits_20, fits_21, fits_22, fits_23, fits_24, Nat.reduceAdd, Nat.reduceBEq, putR0, putR0', ↓a0, hf]
  have a1 : ev (P.pr c) 57 (.cat 0 (.callv 4 [(.var 3), (.var 2)])) (wE d (.dat nn) (.dat bb) (.dat three) (.dat (.fn k)) (.own false false (.lst [ref_ "letters"])) .emp) = .ok (.dat (ref_ "word")) _ := cat1 (cv_x [three, bb] h1 rfl hr rfl)
  have e1 : Pv.ex (P.pr c) 59 (.exp (.mth .append (.var 5) [(.cat 0 (.callv 4 [(.var 3), (.var 2)]))])) (wE d (.dat nn) (.dat bb) (.dat three) (.dat (.fn k)) (.own false false (.lst [ref_ "letters"])) .emp) = .nx (wE d (.dat nn) (.dat bb) (.dat three) (.dat (.fn k)) (.own false false (.lst [ref_ "letters", ref_ "word"])) .emp) := by
    have q := mth_app (xs := [ref_ "letters"]) (d := ref_ "word") rfl
    unfold wE at a1 ⊢
    simp -implicitDefEqProofs only [exsL, osl, Pv.ex, ev, evs, evT, evI, evW, evO, two, peek, hold, disp, O.bind, O.fl, O.of, F.then, F.of, pk, pks, frz, frzs, getS, rdS, lend, items, setGR, setG, setNms, settle, setRs, setIx, store_dat, store_own, putAt_z, putAt_s, free_emp, free_dat, free_own, outR, callO_P, args1, args2, arOf, ptrs, noDup, c00, c01, contains_nil, putR_nil, putR_dat', putR_emp', putR_own', lookOut, beq_self_eq_true, unlend, unlS, List.getD_cons_zero, List.getD_cons_succ, List.set_cons_zero, List.set_cons_succ, List.length_nil, List.length_cons, Option.map, Option.bind, Option.getD, if_true, Bool.not_true, Bool.not_false, Bool.false_eq_true, if_false, blt_len1, blt_len2, blt_len3, blt_tup1, blt_tup2, blt_list1, blt_list2, isi_ii, isi_ib, isi_tt, cmp_lt, cmp_le, cmp_gt, cmp_ge, cmp_eqi, cmp_nei, tru_bl, idx_l, idx_t, add_int, sub_int, Bool.and_self, Bool.and_true, Bool.true_and, Bool.and_false, Bool.false_and, fits_0, fits_1, fits_2, fits_3, fits_4, fits_5, fits_6, fits_7, fits_8, fits_9, fits_10, fits_11, fits_12, fits_13, fits_14, fits_15, fits_16, fits_17, fits_18, fits_19, fits_20, fits_21, fits_22, fits_23, fits_24, Nat.reduceAdd, Nat.reduceBEq, putR0, putR0', ↓a1, mthO, q, List.cons_append, List.nil_append]
  have a2 : ev (P.pr c) 57 (.cat 0 (.callv 4 [(.var 3), (.tup [(.lit (.int 200)), (.lit (.int 0)), (.lit (.int 0))])])) (wE d (.dat nn) (.dat bb) (.dat three) (.dat (.fn k)) (.own false false (.lst [ref_ "letters", ref_ "word"])) .emp) = .ok (.dat fine_) _ := catOk (cv_r [three, w200] h2 rfl hr rfl)
  have e2 : Pv.ex (P.pr c) 59 (.exp (.mth .append (.var 5) [(.cat 0 (.callv 4 [(.var 3), (.tup [(.lit (.int 200)), (.lit (.int 0)), (.lit (.int 0))])]))])) (wE d (.dat nn) (.dat bb) (.dat three) (.dat (.fn k)) (.own false false (.lst [ref_ "letters", ref_ "word"])) .emp) = .nx (wE d (.dat nn) (.dat bb) (.dat three) (.dat (.fn k)) (.own false false told3) .emp) := by
    have q := mth_app (xs := [ref_ "letters", ref_ "word"]) (d := fine_) rfl
    unfold wE at a2 ⊢
    simp -implicitDefEqProofs only [exsL, osl, Pv.ex, ev, evs, evT, evI, evW, evO, two, peek, hold, disp, O.bind, O.fl, O.of, F.then, F.of, pk, pks, frz, frzs, getS, rdS, lend, items, setGR, setG, setNms, settle, setRs, setIx, store_dat, store_own, putAt_z, putAt_s, free_emp, free_dat, free_own, outR, callO_P, args1, args2, arOf, ptrs, noDup, c00, c01, contains_nil, putR_nil, putR_dat', putR_emp', putR_own', lookOut, beq_self_eq_true, unlend, unlS, List.getD_cons_zero, List.getD_cons_succ, List.set_cons_zero, List.set_cons_succ, List.length_nil, List.length_cons, Option.map, Option.bind, Option.getD, if_true, Bool.not_true, Bool.not_false, Bool.false_eq_true, if_false, blt_len1, blt_len2, blt_len3, blt_tup1, blt_tup2, blt_list1, blt_list2, isi_ii, isi_ib, isi_tt, cmp_lt, cmp_le, cmp_gt, cmp_ge, cmp_eqi, cmp_nei, tru_bl, idx_l, idx_t, add_int, sub_int, Bool.and_self, Bool.and_true, Bool.true_and, Bool.and_false, Bool.false_and, fits_0, fits_1, fits_2, fits_3, fits_4, fits_5, fits_6, fits_7, fits_8, fits_9, fits_10, fits_11, fits_12, fits_13, fits_14, fits_15, fits_16, fits_17, fits_18, fits_19, fits_20, fits_21, fits_22, fits_23, fits_24, Nat.reduceAdd, Nat.reduceBEq, putR0, putR0', ↓a2, mthO, q, List.cons_append, List.nil_append]
  have e3 : Pv.ex (P.pr c) 59 (.cond (.val (.cmp .NotEq (.var 5) (.lst [(.tup [(.lit (.str "refused")), (.lit (.str "letters"))]), (.tup [(.lit (.str "refused")), (.lit (.str "word"))]), (.tup [(.lit (.str "fine"))])]))) [(.ret (.lit (.bl false)))] []) (wE d (.dat nn) (.dat bb) (.dat three) (.dat (.fn k)) (.own false false told3) .emp) = .nx (wE d (.dat nn) (.dat bb) (.dat three) (.dat (.fn k)) (.own false false told3) .emp) := by kernel_rfl
  exact (ex_nx e0).trans ((ex_nx e1).trans ((ex_nx e2).trans ((ex_nx e3).trans rfl)))
/-- the facts -/
structure Fw (c : Nat → List Ar → Out) (nn bb : D) : Prop where
  a18 : c 18 [.dat nn, .dat bb] = .exc 0 none [none, none]
  a19 : c 19 [.dat nn, .dat bb] = .exc 0 none [none, none]
  b18 : c 18 [.dat three, .dat bb] = .exc 1 none [none, none]
  b19 : c 19 [.dat three, .dat bb] = .exc 1 none [none, none]
  c18 : c 18 [.dat three, .dat w200] = .ret (.dat (.int 400)) [none, none]
  c19 : c 19 [.dat three, .dat w200] = .ret (.dat (.int 200)) [none, none]
  a23 : c 23 [.dat nn] = .exc 0 none [none]
  a24 : c 24 [.dat nn] = .exc 0 none [none]
  a25 : c 25 [.dat nn] = .exc 0 none [none]
  a20 : c 20 [.dat nn, .dat bb, .dat bb] = .exc 0 none [none, none, none]
  b20 : c 20 [.dat three, .dat bb, .dat .non] = .exc 1 none [none, none, none]
  c20 : c 20 [.dat three, .dat (.tup [.int 1, .int 1, .int 1]), .dat bb] = .exc 1 none [none, none, none]
  a17 : c 17 [.dat nn, .dat bb] = .exc 0 none [none, none]
  b17 : c 17 [.dat three, .dat bb] = .ret (.dat (.bl false)) [none, none]
  b25 : c 25 [.dat three] = .exc 2 none [none]
  c25 : c 25 [.dat (.tup [.int 3, .int 3, .int 39])] = .ret (.dat (.tup [.int 1, .int 1, .int 1])) [none]
  met : c 35 [.dat (.lst [.str "letters", .str "word", .str "word", .str "letters", .str "", .str "operation", .str ""]), .dat (.lst [ref_ "letters", ref_ "word", ref_ "word", ref_ "letters", fine_, ref_ "operation", fine_])] = .ret (.dat (.bl true)) [none, none]
theorem w_3 {nn bb : D} (F : Fw c nn bb) {d : D} : Pv.ex (P.pr c) 60 (wB 3) (wE d (.dat nn) (.dat bb) (.dat three) .emp .emp .emp) = .nx (wE d (.dat nn) (.dat bb) (.dat three) (.dat (.fn 19)) (.own false false told3) .emp) := by
  rw [wB3]
  have l1 := loop_step (e := ev (P.pr c) 59) (g := .nm 4) (b := exsL (Pv.ex (P.pr c) 59) tB) (x := .fn 18) (xs := [.fn 19]) (ρ := wE d (.dat nn) (.dat bb) (.dat three) .emp .emp .emp) (ρ1 := wE d (.dat nn) (.dat bb) (.dat three) (.dat (.fn 18)) .emp .emp) rfl (t_run rfl F.a18 F.b18 F.c18 rfl)
  have l2 := loop_step (e := ev (P.pr c) 59) (g := .nm 4) (b := exsL (Pv.ex (P.pr c) 59) tB) (x := .fn 19) (xs := []) (ρ := wE d (.dat nn) (.dat bb) (.dat three) (.dat (.fn 18)) (.own false false told3) .emp) (ρ1 := wE d (.dat nn) (.dat bb) (.dat three) (.dat (.fn 19)) (.own false false told3) .emp) rfl (t_run rfl F.a19 F.b19 F.c19 rfl)
  exact ex_loop (n := 59) (xs := [.fn 18, .fn 19]) (ls := []) (evI_seq (r := .dat (.tup [.fn 18, .fn 19])) (d := .tup [.fn 18, .fn 19]) rfl rfl rfl) (l1.trans (l2.trans rfl))
def uB : List Pv.S := [(.cond (.val (.cmp .NotEq (.cat 0 (.callv 4 [(.var 1)])) (.tup [(.lit (.str "refused")), (.lit (.str "letters"))]))) [(.ret (.lit (.bl false)))] [])]
theorem wB4 : wB 4 = .loop (.nm 4) (.seq (.tup [(.lit (.fn 23)), (.lit (.fn 24)), (.lit (.fn 25))])) uB := rfl
theorem ne_let : cmpD .NotEq (ref_ "letters") (ref_ "letters") = some false := by kernel_rfl
theorem u_run {k : Nat} {o0 : List (Option D)} {d nn bb : D} {s5 : Sl} (hr : (P.pr c).ref k = []) (h0 : c k [.dat nn] = .exc 0 none o0) :
    exsL (Pv.ex (P.pr c) 59) uB (wE d (.dat nn) (.dat bb) (.dat three) (.dat (.fn k)) s5 .emp) = .nx (wE d (.dat nn) (.dat bb) (.dat three) (.dat (.fn k)) s5 .emp) := by
  have a0 : ev (P.pr c) 56 (.cat 0 (.callv 4 [(.var 1)])) (wE d (.dat nn) (.dat bb) (.dat three) (.dat (.fn k)) s5 .emp) = .ok (.dat (ref_ "letters")) _ := cat0 (cv_x [nn] h0 rfl hr rfl)
  have q := ne_let
  unfold uB
  unfold wE at a0 ⊢
  simp -implicitDefEqProofs only [exsL, osl, Pv.ex, ev, evs, evT, evI, evW, evO, two, peek, hold, disp, O.bind, O.fl, O.of, F.then, F.of, pk, pks, frz, frzs, getS, rdS, lend, items, setGR, setG, setNms, settle, setRs, setIx, store_dat, store_own, putAt_z, putAt_s, free_emp, free_dat, free_own, outR, callO_P, args1, args2, arOf, ptrs, noDup, c00, c01, contains_nil, putR_nil, putR_dat', putR_emp', putR_own', lookOut, beq_self_eq_true, unlend, unlS, List.getD_cons_zero, List.getD_cons_succ, List.set_cons_zero, List.set_cons_succ, List.length_nil, List.length_cons, Option.map, Option.bind, Option.getD, if_true, Bool.not_true, Bool.not_false, Bool.false_eq_true, if_false, blt_len1, blt_len2, blt_len3, blt_tup1, blt_tup2, blt_list1, blt_list2, isi_ii, isi_ib, isi_tt, cmp_lt, cmp_le, cmp_gt, cmp_ge, cmp_eqi, cmp_nei, tru_bl, idx_l, idx_t, add_int, sub_int, Bool.and_self, Bool.and_true, Bool.true_and, Bool.and_false, Bool.false_and, fits_0, fits_1, fits_2, fits_3, fits_4, fits_5, fits_6, fits_7, fits_8, fits_9, fits_10, fits_11, fits_12, fits_13, fits_14, fits_15, fits_16, fits_17, fits_18, fits_19, fits_20, fits_21, fits_22, fits_23, fits_24, Nat.reduceAdd, Nat.reduceBEq, putR0, putR0', ↓a0, q]
theorem w_4 {nn bb : D} (F : Fw c nn bb) {d : D} : Pv.ex (P.pr c) 60 (wB 4) (wE d (.dat nn) (.dat bb) (.dat three) (.dat (.fn 19)) (.own false false told3) .emp) = .nx (wE d (.dat nn) (.dat bb) (.dat three) (.dat (.fn 25)) (.own false false told3) .emp) := by
  rw [wB4]
  have l1 := loop_step (e := ev (P.pr c) 59) (g := .nm 4) (b := exsL (Pv.ex (P.pr c) 59) uB) (x := .fn 23) (xs := [.fn 24, .fn 25]) (ρ := wE d (.dat nn) (.dat bb) (.dat three) (.dat (.fn 19)) (.own false false told3) .emp) (ρ1 := wE d (.dat nn) (.dat bb) (.dat three) (.dat (.fn 23)) (.own false false told3) .emp) rfl (u_run rfl F.a23)
  have l2 := loop_step (e := ev (P.pr c) 59) (g := .nm 4) (b := exsL (Pv.ex (P.pr c) 59) uB) (x := .fn 24) (xs := [.fn 25]) (ρ := wE d (.dat nn) (.dat bb) (.dat three) (.dat (.fn 23)) (.own false false told3) .emp) (ρ1 := wE d (.dat nn) (.dat bb) (.dat three) (.dat (.fn 24)) (.own false false told3) .emp) rfl (u_run rfl F.a24)
  have l3 := loop_step (e := ev (P.pr c) 59) (g := .nm 4) (b := exsL (Pv.ex (P.pr c) 59) uB) (x := .fn 25) (xs := []) (ρ := wE d (.dat nn) (.dat bb) (.dat three) (.dat (.fn 24)) (.own false false told3) .emp) (ρ1 := wE d (.dat nn) (.dat bb) (.dat three) (.dat (.fn 25)) (.own false false told3) .emp) rfl (u_run rfl F.a25)
  exact ex_loop (n := 59) (xs := [.fn 23, .fn 24, .fn 25]) (ls := []) (evI_seq (r := .dat (.tup [.fn 23, .fn 24, .fn 25])) (d := .tup [.fn 23, .fn 24, .fn 25]) rfl rfl rfl) (l1.trans (l2.trans (l3.trans rfl)))
/-! ### the lambdas -/
def wC : List C := [(.call 20 [(.var 1), (.var 2), (.var 2)]), (.call 20 [(.var 3), (.var 2), (.lit .non)]), (.call 20 [(.var 3), (.tup [(.lit (.int 1)), (.lit (.int 1)), (.lit (.int 1))]), (.var 2)]), (.call 17 [(.var 1), (.var 2)]), (.call 17 [(.var 3), (.var 2)]), (.call 25 [(.var 3)]), (.call 25 [(.tup [(.lit (.int 3)), (.lit (.int 3)), (.lit (.int 39))])])]
theorem wB5 : wB 5 = .clos 6 wC := rfl
theorem w_5 {p : Pr} {d nn bb : D} {s4 s5 : Sl} : Pv.ex p 60 (wB 5) (wE d (.dat nn) (.dat bb) (.dat three) s4 s5 .emp) = .nx (wE d (.dat nn) (.dat bb) (.dat three) s4 s5 (.cls wC)) := by kernel_rfl
def wDue : C := .lst [(.lit (.str "letters")), (.lit (.str "word")), (.lit (.str "word")), (.lit (.str "letters")), (.lit (.str "")), (.lit (.str "operation")), (.lit (.str ""))]
theorem wB6 : wB 6 = .ret (.mets 35 0 6 wDue) := rfl
theorem w_6 {nn bb : D} (F : Fw c nn bb) {d : D} {s4 s5 : Sl} : Pv.ex (P.pr c) 60 (wB 6) (wE d (.dat nn) (.dat bb) (.dat three) s4 s5 (.cls wC)) = .rt (.dat (.bl true)) (wE d (.dat nn) (.dat bb) (.dat three) s4 s5 (.cls wC)) := by
  have ms : Ms c 58 (wE d (.dat nn) (.dat bb) (.dat three) s4 s5 (.cls wC)) wC [ref_ "letters", ref_ "word", ref_ "word", ref_ "letters", fine_, ref_ "operation", fine_] :=
    .cons (cat0 (cl_x [nn, bb, bb] F.a20 rfl rfl)) (.cons (cat1 (cl_x [three, bb, .non] F.b20 rfl rfl)) (.cons (cat1 (cl_x [three, .tup [.int 1, .int 1, .int 1], bb] F.c20 rfl rfl)) (.cons (cat0 (cl_x [nn, bb] F.a17 rfl rfl)) (.cons (catOk (cl_r [three, bb] F.b17 rfl rfl)) (.cons (cat2 (cl_x [three] F.b25 rfl rfl)) (.cons (catOk (cl_r [.tup [.int 3, .int 3, .int 39]] F.c25 rfl rfl)) .nil))))))
  have e := mets_ok (i := 6) (f := 35) (due := wDue) (dd := .lst [.str "letters", .str "word", .str "word", .str "letters", .str "", .str "operation", .str ""]) (d := .bl true) rfl rfl rfl ms rfl F.met
  rw [wB6]
  show (ev (P.pr c) 59 (.mets 35 0 6 wDue) _).fl _ = _
  rw [e]; rfl
theorem words_run {nn bb d d1 d2 : D} (F : Fw c nn bb) (h1 : c 29 [.own false d, .dat (.lst m1)] = .ret (.dat nn) [some d1, none]) (h2 : c 29 [.own false d1, .dat (.lst m2)] = .ret (.dat bb) [some d2, none]) :
    ∃ ρ, exsL (Pv.ex (P.pr c) 60) f__law_words_right.body (wE d .emp .emp .emp .emp .emp .emp) = .rt (.dat (.bl true)) (.own true false d2 :: ρ) := by
  refine ⟨[.dat nn, .dat bb, .dat three, .dat (.fn 25), .own false false told3, .cls wC], ?_⟩
  rw [wB_all]
  exact (ex_nx (w_0 (s2 := .emp) (s3 := .emp) (s4 := .emp) (s5 := .emp) (s6 := .emp) h1)).trans ((ex_nx (w_1 (s2 := .emp) (s3 := .emp) (s4 := .emp) (s5 := .emp) (s6 := .emp) h2)).trans ((ex_nx w_2).trans ((ex_nx (w_3 F)).trans ((ex_nx (w_4 F)).trans ((ex_nx w_5).trans (ex_rt (w_6 F)))))))
theorem fw_of {nn bb : D} (h1 : P.cal 4 14 [.dat nn] = .exc 0 none [none]) (h2 : P.cal 4 15 [.dat three, .dat bb] = .ret (.dat (.bl false)) [none, none]) (h3 : P.cal 4 16 [.dat three, .dat bb] = .exc 1 none [none, none]) : Fw (P.cal 5) nn bb where
  a18 := x18 h1
  a19 := x19 h1
  b18 := w18 h3
  b19 := w19 h3
  c18 := wd200
  c19 := wl200
  a23 := x23 h1
  a24 := x24 h1
  a25 := x25 h1
  a20 := x20 h1
  b20 := w20 h3
  c20 := w20b h3
  a17 := x17 h1
  b17 := w17 h2
  b25 := top3
  c25 := top39
  met := by kernel_rfl
/-- wrong letters and words are refused -/
theorem words_right {k : Nat} {d : D} (g : GD k d) (hk : k ≤ 400) : ∃ d', GD (k + 2) d' ∧ P.cal 6 30 [.own false d] = .ret (.dat (.bl true)) [some d'] := by
  obtain ⟨nn, hn, d1, e1, g1⟩ := cal_pick hR hP 3 (menu := m1) g (by omega) (by decide) (by decide)
  obtain ⟨bb, hb, d2, e2, g2⟩ := cal_pick hR hP 3 (menu := m2) g1 (by omega) (by decide) (by decide)
  have h1 := let1.get nn hn
  obtain ⟨h2, h3⟩ := wrd2.get bb hb
  obtain ⟨ρ, e⟩ := words_run (fw_of h1 h2 h3) e1 e2
  exact ⟨d2, g2, cal_rtF f__law_words_right [.own false d] _ rfl rfl rfl e rfl⟩
end Pv.K05
end Pe05_
section Pf05_
set_option maxRecDepth 1000000
/-! Pf05: _law_others_right. -/
namespace Pv.K05
open Pv PySem Pv.Sx
variable {c : Nat → List Ar → Out}
abbrev oE (d : D) (s1 s2 s3 s4 s5 s6 s7 : Sl) : En := [.own true false d, s1, s2, s3, s4, s5, s6, s7]
def oB (i : Nat) : Pv.S := f__law_others_right.body.getD i .pass
theorem oB_all : f__law_others_right.body = [oB 0, oB 1, oB 2, oB 3, oB 4, oB 5, oB 6, oB 7] := rfl
abbrev dueL (t : Str) : List D := [.str "letters", .str t, .str "letters", .str t, .str "letters", .str t, .str "letters", .str "operation", .str "", .str "many 400", .str "many 400", .str ""]
abbrev msL (t : Str) : List D := [ref_ "letters", ref_ t, ref_ "letters", ref_ t, ref_ "letters", ref_ t, ref_ "letters", ref_ "operation", fine_, ref_ "many 400", ref_ "many 400", fine_]
structure Nu (dd : D) (t : Str) : Prop where
  st : ∀ p s0 s1 s3 s4 s5, Pv.ex p 60 (oB 5) [s0, s1, .dat dd, s3, s4, s5, .emp, .emp] = .nx [s0, s1, .dat dd, s3, s4, s5, .dat (.str t), .emp]
  an : anD (.tup [.str "refused", .rpr (some "number ")]) (some dd) = some (ref_ t)
  met : P.cal 5 35 [.dat (.lst (dueL t)), .dat (.lst (msL t))] = .ret (.dat (.bl true)) [none, none]
theorem nu4 : AllM (fun x => ∃ t, Nu x t) m4 := by
  refine ⟨⟨"number None", fun p s0 s1 s3 s4 s5 => ?_, ?_, ?_⟩, ⟨"number -1", fun p s0 s1 s3 s4 s5 => ?_, ?_, ?_⟩, ⟨"number 81", fun p s0 s1 s3 s4 s5 => ?_, ?_, ?_⟩, ⟨"number True", fun p s0 s1 s3 s4 s5 => ?_, ?_, ?_⟩, ⟨"number '3'", fun p s0 s1 s3 s4 s5 => ?_, ?_, ?_⟩, ⟨"number (3,)", fun p s0 s1 s3 s4 s5 => ?_, ?_, ?_⟩, ⟨"number 1000000000000000000000000000000000000000000000000000000000000", fun p s0 s1 s3 s4 s5 => ?_, ?_, ?_⟩, trivial⟩ <;> kernel_rfl
def mC3 : List C := [(.lit .non), (.lit (.int 2)), (.lst [(.lit (.int 2)), (.lit (.int 3))]), (.tup [(.lit (.int 0))]), (.tup [(.lit (.int 41))]), (.tup [(.lit (.int 2)), (.lit (.bl true))]), (.tup [(.lit (.str "2"))]), (.bin .Mult (.tup [(.lit (.int 2))]) (.lit (.int 25))), .emp]
def mC4 : List C := [(.lit .non), (.neg (.lit (.int 1))), (.lit (.int 81)), (.lit (.bl true)), (.lit (.str "3")), (.tup [(.lit (.int 3))]), (.bin .Pow (.lit (.int 10)) (.lit (.int 60)))]
def mC5 : List C := [(.lit .non), (.lit (.int 0)), (.lst [(.lit (.int 0))]), (.tup [(.lit (.int 3))]), (.tup [(.neg (.lit (.int 1)))]), (.tup [(.lit (.bl true))]), (.tup [(.lit (.str "0"))]), (.bin .Mult (.tup [(.lit (.int 0))]) (.lit (.int 41))), .emp, (.tup [(.tup [(.lit (.int 0))])]), (.tup [(.bin .Pow (.lit (.int 10)) (.lit (.int 60)))])]
theorem oB0 : oB 0 = .asg (.nm 1) (.call 29 [(.var 0), (.lst mC3)]) := rfl
theorem oB1 : oB 1 = .asg (.nm 2) (.call 29 [(.var 0), (.lst mC4)]) := rfl
theorem oB2 : oB 2 = .asg (.nm 3) (.call 29 [(.var 0), (.lst mC5)]) := rfl
theorem mE3 (p : Pr) (ρ : En) : ev p 58 (.lst mC3) ρ = .ok (.own (.lst m3)) ρ := by kernel_rfl
theorem mE4 (p : Pr) (ρ : En) : ev p 58 (.lst mC4) ρ = .ok (.own (.lst m4)) ρ := by kernel_rfl
theorem mE5 (p : Pr) (ρ : En) : ev p 58 (.lst mC5) ρ = .ok (.own (.lst m5)) ρ := by kernel_rfl
theorem o_0 {d d' x : D} (h : c 29 [.own false d, .dat (.lst m3)] = .ret (.dat x) [some d', none]) : Pv.ex (P.pr c) 60 (oB 0) (oE d .emp .emp .emp .emp .emp .emp .emp) = .nx (oE d' (.dat x) .emp .emp .emp .emp .emp .emp) := by
  have m := mE3
  rw [oB0]
  unfold oE
  simp -implicitDefEqProofs only [exsL, osl, Pv.ex, ev, evs, evT, evI, evW, evO, two, peek, hold, disp, O.bind, O.fl, O.of, F.then, F.of, pk, pks, frz, frzs, getS, rdS, lend, items, setGR, setG, setNms, settle, setRs, setIx, store_dat, store_own, putAt_z, putAt_s, free_emp, free_dat, free_own, outR, callO_P, args1, args2, arOf, ptrs, noDup, c00, c01, contains_nil, putR_nil, putR_dat', putR_emp', putR_own', lookOut, beq_self_eq_true, unlend, unlS, List.getD_cons_zero, List.getD_cons_succ, List.set_cons_zero, List.set_cons_succ, List.length_nil, List.length_cons, Option.map, Option.bind, Option.getD, if_true, Bool.not_true, Bool.not_false, Bool.false_eq_true, if_false, blt_len1, blt_len2, blt_len3, blt_tup1, blt_tup2, blt_list1, blt_list2, isi_ii, isi_ib, isi_tt, cmp_lt, cmp_le, cmp_gt, cmp_ge, cmp_eqi, cmp_nei, tru_bl, idx_l, idx_t, add_int, sub_int, Bool.and_self, Bool.and_true, Bool.true_and, Bool.and_false, Bool.false_and, fits_0, fits_1, fits_2, fits_3, fits_4, fits_5, fits_6, fits_7, fits_8, fits_9, fits_10, fits_11, fits_12, fits_13, fits_14, fits_15, fits_16, fits_17, fits_18, fits_19, fits_20, fits_21, fits_22, fits_23, fits_24, Nat.reduceAdd, Nat.reduceBEq, putR0, putR0', r29, ↓m, h]
theorem o_1 {d d' x y : D} (h : c 29 [.own false d, .dat (.lst m4)] = .ret (.dat x) [some d', none]) : Pv.ex (P.pr c) 60 (oB 1) (oE d (.dat y) .emp .emp .emp .emp .emp .emp) = .nx (oE d' (.dat y) (.dat x) .emp .emp .emp .emp .emp) := by
  have m := mE4
  rw [oB1]
  unfold oE
  simp -implicitDefEqProofs only [exsL, osl, Pv.ex, ev, evs, evT, evI, evW, evO, two, peek, hold, disp, O.bind, O.fl, O.of, F.then, F.of, pk, pks, frz, frzs, getS, rdS, lend, items, setGR, setG, setNms, settle, setRs, setIx, store_dat, store_own, putAt_z, putAt_s, free_emp, free_dat, free_own, outR, callO_P, args1, args2, arOf, ptrs, noDup, c00, c01, contains_nil, putR_nil, putR_dat', putR_emp', putR_own', lookOut, beq_self_eq_true, unlend, unlS, List.getD_cons_zero, List.getD_cons_succ, List.set_cons_zero, List.set_cons_succ, List.length_nil, List.length_cons, Option.map, Option.bind, Option.getD, if_true, Bool.not_true, Bool.not_false, Bool.false_eq_true, if_false, blt_len1, blt_len2, blt_len3, blt_tup1, blt_tup2, blt_list1, blt_list2, isi_ii, isi_ib, isi_tt, cmp_lt, cmp_le, cmp_gt, cmp_ge, cmp_eqi, cmp_nei, tru_bl, idx_l, idx_t, add_int, sub_int, Bool.and_self, Bool.and_true, Bool.true_and, Bool.and_false, Bool.false_and, fits_0, fits_1, fits_2, fits_3, fits_4, fits_5, fits_6, fits_7, fits_8, fits_9, fits_10, fits_11, fits_12, fits_13, fits_14, fits_15, fits_16, fits_17, fits_18, fits_19, fits_20, fits_21, fits_22, fits_23, fits_24, Nat.reduceAdd, Nat.reduceBEq, putR0, putR0', r29, ↓m, h]
theorem o_2 {d d' x y z : D} (h : c 29 [.own false d, .dat (.lst m5)] = .ret (.dat x) [some d', none]) : Pv.ex (P.pr c) 60 (oB 2) (oE d (.dat y) (.dat z) .emp .emp .emp .emp .emp) = .nx (oE d' (.dat y) (.dat z) (.dat x) .emp .emp .emp .emp) := by
  have m := mE5
  rw [oB2]
  unfold oE
  simp -implicitDefEqProofs only [exsL, osl, Pv.ex, ev, evs, evT, evI, evW, evO, two, peek, hold, disp, O.bind, O.fl, O.of, F.then, F.of, pk, pks, frz, frzs, getS, rdS, lend, items, setGR, setG, setNms, settle, setRs, setIx, store_dat, store_own, putAt_z, putAt_s, free_emp, free_dat, free_own, outR, callO_P, args1, args2, arOf, ptrs, noDup, c00, c01, contains_nil, putR_nil, putR_dat', putR_emp', putR_own', lookOut, beq_self_eq_true, unlend, unlS, List.getD_cons_zero, List.getD_cons_succ, List.set_cons_zero, List.set_cons_succ, List.length_nil, List.length_cons, Option.map, Option.bind, Option.getD, if_true, Bool.not_true, Bool.not_false, Bool.false_eq_true, if_false, blt_len1, blt_len2, blt_len3, blt_tup1, blt_tup2, blt_list1, blt_list2, isi_ii, isi_ib, isi_tt, cmp_lt, cmp_le, cmp_gt, cmp_ge, cmp_eqi, cmp_nei, tru_bl, idx_l, idx_t, add_int, sub_int, Bool.and_self, Bool.and_true, Bool.true_and, Bool.and_false, Bool.false_and, fits_0, fits_1, fits_2, fits_3, fits_4, fits_5, fits_6, fits_7, fits_8, fits_9, fits_10, fits_11, fits_12, fits_13, fits_14, fits_15, fits_16, fits_17, fits_18, fits_19, fits_20, fits_21, fits_22, fits_23, fits_24, Nat.reduceAdd, Nat.reduceBEq, putR0, putR0', r29, ↓m, h]
theorem o_3 {p : Pr} {d x y z : D} : Pv.ex p 60 (oB 3) (oE d (.dat x) (.dat y) (.dat z) .emp .emp .emp .emp) = .nx (oE d (.dat x) (.dat y) (.dat z) (.dat three) .emp .emp .emp) := by kernel_rfl
def oC : List C := [(.call 21 [(.var 1), (.var 2)]), (.call 21 [(.var 4), (.var 2)]), (.call 22 [(.var 1), (.var 2)]), (.call 22 [(.var 4), (.var 2)]), (.call 34 [(.var 1), (.var 2)]), (.call 34 [(.var 4), (.var 2)]), (.call 26 [(.var 1), (.var 3)]), (.call 26 [(.var 4), (.var 3)]), (.call 26 [(.var 4), (.bin .Mult (.tup [(.lit (.int 0))]) (.lit (.int 40)))]), (.call 21 [(.tup [(.lit (.int 2)), (.lit (.int 2)), (.lit (.int 2)), (.lit (.int 2))]), (.lit (.int 80))]), (.call 21 [(.bin .Mult (.tup [(.lit (.int 1))]) (.lit (.int 24))), (.lit (.int 12))]), (.call 22 [(.bin .Mult (.tup [(.lit (.int 2))]) (.lit (.int 24))), (.lit (.int 80))])]
theorem oB4 : oB 4 = .clos 5 oC := rfl
theorem o_4 {p : Pr} {d x y z : D} : Pv.ex p 60 (oB 4) (oE d (.dat x) (.dat y) (.dat z) (.dat three) .emp .emp .emp) = .nx (oE d (.dat x) (.dat y) (.dat z) (.dat three) (.cls oC) .emp .emp) := by kernel_rfl
theorem o_6 {p : Pr} {d x y z : D} {t : Str} : Pv.ex p 60 (oB 6) (oE d (.dat x) (.dat y) (.dat z) (.dat three) (.cls oC) (.dat (.str t)) .emp) = .nx (oE d (.dat x) (.dat y) (.dat z) (.dat three) (.cls oC) (.dat (.str t)) (.own false false (.lst (dueL t)))) := by kernel_rfl
/-- the facts -/
structure Fo (c : Nat → List Ar → Out) (nn dd ss : D) (t : Str) : Prop where
  a21 : c 21 [.dat nn, .dat dd] = .exc 0 none [none, none]
  b21 : c 21 [.dat three, .dat dd] = .exc 3 (some dd) [none, none]
  a22 : c 22 [.dat nn, .dat dd] = .exc 0 none [none, none]
  b22 : c 22 [.dat three, .dat dd] = .exc 3 (some dd) [none, none]
  a34 : c 34 [.dat nn, .dat dd] = .exc 0 none [none, none]
  b34 : c 34 [.dat three, .dat dd] = .exc 3 (some dd) [none, none]
  a26 : c 26 [.dat nn, .dat ss] = .exc 0 none [none, none]
  b26 : c 26 [.dat three, .dat ss] = .exc 2 none [none, none]
  c26 : c 26 [.dat three, .dat (.tup (List.replicate 40 (.int 0)))] = .ret (.dat (.tup [.int 1, .tup [.int 40, .int 0, .int 0]])) [none, none]
  c21 : c 21 [.dat (.tup [.int 2, .int 2, .int 2, .int 2]), .dat (.int 80)] = .exc 4 (some (.int 400)) [none, none]
  d21 : c 21 [.dat (.tup (List.replicate 24 (.int 1))), .dat (.int 12)] = .exc 4 (some (.int 400)) [none, none]
  c22 : c 22 [.dat (.tup (List.replicate 24 (.int 2))), .dat (.int 80)] = .ret (.dat (.int 93993414551124795)) [none, none]
  an : anD (.tup [.str "refused", .rpr (some "number ")]) (some dd) = some (ref_ t)
  met : c 35 [.dat (.lst (dueL t)), .dat (.lst (msL t))] = .ret (.dat (.bl true)) [none, none]
theorem zip_ok {n k cc : Nat} {d : Option D} {out : List (Option D)} {es : List C} {ρ : En} (ds : List D) (h : c k (ds.map Ar.dat) = .exc cc d out) (he : evs (ev (P.pr c) n) es ρ = .ok (ds.map R.dat) ρ) (hf : frzs (ds.map R.dat) ρ = some (ds, ρ)) : ev (P.pr c) (n + 1) (.zip0 k es) ρ = .ok (.own (.lst [])) ρ := by
  have e : ev (P.pr c) (n + 1) (.zip0 k es) ρ = (evs (ev (P.pr c) n) es ρ).bind fun rs ρ1 => match frzs rs ρ1 with
      | some (ds, ρ2) => (match (P.pr c).cal k (ds.map Ar.dat) with
        | .bad => .bad
        | _ => .ok (.own (.lst [])) ρ2)
      | none => .bad := by
    conv => lhs; unfold ev
    try rfl
  rw [e, he]
  show (match frzs (ds.map R.dat) ρ with | some (ds, ρ2) => (match c k (ds.map Ar.dat) with | .bad => O.bad | _ => O.ok (R.own (.lst [])) ρ2) | none => .bad) = _
  rw [hf]
  dsimp only
  rw [h]
theorem oB7 : oB 7 = .ret (.andv (.mets 35 0 5 (.var 7)) (.cmp .Eq (.zip0 34 [(.var 1), (.var 2)]) (.lst []))) := rfl
theorem o_7 {nn dd ss d : D} {t : Str} (fo : Fo c nn dd ss t) : Pv.ex (P.pr c) 60 (oB 7) (oE d (.dat nn) (.dat dd) (.dat ss) (.dat three) (.cls oC) (.dat (.str t)) (.own false false (.lst (dueL t)))) = .rt (.dat (.bl true)) (oE d (.dat nn) (.dat dd) (.dat ss) (.dat three) (.cls oC) (.dat (.str t)) (.dat (.lst (dueL t)))) := by
  have ms : Ms c 57 (oE d (.dat nn) (.dat dd) (.dat ss) (.dat three) (.cls oC) (.dat (.str t)) (.dat (.lst (dueL t)))) oC (msL t) :=
    .cons (cat0 (cl_x [nn, dd] fo.a21 rfl rfl)) (.cons (cat3 (cl_x [three, dd] fo.b21 rfl rfl) fo.an) (.cons (cat0 (cl_x [nn, dd] fo.a22 rfl rfl)) (.cons (cat3 (cl_x [three, dd] fo.b22 rfl rfl) fo.an) (.cons (cat0 (cl_x [nn, dd] fo.a34 rfl rfl)) (.cons (cat3 (cl_x [three, dd] fo.b34 rfl rfl) fo.an) (.cons (cat0 (cl_x [nn, ss] fo.a26 rfl rfl)) (.cons (cat2 (cl_x [three, ss] fo.b26 rfl rfl)) (.cons (catOk (cl_r [three, .tup (List.replicate 40 (.int 0))] fo.c26 rfl (by kernel_rfl))) (.cons (cat4 (cl_x [.tup [.int 2, .int 2, .int 2, .int 2], .int 80] fo.c21 rfl rfl)) (.cons (cat4 (cl_x [.tup (List.replicate 24 (.int 1)), .int 12] fo.d21 rfl (by kernel_rfl))) (.cons (catOk (cl_r [.tup (List.replicate 24 (.int 2)), .int 80] fo.c22 rfl (by kernel_rfl))) .nil)))))))))))
  have e := mets_ok (i := 5) (f := 35) (due := .var 7) (ρ := oE d (.dat nn) (.dat dd) (.dat ss) (.dat three) (.cls oC) (.dat (.str t)) (.own false false (.lst (dueL t)))) (dd := .lst (dueL t)) (d := .bl true) rfl rfl rfl ms rfl fo.met
  have z := zip_ok (n := 56) (k := 34) (es := [(.var 1), (.var 2)]) (ρ := oE d (.dat nn) (.dat dd) (.dat ss) (.dat three) (.cls oC) (.dat (.str t)) (.dat (.lst (dueL t)))) [nn, dd] fo.a34 rfl rfl
  have q : cmpD .Eq (.lst []) (.lst []) = some true := rfl
  rw [oB7]
  unfold oE at e z ⊢
  simp -implicitDefEqProofs only [exsL, osl, Pv.ex, ev, evs, evT, evI, evW, evO, two, peek, hold, disp, O.bind, O.fl, O.of, F.then, F.of, pk, pks, frz, frzs, getS, rdS, lend, items, setGR, setG, setNms, settle, setRs, setIx, store_dat, store_own, putAt_z, putAt_s, free_emp, free_dat, free_own, outR, callO_P, args1, args2, arOf, ptrs, noDup, c00, c01, contains_nil, putR_nil, putR_dat', putR_emp', putR_own', lookOut, beq_self_eq_true, unlend, unlS, List.getD_cons_zero, List.getD_cons_succ, List.set_cons_zero, List.set_cons_succ, List.length_nil, List.length_cons, Option.map, Option.bind, Option.getD, if_true, Bool.not_true, Bool.not_false, Bool.false_eq_true, if_false, blt_len1, blt_len2, blt_len3, blt_tup1, blt_tup2, blt_list1, blt_list2, isi_ii, isi_ib, isi_tt, cmp_lt, cmp_le, cmp_gt, cmp_ge, cmp_eqi, cmp_nei, tru_bl, idx_l, idx_t, add_int, sub_int, Bool.and_self, Bool.and_true, Bool.true_and, Bool.and_false, Bool.false_and, fits_0, fits_1, fits_2, fits_3, fits_4, fits_5, fits_6, fits_7, fits_8, fits_9, fits_10, fits_11, fits_12, fits_13, fits_14, fits_15, fits_16, fits_17, fits_18, fits_19, fits_20, fits_21, fits_22, fits_23, fits_24, Nat.reduceAdd, Nat.reduceBEq, putR0, putR0', ↓e, ↓z, q]
theorem others_run {nn dd ss d d1 d2 d3 : D} {t : Str} (F : Fo c nn dd ss t) (N : Nu dd t) (h1 : c 29 [.own false d, .dat (.lst m3)] = .ret (.dat nn) [some d1, none]) (h2 : c 29 [.own false d1, .dat (.lst m4)] = .ret (.dat dd) [some d2, none]) (h3 : c 29 [.own false d2, .dat (.lst m5)] = .ret (.dat ss) [some d3, none]) :
    ∃ ρ, exsL (Pv.ex (P.pr c) 60) f__law_others_right.body (oE d .emp .emp .emp .emp .emp .emp .emp) = .rt (.dat (.bl true)) (.own true false d3 :: ρ) := by
  refine ⟨[.dat nn, .dat dd, .dat ss, .dat three, .cls oC, .dat (.str t), .dat (.lst (dueL t))], ?_⟩
  rw [oB_all]
  exact (ex_nx (o_0 h1)).trans ((ex_nx (o_1 h2)).trans ((ex_nx (o_2 h3)).trans ((ex_nx o_3).trans ((ex_nx o_4).trans ((ex_nx (N.st _ _ _ _ _ _)).trans ((ex_nx o_6).trans (ex_rt (o_7 F))))))))
theorem fo_of {nn dd ss : D} {t : Str} (h1 : P.cal 4 14 [.dat nn] = .exc 0 none [none]) (h2 : P.cal 4 3 [.dat dd, .dat (.int 0), .dat (.int 80)] = .exc 3 (some dd) [none, none, none]) (h3 : P.cal 5 26 [.dat three, .dat ss] = .exc 2 none [none, none]) (N : Nu dd t) : Fo (P.cal 5) nn dd ss t where
  a21 := x21 h1
  b21 := d21 h2
  a22 := x22 h1
  b22 := d22 h2
  a34 := x34 h1
  b34 := d34 h2
  a26 := x26 h1
  b26 := h3
  c26 := sor40
  c21 := many1
  d21 := many2
  c22 := many3
  an := N.an
  met := N.met
/-- wrong degrees and sequences are refused -/
theorem others_right {k : Nat} {d : D} (g : GD k d) (hk : k ≤ 400) : ∃ d', GD (k + 3) d' ∧ P.cal 6 31 [.own false d] = .ret (.dat (.bl true)) [some d'] := by
  obtain ⟨nn, hn, d1, e1, g1⟩ := cal_pick hR hP 3 (menu := m3) g (by omega) (by decide) (by decide)
  obtain ⟨dd, hd, d2, e2, g2⟩ := cal_pick hR hP 3 (menu := m4) g1 (by omega) (by decide) (by decide)
  obtain ⟨ss, hs, d3, e3, g3⟩ := cal_pick hR hP 3 (menu := m5) g2 (by omega) (by decide) (by decide)
  obtain ⟨t, N⟩ := nu4.get dd hd
  obtain ⟨ρ, e⟩ := others_run (fo_of (let3.get nn hn) (deg4.get dd hd) (sor5.get ss hs) N) N e1 e2 e3
  exact ⟨d3, g3, cal_rtF f__law_others_right [.own false d] _ rfl rfl rfl e rfl⟩
end Pv.K05
end Pf05_
section Pg05_
set_option maxRecDepth 1000000
/-! Pg05: three letters of degree 2 have 378 words of degree 52. -/
namespace Pv.K05
open Pv PySem Pv.Sx
abbrev t222 : D := .tup [.int 2, .int 2, .int 2]
def chkI : List Int → List D → Bool
  | [], [] => true
  | i :: is, .int j :: ds => decide (i = j) && chkI is ds
  | _, _ => false
theorem chkI_eq : ∀ {is : List Int} {ds : List D}, chkI is ds = true → ds = is.map D.int
  | [], [], _ => rfl
  | [], _ :: _, h => nomatch h
  | _ :: _, [], h => nomatch h
  | i :: is, x :: ds, h => by
    cases x <;> try (exact (Bool.false_ne_true h).elim)
    rename_i j
    have h : (decide (i = j) && chkI is ds) = true := h
    rw [Bool.and_eq_true] at h
    rw [chkI_eq h.2, of_decide_eq_true h.1]; rfl
def cI (f : Nat → Nat) : List Int := (List.range 53).map fun l => if l % 2 = 0 then ((f (l / 2) : Nat) : Int) else 0
def c0 : List Int := cI fun k => (k + 2) * (k + 1) / 2
def c1 : List Int := cI fun k => k + 1
def c2 : List Int := cI fun _ => 1
def c3 : List Int := cI fun k => if k = 0 then 1 else 0
def cts : D := .lst [.lst (c0.map D.int), .lst (c1.map D.int), .lst (c2.map D.int), .lst (c3.map D.int)]
def chkC : D → Bool
  | .lst [.lst x, .lst y, .lst z, .lst w] => chkI c0 x && (chkI c1 y && (chkI c2 z && chkI c3 w))
  | _ => false
theorem chkC_eq {d : D} (h : chkC d = true) : d = cts := by
  unfold chkC at h
  split at h
  · simp only [Bool.and_eq_true] at h
    rw [chkI_eq h.1, chkI_eq h.2.1, chkI_eq h.2.2.1, chkI_eq h.2.2.2]; rfl
  · exact nomatch h
def chkT : D → Bool
  | .tup x => chkI [2, 2, 2] x
  | _ => false
theorem chkT_eq {d : D} (h : chkT d = true) : d = t222 := by
  unfold chkT at h
  split at h
  · rw [chkI_eq h]; rfl
  · exact nomatch h
abbrev o4 : List (Option D) := [none, none, none, none]
def g2 (x y : D) (k : Nat) : Out := .ret (.own (.lst [.tup [.tup [x, y, .int k], .int 0]])) o4
def g1 (x : D) (k : Nat) : Out := .ret (.own (.lst ((List.range (k + 1)).map fun (b : Nat) => D.tup [D.tup [x, .int (Int.ofNat b)], .int (2 * (Int.ofNat (Nat.sub k b)))]))) o4
def g0 (k : Nat) : Out := .ret (.own (.lst ((List.range (k + 1)).map fun (a : Nat) => D.tup [D.tup [.int (Int.ofNat a)], .int (2 * (Int.ofNat (Nat.sub k a)))]))) o4
def goK (l : Int) : Bool := decide (l = 2 * ((l.toNat / 2 : Nat) : Int)) && decide (l.toNat / 2 < 27)
def LW (as : List Ar) : Out := match as with
  | [.dat lt, .dat ct, .dat (.tup [x, y]), .dat (.int l)] => if (chkT lt && (chkC ct && goK l)) = true then g2 x y (l.toNat / 2) else .bad
  | [.dat lt, .dat ct, .dat (.tup [x]), .dat (.int l)] => if (chkT lt && (chkC ct && goK l)) = true then g1 x (l.toNat / 2) else .bad
  | [.dat lt, .dat ct, .dat (.tup []), .dat (.int 52)] => if (chkT lt && chkC ct) = true then g0 26 else .bad
  | _ => .bad
def AllK (p : Nat → Prop) : Nat → Prop
  | 0 => True
  | n + 1 => AllK p n ∧ p n
theorem AllK.get {p : Nat → Prop} : ∀ {n : Nat}, AllK p n → ∀ k < n, p k
  | n + 1, h, k, e => by
    rcases Nat.lt_or_eq_of_le (Nat.le_of_lt_succ e) with z | z
    · exact AllK.get h.1 k z
    · rw [z]; exact h.2
theorem f2 : AllK (fun k => ∀ x y, P.cal 1 11 [.dat t222, .dat cts, .dat (.tup [x, y]), .dat (.int (2 * (k : Int)))] = g2 x y k) 27 := by
  repeat' (first | exact trivial | refine ⟨?_, fun x y => by kernel_rfl⟩)
theorem f1 : AllK (fun k => ∀ x, P.cal 1 11 [.dat t222, .dat cts, .dat (.tup [x]), .dat (.int (2 * (k : Int)))] = g1 x k) 27 := by
  repeat' (first | exact trivial | refine ⟨?_, fun x => by kernel_rfl⟩)
theorem f0 : P.cal 1 11 [.dat t222, .dat cts, .dat (.tup []), .dat (.int 52)] = g0 26 := by kernel_rfl
theorem goK_1 {l : Int} (h : goK l = true) : l = 2 * ((l.toNat / 2 : Nat) : Int) ∧ l.toNat / 2 < 27 := by
  unfold goK at h
  rw [Bool.and_eq_true] at h
  exact ⟨of_decide_eq_true h.1, of_decide_eq_true h.2⟩
theorem LW_ok (as : List Ar) : LW as = .bad ∨ P.cal 1 11 as = LW as := by
  unfold LW
  split
  · rename_i lt ct x y l
    split
    · rename_i h
      rw [Bool.and_eq_true, Bool.and_eq_true] at h
      rw [chkT_eq h.1, chkC_eq h.2.1]
      obtain ⟨e, hk⟩ := goK_1 h.2.2
      obtain ⟨k, ek⟩ : ∃ k, k = l.toNat / 2 := ⟨_, rfl⟩
      rw [← ek] at e hk ⊢
      rw [e]
      exact .inr (f2.get k hk x y)
    · exact .inl rfl
  · rename_i lt ct x l
    split
    · rename_i h
      rw [Bool.and_eq_true, Bool.and_eq_true] at h
      rw [chkT_eq h.1, chkC_eq h.2.1]
      obtain ⟨e, hk⟩ := goK_1 h.2.2
      obtain ⟨k, ek⟩ : ∃ k, k = l.toNat / 2 := ⟨_, rfl⟩
      rw [← ek] at e hk ⊢
      rw [e]
      exact .inr (f1.get k hk x)
    · exact .inl rfl
  · rename_i lt ct
    split
    · rename_i h
      rw [Bool.and_eq_true] at h
      rw [chkT_eq h.1, chkC_eq h.2]
      exact .inr f0
    · exact .inl rfl
  · exact .inl rfl
def acW (k : Nat) : Option (Nat × (List Ar → Out)) := match Nat.beq k 11 with
  | true => some (1, LW)
  | false => none
theorem acW_ok : ∀ k m g, acW k = some (m, g) → ∀ l, m ≤ l → ∀ as, g as = .bad ∨ P.cal l k as = g as := fun k m g h l hl as => by
  unfold acW at h
  split at h
  · rename_i e
    have := Nat.eq_of_beq_eq_true e; subst this
    injection h with h; injection h with h1 h2; subst h1; subst h2
    rcases LW_ok as with z | z
    · exact .inl z
    · by_cases hb : LW as = .bad
      · exact .inl hb
      · exact .inr (cal_up (o := LW as) hb hl z)
  · exact nomatch h
def lenT (o : Out) : Nat := match o with
  | .ret (.dat (.tup x)) _ => x.length
  | _ => 0
theorem len0 : lenT (calA P acW 6 21 [.dat t222, .dat (.int 52)]) = 378 := by kernel_rfl
theorem len_of {o : Out} (h : lenT o = 378) : ∃ ws out, o = .ret (.dat (.tup ws)) out ∧ ws.length = 378 := by
  unfold lenT at h
  split at h
  · exact ⟨_, _, rfl, h⟩
  · exact nomatch h
theorem words378 : ∃ ws out, P.cal 6 21 [.dat t222, .dat (.int 52)] = .ret (.dat (.tup ws)) out ∧ ws.length = 378 := by
  obtain ⟨ws, out, e, h⟩ := len_of len0
  rcases calA_ok acW_ok 6 21 [.dat t222, .dat (.int 52)] with z | z
  · rw [e] at z; exact nomatch z
  · exact ⟨ws, out, by rw [z, e], h⟩
end Pv.K05
end Pg05_
section Ph05_
set_option maxRecDepth 1000000
/-! Ph05: the law. -/
namespace Pv.K05
open Pv PySem Pv.Sx
abbrev lE (ns : List Int) (s1 s2 : Sl) : En := [.dat (.scr ns), s1, s2]
def inB : Pv.S := (.cond (.or (.not (.val (.call 30 [(.var 2)]))) (.not (.val (.call 31 [(.var 2)])))) [(.ret (.lit (.bl false)))] [])
def lwB : List Pv.S := [(.asg (.nm 2) (.call 27 [(.var 0), (.var 1)])), inB]
def lS : Pv.S := f_law.body.getD 1 .pass
theorem lB_all : f_law.body = [.loop (.nm 1) (.rng1 (.blt .max2 [(.lit (.int 1)), (.blt .min2 [(.lit (.int (4 : Nat))), (.blt .len [(.var 0)])])])) lwB, lS] := rfl
theorem hD : P.fns[27]? = some ⟨2, 4, [], diceB⟩ := rfl
theorem r30 (c : Nat → List Ar → Out) : (P.pr c).ref 30 = [0] := rfl
theorem r31 (c : Nat → List Ar → Out) : (P.pr c).ref 31 = [0] := rfl
theorem r27 (c : Nat → List Ar → Out) : (P.pr c).ref 27 = [] := rfl
theorem r21 (c : Nat → List Ar → Out) : (P.pr c).ref 21 = [] := rfl
theorem cell {ns : List Int} {k : Nat} (hk : k ≤ 60) {s2 : Sl} (h2 : freeS s2 = true) : ∃ d', exsL (Pv.ex (P.pr (P.cal 6)) 59) lwB (lE ns (.dat (.int k)) s2) = .nx (lE ns (.dat (.int k)) (.own false false d')) := by
  obtain ⟨d, e0, g⟩ := cal_dice hD 5 ns k (by omega)
  obtain ⟨d1, g1, e1⟩ := words_right g (by omega)
  obtain ⟨d2, g2, e2⟩ := others_right g1 (by omega)
  refine ⟨d2, ?_⟩
  have a0 : Pv.ex (P.pr (P.cal 6)) 59 (.asg (.nm 2) (.call 27 [(.var 0), (.var 1)])) (lE ns (.dat (.int k)) s2) = .nx (lE ns (.dat (.int k)) (.own false false d)) := by
    obtain ⟨c, hcal⟩ : ∃ c, c = P.cal 6 := ⟨_, rfl⟩
    rw [← hcal] at e0 ⊢
    have hp : ∀ (ρ : En) (j : Nat), putR [R.dat (D.scr ns), R.dat (D.int (k : Nat))] [none, none] j ρ = ρ := putR_dat rfl
    unfold lE
    simp -implicitDefEqProofs only [exsL, osl, Pv.ex, ev, evs, evT, evI, evW, evO, two, peek, hold, disp, O.bind, O.fl, O.of, F.then, F.of, pk, pks, frz, frzs, getS, rdS, lend, items, setGR, setG, setNms, settle, setRs, setIx, store_dat, store_own, putAt_z, putAt_s, free_emp, free_dat, free_own, outR, callO_P, args1, args2, arOf, ptrs, noDup, c00, c01, contains_nil, putR_nil, putR_dat', putR_emp', putR_own', lookOut, beq_self_eq_true, unlend, unlS, List.getD_cons_zero, List.getD_cons_succ, List.set_cons_zero, List.set_cons_succ, List.length_nil, List.length_cons, Option.map, Option.bind, Option.getD, if_true, Bool.not_true, Bool.not_false, Bool.false_eq_true, if_false, blt_len1, blt_len2, blt_len3, blt_tup1, blt_tup2, blt_list1, blt_list2, isi_ii, isi_ib, isi_tt, cmp_lt, cmp_le, cmp_gt, cmp_ge, cmp_eqi, cmp_nei, tru_bl, idx_l, idx_t, add_int, sub_int, Bool.and_self, Bool.and_true, Bool.true_and, Bool.and_false, Bool.false_and, fits_0, fits_1, fits_2, fits_3, fits_4, fits_5, fits_6, fits_7, fits_8, fits_9, fits_10, fits_11, fits_12, fits_13, fits_14, fits_15, fits_16, fits_17, fits_18, fits_19, fits_20, fits_21, fits_22, fits_23, fits_24, Nat.reduceAdd, Nat.reduceBEq, putR0, putR0', r27, e0, h2, hp]
  have a1 : Pv.ex (P.pr (P.cal 6)) 59 inB (lE ns (.dat (.int k)) (.own false false d)) = .nx (lE ns (.dat (.int k)) (.own false false d2)) := by
    obtain ⟨c, hcal⟩ : ∃ c, c = P.cal 6 := ⟨_, rfl⟩
    rw [← hcal] at e1 e2 ⊢
    unfold inB lE
    simp -implicitDefEqProofs only [exsL, osl, Pv.ex, ev, evs, evT, evI, evW, evO, two, peek, hold, disp, O.bind, O.fl, O.of, F.then, F.of, pk, pks, frz, frzs, getS, rdS, lend, items, setGR, setG, setNms, settle, setRs, setIx, store_dat, store_own, putAt_z, putAt_s, free_emp, free_dat, free_own, outR, callO_P, args1, args2, arOf, ptrs, noDup, c00, c01, contains_nil, putR_nil, putR_dat', putR_emp', putR_own', lookOut, beq_self_eq_true, unlend, unlS, List.getD_cons_zero, List.getD_cons_succ, List.set_cons_zero, List.set_cons_succ, List.length_nil, List.length_cons, Option.map, Option.bind, Option.getD, if_true, Bool.not_true, Bool.not_false, Bool.false_eq_true, if_false, blt_len1, blt_len2, blt_len3, blt_tup1, blt_tup2, blt_list1, blt_list2, isi_ii, isi_ib, isi_tt, cmp_lt, cmp_le, cmp_gt, cmp_ge, cmp_eqi, cmp_nei, tru_bl, idx_l, idx_t, add_int, sub_int, Bool.and_self, Bool.and_true, Bool.true_and, Bool.and_false, Bool.false_and, fits_0, fits_1, fits_2, fits_3, fits_4, fits_5, fits_6, fits_7, fits_8, fits_9, fits_10, fits_11, fits_12, fits_13, fits_14, fits_15, fits_16, fits_17, fits_18, fits_19, fits_20, fits_21, fits_22, fits_23, fits_24, Nat.reduceAdd, Nat.reduceBEq, putR0, putR0', r30, r31, e1, e2]
  exact (ex_nx a0).trans ((ex_nx a1).trans rfl)
theorem w_l (ns : List Int) : ∃ (k : Int) (d : D), Pv.ex (P.pr (P.cal 6)) 60 (.loop (.nm 1) (.rng1 (.blt .max2 [(.lit (.int 1)), (.blt .min2 [(.lit (.int (4 : Nat))), (.blt .len [(.var 0)])])])) lwB) (lE ns .emp .emp) = .nx (lE ns (.dat (.int k)) (.own false false d)) := by
  obtain ⟨ρ', h1, k, d, rfl⟩ := ex_cells (p := P.pr (P.cal 6)) (ns := ns) (b := 4) (ρ0 := lE ns .emp .emp) (g := .nm 1) (body := lwB) (I := fun ρ => ∃ s1 s2, freeS s1 = true ∧ freeS s2 = true ∧ ρ = lE ns s1 s2) (Q := fun ρ => ∃ (k : Int) (d : D), ρ = lE ns (.dat (.int k)) (.own false false d)) (by omega) (by omega) rfl (fun ρ ⟨k, d, h⟩ => ⟨_, _, rfl, rfl, h⟩)
    (fun k hk ρ ⟨s1, s2, h1, h2, h⟩ => by
      subst h
      obtain ⟨d, e⟩ := cell (ns := ns) hk h2
      refine ⟨lE ns (.dat (.int k)) s2, _, ?_, e, k, d, rfl⟩
      unfold lE
      simp -implicitDefEqProofs only [exsL, osl, Pv.ex, ev, evs, evT, evI, evW, evO, two, peek, hold, disp, O.bind, O.fl, O.of, F.then, F.of, pk, pks, frz, frzs, getS, rdS, lend, items, setGR, setG, setNms, settle, setRs, setIx, store_dat, store_own, putAt_z, putAt_s, free_emp, free_dat, free_own, outR, callO_P, args1, args2, arOf, ptrs, noDup, c00, c01, contains_nil, putR_nil, putR_dat', putR_emp', putR_own', lookOut, beq_self_eq_true, unlend, unlS, List.getD_cons_zero, List.getD_cons_succ, List.set_cons_zero, List.set_cons_succ, List.length_nil, List.length_cons, Option.map, Option.bind, Option.getD, if_true, Bool.not_true, Bool.not_false, Bool.false_eq_true, if_false, blt_len1, blt_len2, blt_len3, blt_tup1, blt_tup2, blt_list1, blt_list2, isi_ii, isi_ib, isi_tt, cmp_lt, cmp_le, cmp_gt, cmp_ge, cmp_eqi, cmp_nei, tru_bl, idx_l, idx_t, add_int, sub_int, Bool.and_self, Bool.and_true, Bool.true_and, Bool.and_false, Bool.false_and, fits_0, fits_1, fits_2, fits_3, fits_4, fits_5, fits_6, fits_7, fits_8, fits_9, fits_10, fits_11, fits_12, fits_13, fits_14, fits_15, fits_16, fits_17, fits_18, fits_19, fits_20, fits_21, fits_22, fits_23, fits_24, Nat.reduceAdd, Nat.reduceBEq, putR0, putR0', h1]) ⟨_, _, rfl, rfl, rfl⟩
  exact ⟨k, d, h1⟩
theorem eq_4 : cmpD .Eq (.lst [.int 24, .int 40, .int 80, .int 400]) (.lst [.int 24, .int 40, .int 80, .int 400]) = some true := by kernel_rfl
theorem w_s (ns : List Int) (k d : D) : Pv.ex (P.pr (P.cal 6)) 60 lS (lE ns (.dat k) (.own false false d)) = .rt (.dat (.bl true)) (lE ns (.dat k) (.own false false d)) := by
  obtain ⟨ws, out, e, h⟩ := words378
  have hl : bltD .len [.tup ws] = some (.dat (.int 378)) := by
    show some (R.dat (.int (ws.length : Nat))) = _
    rw [h]; rfl
  have ho : ∀ ρ j, putR [R.dat t222, R.dat (.int 52)] out j ρ = ρ := putR_dat rfl
  have a : ev (P.pr (P.cal 6)) 56 (.call 21 [(.tup [(.lit (.int 2)), (.lit (.int 2)), (.lit (.int 2))]), (.lit (.int 52))]) (lE ns (.dat k) (.own false false d)) = .ok (.dat (.tup ws)) (lE ns (.dat k) (.own false false d)) := cl_r (n := 55) [t222, .int 52] e rfl rfl
  have q := eq_4
  have q2 : cmpD .Eq (.int 378) (.int 378) = some true := by kernel_rfl
  show Pv.ex _ 60 (.ret (.andv (.cmp .Eq (.lst [(.lit (.int 24)), (.lit (.int 40)), (.lit (.int 80)), (.lit (.int 400))]) (.lst [(.lit (.int 24)), (.lit (.int 40)), (.lit (.int 80)), (.lit (.int 400))])) (.cmp .Eq (.blt .len [(.call 21 [(.tup [(.lit (.int 2)), (.lit (.int 2)), (.lit (.int 2))]), (.lit (.int 52))])]) (.lit (.int 378))))) _ = _
  obtain ⟨c, hcal⟩ : ∃ c, c = P.cal 6 := ⟨_, rfl⟩
  rw [← hcal] at a ⊢
  unfold lE at a ⊢
  simp -implicitDefEqProofs only [exsL, osl, Pv.ex, ev, evs, evT, evI, evW, evO, two, peek, hold, disp, O.bind, O.fl, O.of, F.then, F.of, pk, pks, frz, frzs, getS, rdS, lend, items, setGR, setG, setNms, settle, setRs, setIx, store_dat, store_own, putAt_z, putAt_s, free_emp, free_dat, free_own, outR, callO_P, args1, args2, arOf, ptrs, noDup, c00, c01, contains_nil, putR_nil, putR_dat', putR_emp', putR_own', lookOut, beq_self_eq_true, unlend, unlS, List.getD_cons_zero, List.getD_cons_succ, List.set_cons_zero, List.set_cons_succ, List.length_nil, List.length_cons, Option.map, Option.bind, Option.getD, if_true, Bool.not_true, Bool.not_false, Bool.false_eq_true, if_false, blt_len1, blt_len2, blt_len3, blt_tup1, blt_tup2, blt_list1, blt_list2, isi_ii, isi_ib, isi_tt, cmp_lt, cmp_le, cmp_gt, cmp_ge, cmp_eqi, cmp_nei, tru_bl, idx_l, idx_t, add_int, sub_int, Bool.and_self, Bool.and_true, Bool.true_and, Bool.and_false, Bool.false_and, fits_0, fits_1, fits_2, fits_3, fits_4, fits_5, fits_6, fits_7, fits_8, fits_9, fits_10, fits_11, fits_12, fits_13, fits_14, fits_15, fits_16, fits_17, fits_18, fits_19, fits_20, fits_21, fits_22, fits_23, fits_24, Nat.reduceAdd, Nat.reduceBEq, putR0, putR0', ↓a, hl, q, q2]
theorem law_ok (ns : List Int) : ∃ out, P.cal 7 32 [.dat (.scr ns)] = .ret (.dat (.bl true)) out := by
  obtain ⟨k, d, e0⟩ := w_l ns
  have hb : exsL (Pv.ex (P.pr (P.cal 6)) 60) f_law.body (lE ns .emp .emp) = .rt (.dat (.bl true)) (lE ns (.dat (.int k)) (.own false false d)) := by
    rw [lB_all]
    exact (ex_nx e0).trans (ex_rt (w_s ns (.int k) d))
  exact ⟨_, cal_rt (P := P) (l := 6) (k := 32) (f := f_law) (as := [.dat (.scr ns)]) rfl rfl hb⟩
end Pv.K05
end Ph05_
section PvB_
set_option maxRecDepth 100000
/-! PvB: data in the abstract heap; the relation between slots and the machine's state; its steps. -/
namespace Pv
open PySem PySem.Spec PyProof.Rows L2
/-- of a frame: its cells, the name of its lambdas, which body stands for which lambda of it -/
structure Frm where
  cells : List (Str × Addr)
  qual : Str
  sb : Scope → Expr → C → Prop
def frm0 : Frm := ⟨[], Str.empty, fun _ _ _ => False⟩
/-- what is fixed of a law: the program, its facts, where its defs and exception classes stand, the tables of code objects -/
structure Wd where
  prog : Program
  w : World
  K : PySem.W.Frag
  mg : Str → Option Value
  base : Heap
  fnA : Nat → Option Addr
  clA : Nat → Option Addr
  fld : Nat → Str
  T : List (Addr × Str)
  /-- the frame that runs -/
  cl : Frm
/-- .. in another frame -/
abbrev Wd.at (W : Wd) (c : Frm) : Wd := { W with cl := c }
/-- .. over another base -/
abbrev Wd.up (W : Wd) (G : Heap) (c : Frm) : Wd := { W with base := G, cl := c }
section
variable (W : Wd) (F : Hp)
mutual
def Rep (v : V) : D → Prop
  | .non => v = .non
  | .bl b => v = .bl b
  | .int i => v = .int i
  | .str x => v = .str x
  | .tup xs => ∃ a vs, v = .ref a ∧ SqT W.K F a vs ∧ Reps vs xs
  | .lst xs => ∃ a vs, v = .ref a ∧ F a = some (.lst vs) ∧ Reps vs xs
  | .scr ns => ∃ a, v = .ref a ∧ SqL W.K F a (ns.map V.int)
  | .fn k => ∃ a, v = .ref a ∧ W.fnA k = some a
  | .dct ks vs => ks = [] ∧ vs = [] ∧ ∃ a, v = .ref a ∧ F a = some (.dK [])
  | .obj _ _ => False
def Reps (vs : List V) : List D → Prop
  | [] => vs = []
  | x :: xs => ∃ u us, vs = u :: us ∧ Rep u x ∧ Reps us xs
end
/-- a thing that is nobody's data yet -/
def Top (o : HO) : D → Prop
  | .lst xs => ∃ vs, o = .lst vs ∧ Reps W F vs xs
  | .dct ks vs => ks = [] ∧ vs = [] ∧ o = .dK []
  | _ => False
end
section
variable (W : Wd) (G : Heap) (c : Frm) (F : Hp)
mutual
theorem rep_up : ∀ (d : D) (v : V), Rep (W.up G c) F v d = Rep W F v d
  | .non, v => by unfold Rep; rfl
  | .bl b, v => by unfold Rep; rfl
  | .int b, v => by unfold Rep; rfl
  | .str b, v => by unfold Rep; rfl
  | .tup xs, v => by
    unfold Rep
    have := reps_up xs
    simp only [this]
  | .lst xs, v => by
    unfold Rep
    have := reps_up xs
    simp only [this]
  | .scr ns, v => by unfold Rep; rfl
  | .fn k, v => by unfold Rep; rfl
  | .dct ks vs, v => by unfold Rep; rfl
  | .obj _ _, v => by unfold Rep; rfl
theorem reps_up : ∀ (ds : List D) (vs : List V), Reps (W.up G c) F vs ds = Reps W F vs ds
  | [], vs => by unfold Reps; rfl
  | x :: xs, vs => by
    unfold Reps
    have h1 := rep_up x
    have h2 := reps_up xs
    simp only [h1, h2]
end
theorem top_up (d : D) (o : HO) : Top (W.up G c) F o d = Top W F o d := by
  cases d with
  | lst xs => unfold Top; simp only [reps_up]
  | _ => unfold Top; rfl
theorem rep_at (d : D) (v : V) : Rep (W.at c) F v d = Rep W F v d := rep_up W W.base c F d v
theorem reps_at (ds : List D) (vs : List V) : Reps (W.at c) F vs ds = Reps W F vs ds := reps_up W W.base c F ds vs
theorem top_at (d : D) (o : HO) : Top (W.at c) F o d = Top W F o d := top_up W W.base c F d o
end
def Sub (F F' : Hp) : Prop := ∀ a o, F a = some o → F' a = some o
theorem Sub.rfl {F : Hp} : Sub F F := fun _ _ h => h
theorem Sub.trans {F F1 F2 : Hp} (a : Sub F F1) (b : Sub F1 F2) : Sub F F2 := fun x o h => b x o (a x o h)
theorem Sub.upd {F : Hp} {p : Addr} {o : HO} (h : F p = none) : Sub F (L2.upd F p o) := fun a u e => by
  rcases Nat.decEq a p with n | rfl
  · rw [upd_ne n]; exact e
  · rw [h] at e; exact nomatch e
theorem sqT_sub {K : PySem.W.Frag} {F F' : Hp} {a : Addr} {vs : List V} (s : Sub F F') (h : SqT K F a vs) : SqT K F' a vs := by
  rcases h with (h | ⟨o, h⟩) | h
  · exact .inl (.inl (s _ _ h))
  · exact .inl (.inr ⟨o, s _ _ h⟩)
  · exact .inr h
theorem sqL_sub {K : PySem.W.Frag} {F F' : Hp} {a : Addr} {vs : List V} (s : Sub F F') (h : SqL K F a vs) : SqL K F' a vs := by
  rcases h with (h | ⟨o, h⟩) | h
  · exact .inl (.inl (s _ _ h))
  · exact .inl (.inr ⟨o, s _ _ h⟩)
  · exact .inr h
section
variable {W : Wd} {F F' : Hp}
mutual
theorem Rep.mono (s : Sub F F') : ∀ {v : V} (d : D), Rep W F v d → Rep W F' v d
  | _, .non, h => h
  | _, .bl _, h => h
  | _, .int _, h => h
  | _, .str _, h => h
  | _, .tup xs, h => by
    unfold Rep at h ⊢
    obtain ⟨a, vs, e, q, r⟩ := h
    exact ⟨a, vs, e, sqT_sub s q, Reps.mono s xs r⟩
  | _, .lst xs, h => by
    unfold Rep at h ⊢
    obtain ⟨a, vs, e, q, r⟩ := h
    exact ⟨a, vs, e, s _ _ q, Reps.mono s xs r⟩
  | _, .scr ns, h => by
    unfold Rep at h ⊢
    obtain ⟨a, e, q⟩ := h
    exact ⟨a, e, sqL_sub s q⟩
  | _, .fn _, h => by unfold Rep at h ⊢; exact h
  | _, .dct _ _, h => by
    unfold Rep at h ⊢
    obtain ⟨a, b, p, e, q⟩ := h
    exact ⟨a, b, p, e, s _ _ q⟩
  | _, .obj _ _, h => by unfold Rep at h; exact h.elim
theorem Reps.mono (s : Sub F F') : ∀ {vs : List V} (ds : List D), Reps W F vs ds → Reps W F' vs ds
  | _, [], h => by unfold Reps at h ⊢; exact h
  | _, x :: xs, h => by
    unfold Reps at h ⊢
    obtain ⟨u, us, e, r, rs⟩ := h
    exact ⟨u, us, e, Rep.mono s x r, Reps.mono s xs rs⟩
end
theorem Top.mono (s : Sub F F') {o : HO} {d : D} (h : Top W F o d) : Top W F' o d := by
  cases d with
  | lst xs => obtain ⟨vs, e, r⟩ := h; exact ⟨vs, e, r.mono s _⟩
  | dct ks vs => exact h
  | _ => exact h.elim
/-- a thing of one's own becomes data -/
theorem Top.rep {a : Addr} {o : HO} {d : D} (h : Top W F o d) (e : F a = some o) : Rep W F (.ref a) d := by
  cases d with
  | lst xs => obtain ⟨vs, e', r⟩ := h; subst e'; unfold Rep; exact ⟨a, vs, _root_.rfl, e, r⟩
  | dct ks vs => obtain ⟨h1, h2, h3⟩ := h; subst h3; unfold Rep; exact ⟨h1, h2, a, _root_.rfl, e⟩
  | _ => exact h.elim
/-- no table -/
def Nt (o : HO) : Prop := (∀ ps, o ≠ .tbl ps) ∧ ∀ φ, o = .ext φ → True
/-- neither a table nor a code object -/
def Nt0 (o : HO) : Prop := (∀ ps, o ≠ .tbl ps) ∧ ∀ φ, o ≠ .ext φ
theorem Top.nt0 {o : HO} {d : D} (h : Top W F o d) : Nt0 o := by
  cases d with
  | lst xs => obtain ⟨vs, e, r⟩ := h; subst e; exact ⟨fun _ z => (nomatch z), fun _ z => (nomatch z)⟩
  | dct ks vs => obtain ⟨h1, h2, h3⟩ := h; subst h3; exact ⟨fun _ z => (nomatch z), fun _ z => (nomatch z)⟩
  | _ => exact h.elim
theorem Top.nt {o : HO} {d : D} (h : Top W F o d) : Nt o := by
  cases d with
  | lst xs => obtain ⟨vs, e, r⟩ := h; subst e; exact ⟨fun _ z => (nomatch z), fun _ z => (nomatch z)⟩
  | dct ks vs => obtain ⟨h1, h2, h3⟩ := h; subst h3; exact ⟨fun _ z => (nomatch z), fun _ z => (nomatch z)⟩
  | _ => exact h.elim
theorem Nt.ext {o : HO} (h : ∃ φ, o = .ext φ) : Nt o := by
  obtain ⟨φ, rfl⟩ := h
  exact ⟨fun _ z => (nomatch z), fun _ _ => trivial⟩
/-- neither a thing of one's own nor a list nor a tuple -/
theorem Nt0.ext {o : HO} (n : Nt0 o) (h : ∃ φ, o = .ext φ) : False := by
  obtain ⟨φ, e⟩ := h
  exact n.2 φ e
theorem Reps.nil : Reps W F [] [] := by unfold Reps; rfl
theorem Reps.cons {v : V} {d : D} {vs : List V} {ds : List D} (h : Rep W F v d) (r : Reps W F vs ds) : Reps W F (v :: vs) (d :: ds) := by
  unfold Reps; exact ⟨v, vs, _root_.rfl, h, r⟩
theorem Reps.uncons {v : V} {d : D} {vs : List V} {ds : List D} (r : Reps W F (v :: vs) (d :: ds)) : Rep W F v d ∧ Reps W F vs ds := by
  unfold Reps at r
  obtain ⟨u, us, e, h, r⟩ := r
  injection e with e1 e2; subst e1; subst e2; exact ⟨h, r⟩
theorem Reps.nil_inv {vs : List V} (r : Reps W F vs []) : vs = [] := by unfold Reps at r; exact r
theorem Reps.cons_inv {d : D} {vs : List V} {ds : List D} (r : Reps W F vs (d :: ds)) : ∃ u us, vs = u :: us ∧ Rep W F u d ∧ Reps W F us ds := by unfold Reps at r; exact r
/-- the same, by pairs -/
theorem Reps.ind {P : List V → List D → Prop} (h0 : P [] []) (h1 : ∀ u us d ds, Rep W F u d → Reps W F us ds → P us ds → P (u :: us) (d :: ds)) : ∀ (ds : List D) (vs : List V), Reps W F vs ds → P vs ds
  | [], vs, r => by rw [r.nil_inv]; exact h0
  | d :: ds, vs, r => by
    obtain ⟨u, us, e, hu, hr⟩ := r.cons_inv
    rw [e]
    exact h1 u us d ds hu hr (Reps.ind h0 h1 ds us hr)
theorem Reps.length {vs : List V} {ds : List D} (r : Reps W F vs ds) : vs.length = ds.length :=
  Reps.ind (P := fun vs ds => vs.length = ds.length) _root_.rfl (fun u us d ds _ _ ih => by simp [ih]) ds vs r
theorem Reps.append {vs us : List V} {ds es : List D} (r : Reps W F vs ds) (q : Reps W F us es) : Reps W F (vs ++ us) (ds ++ es) :=
  Reps.ind (P := fun vs ds => Reps W F (vs ++ us) (ds ++ es)) q (fun u us d ds hu _ ih => ih.cons hu) ds vs r
theorem Reps.get {vs : List V} {ds : List D} {i : Nat} {d : D} (r : Reps W F vs ds) : ds[i]? = some d → ∃ v, vs[i]? = some v ∧ Rep W F v d :=
  Reps.ind (P := fun vs ds => ∀ i, ds[i]? = some d → ∃ v, vs[i]? = some v ∧ Rep W F v d) (fun i e => by simp at e) (fun u us x ds hu _ ih i e => by
    cases i with
    | zero => simp at e; subst e; exact ⟨u, by simp, hu⟩
    | succ i =>
      obtain ⟨v, ev, rv⟩ := ih i (by rw [List.getElem?_cons_succ] at e; exact e)
      exact ⟨v, by rw [List.getElem?_cons_succ]; exact ev, rv⟩) ds vs r i
theorem Reps.get' {vs : List V} {ds : List D} {i : Nat} {v : V} (r : Reps W F vs ds) (e : vs[i]? = some v) : ∃ d, ds[i]? = some d ∧ Rep W F v d := by
  have hl := r.length
  have : i < vs.length := by
    rcases Nat.lt_or_ge i vs.length with h | h
    · exact h
    · rw [List.getElem?_eq_none h] at e; exact nomatch e
  have h2 : i < ds.length := hl ▸ this
  obtain ⟨u, eu, ru⟩ := r.get (i := i) (d := ds[i]) (List.getElem?_eq_getElem h2)
  rw [e] at eu; injection eu with eu; subst eu
  exact ⟨_, List.getElem?_eq_getElem h2, ru⟩
theorem Reps.set {v : V} {d : D} (h : Rep W F v d) {vs : List V} {ds : List D} (i : Nat) (r : Reps W F vs ds) : Reps W F (vs.set i v) (ds.set i d) :=
  Reps.ind (P := fun vs ds => ∀ i, Reps W F (vs.set i v) (ds.set i d)) (fun i => by rw [List.set_nil, List.set_nil]; exact Reps.nil) (fun u us x ds hu hr ih i => by
    cases i with
    | zero => rw [List.set_cons_zero, List.set_cons_zero]; exact hr.cons h
    | succ i => rw [List.set_cons_succ, List.set_cons_succ]; exact (ih i).cons hu) ds vs r i
theorem Reps.take {vs : List V} {ds : List D} (n : Nat) (r : Reps W F vs ds) : Reps W F (vs.take n) (ds.take n) :=
  Reps.ind (P := fun vs ds => ∀ n : Nat, Reps W F (vs.take n) (ds.take n)) (fun n => by rw [List.take_nil, List.take_nil]; exact Reps.nil) (fun u us x ds hu hr ih n => by
    cases n with
    | zero => rw [List.take_zero, List.take_zero]; exact Reps.nil
    | succ n => rw [List.take_succ_cons, List.take_succ_cons]; exact (ih n).cons hu) ds vs r n
theorem Reps.drop {vs : List V} {ds : List D} (n : Nat) (r : Reps W F vs ds) : Reps W F (vs.drop n) (ds.drop n) :=
  Reps.ind (P := fun vs ds => ∀ n : Nat, Reps W F (vs.drop n) (ds.drop n)) (fun n => by rw [List.drop_nil, List.drop_nil]; exact Reps.nil) (fun u us x ds hu hr ih n => by
    cases n with
    | zero => rw [List.drop_zero, List.drop_zero]; exact hr.cons hu
    | succ n => rw [List.drop_succ_cons, List.drop_succ_cons]; exact ih n) ds vs r n
theorem Reps.reverse {vs : List V} {ds : List D} (r : Reps W F vs ds) : Reps W F vs.reverse ds.reverse :=
  Reps.ind (P := fun vs ds => Reps W F vs.reverse ds.reverse) Reps.nil (fun u us x ds hu hr ih => by
    rw [List.reverse_cons, List.reverse_cons]
    exact ih.append (Reps.nil.cons hu)) ds vs r
theorem Reps.repl {vs : List V} {ds : List D} (r : Reps W F vs ds) : ∀ n : Nat, Reps W F (List.replicate n vs).flatten (List.replicate n ds).flatten
  | 0 => Reps.nil
  | n + 1 => by
    rw [List.replicate_succ, List.replicate_succ, List.flatten_cons, List.flatten_cons]
    exact r.append (r.repl n)
end
/-! ### the relation -/
/-- a frame's ground: the data and the heap at its entry, the things it may change, the slots that stand as they are -/
structure Gm where
  F0 : Hp
  H0 : Hp
  re : List Addr
  fx : List (Nat × Addr × Option D)
/-- a lambda of the frame: its function object -/
def CloO (fr : Frm) (scope : Scope) (body : Expr) (f c' : Addr) : HO := .ext fun h => ∃ pm ctv : Value, h.get? f = some (PySem.W.kla_obj "<lambda>" fr.qual ⟨[], [], none, [], [], none, []⟩ body scope (cloFrom fr.cells scope.names []) pm c' ctv)
def CloAt (W : Wd) (H : Hp) (v : V) (cb : C) : Prop := ∃ f scope body c', v = .ref f ∧ W.cl.sb scope body cb ∧ H f = some (CloO W.cl scope body f c') ∧ H c' = some (LamX.CodeO c' W.cl.qual)
def Clos (W : Wd) (H : Hp) : List V → List C → Prop
  | [], [] => True
  | v :: vs, c :: cs => CloAt W H v c ∧ Clos W H vs cs
  | _, _ => False
theorem CloAt.mono {W : Wd} {H H' : Hp} {v : V} {c : C} (k : ∀ a o, H a = some o → (∃ φ, o = .ext φ) → H' a = some o) (h : CloAt W H v c) : CloAt W H' v c := by
  obtain ⟨f, scope, body, c', h1, h2, h3, h4⟩ := h
  exact ⟨f, scope, body, c', h1, h2, k _ _ h3 ⟨_, rfl⟩, k _ _ h4 ⟨_, rfl⟩⟩
theorem Clos.mono {W : Wd} {H H' : Hp} (k : ∀ a o, H a = some o → (∃ φ, o = .ext φ) → H' a = some o) : ∀ {vs : List V} {cs : List C}, Clos W H vs cs → Clos W H' vs cs
  | [], [], h => trivial
  | [], _ :: _, h => h.elim
  | _ :: _, [], h => h.elim
  | _ :: _, _ :: _, h => ⟨h.1.mono k, Clos.mono k h.2⟩
theorem Clos.length {W : Wd} {H : Hp} : ∀ {vs : List V} {cs : List C}, Clos W H vs cs → vs.length = cs.length
  | [], [], h => rfl
  | [], _ :: _, h => h.elim
  | _ :: _, [], h => h.elim
  | _ :: _, _ :: _, h => by rw [List.length_cons, List.length_cons, Clos.length h.2]
def SlOk (W : Wd) (Γ : Gm) (F : Hp) (σ : L2.St) (H : Hp) (i : Nat) : Sl → Prop
  | .cls cs => ∃ q vs, σ[i]? = some (some (.ref q)) ∧ F q = some (.lst vs) ∧ Clos W H vs cs
  | .emp => True
  | .dat d => ∃ v, σ[i]? = some (some v) ∧ Rep W F v d
  | .own b _ d => ∃ p o, σ[i]? = some (some (.ref p)) ∧ H p = some o ∧ Top W F o d ∧ F p = none ∧ (b = true → p ∈ Γ.re) ∧ (b = false → Γ.H0 p = none)
def FxOk (ρ : En) (σ : L2.St) (e : Nat × Addr × Option D) : Prop :=
  σ[e.1]? = some (some (.ref e.2.1)) ∧ match e.2.2 with
    | none => ∃ l d, ρ[e.1]? = some (.own true l d)
    | some d => ∃ b, ρ[e.1]? = some (.own b true d)
/-- nothing but a table -/
def Nx (H : Hp) (a : Addr) : Prop := ∀ o, H a = some o → ∃ ps, o = .tbl ps
theorem Nx.of {H : Hp} {a : Addr} (h : H a = none) : Nx H a := fun o e => by rw [h] at e; exact nomatch e
theorem Nx.no {H : Hp} {a : Addr} {o : HO} (h : Nx H a) (e : H a = some o) (n : Nt o) : False := by
  obtain ⟨ps, z⟩ := h o e
  exact n.1 ps z
structure Rel (W : Wd) (Γ : Gm) (F : Hp) (ρ : En) (σ : L2.St) (H : Hp) : Prop where
  len : ρ.length = σ.length
  f0 : Sub Γ.F0 F
  fh : ∀ a o, F a = some o → H a = some o ∧ Nt o
  fnew : ∀ a o, F a = some o → Γ.F0 a = some o ∨ Γ.H0 a = none
  kp : ∀ a o, Γ.H0 a = some o → (∀ ps, o ≠ .tbl ps) → a ∉ Γ.re → H a = some o
  dmn : ∀ a, Nx H a → Γ.H0 a = none
  tb : LamX.Tabs W.T H
  oO : ∀ a ∈ Γ.re, Γ.H0 a ≠ none
  sl : ∀ i x, ρ[i]? = some x → SlOk W Γ F σ H i x
  dis : ∀ (i j : Nat) (b l : Bool) (d : D) (b' l' : Bool) (d' : D) (p : Addr), ρ[i]? = some (.own b l d) → ρ[j]? = some (.own b' l' d') → σ[i]? = some (some (.ref p)) → σ[j]? = some (some (.ref p)) → i = j
  fx : ∀ e ∈ Γ.fx, FxOk ρ σ e
theorem Rel.dom {W : Wd} {Γ : Gm} {F : Hp} {ρ : En} {σ : L2.St} {H : Hp} (R : Rel W Γ F ρ σ H) (a : Addr) (h : H a = none) : Γ.H0 a = none := R.dmn a (Nx.of h)
def NoSlot (ρ : En) (σ : L2.St) (p : Addr) : Prop := ∀ (i : Nat) (b l : Bool) (d : D), ρ[i]? = some (.own b l d) → σ[i]? ≠ some (some (.ref p))
def RepR (W : Wd) (Γ : Gm) (F : Hp) (ρ : En) (σ : L2.St) (H : Hp) (v : V) : R → Prop
  | .dat d => Rep W F v d
  | .own d => ∃ p o, v = .ref p ∧ H p = some o ∧ Top W F o d ∧ F p = none ∧ Γ.H0 p = none ∧ NoSlot ρ σ p
  | .ptr i => σ[i]? = some (some v)
theorem getS_some {ρ : En} {i : Nat} {x : Sl} (h : getS ρ i = x) (n : x ≠ .emp) : ρ[i]? = some x := by
  unfold getS at h
  rw [List.getD_eq_getElem?_getD] at h
  cases e : ρ[i]? with
  | none => rw [e] at h; exact absurd h.symm n
  | some y => rw [e] at h; exact congrArg some h
theorem getS_of {ρ : En} {i : Nat} {x : Sl} (h : ρ[i]? = some x) : getS ρ i = x := by
  unfold getS
  rw [List.getD_eq_getElem?_getD, h]; rfl
theorem set_get {α : Type} {l : List α} {i j : Nat} {a x : α} (h : (l.set i a)[j]? = some x) : (i = j ∧ x = a ∧ i < l.length) ∨ (i ≠ j ∧ l[j]? = some x) := by
  rw [List.getElem?_set] at h
  by_cases e : i = j
  · rw [if_pos e] at h
    by_cases q : i < l.length
    · rw [if_pos q] at h; injection h with h; exact .inl ⟨e, h.symm, q⟩
    · rw [if_neg q] at h; exact nomatch h
  · rw [if_neg e] at h; exact .inr ⟨e, h⟩
theorem set_self {α : Type} {l : List α} {i : Nat} {a : α} (h : i < l.length) : (l.set i a)[i]? = some a := by
  rw [List.getElem?_set, if_pos _root_.rfl, if_pos h]
theorem set_ne {α : Type} {l : List α} {i j : Nat} {a : α} (h : i ≠ j) : (l.set i a)[j]? = l[j]? := by
  rw [List.getElem?_set, if_neg h]
theorem lt_of_get {α : Type} {l : List α} {i : Nat} {a : α} (h : l[i]? = some a) : i < l.length := by
  rcases Nat.lt_or_ge i l.length with q | q
  · exact q
  · rw [List.getElem?_eq_none q] at h; exact nomatch h
theorem Tabs.keep {T : List (Addr × Str)} {H H' : Hp} (t : LamX.Tabs T H) (e : ∀ a o, H a = some o → ¬ Nt0 o → H' a = some o) : LamX.Tabs T H' := fun p hp => by
  obtain ⟨ps, h1, h2, h3⟩ := t p hp
  refine ⟨ps, e _ _ h1 (fun n => n.1 ps _root_.rfl), h2, fun pos cv hc => ?_⟩
  obtain ⟨c, ec, hcc⟩ := h3 pos cv hc
  exact ⟨c, ec, e _ _ hcc (fun n => n.2 _ _root_.rfl)⟩
section
variable {W : Wd} {Γ : Gm} {F F' : Hp} {ρ ρ' : En} {σ σ' : L2.St} {H H' : Hp} {p : Addr} {o : HO} {d : D} {v : V} {i : Nat} {r : R}
theorem SlOk.mono (s : Sub F F') (hF : ∀ b l d p, ρ[i]? = some (.own b l d) → σ[i]? = some (some (.ref p)) → F' p = none) (hH : ∀ a o, H a = some o → Nt o → H' a = some o) {x : Sl} (ex : ρ[i]? = some x) (h : SlOk W Γ F σ H i x) : SlOk W Γ F' σ H' i x := by
  cases x with
  | emp => exact h
  | dat d => obtain ⟨v, e, r⟩ := h; exact ⟨v, e, r.mono s _⟩
  | own b l d =>
    obtain ⟨p, o, e, hp, t, n, c1, c2⟩ := h
    exact ⟨p, o, e, hH _ _ hp t.nt, t.mono s, hF b l d p ex e, c1, c2⟩
  | cls cs =>
    obtain ⟨q, vs, e, hq, k⟩ := h
    exact ⟨q, vs, e, s _ _ hq, k.mono fun a o ha hx => hH a o ha (Nt.ext hx)⟩
/-- the heap grows -/
theorem Rel.heapN (R : Rel W Γ F ρ σ H) (k : ∀ a o, H a = some o → (∀ ps, o ≠ .tbl ps) → H' a = some o) (tb : LamX.Tabs W.T H') : Rel W Γ F ρ σ H' where
  len := R.len
  f0 := R.f0
  fh := fun a o h => ⟨k a o (R.fh a o h).1 (R.fh a o h).2.1, (R.fh a o h).2⟩
  fnew := R.fnew
  kp := fun a o h n m => k a o (R.kp a o h n m) n
  dmn := fun a h => R.dmn a fun o e => by
    cases o with
    | tbl ps => exact ⟨ps, _root_.rfl⟩
    | _ => exact h _ (k a _ e fun ps z => nomatch z)
  tb := tb
  oO := R.oO
  sl := fun i x e => (R.sl i x e).mono Sub.rfl (fun b l d p eo es => by
    have z := R.sl i _ eo
    obtain ⟨q, o, e1, _, _, n, _⟩ := z
    rw [es] at e1; injection e1 with e1; injection e1 with e1; injection e1 with e1; subst e1; exact n) (fun a o h n => k a o h n.1) e
  dis := R.dis
  fx := R.fx
theorem Rel.heap (R : Rel W Γ F ρ σ H) (k : ∀ a o, H a = some o → H' a = some o) : Rel W Γ F ρ σ H' :=
  R.heapN (fun a o h _ => k a o h) (R.tb.ext k)
theorem upd_keep {H : Hp} (h : H p = none) : ∀ a u, H a = some u → upd H p o a = some u := fun a u e => by
  rw [upd_ne (fun z => by rw [z, h] at e; exact nomatch e)]; exact e
theorem Rel.new (R : Rel W Γ F ρ σ H) (h : H p = none) : Rel W Γ F ρ σ (upd H p o) := R.heap (upd_keep h)
theorem Rel.fnone (R : Rel W Γ F ρ σ H) (h : H p = none) : F p = none := by
  cases e : F p with
  | none => rfl
  | some o => rw [(R.fh _ _ e).1] at h; exact nomatch h
theorem Rel.slotOwn (R : Rel W Γ F ρ σ H) {b l : Bool} (e : ρ[i]? = some (.own b l d)) : ∃ p o, σ[i]? = some (some (.ref p)) ∧ H p = some o ∧ Top W F o d ∧ F p = none ∧ (b = true → p ∈ Γ.re) ∧ (b = false → Γ.H0 p = none) := R.sl i _ e
theorem Rel.noSlot (R : Rel W Γ F ρ σ H) (h : H p = none) : NoSlot ρ σ p := fun i b l d e z => by
  obtain ⟨q, o, e1, e2, _⟩ := R.slotOwn e
  rw [z] at e1; injection e1 with e1; injection e1 with e1; injection e1 with e1; subst e1
  rw [h] at e2; exact nomatch e2
/-- a thing that nobody else has becomes data -/
theorem Rel.frz1 (R : Rel W Γ F ρ σ H) (hF : F p = none) (hH : H p = some o) (n : Nt o) (h0 : Γ.H0 p = none) (ns : NoSlot ρ σ p) : Rel W Γ (upd F p o) ρ σ H where
  len := R.len
  f0 := R.f0.trans (Sub.upd hF)
  fh := fun a u h => by
    rcases Nat.decEq a p with m | rfl
    · rw [upd_ne m] at h; exact R.fh a u h
    · rw [upd_same] at h; injection h with h; subst h; exact ⟨hH, n⟩
  fnew := fun a u h => by
    rcases Nat.decEq a p with m | rfl
    · rw [upd_ne m] at h; exact R.fnew a u h
    · exact .inr h0
  kp := R.kp
  dmn := R.dmn
  tb := R.tb
  oO := R.oO
  sl := fun i x e => (R.sl i x e).mono (Sub.upd hF) (fun b l d q eo es => by
    have m : q ≠ p := fun z => ns i b l d eo (z ▸ es)
    rw [upd_ne m]
    obtain ⟨q', o, e1, _, _, n, _⟩ := R.slotOwn eo
    rw [es] at e1; injection e1 with e1; injection e1 with e1; injection e1 with e1; subst e1; exact n) (fun a o h n => h) e
  dis := R.dis
  fx := R.fx
/-- a slot that no frame's ground holds fast -/
theorem Rel.notFx (R : Rel W Γ F ρ σ H) (h : freeS (getS ρ i) = true) : ∀ e ∈ Γ.fx, e.1 ≠ i := fun e he z => by
  obtain ⟨_, q⟩ := R.fx e he
  subst z
  revert q
  cases e.2.2 with
  | none =>
    rintro ⟨l, d, q⟩
    rw [getS_of q] at h; exact nomatch h
  | some d =>
    rintro ⟨b, q⟩
    rw [getS_of q] at h
    cases b <;> exact nomatch h
theorem FxOk.set (h : FxOk ρ σ (e : Nat × Addr × Option D)) (n : e.1 ≠ i) {x : Sl} {y : Option V} : FxOk (ρ.set i x) (σ.set i y) e := by
  obtain ⟨a, b⟩ := h
  refine ⟨by rw [set_ne (fun z => n z.symm)]; exact a, ?_⟩
  rw [set_ne (fun z => n z.symm)]; exact b
theorem SlOk.set {x : Sl} {y : Option V} {j : Nat} (h : SlOk W Γ F σ H j x) (n : i ≠ j) : SlOk W Γ F (σ.set i y) H j x := by
  cases x with
  | emp => exact h
  | dat d => obtain ⟨v, e, r⟩ := h; exact ⟨v, by rw [set_ne n]; exact e, r⟩
  | own b l d => obtain ⟨p, o, e, r⟩ := h; exact ⟨p, o, by rw [set_ne n]; exact e, r⟩
  | cls cs => obtain ⟨q, vs, e, r⟩ := h; exact ⟨q, vs, by rw [set_ne n]; exact e, r⟩
theorem Rel.storeX {x : Sl} {y : Option V} (R : Rel W Γ F ρ σ H) (hi : i < ρ.length) (hf : freeS (getS ρ i) = true) (hs : SlOk W Γ F (σ.set i y) H i x)
    (hd : ∀ b l d p, x = .own b l d → y = some (.ref p) → NoSlot ρ σ p) : Rel W Γ F (ρ.set i x) (σ.set i y) H where
  len := by rw [List.length_set, List.length_set]; exact R.len
  f0 := R.f0
  fh := R.fh
  fnew := R.fnew
  kp := R.kp
  dmn := R.dmn
  tb := R.tb
  oO := R.oO
  sl := fun j z e => by
    rcases set_get e with ⟨rfl, rfl, _⟩ | ⟨n, e⟩
    · exact hs
    · exact (R.sl j z e).set n
  dis := fun a b b1 l1 d1 b2 l2 d2 p e1 e2 s1 s2 => by
    rcases set_get e1 with ⟨rfl, q1, _⟩ | ⟨n1, e1⟩
    · rcases set_get e2 with ⟨rfl, q2, _⟩ | ⟨n2, e2⟩
      · rfl
      · rw [set_self (R.len ▸ hi)] at s1
        injection s1 with s1
        rw [set_ne n2] at s2
        exact absurd s2 (hd _ _ _ _ q1.symm s1 b b2 l2 d2 e2)
    · rcases set_get e2 with ⟨rfl, q2, _⟩ | ⟨n2, e2⟩
      · rw [set_self (R.len ▸ hi)] at s2
        injection s2 with s2
        rw [set_ne n1] at s1
        exact absurd s1 (hd _ _ _ _ q2.symm s2 a b1 l1 d1 e1)
      · rw [set_ne n1] at s1; rw [set_ne n2] at s2
        exact R.dis a b _ _ _ _ _ _ p e1 e2 s1 s2
  fx := fun e he => (R.fx e he).set (R.notFx hf e he)
/-- data are stored -/
theorem Rel.storeD (R : Rel W Γ F ρ σ H) (hi : i < ρ.length) (hf : freeS (getS ρ i) = true) (hv : Rep W F v d) : Rel W Γ F (ρ.set i (.dat d)) (σ.set i (some v)) H :=
  R.storeX hi hf ⟨v, set_self (R.len ▸ hi), hv⟩ fun _ _ _ _ z => nomatch z
/-- a new thing is stored -/
theorem Rel.storeO (R : Rel W Γ F ρ σ H) (hi : i < ρ.length) (hf : freeS (getS ρ i) = true) (hH : H p = some o) (t : Top W F o d) (hF : F p = none) (h0 : Γ.H0 p = none) (ns : NoSlot ρ σ p) :
    Rel W Γ F (ρ.set i (.own false false d)) (σ.set i (some (.ref p))) H :=
  R.storeX hi hf ⟨p, o, set_self (R.len ▸ hi), hH, t, hF, fun z => (nomatch z), fun _ => h0⟩ fun _ _ _ q _ e => by
    injection e with e; injection e with e; subst e; exact ns
/-- the slot alone -/
theorem Rel.slotX {x : Sl} {Γ' : Gm} {F' H' : Hp} (R : Rel W Γ F ρ σ H) (hi : i < ρ.length) (hΓ : Γ'.F0 = Γ.F0) (hΓ2 : Γ'.H0 = Γ.H0) (hΓ3 : Γ'.re = Γ.re) (fh : ∀ a o, F' a = some o → H' a = some o ∧ Nt o) (f0 : Sub F F') (fnew : ∀ a o, F' a = some o → Γ.F0 a = some o ∨ Γ.H0 a = none)
    (kp : ∀ a o, Γ.H0 a = some o → (∀ ps, o ≠ .tbl ps) → a ∉ Γ.re → H' a = some o) (dom : ∀ a, Nx H' a → Γ.H0 a = none) (tb : LamX.Tabs W.T H') (hs : SlOk W Γ F' σ H' i x) (hd : ∀ b l d, x = .own b l d → ∃ b l d, ρ[i]? = some (.own b l d))
    (oth : ∀ j y, i ≠ j → ρ[j]? = some y → SlOk W Γ F' σ H' j y) (fx : ∀ e ∈ Γ'.fx, FxOk (ρ.set i x) σ e) : Rel W Γ' F' (ρ.set i x) σ H' where
  len := by rw [List.length_set]; exact R.len
  f0 := by rw [hΓ]; exact R.f0.trans f0
  fh := fh
  fnew := by rw [hΓ, hΓ2]; exact fnew
  kp := by rw [hΓ2, hΓ3]; exact kp
  dmn := by rw [hΓ2]; exact dom
  tb := tb
  oO := by rw [hΓ3, hΓ2]; exact R.oO
  sl := fun j z e => by
    have key : SlOk W Γ F' σ H' j z := by
      rcases set_get e with ⟨rfl, rfl, _⟩ | ⟨n, e⟩
      · exact hs
      · exact oth j z n e
    cases z with
    | emp => exact key
    | dat d => exact key
    | cls cs => exact key
    | own b l d =>
      obtain ⟨p, o, h1, h2, h3, h4, h5, h6⟩ := key
      exact ⟨p, o, h1, h2, h3, h4, by rw [hΓ3]; exact h5, by rw [hΓ2]; exact h6⟩
  dis := fun a b b1 l1 d1 b2 l2 d2 p e1 e2 s1 s2 => by
    rcases set_get e1 with ⟨rfl, q1, _⟩ | ⟨n1, e1⟩
    · obtain ⟨b', l', d', g⟩ := hd _ _ _ q1.symm
      rcases set_get e2 with ⟨rfl, q2, _⟩ | ⟨n2, e2⟩
      · rfl
      · exact R.dis _ _ _ _ _ _ _ _ p g e2 s1 s2
    · rcases set_get e2 with ⟨rfl, q2, _⟩ | ⟨n2, e2⟩
      · obtain ⟨b', l', d', g⟩ := hd _ _ _ q2.symm
        exact R.dis _ _ _ _ _ _ _ _ p e1 g s1 s2
      · exact R.dis _ _ _ _ _ _ _ _ p e1 e2 s1 s2
  fx := fx
theorem ref_inj {a b : Addr} {x : Option (Option V)} (h1 : x = some (some (.ref a))) (h2 : x = some (some (.ref b))) : a = b := by
  rw [h1] at h2; injection h2 with h2; injection h2 with h2; injection h2
/-- a slot's own thing becomes data -/
theorem Rel.frzS (R : Rel W Γ F ρ σ H) (e : ρ[i]? = some (.own false false d)) : ∃ p o, σ[i]? = some (some (.ref p)) ∧ F p = none ∧ Rel W Γ (upd F p o) (ρ.set i (.dat d)) σ H ∧ Rep W (upd F p o) (.ref p) d := by
  obtain ⟨p, o, e1, hp, t, n, c1, c2⟩ := R.slotOwn e
  have rp : Rep W (upd F p o) (.ref p) d := (t.mono (Sub.upd n)).rep upd_same
  refine ⟨p, o, e1, n, R.slotX (lt_of_get e) _root_.rfl _root_.rfl _root_.rfl ?_ (Sub.upd n) ?_ R.kp R.dmn R.tb ⟨_, e1, rp⟩ (fun _ _ _ z => nomatch z) (fun j y nj ey => ?_) (fun q hq => ?_), rp⟩
  · intro a u h
    rcases Nat.decEq a p with m | rfl
    · rw [upd_ne m] at h; exact R.fh a u h
    · rw [upd_same] at h; injection h with h; subst h; exact ⟨hp, t.nt⟩
  · intro a u h
    rcases Nat.decEq a p with m | rfl
    · rw [upd_ne m] at h; exact R.fnew a u h
    · exact .inr (c2 _root_.rfl)
  · refine (R.sl j y ey).mono (Sub.upd n) (fun b l d' q eo es => ?_) (fun a o h n => h) ey
    have m : q ≠ p := fun z => by subst z; exact nj (R.dis _ _ _ _ _ _ _ _ q e eo e1 es)
    rw [upd_ne m]
    obtain ⟨q', o, e1, _, _, n, _⟩ := R.slotOwn eo
    rw [ref_inj es e1]; exact n
  · have z := R.notFx (i := i) (by rw [getS_of e]; rfl) q hq
    obtain ⟨a, b⟩ := R.fx q hq
    exact ⟨a, by rw [set_ne (fun k => z k.symm)]; exact b⟩
/-- a slot's own thing is changed -/
theorem Rel.mut {b : Bool} {d' : D} {o' : HO} (R : Rel W Γ F ρ σ H) (e : ρ[i]? = some (.own b false d)) (e1 : σ[i]? = some (some (.ref p))) (t : Top W F o' d') : Rel W Γ F (ρ.set i (.own b false d')) σ (upd H p o') := by
  obtain ⟨p', o, e1', hp, t0, n, c1, c2⟩ := R.slotOwn e
  have := ref_inj e1 e1'; subst this
  have keepF : ∀ a u, F a = some u → upd H p o' a = some u := fun a u h => by
    rw [upd_ne (fun z => by subst z; rw [n] at h; exact nomatch h)]; exact (R.fh a u h).1
  refine R.slotX (lt_of_get e) _root_.rfl _root_.rfl _root_.rfl (fun a u h => ⟨keepF a u h, (R.fh a u h).2⟩) Sub.rfl R.fnew (fun a u h nt m => ?_) (fun a h => ?_) ?_ ⟨p, o', e1, upd_same, t, n, c1, c2⟩ (fun _ _ _ _ => ⟨_, _, _, e⟩) (fun j y nj ey => ?_) (fun q hq => ?_)
  · rw [upd_ne]
    · exact R.kp a u h nt m
    · rintro rfl
      cases b with
      | true => exact m (c1 _root_.rfl)
      | false => rw [c2 _root_.rfl] at h; exact nomatch h
  · rcases Nat.decEq a p with m | rfl
    · exact R.dmn a fun u e => h u (by rw [upd_ne m]; exact e)
    · exact (h.no upd_same t.nt).elim
  · refine Tabs.keep R.tb fun a u h nn => ?_
    rw [upd_ne]
    · exact h
    · rintro rfl
      rw [hp] at h; injection h with h; subst h; exact nn t0.nt0
  · cases y with
    | emp => trivial
    | dat d2 => exact R.sl j _ ey
    | cls cs =>
      obtain ⟨q, vs, s1, s2, s3⟩ := R.sl j _ ey
      refine ⟨q, vs, s1, s2, s3.mono fun a u ha hx => ?_⟩
      rw [upd_ne]
      · exact ha
      · rintro rfl
        rw [hp] at ha; injection ha with ha; subst ha; exact t0.nt0.ext hx
    | own b2 l2 d2 =>
      obtain ⟨q, o2, s1, s2, s3⟩ := R.slotOwn ey
      refine ⟨q, o2, s1, ?_, s3⟩
      rw [upd_ne]
      · exact s2
      · rintro rfl; exact nj (R.dis _ _ _ _ _ _ _ _ q e ey e1 s1)
  · obtain ⟨a, c⟩ := R.fx q hq
    refine ⟨a, ?_⟩
    rcases Nat.decEq i q.1 with m | m
    · rw [set_ne m]; exact c
    · rw [← m, set_self (lt_of_get e)]
      revert c
      rw [← m, e]
      cases q.2.2 with
      | none => rintro ⟨l, dd, z⟩; injection z with z; injection z with z1 z2 z3; subst z1; exact ⟨_, _, _root_.rfl⟩
      | some dd => rintro ⟨bb, z⟩; injection z with z; injection z with z1 z2 z3; exact nomatch z2
/-- a slot's own thing is lent -/
theorem Rel.lend {b : Bool} (R : Rel W Γ F ρ σ H) (e : ρ[i]? = some (.own b false d)) (e1 : σ[i]? = some (some (.ref p))) : Rel W { Γ with fx := (i, p, some d) :: Γ.fx } F (ρ.set i (.own b true d)) σ H ∧ ∀ q ∈ Γ.fx, q.1 = i → q.2.2 = none := by
  obtain ⟨p', o, e1', hp, t0, n, c1, c2⟩ := R.slotOwn e
  have := ref_inj e1 e1'; subst this
  refine ⟨R.slotX (lt_of_get e) _root_.rfl _root_.rfl _root_.rfl R.fh Sub.rfl R.fnew R.kp R.dmn R.tb ⟨p, o, e1, hp, t0, n, c1, c2⟩ (fun _ _ _ _ => ⟨_, _, _, e⟩) (fun j y nj ey => R.sl j y ey) (fun q hq => ?_), fun q hq z => ?_⟩
  · rcases List.mem_cons.mp hq with rfl | hq
    · exact ⟨e1, b, set_self (lt_of_get e)⟩
    · obtain ⟨a, c⟩ := R.fx q hq
      refine ⟨a, ?_⟩
      rcases Nat.decEq i q.1 with m | m
      · rw [set_ne m]; exact c
      · rw [← m, set_self (lt_of_get e)]
        revert c
        rw [← m, e]
        cases q.2.2 with
        | none => rintro ⟨l, dd, z⟩; injection z with z; injection z with z1 z2 z3; subst z1; exact ⟨_, _, _root_.rfl⟩
        | some dd => rintro ⟨bb, z⟩; injection z with z; injection z with z1 z2 z3; exact nomatch z2
  · obtain ⟨a, c⟩ := R.fx q hq
    revert c
    rw [z, e]
    cases q.2.2 with
    | none => exact fun _ => _root_.rfl
    | some dd => rintro ⟨bb, z⟩; injection z with z; injection z with z1 z2 z3; exact nomatch z2
theorem Rel.fxSub {l : List (Nat × Addr × Option D)} (R : Rel W Γ F ρ σ H) (h : ∀ e ∈ l, e ∈ Γ.fx) : Rel W { Γ with fx := l } F ρ σ H :=
  { len := R.len, f0 := R.f0, fh := R.fh, fnew := R.fnew, kp := R.kp, dmn := R.dmn, tb := R.tb, oO := R.oO, sl := fun i x e => by
      have z := R.sl i x e
      cases x <;> exact z
    dis := R.dis, fx := fun e he => R.fx e (h e he) }
/-- .. and given back -/
theorem Rel.unl (R : Rel W Γ F ρ σ H) (h : ∀ q ∈ Γ.fx, q.1 = i → q.2.2 = none) : Rel W Γ F (ρ.set i (unlS (getS ρ i))) σ H := by
  cases e : getS ρ i with
  | emp =>
    rcases Nat.lt_or_ge i ρ.length with hi | hi
    · have : ρ[i]? = some .emp := by
        have z : getS ρ i = ρ[i] := by unfold getS; rw [List.getD_eq_getElem?_getD, List.getElem?_eq_getElem hi]; rfl
        rw [List.getElem?_eq_getElem hi, ← z, e]
      have z : ρ.set i (unlS .emp) = ρ := by
        apply List.ext_getElem?
        intro j
        rcases Nat.decEq i j with m | rfl
        · rw [set_ne m]
        · rw [set_self hi, this]; rfl
      rw [z]; exact R
    · have z : ρ.set i (unlS .emp) = ρ := List.set_eq_of_length_le hi
      rw [z]; exact R
  | dat d =>
    have e' := getS_some e (fun z => nomatch z)
    have z : ρ.set i (unlS (.dat d)) = ρ := by
      apply List.ext_getElem?
      intro j
      rcases Nat.decEq i j with m | rfl
      · rw [set_ne m]
      · rw [set_self (lt_of_get e'), e']; rfl
    rw [z]; exact R
  | cls cs =>
    have e' := getS_some e (fun z => nomatch z)
    have z : ρ.set i (unlS (.cls cs)) = ρ := by
      apply List.ext_getElem?
      intro j
      rcases Nat.decEq i j with m | rfl
      · rw [set_ne m]
      · rw [set_self (lt_of_get e'), e']; rfl
    rw [z]; exact R
  | own b l d =>
    have e' := getS_some e (fun z => nomatch z)
    have hu : unlS (.own b l d) = .own b false d := by cases l <;> rfl
    rw [hu]
    obtain ⟨p, o, e1, hp, t0, n, c1, c2⟩ := R.slotOwn e'
    refine R.slotX (lt_of_get e') _root_.rfl _root_.rfl _root_.rfl R.fh Sub.rfl R.fnew R.kp R.dmn R.tb ⟨p, o, e1, hp, t0, n, c1, c2⟩ (fun _ _ _ _ => ⟨_, _, _, e'⟩) (fun j y nj ey => R.sl j y ey) (fun q hq => ?_)
    obtain ⟨a, c⟩ := R.fx q hq
    refine ⟨a, ?_⟩
    rcases Nat.decEq i q.1 with m | m
    · rw [set_ne m]; exact c
    · have qn := h q hq m.symm
      rw [qn] at c ⊢
      obtain ⟨l', d', c⟩ := c
      rw [← m, e'] at c; injection c with c; injection c with c1 c2 c3
      subst c1
      exact ⟨_, _, by rw [← m, set_self (lt_of_get e')]⟩
/-! ### protecting a new thing while others are evaluated -/
def Gm.add (Γ : Gm) (p : Addr) (o : HO) : Gm := { Γ with H0 := upd Γ.H0 p o }
theorem Rel.addP (R : Rel W Γ F ρ σ H) (hH : H p = some o) (hF : F p = none) (h0 : Γ.H0 p = none) (ns : NoSlot ρ σ p) (nt : Nt o) : Rel W (Γ.add p o) F ρ σ H where
  len := R.len
  f0 := R.f0
  fh := R.fh
  fnew := fun a u h => by
    rcases R.fnew a u h with z | z
    · exact .inl z
    · right
      show upd Γ.H0 p o a = none
      rw [upd_ne]
      · exact z
      · rintro rfl; rw [hF] at h; exact nomatch h
  kp := fun a u h n m => by
    rcases Nat.decEq a p with q | rfl
    · exact R.kp a u ((upd_ne q).symm.trans h) n m
    · have : some o = some u := upd_same.symm.trans h
      injection this with this; subst this; exact hH
  dmn := fun a h => by
    show upd Γ.H0 p o a = none
    rw [upd_ne]
    · exact R.dmn a h
    · rintro rfl; exact (h.no hH nt).elim
  tb := R.tb
  oO := fun a ha z => R.oO a ha (by
    rcases Nat.decEq a p with q | rfl
    · exact (upd_ne q).symm.trans z
    · exact h0)
  sl := fun i x e => by
    have z := R.sl i x e
    cases x with
    | emp => exact z
    | dat d => exact z
    | cls cs => exact z
    | own b l d =>
      obtain ⟨q, u, h1, h2, h3, h4, h5, h6⟩ := z
      refine ⟨q, u, h1, h2, h3, h4, h5, fun hb => ?_⟩
      show upd Γ.H0 p o q = none
      rw [upd_ne]
      · exact h6 hb
      · rintro rfl; exact ns i b l d e h1
  dis := R.dis
  fx := R.fx
theorem Rel.unadd (R : Rel W (Γ.add p o) F ρ σ H) (h0 : Γ.H0 p = none) (hO : p ∉ Γ.re) : Rel W Γ F ρ σ H where
  len := R.len
  f0 := R.f0
  fh := R.fh
  fnew := fun a u h => by
    rcases R.fnew a u h with z | z
    · exact .inl z
    · right
      rcases Nat.decEq a p with q | rfl
      · exact (upd_ne q).symm.trans z
      · exact h0
  kp := fun a u h n m => R.kp a u (by
    show upd Γ.H0 p o a = some u
    rw [upd_ne]
    · exact h
    · rintro rfl; rw [h0] at h; exact nomatch h) n m
  dmn := fun a h => by
    have z := R.dmn a h
    rcases Nat.decEq a p with q | rfl
    · exact (upd_ne q).symm.trans z
    · exact h0
  tb := R.tb
  oO := fun a ha z => by
    have : a ≠ p := fun e => hO (e ▸ ha)
    exact R.oO a ha ((upd_ne this).trans z)
  sl := fun i x e => by
    have z := R.sl i x e
    cases x with
    | emp => exact z
    | dat d => exact z
    | cls cs => exact z
    | own b l d =>
      obtain ⟨q, u, h1, h2, h3, h4, h5, h6⟩ := z
      refine ⟨q, u, h1, h2, h3, h4, h5, fun hb => ?_⟩
      have z := h6 hb
      rcases Nat.decEq q p with m | rfl
      · exact (upd_ne m).symm.trans z
      · exact h0
  dis := R.dis
  fx := R.fx
theorem Rel.addKept {F1 : Hp} (R : Rel W (Γ.add p o) F' ρ' σ' H') (R0 : Rel W Γ F1 ρ σ H) (h0 : Γ.H0 p = none) (hF : F1 p = none) (n : Nt o) : H' p = some o ∧ F' p = none ∧ NoSlot ρ' σ' p := by
  have hO : p ∉ Γ.re := fun z => R0.oO p z h0
  refine ⟨R.kp p o upd_same n.1 hO, ?_, fun i b l d e z => ?_⟩
  · cases e : F' p with
    | none => rfl
    | some u =>
      rcases R.fnew p u e with q | q
      · have := R0.f0 _ _ q; rw [hF] at this; exact nomatch this
      · have z : upd Γ.H0 p o p = none := q
        rw [upd_same] at z; exact nomatch z
  · obtain ⟨q, u, h1, h2, h3, h4, h5, h6⟩ := R.slotOwn e
    have := ref_inj z h1; subst this
    cases b with
    | true => exact hO (h5 _root_.rfl)
    | false =>
      have z : upd Γ.H0 p o p = none := h6 _root_.rfl
      rw [upd_same] at z; exact nomatch z
end
/-- what is read: data, or a thing as it stands -/
def RdD (W : Wd) (F H : Hp) (v : V) (d : D) : Prop := Rep W F v d ∨ ∃ p o, v = .ref p ∧ H p = some o ∧ Top W F o d
section
variable {W : Wd} {Γ : Gm} {F F' : Hp} {ρ ρ' : En} {σ σ' : L2.St} {H H' : Hp} {p : Addr} {o : HO} {d : D} {v : V} {i : Nat} {r : R}
theorem Rel.sub (R : Rel W Γ F ρ σ H) : Sub F H := fun a o h => (R.fh a o h).1
theorem RepR.pk (R : Rel W Γ F ρ σ H) (h : RepR W Γ F ρ σ H v r) (e : pk r ρ = some d) : RdD W F H v d := by
  cases r with
  | dat d' => injection e with e; subst e; exact .inl h
  | own d' => injection e with e; subst e; obtain ⟨p, o, h1, h2, h3, _⟩ := h; exact .inr ⟨p, o, h1, h2, h3⟩
  | ptr i =>
    have e : rdS (getS ρ i) = some d := e
    cases q : getS ρ i with
    | emp => rw [q] at e; exact nomatch e
    | cls cs => rw [q] at e; exact nomatch e
    | dat d' =>
      rw [q] at e; injection e with e; subst e
      obtain ⟨v', e', r'⟩ := R.sl i _ (getS_some q (fun z => nomatch z))
      have h : σ[i]? = some (some v) := h
      rw [h] at e'; injection e' with e'; injection e' with e'; subst e'; exact .inl r'
    | own b l d' =>
      rw [q] at e; injection e with e; subst e
      obtain ⟨p, o, e', h2, h3, _⟩ := R.slotOwn (getS_some q (fun z => nomatch z))
      have h : σ[i]? = some (some v) := h
      rw [h] at e'; injection e' with e'; injection e' with e'; subst e'; exact .inr ⟨p, o, rfl, h2, h3⟩
theorem NoSlot.mono (h : NoSlot ρ σ p) {x : D} : NoSlot (ρ.set i (.dat x)) σ p := fun j b l d e => by
  rcases set_get e with ⟨_, z, _⟩ | ⟨_, e⟩
  · exact nomatch z
  · exact h j b l d e
/-- a result becomes data; what else there is stays what it is -/
theorem RepR.frz (R : Rel W Γ F ρ σ H) (h : RepR W Γ F ρ σ H v r) {q : D × En} (e : frz r ρ = some q) : ∃ F', Sub F F' ∧ Rel W Γ F' q.2 σ H ∧ Rep W F' v q.1 ∧
    ∀ v' r', RepR W Γ F ρ σ H v' r' → ((∃ d, r = .own d) → (∃ d, r' = .own d) → v' ≠ v) → RepR W Γ F' q.2 σ H v' r' := by
  cases r with
  | dat d' => injection e with e; subst e; exact ⟨F, Sub.rfl, R, h, fun _ _ h _ => h⟩
  | own d' =>
    injection e with e; subst e
    obtain ⟨p, o, h1, h2, h3, h4, h5, h6⟩ := h
    subst h1
    refine ⟨upd F p o, Sub.upd h4, R.frz1 h4 h2 h3.nt h5 h6, (h3.mono (Sub.upd h4)).rep upd_same, fun v' r' h' n => ?_⟩
    cases r' with
    | dat d2 => exact h'.mono (Sub.upd h4) _
    | ptr j => exact h'
    | own d2 =>
      obtain ⟨p', o', g1, g2, g3, g4, g5, g6⟩ := h'
      subst g1
      have m : p' ≠ p := fun z => n ⟨_, rfl⟩ ⟨_, rfl⟩ (by rw [z])
      exact ⟨p', o', rfl, g2, g3.mono (Sub.upd h4), by rw [upd_ne m]; exact g4, g5, g6⟩
  | ptr i =>
    have h : σ[i]? = some (some v) := h
    unfold Pv.frz at e
    revert e
    dsimp only
    cases q' : getS ρ i with
    | emp => exact fun e => nomatch e
    | cls cs => exact fun e => nomatch e
    | dat d' =>
      intro e; injection e with e; subst e
      obtain ⟨v', e', r'⟩ := R.sl i _ (getS_some q' (fun z => nomatch z))
      rw [h] at e'; injection e' with e'; injection e' with e'; subst e'
      exact ⟨F, Sub.rfl, R, r', fun _ _ h _ => h⟩
    | own b l d' =>
      cases b with
      | true => cases l <;> exact fun e => nomatch e
      | false =>
        cases l with
        | true => exact fun e => nomatch e
        | false =>
          intro e; injection e with e; subst e
          have q2 := getS_some q' (fun z => nomatch z)
          obtain ⟨p, o, e1, n, R', rp⟩ := R.frzS q2
          rw [h] at e1; injection e1 with e1; injection e1 with e1; subst e1
          refine ⟨upd F p o, Sub.upd n, R', rp, fun v' r' h' _ => ?_⟩
          cases r' with
          | dat d2 => exact h'.mono (Sub.upd n) _
          | ptr j => exact h'
          | own d2 =>
            obtain ⟨p', o', g1, g2, g3, g4, g5, g6⟩ := h'
            subst g1
            have m : p' ≠ p := fun z => g6 i _ _ _ q2 (by rw [z]; exact h)
            exact ⟨p', o', rfl, g2, g3.mono (Sub.upd n), by rw [upd_ne m]; exact g4, g5, g6.mono⟩
end
end Pv
end PvB_
section PvMu_
set_option maxRecDepth 100000
set_option maxHeartbeats 4000000
/-! PvMu: tuple * int where it gives the tuple itself, or an empty one. -/
namespace L2
open PySem PySem.Spec PyProof.Rows
theorem tuple_mul1 (l : Addr) (items : Array Value) (n : Nat) (dd : Option Addr) (sl : Array (Option Value)) (x : Int) (u : Tok) (c0 : (decide (x < -(2 ^ 63)) || decide (x ≥ 2 ^ 63)) = false) (c1 : (items.isEmpty || x == 1) = true) :
    Meets (Builtin.«tuple.__mul__» ⟨[.ref l, .int x u], []⟩) (fun _ R s => s.heap.get? l = some { cls := .type "tuple", dict := dd, data := .seq items n, slots := sl } ∧ R (.ok (.ret (Value.ref l))) s) :=
  .of_wp fun prog w A R s h => by
    obtain ⟨hp, g, d, tk, os⟩ := s
    obtain ⟨hl, h⟩ := h
    have f1 := AutoSeq1.idx_int
    wp_walk using wpAny_loadPart' hl
    repeat (first
      | (refine wpAny_ite_false (decide_eq_false (by rw [c0]; exact Bool.false_ne_true)) ?_; wp_walk using wpAny_loadPart' hl)
      | (refine wpAny_ite_true (decide_eq_true (by rw [c1])) ?_; wp_walk using wpAny_loadPart' hl)
      | (refine wpAny_ite_true c1 ?_; wp_walk using wpAny_loadPart' hl))
    exact ⟨_, rfl, h⟩
theorem tuple_mul0 (l : Addr) (items : Array Value) (n : Nat) (dd : Option Addr) (sl : Array (Option Value)) (x : Int) (u : Tok) (c0 : (decide (x < -(2 ^ 63)) || decide (x ≥ 2 ^ 63)) = false) (c1 : (items.isEmpty || x == 1) = false) (c2 : (decide (x ≤ 0) || items.isEmpty) = true) :
    Meets (Builtin.«tuple.__mul__» ⟨[.ref l, .int x u], []⟩) (fun _ R s => s.heap.get? l = some { cls := .type "tuple", dict := dd, data := .seq items n, slots := sl } ∧
      R (.ok (.ret (Value.ref s.heap.objs.size))) { s with heap := s.heap.push { cls := Value.type "tuple", data := Data.seq #[] }, toks := s.toks }) :=
  .of_wp fun prog w A R s h => by
    obtain ⟨hp, g, d, tk, os⟩ := s
    obtain ⟨hl, h⟩ := h
    have f1 := AutoSeq1.idx_int
    wp_walk using wpAny_loadPart' hl
    repeat (first
      | (refine wpAny_ite_false (decide_eq_false (by rw [c0]; exact Bool.false_ne_true)) ?_; wp_walk using wpAny_loadPart' hl)
      | (refine wpAny_ite_false (decide_eq_false (by rw [c1]; exact Bool.false_ne_true)) ?_; wp_walk using wpAny_loadPart' hl)
      | (refine wpAny_ite_true (decide_eq_true (by rw [c2])) ?_; wp_walk using wpAny_loadPart' hl)
      | (refine wpAny_ite_true c2 ?_; wp_walk using wpAny_loadPart' hl))
    exact ⟨_, rfl, h⟩
def rRepT1 (K : PySem.W.Frag) : R2 := fun x y H Q => ∃ l k xs, x = .ref l ∧ y = .int k ∧ SqT K H l xs ∧ (xs = [] ∨ k = 1) ∧ -1000 ≤ k ∧ k ≤ 1000 ∧ Q (.ref l) H
def rRepT0 (K : PySem.W.Frag) : R2 := fun x y H Q => ∃ l k xs, x = .ref l ∧ y = .int k ∧ SqT K H l xs ∧ xs ≠ [] ∧ -1000 ≤ k ∧ k ≤ 0 ∧ ∀ p, H p = none → Q (.ref p) (upd H p (.tup []))
section
variable {X : Cx}
theorem op_repT1 : OpR X (binaryOp .Mult) (rRepT1 X.K) := by
  intro pins s σ H x y v u Q I rx ry h
  obtain ⟨l, k, xs, rfl, rfl, hT, hne, h1, h2, q⟩ := h
  cases rx
  obtain ⟨t, rfl⟩ := ry
  obtain ⟨its, r, ⟨⟨cls, dd, data, sl⟩, ho, hc, n, hd⟩, hs⟩ := I.tuple hT
  simp only at hc hd
  subst hc hd
  have hle : its.length = xs.length := r.length.symm
  have c0 : (decide (k < -(2 ^ 63)) || decide (k ≥ 2 ^ 63)) = false := by
    rw [decide_eq_false (by omega), decide_eq_false (by omega)] <;> rfl
  have c1 : (its.toArray.isEmpty || k == 1) = true := by
    rcases hne with h | h
    · subst h
      have : its = [] := List.eq_nil_of_length_eq_zero hle
      subst this
      rfl
    · subst h
      rw [Bool.or_eq_true]
      exact .inr rfl
  exact wpAny_binaryOp_repeat_ref (T := "tuple") (U := "int") (by decide) ⟨_, ho, rfl⟩ (fun s' => typeIs_int s' k t) noFill_tuple_mul F.fills_int_mul F.slot_int_rmul repeat_tuple F.slot_int_index.lookup
    (call_meets F.slot_int_rmul (typeIs_int s k t) F.entry_int_rmul (F.args_int_rmul_2 _ _) (int_rmul_tuple k t l its.toArray n dd sl)
      ⟨ho, rfl, ⟨_, ho, rfl⟩, call_meets F.slot_tuple_mul ⟨_, ho, rfl⟩ F.entry_tuple_mul (F.args_tuple_mul_2 _ _) (tuple_mul1 l its.toArray n dd sl k t c0 c1) ⟨ho, ⟨.ref l, H, I, rfl, q⟩⟩⟩)
theorem op_repT0 : OpR X (binaryOp .Mult) (rRepT0 X.K) := by
  intro pins s σ H x y v u Q I rx ry h
  obtain ⟨l, k, xs, rfl, rfl, hT, hne, h1, h2, q⟩ := h
  cases rx
  obtain ⟨t, rfl⟩ := ry
  obtain ⟨its, r, ⟨⟨cls, dd, data, sl⟩, ho, hc, n, hd⟩, hs⟩ := I.tuple hT
  simp only at hc hd
  subst hc hd
  have hle : its.length = xs.length := r.length.symm
  have hn : its ≠ [] := fun e => hne (by
    rw [e] at hle
    exact List.eq_nil_of_length_eq_zero hle.symm)
  have hi : its.toArray.isEmpty = false := by
    cases its with
    | nil => exact absurd rfl hn
    | cons a b => rfl
  have c0 : (decide (k < -(2 ^ 63)) || decide (k ≥ 2 ^ 63)) = false := by
    rw [decide_eq_false (by omega), decide_eq_false (by omega)] <;> rfl
  have c1 : (its.toArray.isEmpty || k == 1) = false := by
    rw [hi, Bool.false_or]
    exact beq_eq_false_iff_ne.mpr (by omega)
  have c2 : (decide (k ≤ 0) || its.toArray.isEmpty) = true := by
    rw [decide_eq_true (by omega)]; rfl
  refine wpAny_binaryOp_repeat_ref (T := "tuple") (U := "int") (by decide) ⟨_, ho, rfl⟩ (fun s' => typeIs_int s' k t) noFill_tuple_mul F.fills_int_mul F.slot_int_rmul repeat_tuple F.slot_int_index.lookup
    (call_meets F.slot_int_rmul (typeIs_int s k t) F.entry_int_rmul (F.args_int_rmul_2 _ _) (int_rmul_tuple k t l its.toArray n dd sl)
      ⟨ho, rfl, ⟨_, ho, rfl⟩, call_meets F.slot_tuple_mul ⟨_, ho, rfl⟩ F.entry_tuple_mul (F.args_tuple_mul_2 _ _) (tuple_mul0 l its.toArray n dd sl k t c0 c1 c2) ⟨ho, ?_⟩⟩)
  refine ⟨.ref s.heap.objs.size, _, I.laid (t' := s.toks) (o := .tup []) (fun b ob q => Heap.get?_push_of_some _ q) (Nat.le_refl _) ?_, rfl, q _ (I.hok.fresh (Nat.le_refl _))⟩
  exact ⟨Nat.zero_le _, [], .nil, IsTup.new _ _⟩
end
end L2
end PvMu_
section PvC_
set_option maxRecDepth 100000
/-! PvC: what an outcome of the evaluator promises of the machine; readings; operators on data. -/
namespace Pv
open PySem PySem.Spec PyProof.Rows L2
/-- an exception of class c that keeps d -/
def XRep (W : Wd) (F H : Hp) (cls : Value) (dx : Option Addr) (c : Nat) (d : Option D) : Prop :=
  (∃ C, W.clA c = some C ∧ cls = .ref C) ∧ match d with
    | none => True
    | some x => ∃ a fs v, dx = some a ∧ H a = some (.xd fs) ∧ fs.lookup (W.fld c) = some v ∧ Rep W F v x
/-- an outcome's promise -/
def Ok (W : Wd) (Γ : Gm) (E : XK) (σ : L2.St) (F : Hp) {α : Type} (x : O α) (K : α → En → Hp → Hp → Prop) : Prop := match x with
  | .ok a ρ' => ∀ F' H', Sub F F' → Rel W Γ F' ρ' σ H' → K a ρ' F' H'
  | .exc c d ρ' => ∀ F' H' cls dx, Sub F F' → Rel W Γ F' ρ' σ H' → XRep W F' H' cls dx c d → E cls dx H'
  | .bad => False
/-- .. of a value, where Q is wanted of it -/
abbrev KR (W : Wd) (Γ : Gm) (σ : L2.St) (Q : VK) : R → En → Hp → Hp → Prop := fun r ρ' F' H' => ∀ v, RepR W Γ F' ρ' σ H' v r → Q v H'
section
variable {W : Wd} {Γ : Gm} {E : XK} {σ : L2.St} {F F' : Hp} {ρ ρ' : En} {H H' : Hp} {α β : Type} {x : O α} {f : α → En → O β} {K K' : α → En → Hp → Hp → Prop} {v : V} {r : R} {p : Addr} {o : HO} {d : D}
theorem Ok.sub (h : Ok W Γ E σ F x K) (s : Sub F F') : Ok W Γ E σ F' x K := by
  cases x with
  | ok a ρ' => exact fun F2 H2 s2 R => h F2 H2 (s.trans s2) R
  | exc c d ρ' => exact fun F2 H2 cls dx s2 R => h F2 H2 cls dx (s.trans s2) R
  | bad => exact h
theorem Ok.bind {L : β → En → Hp → Hp → Prop} (h : Ok W Γ E σ F (x.bind f) L) : Ok W Γ E σ F x fun a ρ1 F1 _ => Ok W Γ E σ F1 (f a ρ1) L := by
  cases x with
  | ok a ρ' => exact fun F2 H2 s2 R => Ok.sub h s2
  | exc c d ρ' => exact h
  | bad => exact h
theorem Ok.imp (h : Ok W Γ E σ F x K) (w : ∀ a ρ' F' H', Sub F F' → Rel W Γ F' ρ' σ H' → K a ρ' F' H' → K' a ρ' F' H') : Ok W Γ E σ F x K' := by
  cases x with
  | ok a ρ' => exact fun F2 H2 s2 R => w _ _ _ _ s2 R (h F2 H2 s2 R)
  | exc c d ρ' => exact h
  | bad => exact h
theorem Ok.at {a : α} (h : Ok W Γ E σ F (.ok a ρ) K) (R : Rel W Γ F ρ σ H) : K a ρ F H := h F H Sub.rfl R
/-- a value kept while others are evaluated -/
def Gm.keepR (Γ : Gm) (H : Hp) (v : V) (r : R) : Gm := match r, v with
  | .own _, .ref p => (match H p with
    | some o => Γ.add p o
    | none => Γ)
  | _, _ => Γ
theorem RepR.keepRel (h : RepR W Γ F ρ σ H v r) (R : Rel W Γ F ρ σ H) : Rel W (Γ.keepR H v r) F ρ σ H := by
  cases r with
  | dat d => exact R
  | ptr i => exact R
  | own d =>
    obtain ⟨p, o, rfl, h2, h3, h4, h5, h6⟩ := h
    show Rel W (match H p with | some o => Γ.add p o | none => Γ) F ρ σ H
    rw [h2]
    exact R.addP h2 h4 h5 h6 h3.nt
theorem RepR.after (hv : RepR W Γ F ρ σ H v r) (R : Rel W Γ F ρ σ H) (s : Sub F F') (R' : Rel W (Γ.keepR H v r) F' ρ' σ H') : RepR W Γ F' ρ' σ H' v r ∧ Rel W Γ F' ρ' σ H' ∧ Γ.keepR H' v r = Γ.keepR H v r := by
  cases r with
  | dat d => exact ⟨hv.mono s _, R', rfl⟩
  | ptr i => exact ⟨hv, R', rfl⟩
  | own d =>
    obtain ⟨p, o, rfl, h2, h3, h4, h5, h6⟩ := hv
    have R' : Rel W (match H p with | some o => Γ.add p o | none => Γ) F' ρ' σ H' := R'
    rw [h2] at R'
    have hO : p ∉ Γ.re := fun z => R.oO p z h5
    obtain ⟨q1, q2, q3⟩ := R'.addKept R h5 h4 h3.nt
    refine ⟨⟨p, o, rfl, q1, h3.mono s, q2, h5, q3⟩, R'.unadd h5 hO, ?_⟩
    show (match H' p with | some o => Γ.add p o | none => Γ) = (match H p with | some o => Γ.add p o | none => Γ)
    rw [h2, q1]
theorem Ok.keep (h : Ok W Γ E σ F x K) (hv : RepR W Γ F ρ σ H v r) (R : Rel W Γ F ρ σ H) : Ok W (Γ.keepR H v r) E σ F x fun a ρ' F' H' => RepR W Γ F' ρ' σ H' v r ∧ Rel W Γ F' ρ' σ H' ∧ Γ.keepR H' v r = Γ.keepR H v r ∧ K a ρ' F' H' := by
  cases x with
  | ok a ρ' =>
    intro F2 H2 s2 R2
    obtain ⟨q1, q2, q3⟩ := hv.after R s2 R2
    exact ⟨q1, q2, q3, h F2 H2 s2 q2⟩
  | exc c d ρ' => exact fun F2 H2 cls dx s2 R2 => h F2 H2 cls dx s2 (hv.after R s2 R2).2.1
  | bad => exact h
theorem RepR.unkeep {v2 : V} {r2 : R} {H2 : Hp} (h : RepR W (Γ.keepR H2 v2 r2) F ρ σ H v r) (hv : ∀ p, v2 = .ref p → (∃ d, r2 = .own d) → Γ.H0 p = none) : RepR W Γ F ρ σ H v r := by
  cases r with
  | dat d => exact h
  | ptr i => exact h
  | own d =>
    obtain ⟨q, u, e1, e2, e3, e4, e5, e6⟩ := h
    refine ⟨q, u, e1, e2, e3, e4, ?_, e6⟩
    cases r2 with
    | dat d => exact e5
    | ptr i => exact e5
    | own d2 =>
      cases v2 with
      | ref p =>
        have hp := hv p rfl ⟨_, rfl⟩
        revert e5
        unfold Gm.keepR
        dsimp only
        cases H2 p with
        | none => exact fun z => z
        | some o =>
          intro e5
          have e5 : upd Γ.H0 p o q = none := e5
          rcases Nat.decEq q p with m | rfl
          · exact (upd_ne m).symm.trans e5
          · exact hp
      | _ => exact e5
theorem RepR.ownH0 (h : RepR W Γ F ρ σ H v r) : ∀ p, v = .ref p → (∃ d, r = .own d) → Γ.H0 p = none := by
  rintro p rfl ⟨d, rfl⟩
  obtain ⟨q, u, e1, e2, e3, e4, e5, e6⟩ := h
  injection e1 with e1; subst e1; exact e5
/-! ### what is read -/
theorem RdD.mono (h : RdD W F H v d) (s : Sub F F') (k : ∀ a o, H a = some o → Nt o → H' a = some o) : RdD W F' H' v d := by
  rcases h with h | ⟨p, o, h1, h2, h3⟩
  · exact .inl (h.mono s _)
  · exact .inr ⟨p, o, h1, k _ _ h2 h3.nt, h3.mono s⟩
theorem rd_non (h : RdD W F H v .non) : v = .non := by rcases h with h | ⟨_, _, _, _, z⟩; (unfold Rep at h; exact h); exact z.elim
theorem rd_int {i : Int} (h : RdD W F H v (.int i)) : v = .int i := by rcases h with h | ⟨_, _, _, _, z⟩; (unfold Rep at h; exact h); exact z.elim
theorem rd_bl {i : Bool} (h : RdD W F H v (.bl i)) : v = .bl i := by rcases h with h | ⟨_, _, _, _, z⟩; (unfold Rep at h; exact h); exact z.elim
theorem rd_str {i : Str} (h : RdD W F H v (.str i)) : v = .str i := by rcases h with h | ⟨_, _, _, _, z⟩; (unfold Rep at h; exact h); exact z.elim
theorem rd_fn {k : Nat} (h : RdD W F H v (.fn k)) : ∃ a, v = .ref a ∧ W.fnA k = some a := by rcases h with h | ⟨_, _, _, _, z⟩; (unfold Rep at h; exact h); exact z.elim
theorem rd_scr {ns : List Int} (R : Rel W Γ F ρ σ H) (h : RdD W F H v (.scr ns)) : ∃ a, v = .ref a ∧ SqL W.K H a (ns.map V.int) := by
  rcases h with h | ⟨_, _, _, _, z⟩
  · unfold Rep at h
    obtain ⟨a, e, q⟩ := h
    exact ⟨a, e, sqL_sub R.sub q⟩
  · exact z.elim
theorem rd_tup {xs : List D} (R : Rel W Γ F ρ σ H) (h : RdD W F H v (.tup xs)) : ∃ a vs, v = .ref a ∧ SqT W.K H a vs ∧ Reps W F vs xs ∧ Rep W F v (.tup xs) := by
  rcases h with h | ⟨_, _, _, _, z⟩
  · have h' := h
    unfold Rep at h
    obtain ⟨a, vs, e, q, r⟩ := h
    exact ⟨a, vs, e, sqT_sub R.sub q, r, h'⟩
  · exact z.elim
theorem rd_lst {xs : List D} (R : Rel W Γ F ρ σ H) (h : RdD W F H v (.lst xs)) : ∃ a vs, v = .ref a ∧ H a = some (.lst vs) ∧ Reps W F vs xs := by
  rcases h with h | ⟨p, o, h1, h2, vs, h3, h4⟩
  · unfold Rep at h
    obtain ⟨a, vs, e, q, r⟩ := h
    exact ⟨a, vs, e, R.sub _ _ q, r⟩
  · subst h3; exact ⟨p, vs, h1, h2, h4⟩
theorem rd_dct {ks vs : List D} (R : Rel W Γ F ρ σ H) (h : RdD W F H v (.dct ks vs)) : ks = [] ∧ vs = [] ∧ ∃ a, v = .ref a ∧ H a = some (.dK []) := by
  rcases h with h | ⟨p, o, h1, h2, h3, h4, h5⟩
  · unfold Rep at h
    obtain ⟨e1, e2, a, e, q⟩ := h
    exact ⟨e1, e2, a, e, R.sub _ _ q⟩
  · subst h5; exact ⟨h3, h4, p, h1, h2⟩
theorem rd_obj {c : Nat} {fs : List D} (h : RdD W F H v (.obj c fs)) : False := by rcases h with h | ⟨_, _, _, _, z⟩; (unfold Rep at h; exact h); exact z
/-! ### what is answered -/
variable {Q : VK}
theorem ans_dat {d : D} (h : Ok W Γ E σ F (.ok (.dat d) ρ) (KR W Γ σ Q)) (R : Rel W Γ F ρ σ H) (hv : Rep W F v d) : Q v H := h.at R v hv
theorem ans_int {i : Int} (h : Ok W Γ E σ F (.ok (.dat (.int i)) ρ) (KR W Γ σ Q)) (R : Rel W Γ F ρ σ H) : Q (.int i) H := ans_dat h R (by unfold Rep; rfl)
theorem ans_bl {i : Bool} (h : Ok W Γ E σ F (.ok (.dat (.bl i)) ρ) (KR W Γ σ Q)) (R : Rel W Γ F ρ σ H) : Q (.bl i) H := ans_dat h R (by unfold Rep; rfl)
theorem ans_str {i : Str} (h : Ok W Γ E σ F (.ok (.dat (.str i)) ρ) (KR W Γ σ Q)) (R : Rel W Γ F ρ σ H) : Q (.str i) H := ans_dat h R (by unfold Rep; rfl)
theorem ans_non (h : Ok W Γ E σ F (.ok (.dat .non) ρ) (KR W Γ σ Q)) (R : Rel W Γ F ρ σ H) : Q .non H := ans_dat h R (by unfold Rep; rfl)
theorem ans_tup {xs : List D} {vs : List V} (h : Ok W Γ E σ F (.ok (.dat (.tup xs)) ρ) (KR W Γ σ Q)) (R : Rel W Γ F ρ σ H) (r : Reps W F vs xs) (hp : H p = none) : Q (.ref p) (upd H p (.tup vs)) := by
  have hF := R.fnone hp
  have R1 := R.new (o := .tup vs) hp
  have R2 := R1.frz1 (p := p) (o := .tup vs) hF upd_same ⟨fun _ z => (nomatch z), fun _ z => (nomatch z)⟩ (R.dom _ hp) (R.noSlot hp)
  refine h _ _ (Sub.upd hF) R2 _ ?_
  show Rep W _ _ _
  unfold Rep
  exact ⟨p, vs, rfl, .inl (.inl upd_same), r.mono (Sub.upd hF) _⟩
theorem ans_own {d : D} (h : Ok W Γ E σ F (.ok (.own d) ρ) (KR W Γ σ Q)) (R : Rel W Γ F ρ σ H) (t : Top W F o d) (hp : H p = none) : Q (.ref p) (upd H p o) :=
  h _ _ Sub.rfl (R.new hp) _ ⟨p, o, rfl, upd_same, t, R.fnone hp, R.dom _ hp, R.noSlot hp⟩
theorem ans_lst {xs : List D} {vs : List V} (h : Ok W Γ E σ F (.ok (.own (.lst xs)) ρ) (KR W Γ σ Q)) (R : Rel W Γ F ρ σ H) (r : Reps W F vs xs) (hp : H p = none) : Q (.ref p) (upd H p (.lst vs)) :=
  ans_own h R ⟨vs, rfl, r⟩ hp
end
/-! ### readings -/
def rd (W : Wd) (p : Pr) (E : XK) (n : Nat) (c : C) : TE := fun σ H Q => ∃ Γ ρ F, Rel W Γ F ρ σ H ∧ Ok W Γ E σ F (ev p n c ρ) (KR W Γ σ Q)
def rdT (W : Wd) (p : Pr) (E : XK) (n : Nat) (t : T) : TT := fun σ H Q => ∃ Γ ρ F, Rel W Γ F ρ σ H ∧ Ok W Γ E σ F (evT p n t ρ) (fun b _ _ H' => Q b H')
/-- a two-place operation on data -/
def R2D (W : Wd) (E : XK) (f : D → D → Option R) : R2 := fun x y H Q => ∃ Γ ρ F σ dx dy, Rel W Γ F ρ σ H ∧ RdD W F H x dx ∧ RdD W F H y dy ∧ Ok W Γ E σ F (O.of (f dx dy) ρ) (KR W Γ σ Q)
section
variable {W : Wd} {p : Pr} {E : XK} {n : Nat} {X : Cx} {Γ : Gm} {σ : L2.St} {F : Hp} {ρ : En} {H : Hp} {Q : VK}
theorem _root_.L2.PE.weak {e : Expr} {t t' : TE} (h : PE X e t) (w : ∀ σ H Q, t' σ H Q → t σ H Q) : PE X e t' := ⟨fun pins s σ H Q I q => h.run pins s σ H Q I (w _ _ _ q)⟩
theorem _root_.L2.PT.weak {e : Expr} {t t' : TT} (h : PT X e t) (w : ∀ σ H Q, t' σ H Q → t σ H Q) : PT X e t' := ⟨fun pins s σ H Q I q => h.run pins s σ H Q I (w _ _ _ q)⟩
theorem pe_zero {e : Expr} {c : C} : PE X e (rd W p E 0 c) := ⟨fun pins s σ H Q I ⟨_, _, _, _, k⟩ => by unfold ev at k; exact k.elim⟩
theorem pt_zero {e : Expr} {c : T} : PT X e (rdT W p E 0 c) := ⟨fun pins s σ H Q I ⟨_, _, _, _, k⟩ => by unfold evT at k; exact k.elim⟩
theorem rd_two {a b : C} {f : D → D → Option R} (R : Rel W Γ F ρ σ H) (h : Ok W Γ E σ F (two (ev p n) a b f ρ) (KR W Γ σ Q)) :
    rd W p E n a σ H fun x H1 => rd W p E n b σ H1 fun y H2 => R2D W E f x y H2 Q := by
  unfold two at h
  refine ⟨Γ, ρ, F, R, h.bind.imp fun ra ρ1 F1 H1 s1 R1 h1 x hx => ⟨_, ρ1, F1, hx.keepRel R1, (h1.bind.keep hx R1).imp fun rb ρ2 F2 H2 s2 R2 ⟨hx2, R2', _, h2⟩ y hy => ?_⟩⟩
  have hy' := hy.unkeep hx.ownH0
  cases e1 : pk ra ρ2 with
  | none => rw [e1] at h2; exact h2.elim
  | some dx =>
    cases e2 : pk rb ρ2 with
    | none => rw [e1, e2] at h2; exact h2.elim
    | some dy =>
      rw [e1, e2] at h2
      exact ⟨Γ, ρ2, F2, σ, dx, dy, R2', hx2.pk R2' e1, hy'.pk R2' e2, h2⟩
theorem rd_peek {a : C} {β : Type} {g : D → En → O β} {L : β → En → Hp → Hp → Prop} (R : Rel W Γ F ρ σ H) (h : Ok W Γ E σ F ((peek (ev p n) a ρ).bind g) L) :
    rd W p E n a σ H fun x H1 => ∃ d ρ1 F1, Rel W Γ F1 ρ1 σ H1 ∧ Sub F F1 ∧ RdD W F1 H1 x d ∧ Ok W Γ E σ F1 (g d ρ1) L := by
  unfold peek at h
  refine ⟨Γ, ρ, F, R, h.bind.bind.imp fun ra ρ1 F1 H1 s1 R1 h1 x hx => ?_⟩
  cases e1 : pk ra ρ1 with
  | none => rw [e1] at h1; exact h1.elim
  | some dx =>
    rw [e1] at h1
    exact ⟨dx, ρ1, F1, R1, s1, hx.pk R1 e1, h1.at R1⟩
theorem rd_hold {a : C} {β : Type} {g : D → En → O β} {L : β → En → Hp → Hp → Prop} (R : Rel W Γ F ρ σ H) (h : Ok W Γ E σ F ((hold (ev p n) a ρ).bind g) L) :
    rd W p E n a σ H fun x H1 => ∃ d ρ1 F1, Rel W Γ F1 ρ1 σ H1 ∧ Sub F F1 ∧ Rep W F1 x d ∧ Ok W Γ E σ F1 (g d ρ1) L := by
  unfold hold at h
  refine ⟨Γ, ρ, F, R, h.bind.bind.imp fun ra ρ1 F1 H1 s1 R1 h1 x hx => ?_⟩
  cases e1 : frz ra ρ1 with
  | none => rw [e1] at h1; exact h1.elim
  | some q =>
    rw [e1] at h1
    obtain ⟨F2, s2, R2, rp, _⟩ := hx.frz R1 e1
    exact ⟨q.1, q.2, F2, R2, s1.trans s2, rp, (h1.sub s2).at R2⟩
end
/-! ### operators -/
theorem sizeL : 1000000 ≤ sizeLine := by decide
section
variable {W : Wd} {E : XK} {X : Cx}
theorem fits_le {n : Nat} (h : fits n = true) : n ≤ sizeLine := Nat.le_trans (of_decide_eq_true h) sizeL
theorem ok_if {W : Wd} {Γ : Gm} {E : XK} {σ : L2.St} {F : Hp} {α : Type} {c : Bool} {x : Option α} {ρ : En} {K : α → En → Hp → Hp → Prop} (h : Ok W Γ E σ F (O.of (if c = true then x else none) ρ) K) : c = true ∧ Ok W Γ E σ F (O.of x ρ) K := by
  cases c with
  | true => exact ⟨rfl, h⟩
  | false => exact h.elim
theorem op_addD (hK : X.K = W.K) : OpR X (binaryOp .Add) (R2D W E (binD .Add)) := by
  intro pins s σ' H x y v u Q I rx ry ⟨Γ, ρ, F, σ, dx, dy, R, hx, hy, h⟩
  cases dx <;> cases dy <;> try exact h.elim
  case int.int i j =>
    have e1 := rd_int hx; have e2 := rd_int hy; subst e1; subst e2
    exact op_add pins s σ' H _ _ v u Q I rx ry ⟨i, j, rfl, rfl, ans_int h R⟩
  case str.str i j =>
    have e1 := rd_str hx; have e2 := rd_str hy; subst e1; subst e2
    obtain ⟨c, h⟩ := ok_if h
    exact op_add_str pins s σ' H _ _ v u Q I rx ry ⟨i, j, rfl, rfl, fits_le c, ans_str h R⟩
  case tup.tup i j =>
    obtain ⟨a, vs, e1, t1, r1, q1⟩ := rd_tup R hx; obtain ⟨b, us, e2, t2, r2, q2⟩ := rd_tup R hy
    obtain ⟨c, h⟩ := ok_if h
    have c := fits_le c
    rw [← r1.length, ← r2.length] at c
    refine op_catA pins s σ' H x y v u Q I rx ry ⟨a, b, vs, us, e1, e2, hK ▸ t1, hK ▸ t2, c, fun z => ?_, fun z1 z2 => ?_, fun z1 z2 p hp => ans_tup h R (r1.append r2) hp⟩
    · subst z
      have : i = [] := List.eq_nil_of_length_eq_zero r1.length.symm
      subst this; rw [← e2]; exact ans_dat h R q2
    · subst z2
      have : j = [] := List.eq_nil_of_length_eq_zero r2.length.symm
      subst this; rw [← e1]; exact ans_dat h R (by rw [List.append_nil]; exact q1)
  case lst.lst i j =>
    obtain ⟨a, vs, e1, t1, r1⟩ := rd_lst R hx; obtain ⟨b, us, e2, t2, r2⟩ := rd_lst R hy
    obtain ⟨c, h⟩ := ok_if h
    have c := fits_le c
    rw [← r1.length, ← r2.length] at c
    exact op_cat pins s σ' H x y v u Q I rx ry ⟨a, b, vs, us, e1, e2, t1, t2, c, fun p hp => ans_lst h R (r1.append r2) hp⟩
theorem op_subD : OpR X (binaryOp .Sub) (R2D W E (binD .Sub)) := by
  intro pins s σ' H x y v u Q I rx ry ⟨Γ, ρ, F, σ, dx, dy, R, hx, hy, h⟩
  cases dx <;> cases dy <;> try exact h.elim
  case int.int i j =>
    have e1 := rd_int hx; have e2 := rd_int hy; subst e1; subst e2
    exact op_sub pins s σ' H _ _ v u Q I rx ry ⟨i, j, rfl, rfl, ans_int h R⟩
theorem op_mulD (hK : X.K = W.K) : OpR X (binaryOp .Mult) (R2D W E (binD .Mult)) := by
  intro pins s σ' H x y v u Q I rx ry ⟨Γ, ρ, F, σ, dx, dy, R, hx, hy, h⟩
  cases dx <;> cases dy <;> try exact h.elim
  case int.int i j =>
    have e1 := rd_int hx; have e2 := rd_int hy; subst e1; subst e2
    obtain ⟨c, h⟩ := ok_if h
    exact op_mulW pins s σ' H _ _ v u Q I rx ry ⟨i, j, rfl, rfl, mulOk_1 c, ans_int h R⟩
  case tup.int i k =>
    obtain ⟨a, vs, e1, t1, r1, q1⟩ := rd_tup R hx; have e2 := rd_int hy; subst e2
    obtain ⟨c, h⟩ := ok_if h
    simp only [Bool.and_eq_true, decide_eq_true_eq] at c
    obtain ⟨⟨c1, c2⟩, c3⟩ := c
    by_cases g : vs = [] ∨ k = 1
    · refine op_repT1 pins s σ' H x _ v u Q I rx ry ⟨a, k, vs, e1, rfl, hK ▸ t1, g, c1, c2, ?_⟩
      rw [← e1]
      refine ans_dat h R ?_
      have z : repL k i = i := by
        unfold repL
        rcases g with g | g
        · subst g
          have : i = [] := List.eq_nil_of_length_eq_zero r1.length.symm
          subst this
          induction k.toNat with
          | zero => rfl
          | succ n ih => rw [List.replicate_succ, List.flatten_cons, ih]; rfl
        · subst g
          show (List.replicate 1 i).flatten = i
          simp
      rw [z]; exact q1
    · have g1 : vs ≠ [] := fun z => g (.inl z)
      by_cases g2 : k ≤ 0
      · refine op_repT0 pins s σ' H x _ v u Q I rx ry ⟨a, k, vs, e1, rfl, hK ▸ t1, g1, c1, g2, fun p hp => ?_⟩
        have z : repL k i = [] := by
          unfold repL
          rw [show k.toNat = 0 by omega]; rfl
        rw [z] at h
        exact ans_tup h R Reps.nil hp
      · exact op_repT pins s σ' H x _ v u Q I rx ry ⟨a, k, vs, e1, rfl, hK ▸ t1, g1, by omega, c2, r1.length ▸ c3, fun p hp => ans_tup h R (r1.repl k.toNat) hp⟩
  case lst.int i k =>
    obtain ⟨a, vs, e1, t1, r1⟩ := rd_lst R hx; have e2 := rd_int hy; subst e2
    obtain ⟨c, h⟩ := ok_if h
    simp only [Bool.and_eq_true, decide_eq_true_eq] at c
    obtain ⟨⟨c1, c2⟩, c3⟩ := c
    refine op_rep pins s σ' H x _ v u Q I rx ry ⟨a, k, vs, e1, rfl, t1, by omega, by omega, ?_, fun p hp => ans_lst h R (r1.repl k.toNat) hp⟩
    have h1 : vs.length ≤ 1000 := r1.length ▸ c3
    have h2 : k.toNat ≤ 1000 := by omega
    exact Nat.le_trans (Nat.mul_le_mul h1 h2) sizeL
theorem op_modD : OpR X (binaryOp .Mod) (R2D W E (binD .Mod)) := by
  intro pins s σ' H x y v u Q I rx ry ⟨Γ, ρ, F, σ, dx, dy, R, hx, hy, h⟩
  cases dx <;> cases dy <;> try exact h.elim
  case int.int i j =>
    have e1 := rd_int hx; have e2 := rd_int hy; subst e1; subst e2
    obtain ⟨c, h⟩ := ok_if h
    exact op_modN pins s σ' H _ _ v u Q I rx ry ⟨i, j, rfl, rfl, of_decide_eq_true c, ans_int h R⟩
theorem op_powD : OpR X (binaryOp .Pow) (R2D W E (binD .Pow)) := by
  intro pins s σ' H x y v u Q I rx ry ⟨Γ, ρ, F, σ, dx, dy, R, hx, hy, h⟩
  cases dx <;> cases dy <;> try exact h.elim
  case int.int i j =>
    have e1 := rd_int hx; have e2 := rd_int hy; subst e1; subst e2
    obtain ⟨c, h⟩ := ok_if h
    simp only [Bool.and_eq_true, decide_eq_true_eq] at c
    obtain ⟨⟨c1, c2⟩, c3⟩ := c
    exact op_pow pins s σ' H _ _ v u Q I rx ry ⟨i, j, rfl, rfl, ⟨c1, by omega, c3⟩, ans_int h R⟩
theorem op_fdivAny : OpR X (binaryOp .FloorDiv) (rI (fun _ j => j ≠ 0 ∧ j.natAbs.log2 < 9000) fun i j => .int (i.fdiv j)) := opI fun _ _ _ _ _ _ _ c q => floordiv_int c.1 q (Or.inl (PyProof.noPylong_of_log2 c.2))
theorem op_fdivD : OpR X (binaryOp .FloorDiv) (R2D W E (binD .FloorDiv)) := by
  intro pins s σ' H x y v u Q I rx ry ⟨Γ, ρ, F, σ, dx, dy, R, hx, hy, h⟩
  cases dx <;> cases dy <;> try exact h.elim
  case int.int i j =>
    have e1 := rd_int hx; have e2 := rd_int hy; subst e1; subst e2
    obtain ⟨c, h⟩ := ok_if h
    have c := divOk_1 c
    exact op_fdivAny pins s σ' H _ _ v u Q I rx ry ⟨i, j, rfl, rfl, c, ans_int h R⟩
/-! ### data as the kit's data -/
mutual
theorem dp_of {F H : Hp} (s : Sub F H) : ∀ (d : D) (x : PyData) (v : V), d.py = some x → Rep W F v d → Dp W.K H v x
  | .non, x, v, e, r => by
    unfold Rep at r; unfold D.py at e; injection e with e; subst e; subst r; exact .non
  | .bl b, x, v, e, r => by
    unfold Rep at r; unfold D.py at e; injection e with e; subst e; subst r; exact .bl b
  | .int i, x, v, e, r => by
    unfold Rep at r; unfold D.py at e; injection e with e; subst e; subst r; exact .int i
  | .str z, x, v, e, r => by
    unfold Rep at r; unfold D.py at e; injection e with e; subst e; subst r; exact .str z
  | .tup xs, x, v, e, r => by
    unfold Rep at r; unfold D.py at e
    obtain ⟨a, vs, ev, q, r⟩ := r
    cases e2 : D.pyAll xs with
    | none => rw [e2] at e; exact nomatch e
    | some ys =>
      rw [e2] at e; injection e with e; subst e; subst ev
      exact .tup (sqT_sub s q) (dps_of s xs ys vs e2 r)
  | .lst xs, x, v, e, r => by
    unfold Rep at r; unfold D.py at e
    obtain ⟨a, vs, ev, q, r⟩ := r
    cases e2 : D.pyAll xs with
    | none => rw [e2] at e; exact nomatch e
    | some ys =>
      rw [e2] at e; injection e with e; subst e; subst ev
      exact .lst (.inl (.inl (s _ _ q))) (dps_of s xs ys vs e2 r)
  | .scr _, x, v, e, r => by unfold D.py at e; exact nomatch e
  | .fn _, x, v, e, r => by unfold D.py at e; exact nomatch e
  | .dct _ _, x, v, e, r => by unfold D.py at e; exact nomatch e
  | .obj _ _, x, v, e, r => by unfold D.py at e; exact nomatch e
theorem dps_of {F H : Hp} (s : Sub F H) : ∀ (ds : List D) (xs : List PyData) (vs : List V), D.pyAll ds = some xs → Reps W F vs ds → DpAll W.K H vs xs
  | [], xs, vs, e, r => by
    unfold D.pyAll at e; injection e with e; subst e; rw [r.nil_inv]; exact .nil
  | d :: ds, xs, vs, e, r => by
    unfold D.pyAll at e
    obtain ⟨u, us, ev, h, r'⟩ := r.cons_inv
    cases e1 : d.py with
    | none => rw [e1] at e; exact nomatch e
    | some x =>
      cases e2 : D.pyAll ds with
      | none => rw [e1, e2] at e; exact nomatch e
      | some ys =>
        rw [e1, e2] at e; injection e with e; subst e; rw [ev]
        exact .cons (dp_of s d x u e1 h) (dps_of s ds ys us e2 r')
end
mutual
theorem py_plain : ∀ (d : D) (x : PyData), d.py = some x → x.plain = true
  | .non, x, e => by unfold D.py at e; injection e with e; subst e; rfl
  | .bl b, x, e => by unfold D.py at e; injection e with e; subst e; rfl
  | .int i, x, e => by unfold D.py at e; injection e with e; subst e; rfl
  | .str z, x, e => by unfold D.py at e; injection e with e; subst e; rfl
  | .tup xs, x, e => by
    unfold D.py at e
    cases e2 : D.pyAll xs with
    | none => rw [e2] at e; exact nomatch e
    | some ys => rw [e2] at e; injection e with e; subst e; unfold PyData.plain; exact pys_plain xs ys e2
  | .lst xs, x, e => by
    unfold D.py at e
    cases e2 : D.pyAll xs with
    | none => rw [e2] at e; exact nomatch e
    | some ys => rw [e2] at e; injection e with e; subst e; unfold PyData.plain; exact pys_plain xs ys e2
  | .scr _, x, e => by unfold D.py at e; exact nomatch e
  | .fn _, x, e => by unfold D.py at e; exact nomatch e
  | .dct _ _, x, e => by unfold D.py at e; exact nomatch e
  | .obj _ _, x, e => by unfold D.py at e; exact nomatch e
theorem pys_plain : ∀ (ds : List D) (xs : List PyData), D.pyAll ds = some xs → PyData.plainAll xs = true
  | [], xs, e => by unfold D.pyAll at e; injection e with e; subst e; rfl
  | d :: ds, xs, e => by
    unfold D.pyAll at e
    cases e1 : d.py with
    | none => rw [e1] at e; exact nomatch e
    | some x =>
      cases e2 : D.pyAll ds with
      | none => rw [e1, e2] at e; exact nomatch e
      | some ys =>
        rw [e1, e2] at e; injection e with e; subst e
        unfold PyData.plainAll
        rw [py_plain d x e1, pys_plain ds ys e2]; rfl
end
theorem rd_dp {Γ : Gm} {F : Hp} {ρ : En} {σ : L2.St} {H : Hp} {v : V} {d : D} {x : PyData} (R : Rel W Γ F ρ σ H) (h : RdD W F H v d) (e : d.py = some x) : Dp W.K H v x := by
  rcases h with h | ⟨p, o, h1, h2, h3⟩
  · exact dp_of R.sub d x v e h
  · cases d with
    | lst xs =>
      obtain ⟨vs, h4, h5⟩ := h3
      unfold D.py at e
      cases e2 : D.pyAll xs with
      | none => rw [e2] at e; exact nomatch e
      | some ys =>
        rw [e2] at e; injection e with e; subst e; subst h1; subst h4
        exact .lst (.inl (.inl h2)) (dps_of R.sub xs ys vs e2 h5)
    | dct ks vs => unfold D.py at e; exact nomatch e
    | _ => exact h3.elim
theorem ok_map {Γ : Gm} {σ : L2.St} {F : Hp} {ρ : En} {o : Option Bool} {K : R → En → Hp → Hp → Prop} (h : Ok W Γ E σ F (O.of (o.map fun k => R.dat (.bl k)) ρ) K) : ∃ k, o = some k ∧ Ok W Γ E σ F (.ok (.dat (.bl k)) ρ) K := by
  cases o with
  | none => exact h.elim
  | some k => exact ⟨k, rfl, h⟩
/-- a comparison of data -/
def RCD (W : Wd) (E : XK) (op : CmpOp) : R2 := R2D W E fun x y => (cmpD op x y).map fun k => .dat (.bl k)
theorem py2 {x y : D} {k : Bool} (e : eqD x y = some k) : ∃ a b, x.py = some a ∧ y.py = some b ∧ a.depth ≤ 60 ∧ k = PyData.eqv a b := by
  unfold eqD at e
  cases e1 : x.py with
  | none => rw [e1] at e; exact nomatch e
  | some a =>
    cases e2 : y.py with
    | none => rw [e1, e2] at e; exact nomatch e
    | some b =>
      rw [e1, e2] at e
      dsimp only at e
      by_cases c : a.depth ≤ 60
      · rw [decide_eq_true c, if_pos rfl] at e; injection e with e; exact ⟨a, b, rfl, rfl, c, e.symm⟩
      · rw [decide_eq_false c, if_neg (by decide)] at e; exact nomatch e
theorem op_eqDD (hK : X.K = W.K) (hu : X.A.units + 64 < cLine) : OpR X (compareOp .Eq) (RCD W E .Eq) := by
  intro pins s σ' H x y v u Q I rx ry ⟨Γ, ρ, F, σ, dx, dy, R, hx, hy, h⟩
  obtain ⟨k, e, h⟩ := ok_map h
  obtain ⟨a, b, e1, e2, c, e3⟩ := py2 e
  obtain ⟨as, ra⟩ := Dp.reads I a x v (hK ▸ rd_dp R hx e1) rx
  obtain ⟨bs, rb⟩ := Dp.reads I b y u (hK ▸ rd_dp R hy e2) ry
  refine SeqAt.eq_plain ra rb (py_plain _ _ e1) (py_plain _ _ e2) (by have := Nat.min_le_left a.depth b.depth; omega) ?_
  rw [← e3]
  exact ⟨.bl k, H, I, rfl, ans_bl h R⟩
theorem op_neDD (hK : X.K = W.K) (hu : X.A.units + 64 < cLine) : OpR X (compareOp .NotEq) (RCD W E .NotEq) := by
  intro pins s σ' H x y v u Q I rx ry ⟨Γ, ρ, F, σ, dx, dy, R, hx, hy, h⟩
  obtain ⟨k, e, h⟩ := ok_map h
  unfold cmpD at e
  dsimp only at e
  cases e0 : eqD dx dy with
  | none => rw [e0] at e; exact nomatch e
  | some j =>
    rw [e0] at e; injection e with e
    obtain ⟨a, b, e1, e2, c, e3⟩ := py2 e0
    obtain ⟨as, ra⟩ := Dp.reads I a x v (hK ▸ rd_dp R hx e1) rx
    obtain ⟨bs, rb⟩ := Dp.reads I b y u (hK ▸ rd_dp R hy e2) ry
    refine SeqAt.ne_plain ra rb (py_plain _ _ e1) (py_plain _ _ e2) (by have := Nat.min_le_left a.depth b.depth; omega) ?_
    have e : (!j) = k := e
    rw [← e3, e]
    exact ⟨.bl k, H, I, rfl, ans_bl h R⟩
theorem op_cmpI {op : CmpOp} {f : Int → Int → Bool} (ho : OpR X (compareOp op) (rI0 fun i j => .bl (f i j))) (hc : ∀ x y : D, cmpD op x y = match x, y with | .int i, .int j => some (f i j) | _, _ => none) : OpR X (compareOp op) (RCD W E op) := by
  intro pins s σ' H x y v u Q I rx ry ⟨Γ, ρ, F, σ, dx, dy, R, hx, hy, h⟩
  obtain ⟨k, e, h⟩ := ok_map h
  rw [hc] at e
  cases dx <;> cases dy <;> try (injection e; done)
  case int.int i j =>
    have e1 := rd_int hx; have e2 := rd_int hy; subst e1; subst e2
    injection e with e; subst e
    exact ho pins s σ' H _ _ v u Q I rx ry ⟨i, j, rfl, rfl, ans_bl h R⟩
theorem op_ltD : OpR X (compareOp .Lt) (RCD W E .Lt) := op_cmpI op_lt fun x y => by cases x <;> cases y <;> rfl
theorem op_leD : OpR X (compareOp .LtE) (RCD W E .LtE) := op_cmpI op_le fun x y => by cases x <;> cases y <;> rfl
theorem op_gtD : OpR X (compareOp .Gt) (RCD W E .Gt) := op_cmpI op_gt fun x y => by cases x <;> cases y <;> rfl
theorem op_geD : OpR X (compareOp .GtE) (RCD W E .GtE) := op_cmpI op_ge fun x y => by cases x <;> cases y <;> rfl
def isNonD : D → Bool
  | .non => true
  | _ => false
theorem rd_isNone {Γ : Gm} {F : Hp} {ρ : En} {σ : L2.St} {H : Hp} {v : V} {d : D} (R : Rel W Γ F ρ σ H) (h : RdD W F H v d) : decide (v = V.non) = isNonD d := by
  cases d with
  | non => rw [rd_non h]; rfl
  | bl b => rw [rd_bl h]; rfl
  | int b => rw [rd_int h]; rfl
  | str b => rw [rd_str h]; rfl
  | tup xs => obtain ⟨a, vs, e, _⟩ := rd_tup R h; rw [e]; rfl
  | lst xs => obtain ⟨a, vs, e, _⟩ := rd_lst R h; rw [e]; rfl
  | scr xs => obtain ⟨a, e, _⟩ := rd_scr R h; rw [e]; rfl
  | fn k => obtain ⟨a, e, _⟩ := rd_fn h; rw [e]; rfl
  | dct ks vs => obtain ⟨_, _, a, e, _⟩ := rd_dct R h; rw [e]; rfl
  | obj c fs => exact (rd_obj h).elim
theorem op_isD : OpR X (compareOp .Is) (RCD W E .Is) := by
  intro pins s σ' H x y v u Q I rx ry ⟨Γ, ρ, F, σ, dx, dy, R, hx, hy, h⟩
  obtain ⟨k, e, h2⟩ := ok_map h
  cases dy <;> try (injection e; done)
  case bl b2 =>
    cases dx <;> try (injection e; done)
    case bl b1 =>
      have e1 := rd_bl hx; have e2 := rd_bl hy; subst e1; subst e2
      injection e with e; subst e
      exact op_is_bl pins s σ' H _ _ v u Q I rx ry ⟨_, _, rfl, rfl, ans_bl h2 R⟩
  have e2 := rd_non hy; subst e2
  refine op_isN pins s σ' H _ _ v u Q I rx ry ⟨rfl, ?_⟩
  rw [rd_isNone R hx]
  injection e with e
  have : isNonD dx = k := by rw [← e]; cases dx <;> rfl
  rw [this]; exact ans_bl h2 R
theorem op_isNotD : OpR X (compareOp .IsNot) (RCD W E .IsNot) := by
  intro pins s σ' H x y v u Q I rx ry ⟨Γ, ρ, F, σ, dx, dy, R, hx, hy, h⟩
  obtain ⟨k, e, h2⟩ := ok_map h
  cases dy <;> try (injection e; done)
  case bl b2 =>
    cases dx <;> try (injection e; done)
    case bl b1 =>
      have e1 := rd_bl hx; have e2 := rd_bl hy; subst e1; subst e2
      injection e with e; subst e
      exact op_isnot_bl pins s σ' H _ _ v u Q I rx ry ⟨_, _, rfl, rfl, ans_bl h2 R⟩
  have e2 := rd_non hy; subst e2
  refine op_notN pins s σ' H _ _ v u Q I rx ry ⟨rfl, ?_⟩
  rw [rd_isNone R hx]
  injection e with e
  have : (!isNonD dx) = k := by rw [← e]; cases dx <;> rfl
  rw [this]; exact ans_bl h2 R
theorem py_lst {ys : List D} {x : PyData} (e : (D.lst ys).py = some x) : ∃ zs, D.pyAll ys = some zs ∧ x = .list zs := by
  unfold D.py at e
  cases e2 : D.pyAll ys with
  | none => rw [e2] at e; exact nomatch e
  | some zs => rw [e2] at e; injection e with e; exact ⟨zs, rfl, e.symm⟩
theorem in_some {a : Option PyData} {b : Option (List PyData)} {neg : Bool} {k : Bool} (e : (match a with | some x => b.bind fun zs => if decide (x.depth ≤ 60) then some (neg ^^ zs.any fun y => PyData.eqv y x) else none | none => none) = some k) :
    ∃ x zs, a = some x ∧ b = some zs ∧ x.depth ≤ 60 ∧ k = (neg ^^ zs.any fun y => PyData.eqv y x) := by
  cases a with
  | none => exact nomatch e
  | some x =>
    cases b with
    | none => exact nomatch e
    | some zs =>
      dsimp only [Option.bind] at e
      by_cases c : x.depth ≤ 60
      · rw [decide_eq_true c, if_pos rfl] at e; injection e with e; exact ⟨x, zs, rfl, rfl, c, e.symm⟩
      · rw [decide_eq_false c, if_neg (by decide)] at e; exact nomatch e
theorem op_inD (hK : X.K = W.K) (hu : X.A.units + 64 < cLine) : OpR X (compareOp .In) (RCD W E .In) := by
  intro pins s σ' H x y v u Q I rx ry ⟨Γ, ρ, F, σ, dx, dy, R, hx, hy, h⟩
  obtain ⟨k, e, h2⟩ := ok_map h
  cases dy <;> try (unfold cmpD at e; dsimp only at e; cases q : dx.py <;> rw [q] at e <;> injection e; done)
  case lst ys =>
    obtain ⟨d, zs, e1, e2, c, e3⟩ := in_some (neg := false) (a := dx.py) (b := D.pyAll ys) (k := k) (by rw [← e]; unfold cmpD; dsimp only; cases dx.py <;> simp)
    obtain ⟨as, ra⟩ := Dp.reads I d x v (hK ▸ rd_dp R hx e1) rx
    have e2' : (D.lst ys).py = some (.list zs) := by unfold D.py; rw [e2]; rfl
    obtain ⟨bs, rb⟩ := Dp.reads I (.list zs) y u (hK ▸ rd_dp R hy e2') ry
    refine SeqAt.in_list_data rb ra (pys_plain _ _ e2) (py_plain _ _ e1) (by have := Nat.min_le_right (PyData.depthAll zs) d.depth; omega) ?_
    rw [Bool.false_xor] at e3
    rw [← e3]
    exact ⟨.bl k, H, I, rfl, ans_bl h2 R⟩
  case tup ys =>
    obtain ⟨d, zs, e1, e2, c, e3⟩ := in_some (neg := false) (a := dx.py) (b := D.pyAll ys) (k := k) (by rw [← e]; unfold cmpD; dsimp only; cases dx.py <;> simp)
    obtain ⟨as, ra⟩ := Dp.reads I d x v (hK ▸ rd_dp R hx e1) rx
    have e2' : (D.tup ys).py = some (.tuple zs) := by unfold D.py; rw [e2]; rfl
    obtain ⟨bs, rb⟩ := Dp.reads I (.tuple zs) y u (hK ▸ rd_dp R hy e2') ry
    refine SeqAt.in_tuple_data rb ra (pys_plain _ _ e2) (py_plain _ _ e1) (by have := Nat.min_le_right (PyData.depthAll zs) d.depth; omega) ?_
    rw [Bool.false_xor] at e3
    rw [← e3]
    exact ⟨.bl k, H, I, rfl, ans_bl h2 R⟩
theorem op_notInD (hK : X.K = W.K) (hu : X.A.units + 64 < cLine) : OpR X (compareOp .NotIn) (RCD W E .NotIn) := by
  intro pins s σ' H x y v u Q I rx ry ⟨Γ, ρ, F, σ, dx, dy, R, hx, hy, h⟩
  obtain ⟨k, e, h2⟩ := ok_map h
  cases dy <;> try (unfold cmpD at e; dsimp only at e; cases q : dx.py <;> rw [q] at e <;> injection e; done)
  case lst ys =>
    obtain ⟨d, zs, e1, e2, c, e3⟩ := in_some (neg := true) (a := dx.py) (b := D.pyAll ys) (k := k) (by rw [← e]; unfold cmpD; dsimp only; cases dx.py <;> simp)
    obtain ⟨as, ra⟩ := Dp.reads I d x v (hK ▸ rd_dp R hx e1) rx
    have e2' : (D.lst ys).py = some (.list zs) := by unfold D.py; rw [e2]; rfl
    obtain ⟨bs, rb⟩ := Dp.reads I (.list zs) y u (hK ▸ rd_dp R hy e2') ry
    refine SeqAt.notIn_list_data rb ra (pys_plain _ _ e2) (py_plain _ _ e1) (by have := Nat.min_le_right (PyData.depthAll zs) d.depth; omega) ?_
    rw [Bool.true_xor] at e3
    rw [← e3]
    exact ⟨.bl k, H, I, rfl, ans_bl h2 R⟩
  case tup ys =>
    obtain ⟨d, zs, e1, e2, c, e3⟩ := in_some (neg := true) (a := dx.py) (b := D.pyAll ys) (k := k) (by rw [← e]; unfold cmpD; dsimp only; cases dx.py <;> simp)
    obtain ⟨as, ra⟩ := Dp.reads I d x v (hK ▸ rd_dp R hx e1) rx
    have e2' : (D.tup ys).py = some (.tuple zs) := by unfold D.py; rw [e2]; rfl
    obtain ⟨bs, rb⟩ := Dp.reads I (.tuple zs) y u (hK ▸ rd_dp R hy e2') ry
    refine SeqAt.notIn_tuple_data rb ra (pys_plain _ _ e2) (py_plain _ _ e1) (by have := Nat.min_le_right (PyData.depthAll zs) d.depth; omega) ?_
    rw [Bool.true_xor] at e3
    rw [← e3]
    exact ⟨.bl k, H, I, rfl, ans_bl h2 R⟩
/-- any comparison that the evaluator knows -/
theorem op_cmpD (hK : X.K = W.K) (hu : X.A.units + 64 < cLine) : ∀ op : CmpOp, OpR X (compareOp op) (RCD W E op)
  | .Eq => op_eqDD hK hu
  | .NotEq => op_neDD hK hu
  | .Lt => op_ltD
  | .LtE => op_leD
  | .Gt => op_gtD
  | .GtE => op_geD
  | .Is => op_isD
  | .IsNot => op_isNotD
  | .In => op_inD hK hu
  | .NotIn => op_notInD hK hu
theorem op_binD (hK : X.K = W.K) : ∀ op : Operator, OpR X (binaryOp op) (R2D W E (binD op)) := fun op => by
  cases op with
  | Add => exact op_addD hK
  | Sub => exact op_subD
  | Mult => exact op_mulD hK
  | Mod => exact op_modD
  | Pow => exact op_powD
  | FloorDiv => exact op_fdivD
  | _ =>
    intro pins s σ' H x y v u Q I rx ry ⟨Γ, ρ, F, σ, dx, dy, R, hx, hy, h⟩
    cases dx <;> cases dy <;> exact h.elim
end
end Pv
end PvC_
section PvD_
set_option maxRecDepth 100000
/-! PvD: expressions by the evaluator: names, operators, displays, subscripts, slices, tests. -/
namespace Pv
open PySem PySem.Spec PyProof.Rows L2
/-- operands' results; new things stand apart -/
def Apart1 (v : V) (r : R) (vs : List V) (rs : List R) : Prop := (∃ d, r = .own d) → ∀ (j : Nat) (v' : V) (d' : D), vs[j]? = some v' → rs[j]? = some (.own d') → v' ≠ v
def RepRs (W : Wd) (Γ : Gm) (F : Hp) (ρ : En) (σ : L2.St) (H : Hp) : List V → List R → Prop
  | [], [] => True
  | v :: vs, r :: rs => RepR W Γ F ρ σ H v r ∧ RepRs W Γ F ρ σ H vs rs ∧ Apart1 v r vs rs
  | _, _ => False
def RdDs (W : Wd) (F H : Hp) : List V → List D → Prop
  | [], [] => True
  | v :: vs, d :: ds => RdD W F H v d ∧ RdDs W F H vs ds
  | _, _ => False
section
variable {W : Wd} {p : Pr} {E : XK} {n : Nat} {X : Cx} {Γ : Gm} {σ : L2.St} {F F' : Hp} {ρ ρ' : En} {H H' : Hp} {Q : VK}
theorem RepRs.pks : ∀ {rs : List R} {vs : List V} {ds : List D}, Rel W Γ F ρ σ H → RepRs W Γ F ρ σ H vs rs → pks rs ρ = some ds → RdDs W F H vs ds
  | [], [], ds, R, h, e => by injection e with e; subst e; trivial
  | [], _ :: _, ds, R, h, e => h.elim
  | _ :: _, [], ds, R, h, e => h.elim
  | r :: rs, v :: vs, ds, R, h, e => by
    unfold Pv.pks at e
    cases e1 : pk r ρ with
    | none => rw [e1] at e; exact nomatch e
    | some d =>
      cases e2 : Pv.pks rs ρ with
      | none => rw [e1, e2] at e; exact nomatch e
      | some es =>
        rw [e1, e2] at e; injection e with e; subst e
        exact ⟨h.1.pk R e1, h.2.1.pks R e2⟩
theorem RepRs.get : ∀ {rs : List R} {vs : List V} {j : Nat} {r : R}, RepRs W Γ F ρ σ H vs rs → rs[j]? = some r → ∃ v, vs[j]? = some v ∧ RepR W Γ F ρ σ H v r
  | [], [], j, r, h, e => by simp at e
  | [], _ :: _, _, _, h, e => h.elim
  | _ :: _, [], _, _, h, e => h.elim
  | r :: rs, v :: vs, 0, r', h, e => by
    rw [List.getElem?_cons_zero] at e; injection e with e; subst e
    exact ⟨v, rfl, h.1⟩
  | r :: rs, v :: vs, j + 1, r', h, e => by
    rw [List.getElem?_cons_succ] at e
    obtain ⟨u, e1, r1⟩ := h.2.1.get e
    exact ⟨u, by rw [List.getElem?_cons_succ]; exact e1, r1⟩
theorem RepRs.length : ∀ {rs : List R} {vs : List V}, RepRs W Γ F ρ σ H vs rs → vs.length = rs.length
  | [], [], _ => rfl
  | [], _ :: _, h => h.elim
  | _ :: _, [], h => h.elim
  | r :: rs, v :: vs, h => by rw [List.length_cons, List.length_cons, h.2.1.length]
/-- all stay what they are behind a change that keeps each -/
theorem RepRs.map {Γ' : Gm} {σ' : L2.St} : ∀ {rs : List R} {vs : List V}, RepRs W Γ F ρ σ H vs rs → (∀ (j : Nat) v r, vs[j]? = some v → rs[j]? = some r → RepR W Γ F ρ σ H v r → RepR W Γ' F' ρ' σ' H' v r) → RepRs W Γ' F' ρ' σ' H' vs rs
  | [], [], _, _ => trivial
  | [], _ :: _, h, _ => h.elim
  | _ :: _, [], h, _ => h.elim
  | r :: rs, v :: vs, h, k => ⟨k 0 v r rfl rfl h.1, h.2.1.map fun j v' r' e1 e2 h' => k (j + 1) v' r' (by rw [List.getElem?_cons_succ]; exact e1) (by rw [List.getElem?_cons_succ]; exact e2) h', h.2.2⟩
/-- all become data -/
theorem RepRs.frzs : ∀ {rs : List R} {vs : List V} {F : Hp} {ρ : En} {q : List D × En}, Rel W Γ F ρ σ H → RepRs W Γ F ρ σ H vs rs → frzs rs ρ = some q → ∃ F', Sub F F' ∧ Rel W Γ F' q.2 σ H ∧ Reps W F' vs q.1 ∧
    ∀ v' r', RepR W Γ F ρ σ H v' r' → (∀ d, r' ≠ .own d) → RepR W Γ F' q.2 σ H v' r'
  | [], [], F, ρ, q, R, h, e => by injection e with e; subst e; exact ⟨F, Sub.rfl, R, Reps.nil, fun _ _ h _ => h⟩
  | [], _ :: _, _, _, _, R, h, e => h.elim
  | _ :: _, [], _, _, _, R, h, e => h.elim
  | r :: rs, v :: vs, F, ρ, q, R, h, e => by
    unfold Pv.frzs at e
    cases e1 : frz r ρ with
    | none => rw [e1] at e; exact nomatch e
    | some t =>
      rw [e1] at e
      dsimp only [Option.bind] at e
      obtain ⟨F1, s1, R1, rp, k⟩ := h.1.frz R e1
      cases e2 : Pv.frzs rs t.2 with
      | none => rw [e2] at e; exact nomatch e
      | some u =>
        rw [e2] at e; injection e with e; subst e
        have h2 : RepRs W Γ F1 t.2 σ H vs rs := h.2.1.map fun j v' r' a1 a2 h' => k v' r' h' fun z1 ⟨d, z2⟩ => h.2.2 z1 j v' d a1 (z2 ▸ a2)
        obtain ⟨F2, s2, R2, rps, k2⟩ := RepRs.frzs R1 h2 e2
        exact ⟨F2, s1.trans s2, R2, rps.cons (rp.mono s2 _), fun v' r' h' n => k2 v' r' (k v' r' h' fun _ ⟨d, z⟩ => absurd z (n d)) n⟩
/-! ### names and literals -/
theorem pe_varD {i : Nat} {x : Str} {pos : Pos} (hN : X.N[i]? = some x) (hv : Vis X.env.scope x) (hd : (x == ("__debug__" : Str)) = false) (hcd : (x == ("__classdict__" : Str)) = false) : PE X (.Name x pos) (rd W p E (n + 1) (.var i)) :=
  (pe_var (i := i) hN hv hd hcd).weak fun σ H Q ⟨Γ, ρ, F, R, h⟩ => by
    unfold ev at h
    dsimp only at h
    cases e : getS ρ i with
    | emp => rw [e] at h; exact h.elim
    | cls _ => rw [e] at h; exact h.elim
    | dat d =>
      rw [e] at h
      obtain ⟨v, ev, rv⟩ := R.sl i _ (getS_some e (fun z => nomatch z))
      exact ⟨v, ev, ans_dat h R rv⟩
    | own b l d =>
      rw [e] at h
      obtain ⟨q, o, e1, _⟩ := R.slotOwn (getS_some e (fun z => nomatch z))
      exact ⟨_, e1, h.at R _ e1⟩
theorem pe_litD {e : Expr} {d : D} {v : V} (h : PE X e (tC v)) (hr : ∀ F, Rep W F v d) : PE X e (rd W p E (n + 1) (.lit d)) :=
  h.weak fun σ H Q ⟨Γ, ρ, F, R, h⟩ => by
    unfold ev at h
    exact ans_dat h R (hr F)
/-! ### operators -/
theorem pe_twoD {e : Expr} {a b : Expr} {ca cb : C} {c : C} {f : D → D → Option R} (hE : ∀ (ta tb : TE), PE X a ta → PE X b tb → PE X e (tOp (R2D W E f) ta tb))
    (ha : PE X a (rd W p E n ca)) (hb : PE X b (rd W p E n cb)) (hc : ∀ ρ, ev p (n + 1) c ρ = two (ev p n) ca cb f ρ) : PE X e (rd W p E (n + 1) c) :=
  (hE _ _ ha hb).weak fun σ H Q ⟨Γ, ρ, F, R, h⟩ => by
    rw [hc] at h
    exact rd_two R h
theorem pe_binD {a b : Expr} {ca cb : C} {op : Operator} {pos : Pos} (hK : X.K = W.K) (ha : PE X a (rd W p E n ca)) (hb : PE X b (rd W p E n cb)) : PE X (.BinOp a op b pos) (rd W p E (n + 1) (.bin op ca cb)) :=
  pe_twoD (fun _ _ x y => pe_op (op_binD hK op) x y) ha hb fun ρ => by unfold ev; rfl
theorem pe_cmpD {a b : Expr} {ca cb : C} {op : CmpOp} {pos : Pos} (hK : X.K = W.K) (hu : X.A.units + 64 < cLine) (hm : behindInMarks op b = false) (ha : PE X a (rd W p E n ca)) (hb : PE X b (rd W p E n cb)) : PE X (.Compare a [op] [b] pos) (rd W p E (n + 1) (.cmp op ca cb)) :=
  pe_twoD (fun _ _ x y => pe_cmpR (op_cmpD hK hu op) x y hm) ha hb fun ρ => by unfold ev; rfl
theorem pe_negD {a : Expr} {ca : C} {pos : Pos} (ha : PE X a (rd W p E n ca)) : PE X (.UnaryOp .USub a pos) (rd W p E (n + 1) (.neg ca)) :=
  (pe_un un_neg ha).weak fun σ H Q ⟨Γ, ρ, F, R, h⟩ => by
    unfold ev at h
    obtain ⟨Γ', ρ', F', R', h'⟩ := rd_peek R h
    refine ⟨Γ', ρ', F', R', h'.imp fun r ρ1 F1 H1 s1 R1 k v hv => ?_⟩
    obtain ⟨d, ρ2, F2, R2, s2, rd2, k⟩ := k v hv
    cases d <;> try exact k.elim
    case int i =>
      have e := rd_int rd2; subst e
      exact ⟨i, rfl, ans_int k R2⟩
theorem pe_notD {a : Expr} {ca : C} {pos : Pos} (ha : PE X a (rd W p E n ca)) : PE X (.UnaryOp .Not a pos) (rd W p E (n + 1) (.notv ca)) :=
  (pe_not ha).weak fun σ H Q ⟨Γ, ρ, F, R, h⟩ => by
    unfold ev at h
    obtain ⟨Γ', ρ', F', R', h'⟩ := rd_peek R h
    refine ⟨Γ', ρ', F', R', h'.imp fun r ρ1 F1 H1 s1 R1 k v hv => ?_⟩
    obtain ⟨d, ρ2, F2, R2, s2, rd2, k⟩ := k v hv
    cases d <;> try exact k.elim
    case bl i =>
      have e := rd_bl rd2; subst e
      exact ⟨i, rfl, ans_bl k R2⟩
theorem pe_andD {a b : Expr} {rest : List Expr} {ca cb : C} {pos : Pos} (ha : PE X a (rd W p E n ca)) (hb : PE X (.BoolOp .And (b :: rest) pos) (rd W p E n cb)) : PE X (.BoolOp .And (a :: b :: rest) pos) (rd W p E (n + 1) (.andv ca cb)) :=
  (pe_and ha hb).weak fun σ H Q ⟨Γ, ρ, F, R, h⟩ => by
    unfold ev at h
    obtain ⟨Γ', ρ', F', R', h'⟩ := rd_peek R h
    refine ⟨Γ', ρ', F', R', h'.imp fun r ρ1 F1 H1 s1 R1 k v hv => ?_⟩
    obtain ⟨d, ρ2, F2, R2, s2, rd2, k⟩ := k v hv
    cases d <;> try exact k.elim
    case bl i =>
      have e := rd_bl rd2; subst e
      refine ⟨i, rfl, ?_⟩
      cases i with
      | true => exact ⟨Γ, ρ2, F2, R2, k⟩
      | false => exact ans_bl k R2
theorem pe_orD {a b : Expr} {rest : List Expr} {ca cb : C} {pos : Pos} (ha : PE X a (rd W p E n ca)) (hb : PE X (.BoolOp .Or (b :: rest) pos) (rd W p E n cb)) : PE X (.BoolOp .Or (a :: b :: rest) pos) (rd W p E (n + 1) (.orv ca cb)) :=
  (pe_or ha hb).weak fun σ H Q ⟨Γ, ρ, F, R, h⟩ => by
    unfold ev at h
    obtain ⟨Γ', ρ', F', R', h'⟩ := rd_peek R h
    refine ⟨Γ', ρ', F', R', h'.imp fun r ρ1 F1 H1 s1 R1 k v hv => ?_⟩
    obtain ⟨d, ρ2, F2, R2, s2, rd2, k⟩ := k v hv
    cases d <;> try exact k.elim
    case bl i =>
      have e := rd_bl rd2; subst e
      refine ⟨i, rfl, ?_⟩
      cases i with
      | true => exact ans_bl k R2
      | false => exact ⟨Γ, ρ2, F2, R2, k⟩
theorem pe_iteD {t a b : Expr} {ct : T} {ca cb : C} {pos : Pos} (ht : PT X t (rdT W p E n ct)) (ha : PE X a (rd W p E n ca)) (hb : PE X b (rd W p E n cb)) : PE X (.IfExp t a b pos) (rd W p E (n + 1) (.ite ct ca cb)) :=
  (pe_ifExp ht ha hb).weak fun σ H Q ⟨Γ, ρ, F, R, h⟩ => by
    unfold ev at h
    refine ⟨Γ, ρ, F, R, h.bind.imp fun k ρ1 F1 H1 s1 R1 h1 => ?_⟩
    cases k with
    | true => rw [if_pos rfl]; exact ⟨Γ, ρ1, F1, R1, h1⟩
    | false => rw [if_neg (by decide)]; exact ⟨Γ, ρ1, F1, R1, h1⟩
theorem chn_rd {ca cb cc : C} {o1 o2 : CmpOp} (h : rd W p E (n + 1) (.chn o1 o2 ca cb cc) σ H Q) : tChain (RCD W E o1) (RCD W E o2) (rd W p E n ca) (rd W p E n cb) (rd W p E n cc) σ H Q := by
    obtain ⟨Γ, ρ, F, R, h⟩ := h
    unfold ev at h
    dsimp only at h
    refine ⟨Γ, ρ, F, R, h.bind.imp fun ra ρ1 F1 H1 s1 R1 h1 x hx => ⟨_, ρ1, F1, hx.keepRel R1, (h1.bind.keep hx R1).imp fun rb ρ2 F2 H2 s2 R2k ⟨hx2, R2, _, h2⟩ y hy => ?_⟩⟩
    have hy := hy.unkeep hx.ownH0
    cases e1 : pk ra ρ2 with
    | none => rw [e1] at h2; exact h2.elim
    | some dx =>
      cases e2 : pk rb ρ2 with
      | none => rw [e1, e2] at h2; exact h2.elim
      | some dy =>
        rw [e1, e2] at h2
        dsimp only at h2
        cases e3 : cmpD o1 dx dy with
        | none => rw [e3] at h2; exact h2.elim
        | some k =>
          rw [e3] at h2
          refine ⟨_, ρ2, F2, σ, dx, dy, hy.keepRel R2, hx2.pk R2 e1, hy.pk R2 e2, ?_⟩
          dsimp only
          rw [e3]
          intro F3 H3 s3 R3k v hv
          have hv' : v = V.bl k := by
            have hv : Rep W F3 v (.bl k) := hv
            unfold Rep at hv; exact hv
          refine ⟨k, hv', ?_⟩
          obtain ⟨hy3, R3, e4⟩ := (hy.after R2 s3 R3k)
          cases k with
          | false => rw [if_neg (by decide)]; exact h2 F3 H3 s3 R3 _ (by show Rep W F3 _ _; unfold Rep; rfl)
          | true =>
            rw [if_pos rfl]
            refine ⟨_, ρ2, F3, R3k, e4 ▸ ((h2.bind.sub s3).keep hy3 R3).imp fun rc ρ3 F4 H4 s4 R4k ⟨hy4, R4, _, h4⟩ w hw => ?_⟩
            have hw := hw.unkeep hy3.ownH0
            cases e5 : pk rb ρ3 with
            | none => rw [e5] at h4; exact h4.elim
            | some dy' =>
              cases e6 : pk rc ρ3 with
              | none => rw [e5, e6] at h4; exact h4.elim
              | some dz =>
                rw [e5, e6] at h4
                exact ⟨Γ, ρ3, F4, σ, dy', dz, R4, hy4.pk R4 e5, hw.pk R4 e6, h4⟩
theorem pe_chnD {a b c : Expr} {ca cb cc : C} {o1 o2 : CmpOp} {pos : Pos} (hK : X.K = W.K) (hu : X.A.units + 64 < cLine) (hm : lastMarks [o1, o2] [b, c] = false) (ha : PE X a (rd W p E n ca)) (hb : PE X b (rd W p E n cb)) (hc : PE X c (rd W p E n cc)) :
    PE X (.Compare a [o1, o2] [b, c] pos) (rd W p E (n + 1) (.chn o1 o2 ca cb cc)) :=
  (pe_chain (op_cmpD (W := W) (E := E) hK hu o1) (op_cmpD (W := W) (E := E) hK hu o2) ha hb hc hm).weak fun σ H Q h => chn_rd h
/-! ### argument lists, displays -/
def notStar : Expr → Bool
  | .Starred _ _ => false
  | _ => true
theorem star_cons {e : Expr} (es : List Expr) (env : Env) (h : notStar e = true) : starEach (e :: es) env = (false, eval e env) :: starEach es env := by
  cases e <;> first
    | rfl
    | exact nomatch h
theorem star_none {pos : Pos} {env : Env} : ∀ {es : List Expr}, es.all notStar = true → (backTo pos (starEach es env)).any (·.1) = false
  | [], _ => rfl
  | e :: es, h => by
    rw [List.all_cons, Bool.and_eq_true] at h
    rw [star_cons es env h.1]
    show (false || (backTo pos (starEach es env)).any (·.1)) = false
    rw [Bool.false_or]; exact star_none h.2
def rdA (W : Wd) (p : Pr) (E : XK) (n : Nat) (cs : List C) : TA := fun σ H Q => ∃ Γ ρ F, Rel W Γ F ρ σ H ∧ Ok W Γ E σ F (evs (ev p n) cs ρ) (fun rs ρ' F' H' => ∀ vs, RepRs W Γ F' ρ' σ H' vs rs → Q vs H')
theorem _root_.L2.PA.weak {es : List Expr} {t t' : TA} (h : PA X es t) (w : ∀ σ H Q, t' σ H Q → t σ H Q) : PA X es t' := ⟨fun pos pins s σ H Q I q => h.run pos pins s σ H Q I (w _ _ _ q)⟩
theorem pa_nilD : PA X [] (rdA W p E n []) := pa_nil.weak fun σ H Q ⟨Γ, ρ, F, R, h⟩ => h.at R [] trivial
theorem keep_apart {v v' : V} {r : R} {d' : D} {H2 : Hp} (h : RepR W (Γ.keepR H v r) F ρ σ H2 v' (.own d')) (hv : RepR W Γ F ρ σ H v r) (hr : ∃ d, r = .own d) : v' ≠ v := by
  rintro rfl
  obtain ⟨d, rfl⟩ := hr
  obtain ⟨q, o, rfl, h2, h3, h4, h5, h6⟩ := hv
  obtain ⟨q', o', g1, g2, g3, g4, g5, g6⟩ := h
  injection g1 with g1; subst g1
  have g5 : (match H q with | some o => Γ.add q o | none => Γ).H0 q = none := g5
  rw [h2] at g5
  have g5 : upd Γ.H0 q o q = none := g5
  rw [upd_same] at g5; exact nomatch g5
theorem pa_consD {e : Expr} {es : List Expr} {c : C} {cs : List C} (hs : notStar e = true) (ha : PE X e (rd W p E n c)) (hr : PA X es (rdA W p E n cs)) : PA X (e :: es) (rdA W p E n (c :: cs)) :=
  (pa_cons ha hr (star_cons es _ hs)).weak fun σ H Q ⟨Γ, ρ, F, R, h⟩ => by
    refine ⟨Γ, ρ, F, R, h.bind.imp fun r ρ1 F1 H1 s1 R1 h1 x hx => ⟨_, ρ1, F1, hx.keepRel R1, (h1.bind.keep hx R1).imp fun rs ρ2 F2 H2 s2 R2k ⟨hx2, R2, e, h2⟩ xs hxs => ?_⟩⟩
    refine h2.at R2 (x :: xs) ⟨hx2, hxs.map fun j v r' _ _ h' => h'.unkeep hx.ownH0, fun hr j v' d' a1 a2 => ?_⟩
    rw [← e] at hxs
    obtain ⟨u, b1, b2⟩ := hxs.get a2
    rw [a1] at b1; injection b1 with b1; subst b1
    exact keep_apart b2 hx2 hr
def rdDs (W : Wd) (p : Pr) (E : XK) (n : Nat) (cs : List C) : TA := fun σ H Q => ∃ Γ ρ F, Rel W Γ F ρ σ H ∧ Ok W Γ E σ F (disp (ev p n) cs ρ) (fun ds ρ' F' H' => ∀ vs, Reps W F' vs ds → Q vs H')
theorem pd_nilD : PA X [] (rdDs W p E n []) := pa_nil.weak fun σ H Q ⟨Γ, ρ, F, R, h⟩ => h.at R [] Reps.nil
def notStarC : C → Bool
  | .star _ => false
  | _ => true
theorem disp_cons {e : C → En → O R} {c : C} {cs : List C} {ρ : En} (h : notStarC c = true) : disp e (c :: cs) ρ = (e c ρ).bind fun r ρ1 => match frz r ρ1 with
    | some (d, ρ2) => (disp e cs ρ2).bind fun ds ρ3 => .ok (d :: ds) ρ3
    | none => .bad := by
  cases c <;> first
    | rfl
    | exact nomatch h
theorem pd_consD {e : Expr} {es : List Expr} {c : C} {cs : List C} (hs : notStar e = true) (hc : notStarC c = true) (ha : PE X e (rd W p E n c)) (hr : PA X es (rdDs W p E n cs)) : PA X (e :: es) (rdDs W p E n (c :: cs)) :=
  (pa_cons ha hr (star_cons es _ hs)).weak fun σ H Q ⟨Γ, ρ, F, R, h⟩ => by
    rw [disp_cons hc] at h
    refine ⟨Γ, ρ, F, R, h.bind.imp fun r ρ1 F1 H1 s1 R1 h1 x hx => ?_⟩
    cases e1 : frz r ρ1 with
    | none => rw [e1] at h1; exact h1.elim
    | some q =>
      rw [e1] at h1
      obtain ⟨F2, s2, R2, rp, _⟩ := hx.frz R1 e1
      refine ⟨Γ, q.2, F2, R2, (h1.bind.sub s2).imp fun ds ρ3 F3 H3 s3 R3 h3 vs hvs => ?_⟩
      exact h3.at R3 (x :: vs) (hvs.cons (rp.mono s3 _))
theorem items_rd {R' : Rel W Γ F ρ σ H} {v : V} {d : D} {xs : List D} (h : RdD W F H v d) (e : items d = some xs) : ∃ a vs, v = .ref a ∧ ((SqT W.K H a vs ∧ Rep W F v (.tup xs)) ∨ H a = some (.lst vs)) ∧ Reps W F vs xs := by
  cases d <;> try (injection e; done)
  case tup ys =>
    injection e with e; subst e
    obtain ⟨a, vs, e1, t1, r1, q⟩ := rd_tup R' h
    exact ⟨a, vs, e1, .inl ⟨t1, q⟩, r1⟩
  case lst ys =>
    injection e with e; subst e
    obtain ⟨a, vs, e1, t1, r1⟩ := rd_lst R' h
    exact ⟨a, vs, e1, .inr t1, r1⟩
theorem pd_starD {e : Expr} {es : List Expr} {c : C} {cs : List C} {pos : Pos} (hK : X.K = W.K) (ha : PE X e (rd W p E n c)) (hr : PA X es (rdDs W p E n cs)) : PA X (.Starred e pos :: es) (rdDs W p E n (.star c :: cs)) :=
  (StX.pa_star ha hr rfl).weak fun σ H Q ⟨Γ, ρ, F, R, h⟩ => by
    refine ⟨Γ, ρ, F, R, Ok.imp (Ok.bind (show Ok W Γ E σ F ((ev p n c ρ).bind _) _ from h)) fun r ρ1 F1 H1 s1 R1 h1 x hx => ?_⟩
    cases e1 : pk r ρ1 with
    | none => rw [e1] at h1; exact h1.elim
    | some d =>
      rw [e1] at h1
      dsimp only [Option.bind] at h1
      cases e2 : items d with
      | none => rw [e2] at h1; exact h1.elim
      | some ys =>
        rw [e2] at h1
        obtain ⟨a, vs, ex, hq, rp⟩ := items_rd (R' := R1) (hx.pk R1 e1) e2
        refine ⟨a, vs, ex, ?_, Γ, ρ1, F1, R1, h1.bind.imp fun ds ρ3 F3 H3 s3 R3 h3 us hus => ?_⟩
        · rcases hq with hq | hq
          · exact .inl (hK ▸ hq.1)
          · exact .inr (.inl (.inl hq))
        · exact h3.at R3 (vs ++ us) ((rp.mono s3 _).append hus)
theorem ok_if2 {α : Type} {c : Bool} {x y : O α} {K : α → En → Hp → Hp → Prop} (h : Ok W Γ E σ F (if c = true then x else .bad) K) : c = true ∧ Ok W Γ E σ F x K := by
  cases c with
  | true => exact ⟨rfl, h⟩
  | false => exact h.elim
theorem pe_tupD {es : List Expr} {cs : List C} {k : Nat} {pos : Pos} (h : PA X es (rdDs W p E n cs)) : PE X (.Tuple es k pos) (rd W p E (n + 1) (.tup cs)) :=
  (pe_tup h).weak fun σ H Q ⟨Γ, ρ, F, R, h⟩ => by
    unfold ev at h
    refine ⟨Γ, ρ, F, R, h.bind.imp fun ds ρ1 F1 H1 s1 R1 h1 vs hvs => ?_⟩
    obtain ⟨c, h1⟩ := ok_if2 (y := .bad) h1
    refine ⟨by rw [hvs.length]; exact fits_le c, fun a ha => ans_tup h1 R1 hvs ha⟩
theorem pe_lstD {es : List Expr} {cs : List C} {pos : Pos} (h : PA X es (rdDs W p E n cs)) : PE X (.List es pos) (rd W p E (n + 1) (.lst cs)) :=
  (pe_lst h).weak fun σ H Q ⟨Γ, ρ, F, R, h⟩ => by
    unfold ev at h
    refine ⟨Γ, ρ, F, R, h.bind.imp fun ds ρ1 F1 H1 s1 R1 h1 vs hvs => ?_⟩
    obtain ⟨c, h1⟩ := ok_if2 (y := .bad) h1
    refine ⟨by rw [hvs.length]; exact fits_le c, fun a ha => ans_lst h1 R1 hvs ha⟩
/-! ### subscripts, slices -/
theorem atI_reps {vs : List V} {xs : List D} {i : Int} {d : D} (r : Reps W F vs xs) (e : L2.atI xs i = some d) : ∃ v, L2.atI vs i = some v ∧ Rep W F v d := by
  unfold L2.atI at e ⊢
  rw [r.length]
  cases q : L2.ixN xs.length i with
  | none => rw [q] at e; exact nomatch e
  | some j =>
    rw [q] at e
    obtain ⟨v, e1, r1⟩ := r.get e
    exact ⟨v, e1, r1⟩
theorem ix_D (hK : X.K = W.K) : IxR X (R2D W E fun x y => (idxD x y).map R.dat) := by
  intro value slice pins s σ' H x y v u Q I rx ry ⟨Γ, ρ, F, σ, dx, dy, R, hx, hy, h⟩ hs
  cases dx <;> cases dy <;> try exact h.elim
  case tup.int xs i =>
    obtain ⟨a, vs, e1, t1, r1, _⟩ := rd_tup R hx; have e2 := rd_int hy; subst e2
    dsimp only [idxD] at h
    cases q : L2.atI xs i with
    | none => rw [q] at h; exact h.elim
    | some d =>
      rw [q] at h
      obtain ⟨z, ez, rz⟩ := atI_reps r1 q
      exact ix_seq value slice pins s σ' H x _ v u Q I rx ry (.inr (.inl ⟨a, vs, i, z, e1, rfl, hK ▸ t1, ez, ans_dat h R rz⟩)) hs
  case lst.int xs i =>
    obtain ⟨a, vs, e1, t1, r1⟩ := rd_lst R hx; have e2 := rd_int hy; subst e2
    dsimp only [idxD] at h
    cases q : L2.atI xs i with
    | none => rw [q] at h; exact h.elim
    | some d =>
      rw [q] at h
      obtain ⟨z, ez, rz⟩ := atI_reps r1 q
      exact ix_seq value slice pins s σ' H x _ v u Q I rx ry (.inl ⟨a, vs, i, z, e1, rfl, .inl (.inl t1), ez, ans_dat h R rz⟩) hs
  case scr.int ns i =>
    obtain ⟨a, e1, t1⟩ := rd_scr R hx; have e2 := rd_int hy; subst e2
    dsimp only [idxD] at h
    cases q : L2.atI ns i with
    | none => rw [q] at h; exact h.elim
    | some d =>
      rw [q] at h
      have ez : L2.atI (ns.map V.int) i = some (.int d) := by
        unfold L2.atI at q ⊢
        rw [List.length_map]
        cases q2 : L2.ixN ns.length i with
        | none => rw [q2] at q; exact nomatch q
        | some j =>
          rw [q2] at q
          show (ns.map V.int)[j]? = _
          rw [List.getElem?_map, show ns[j]? = some d from q]; rfl
      exact ix_seq value slice pins s σ' H x _ v u Q I rx ry (.inl ⟨a, _, i, _, e1, rfl, hK ▸ t1, ez, ans_int h R⟩) hs
def plainIx : Expr → Bool
  | .Slice _ _ _ _ => false
  | _ => true
theorem plainIx_ok {b : Expr} (h : plainIx b = true) : PlainIx b := by
  intro o i
  cases b <;> first
    | rfl
    | exact nomatch h
theorem pe_idxD {a b : Expr} {ca cb : C} {pos : Pos} (hK : X.K = W.K) (hb' : plainIx b = true) (ha : PE X a (rd W p E n ca)) (hb : PE X b (rd W p E n cb)) : PE X (.Subscript a b pos) (rd W p E (n + 1) (.idx ca cb)) :=
  pe_twoD (fun _ _ x y => pe_ix (ix_D hK) x y (plainIx_ok hb')) ha hb fun ρ => by unfold ev; rfl
theorem cut_reps {vs : List V} {xs : List D} (r : Reps W F vs xs) (lo hi : Option Int) : Reps W F (cutV vs lo hi) (cutD xs lo hi) := by
  unfold cutV cutD
  rw [r.length]
  exact (r.drop _).take _
theorem cut_whole {xs : List D} {lo hi : Option Int} (h : HT.sIx xs.length 0 lo = 0 ∧ HT.sIx xs.length xs.length hi = xs.length) : cutD xs lo hi = xs := by
  unfold cutD
  rw [h.1, h.2, List.drop_zero, Nat.sub_zero, List.take_length]
def rdO (W : Wd) (p : Pr) (E : XK) (n : Nat) (c : Option C) : TO := fun σ H Q => ∃ Γ ρ F, Rel W Γ F ρ σ H ∧ Ok W Γ E σ F (evO (ev p n) c ρ) (fun o _ _ H' => Q o H')
theorem _root_.L2.PO.weak {e : Option Expr} {t t' : TO} (h : PO X e t) (w : ∀ σ H Q, t' σ H Q → t σ H Q) : PO X e t' := ⟨fun pins s σ H Q I q => h.run pins s σ H Q I (w _ _ _ q)⟩
theorem po_noneD : PO X none (rdO W p E n none) := po_none.weak fun σ H Q ⟨Γ, ρ, F, R, h⟩ => h.at R
theorem po_someD {e : Expr} {c : C} (h : PE X e (rd W p E n c)) : PO X (some e) (rdO W p E n (some c)) :=
  (po_some h).weak fun σ H Q ⟨Γ, ρ, F, R, h⟩ => by
    obtain ⟨Γ', ρ', F', R', h'⟩ := rd_peek R h
    refine ⟨Γ', ρ', F', R', h'.imp fun r ρ1 F1 H1 s1 R1 k v hv => ?_⟩
    obtain ⟨d, ρ2, F2, R2, s2, rd2, k⟩ := k v hv
    cases d <;> try exact k.elim
    case int j => exact ⟨j, rd_int rd2, k.at R2⟩
def SlD (W : Wd) (E : XK) : V → Option Int → Option Int → Hp → VK → Prop := fun x lo hi H Q => ∃ Γ ρ F σ dx, Rel W Γ F ρ σ H ∧ RdD W F H x dx ∧ Ok W Γ E σ F (O.of (slcD dx lo hi) ρ) (KR W Γ σ Q)
theorem sl_D (hK : X.K = W.K) : SlR X (SlD W E) := by
  intro pins s σ' H x v vl vu lo hi sl Q I rx hs pl pu ⟨Γ, ρ, F, σ, dx, R, hx, h⟩
  cases dx <;> try exact h.elim
  case tup xs =>
    obtain ⟨a, vs, e1, t1, r1, q1⟩ := rd_tup R hx
    refine sl_tupA pins s σ' H x v vl vu lo hi sl Q I rx hs pl pu ⟨a, vs, e1, hK ▸ t1, fun z => ?_, fun z b hb => ans_tup h R (cut_reps r1 lo hi) hb⟩
    rw [r1.length] at z
    refine ans_dat h R ?_
    rw [cut_whole z, ← e1]; exact q1
  case lst xs =>
    obtain ⟨a, vs, e1, t1, r1⟩ := rd_lst R hx
    exact sl_list pins s σ' H x v vl vu lo hi sl Q I rx hs pl pu ⟨a, vs, e1, .inl (.inl t1), fun b hb => ans_lst h R (cut_reps r1 lo hi) hb⟩
theorem pe_slcD {e : Expr} {lo hi : Option Expr} {ca : C} {cl ch : Option C} {p2 pos : Pos} (hK : X.K = W.K) (ha : PE X e (rd W p E n ca)) (hl : PO X lo (rdO W p E n cl)) (hh : PO X hi (rdO W p E n ch)) : PE X (.Subscript e (.Slice lo hi none p2) pos) (rd W p E (n + 1) (.slc ca cl ch)) :=
  (pe_slice (sl_D (W := W) (E := E) hK) ha hl hh).weak fun σ H Q ⟨Γ, ρ, F, R, h⟩ => by
    unfold ev at h
    refine ⟨Γ, ρ, F, R, h.bind.imp fun ra ρ1 F1 H1 s1 R1 h1 x hx => ⟨_, ρ1, F1, hx.keepRel R1, (h1.bind.keep hx R1).imp fun l ρ2 F2 H2 s2 R2k ⟨hx2, R2, _, h2⟩ => ⟨_, ρ2, F2, hx2.keepRel R2, (h2.bind.keep hx2 R2).imp fun u ρ3 F3 H3 s3 R3k ⟨hx3, R3, _, h3⟩ => ?_⟩⟩⟩
    cases e1 : pk ra ρ3 with
    | none => rw [e1] at h3; exact h3.elim
    | some dx =>
      rw [e1] at h3
      exact ⟨Γ, ρ3, F3, σ, dx, R3, hx3.pk R3 e1, h3⟩
theorem pe_revD {e : Expr} {ca : C} {k : Nat} {p1 p2 p3 pos : Pos} (hK : X.K = W.K) (ha : PE X e (rd W p E n ca)) : PE X (.Subscript e (.Slice none none (some (.UnaryOp .USub (.Constant (.int 1) k p1) p2)) p3) pos) (rd W p E (n + 1) (.rev ca)) :=
  (pe_revL ha).weak fun σ H Q ⟨Γ, ρ, F, R, h⟩ => by
    unfold ev at h
    obtain ⟨Γ', ρ', F', R', h'⟩ := rd_peek R h
    refine ⟨Γ', ρ', F', R', h'.imp fun r ρ1 F1 H1 s1 R1 k v hv => ?_⟩
    obtain ⟨d, ρ2, F2, R2, s2, rd2, k⟩ := k v hv
    cases d <;> try exact k.elim
    case lst xs =>
      obtain ⟨a, vs, e1, t1, r1⟩ := rd_lst R2 rd2
      exact ⟨a, vs, e1, .inl (.inl t1), fun b hb => ans_lst k R2 r1.reverse hb⟩
/-! ### tests -/
theorem tru_D {Γ : Gm} {F : Hp} {ρ : En} {σ : L2.St} {H : Hp} {v : V} {d : D} {k : Bool} (R : Rel W Γ F ρ σ H) (h : RdD W F H v d) (e : tru d = some k) : TruV W.K v H k := by
  cases d <;> try (injection e; done)
  case non => rw [rd_non h]; injection e with e; exact e.symm
  case bl b => rw [rd_bl h]; injection e with e; exact e.symm
  case int b => rw [rd_int h]; injection e with e; exact e.symm
  case tup xs =>
    obtain ⟨a, vs, e1, t1, r1, _⟩ := rd_tup R h
    rw [e1]
    refine .inr (.inl ⟨vs, t1, ?_⟩)
    injection e with e; subst e
    have := r1.length
    cases vs <;> cases xs <;> simp_all
  case lst xs =>
    obtain ⟨a, vs, e1, t1, r1⟩ := rd_lst R h
    rw [e1]
    refine .inl ⟨vs, .inl (.inl t1), ?_⟩
    injection e with e; subst e
    have := r1.length
    cases vs <;> cases xs <;> simp_all
/-- a test that is its value's truth -/
def plainTest : Expr → Bool
  | .UnaryOp .Not _ _ => false
  | .BoolOp _ _ _ => false
  | .IfExp _ _ _ _ => false
  | .Compare _ _ _ _ => false
  | _ => true
theorem plainTest_ok {e : Expr} {env : Env} (h : plainTest e = true) : ∀ whole, isTrue e env whole = (do let v ← whole; standAt e.pos; holding [v] (truthy v)) := by
  intro whole
  cases e with
  | UnaryOp op a pos => cases op <;> first
    | rfl
    | exact nomatch h
  | _ => first
    | rfl
    | exact nomatch h
theorem rdT_val {c : C} {σ : L2.St} {H : Hp} {Q : Bool → Hp → Prop} (R : Rel W Γ F ρ σ H) (h : Ok W Γ E σ F (evT p (n + 1) (.val c) ρ) (fun b _ _ H' => Q b H')) : rd W p E n c σ H fun x H1 => ∃ k, TruV W.K x H1 k ∧ Q k H1 := by
  unfold evT at h
  obtain ⟨Γ', ρ', F', R', h'⟩ := rd_peek R h
  refine ⟨Γ', ρ', F', R', h'.imp fun r ρ1 F1 H1 s1 R1 k v hv => ?_⟩
  obtain ⟨d, ρ2, F2, R2, s2, rd2, k⟩ := k v hv
  cases e : tru d with
  | none => rw [e] at k; exact k.elim
  | some b => rw [e] at k; exact ⟨b, tru_D R2 rd2 e, k.at R2⟩
theorem pt_valD {e : Expr} {c : C} (hK : X.K = W.K) (hp : plainTest e = true) (h : PE X e (rd W p E n c)) : PT X e (rdT W p E (n + 1) (.val c)) :=
  (pt_truth h (plainTest_ok hp)).weak fun σ H Q ⟨Γ, ρ, F, R, h⟩ => by rw [hK]; exact rdT_val R h
theorem okB {c : C} {σ : L2.St} {Q : Bool → Hp → Prop} (hb : ∀ r ρ', ev p n c ρ = .ok r ρ' → ∃ k, r = .dat (.bl k)) (h : Ok W Γ E σ F (evT p (n + 1) (.val c) ρ) (fun b _ _ H' => Q b H')) :
    Ok W Γ E σ F (ev p n c ρ) (KR W Γ σ fun x H' => ∃ k, x = V.bl k ∧ Q k H') := by
  unfold evT peek at h
  dsimp only at h
  cases e : ev p n c ρ with
  | bad => rw [e] at h; exact h
  | exc c d ρ' => rw [e] at h; exact h
  | ok r ρ' =>
    obtain ⟨k, rfl⟩ := hb r ρ' e
    rw [e] at h
    intro F' H' s R v hv
    have hv : Rep W F' v (.bl k) := hv
    unfold Rep at hv
    exact ⟨k, hv, h F' H' s R⟩
theorem of_ok {α : Type} {x : Option α} {ρ ρ' : En} {a : α} (h : O.of x ρ = .ok a ρ') : x = some a ∧ ρ' = ρ := by
  cases x with
  | none => exact nomatch h
  | some b => injection h with h1 h2; subst h1; exact ⟨rfl, h2.symm⟩
theorem bind_ok {α β : Type} {x : O α} {f : α → En → O β} {b : β} {ρ' : En} (h : x.bind f = .ok b ρ') : ∃ a ρ1, x = .ok a ρ1 ∧ f a ρ1 = .ok b ρ' := by
  cases x with
  | ok a ρ1 => exact ⟨a, ρ1, rfl, h⟩
  | exc c d ρ1 => exact nomatch h
  | bad => exact nomatch h
theorem map_bl {o : Option Bool} {ρ ρ' : En} {r : R} (h : O.of (o.map fun k => R.dat (.bl k)) ρ = .ok r ρ') : ∃ k, r = .dat (.bl k) := by
  cases o with
  | none => exact nomatch h
  | some k => injection h with h1 h2; exact ⟨k, h1.symm⟩
theorem cmp_isB {a b : C} {op : CmpOp} : ∀ r ρ', ev p n (.cmp op a b) ρ = .ok r ρ' → ∃ k, r = .dat (.bl k) := by
  intro r ρ' h
  cases n with
  | zero => unfold ev at h; exact nomatch h
  | succ n =>
    unfold ev two at h
    obtain ⟨ra, ρ1, _, h⟩ := bind_ok h
    obtain ⟨rb, ρ2, _, h⟩ := bind_ok h
    cases e1 : pk ra ρ2 with
    | none => rw [e1] at h; exact nomatch h
    | some x =>
      cases e2 : pk rb ρ2 with
      | none => rw [e1, e2] at h; exact nomatch h
      | some y => rw [e1, e2] at h; exact map_bl h
theorem chn_isB {a b c : C} {o1 o2 : CmpOp} : ∀ r ρ', ev p n (.chn o1 o2 a b c) ρ = .ok r ρ' → ∃ k, r = .dat (.bl k) := by
  intro r ρ' h
  cases n with
  | zero => unfold ev at h; exact nomatch h
  | succ n =>
    unfold ev at h
    dsimp only at h
    obtain ⟨ra, ρ1, _, h⟩ := bind_ok h
    obtain ⟨rb, ρ2, _, h⟩ := bind_ok h
    cases e1 : pk ra ρ2 with
    | none => rw [e1] at h; exact nomatch h
    | some x =>
      cases e2 : pk rb ρ2 with
      | none => rw [e1, e2] at h; exact nomatch h
      | some y =>
        rw [e1, e2] at h
        dsimp only at h
        cases e3 : cmpD o1 x y with
        | none => rw [e3] at h; exact nomatch h
        | some k =>
          rw [e3] at h
          cases k with
          | false => injection h with h1 h2; exact ⟨_, h1.symm⟩
          | true =>
            obtain ⟨rc, ρ3, _, h⟩ := bind_ok h
            cases e4 : pk rb ρ3 with
            | none => rw [e4] at h; exact nomatch h
            | some y' =>
              cases e5 : pk rc ρ3 with
              | none => rw [e4, e5] at h; exact nomatch h
              | some z => rw [e4, e5] at h; exact map_bl h
theorem pt_boolD {e : Expr} {t : TE} {c : C} (hb : ∀ n ρ r ρ', ev p n c ρ = .ok r ρ' → ∃ k, r = .dat (.bl k)) (h : PT X e (tTest t)) (hw : ∀ σ H Q, rd W p E n c σ H Q → t σ H Q) : PT X e (rdT W p E (n + 1) (.val c)) :=
  h.weak fun σ H Q ⟨Γ, ρ, F, R, h⟩ => hw _ _ _ ⟨Γ, ρ, F, R, okB (hb n ρ) h⟩
theorem pt_notD {a : Expr} {ct : T} {pos : Pos} (ha : PT X a (rdT W p E n ct)) : PT X (.UnaryOp .Not a pos) (rdT W p E (n + 1) (.not ct)) :=
  (pt_not ha).weak fun σ H Q ⟨Γ, ρ, F, R, h⟩ => by
    unfold evT at h
    exact ⟨Γ, ρ, F, R, h.bind.imp fun k ρ1 F1 H1 s1 R1 h1 => h1.at R1⟩
theorem _root_.L2.PW.weak {e : Expr} {t t' : TT} (h : PW X e t) (w : ∀ σ H Q, t' σ H Q → t σ H Q) : PW X e t' := ⟨fun wh pins s σ H Q I q => h.run wh pins s σ H Q I (w _ _ _ q)⟩
theorem pw_andD {a b : Expr} {rest : List Expr} {ca cb : T} {pos : Pos} (ha : PT X a (rdT W p E n ca)) (hb : PW X (.BoolOp .And (b :: rest) pos) (rdT W p E n cb)) : PW X (.BoolOp .And (a :: b :: rest) pos) (rdT W p E (n + 1) (.and ca cb)) :=
  (pw_and ha hb).weak fun σ H Q ⟨Γ, ρ, F, R, h⟩ => by
    unfold evT at h
    refine ⟨Γ, ρ, F, R, h.bind.imp fun k ρ1 F1 H1 s1 R1 h1 => ?_⟩
    cases k with
    | true => rw [if_pos rfl]; exact ⟨Γ, ρ1, F1, R1, h1⟩
    | false => rw [if_neg (by decide)]; exact h1.at R1
theorem pw_orD {a b : Expr} {rest : List Expr} {ca cb : T} {pos : Pos} (ha : PT X a (rdT W p E n ca)) (hb : PW X (.BoolOp .Or (b :: rest) pos) (rdT W p E n cb)) : PW X (.BoolOp .Or (a :: b :: rest) pos) (rdT W p E (n + 1) (.or ca cb)) :=
  (pw_or ha hb).weak fun σ H Q ⟨Γ, ρ, F, R, h⟩ => by
    unfold evT at h
    refine ⟨Γ, ρ, F, R, h.bind.imp fun k ρ1 F1 H1 s1 R1 h1 => ?_⟩
    cases k with
    | true => rw [if_pos rfl]; exact h1.at R1
    | false => rw [if_neg (by decide)]; exact ⟨Γ, ρ1, F1, R1, h1⟩
end
end Pv
end PvD_
section PvE_
set_option maxRecDepth 100000
/-! PvE: built-in functions, isinstance, f-strings, methods. -/
namespace Pv
open PySem PySem.Spec PyProof.Rows L2
def RBl (W : Wd) (E : XK) (f : List D → Option R) : List V → Hp → VK → Prop := fun vs H Q => ∃ Γ ρ F σ ds, Rel W Γ F ρ σ H ∧ RdDs W F H vs ds ∧ Ok W Γ E σ F (O.of (f ds) ρ) (KR W Γ σ Q)
section
variable {W : Wd} {p : Pr} {E : XK} {n : Nat} {X : Cx} {Γ : Gm} {σ : L2.St} {F F' : Hp} {ρ ρ' : En} {H H' : Hp} {Q : VK}
theorem rds1 {vs : List V} {d : D} (h : RdDs W F H vs [d]) : ∃ v, vs = [v] ∧ RdD W F H v d := by
  rcases vs with _ | ⟨v, _ | ⟨v2, vs⟩⟩
  · exact h.elim
  · exact ⟨v, rfl, h.1⟩
  · exact h.2.elim
theorem rds2 {vs : List V} {d d2 : D} (h : RdDs W F H vs [d, d2]) : ∃ v v2, vs = [v, v2] ∧ RdD W F H v d ∧ RdD W F H v2 d2 := by
  rcases vs with _ | ⟨v, vs⟩
  · exact h.elim
  · obtain ⟨v2, e, r⟩ := rds1 h.2
    subst e; exact ⟨v, v2, rfl, h.1, r⟩
theorem rds0 {vs : List V} (h : RdDs W F H vs []) : vs = [] := by
  rcases vs with _ | ⟨v, vs⟩
  · rfl
  · exact h.elim
theorem ints_of : ∀ {xs : List D} {vs : List V} {ns : List Int}, Reps W F vs xs → dInts xs = some ns → vs = ns.map V.int
  | [], vs, ns, r, e => by injection e with e; subst e; rw [r.nil_inv]; rfl
  | x :: xs, vs, ns, r, e => by
    obtain ⟨u, us, ev, h, r'⟩ := r.cons_inv
    cases x <;> try (injection e; done)
    case int i =>
      unfold dInts at e
      cases q : dInts xs with
      | none => rw [q] at e; exact nomatch e
      | some ms =>
        rw [q] at e; injection e with e; subst e
        unfold Rep at h
        rw [ev, h, ints_of r' q]; rfl
theorem bools_of : ∀ {xs : List D} {vs : List V} {ns : List Bool}, Reps W F vs xs → dBools xs = some ns → vs = ns.map V.bl
  | [], vs, ns, r, e => by injection e with e; subst e; rw [r.nil_inv]; rfl
  | x :: xs, vs, ns, r, e => by
    obtain ⟨u, us, ev, h, r'⟩ := r.cons_inv
    cases x <;> try (injection e; done)
    case bl i =>
      unfold dBools at e
      cases q : dBools xs with
      | none => rw [q] at e; exact nomatch e
      | some ms =>
        rw [q] at e; injection e with e; subst e
        unfold Rep at h
        rw [ev, h, bools_of r' q]; rfl
theorem foldmax_spec : ∀ (l : List Int) (a : Int), (l.foldl (fun m y => if m < y then y else m) a = a ∨ l.foldl (fun m y => if m < y then y else m) a ∈ l) ∧ a ≤ l.foldl (fun m y => if m < y then y else m) a ∧ ∀ y ∈ l, y ≤ l.foldl (fun m y => if m < y then y else m) a
  | [], a => ⟨.inl rfl, Int.le_refl a, fun y hy => by cases hy⟩
  | x :: l, a => by
    rw [List.foldl_cons]
    obtain ⟨h1, h2, h3⟩ := foldmax_spec l (if a < x then x else a)
    refine ⟨?_, ?_, fun y hy => ?_⟩
    · rcases h1 with h1 | h1
      · rw [h1]
        by_cases c : a < x
        · rw [if_pos c]; exact .inr (List.mem_cons_self ..)
        · rw [if_neg c]; exact .inl rfl
      · exact .inr (List.mem_cons_of_mem _ h1)
    · refine Int.le_trans ?_ h2
      by_cases c : a < x
      · rw [if_pos c]; omega
      · rw [if_neg c]; omega
    · rcases List.mem_cons.mp hy with rfl | hy
      · refine Int.le_trans ?_ h2
        by_cases c : a < y
        · rw [if_pos c]; omega
        · rw [if_neg c]; omega
      · exact h3 y hy
theorem maxI_eq {ns : List Int} {m : Int} (h1 : m ∈ ns) (h2 : ∀ y, y ∈ ns → y ≤ m) : maxI ns = m := by
  cases ns with
  | nil => cases h1
  | cons x l =>
    obtain ⟨a1, a2, a3⟩ := foldmax_spec l x
    have e1 : maxI (x :: l) ∈ x :: l := by
      rcases a1 with a1 | a1
      · show l.foldl _ x ∈ _; rw [a1]; exact List.mem_cons_self ..
      · exact List.mem_cons_of_mem _ a1
    have e2 : ∀ y ∈ x :: l, y ≤ maxI (x :: l) := fun y hy => by
      rcases List.mem_cons.mp hy with rfl | hy
      · exact a2
      · exact a3 y hy
    exact Int.le_antisymm (h2 _ e1) (e2 _ h1)
theorem foldmin_spec : ∀ (l : List Int) (a : Int), (l.foldl (fun m y => if y < m then y else m) a = a ∨ l.foldl (fun m y => if y < m then y else m) a ∈ l) ∧ l.foldl (fun m y => if y < m then y else m) a ≤ a ∧ ∀ y ∈ l, l.foldl (fun m y => if y < m then y else m) a ≤ y
  | [], a => ⟨.inl rfl, Int.le_refl a, fun y hy => by cases hy⟩
  | x :: l, a => by
    rw [List.foldl_cons]
    obtain ⟨h1, h2, h3⟩ := foldmin_spec l (if x < a then x else a)
    refine ⟨?_, ?_, fun y hy => ?_⟩
    · rcases h1 with h1 | h1
      · rw [h1]
        by_cases c : x < a
        · rw [if_pos c]; exact .inr (List.mem_cons_self ..)
        · rw [if_neg c]; exact .inl rfl
      · exact .inr (List.mem_cons_of_mem _ h1)
    · refine Int.le_trans h2 ?_
      by_cases c : x < a
      · rw [if_pos c]; omega
      · rw [if_neg c]; omega
    · rcases List.mem_cons.mp hy with rfl | hy
      · refine Int.le_trans h2 ?_
        by_cases c : y < a
        · rw [if_pos c]; omega
        · rw [if_neg c]; omega
      · exact h3 y hy
theorem minI_eq {ns : List Int} {m : Int} (h1 : m ∈ ns) (h2 : ∀ y, y ∈ ns → m ≤ y) : minI ns = m := by
  cases ns with
  | nil => cases h1
  | cons x l =>
    obtain ⟨a1, a2, a3⟩ := foldmin_spec l x
    have e1 : minI (x :: l) ∈ x :: l := by
      rcases a1 with a1 | a1
      · show l.foldl _ x ∈ _; rw [a1]; exact List.mem_cons_self ..
      · exact List.mem_cons_of_mem _ a1
    have e2 : ∀ y ∈ x :: l, minI (x :: l) ≤ y := fun y hy => by
      rcases List.mem_cons.mp hy with rfl | hy
      · exact a2
      · exact a3 y hy
    exact Int.le_antisymm (e2 _ h1) (h2 _ e1)
theorem blt_len (hK : X.K = W.K) : CallR X (.builtin "len") (RBl W E (bltD .len)) := by
  intro pins s σ' H vs us Q I r ⟨Γ, ρ, F, σ, ds, R, hv, h⟩
  rcases ds with _ | ⟨d, _ | ⟨d2, ds⟩⟩
  · exact h.elim
  · obtain ⟨v, rfl, hd⟩ := rds1 hv
    cases d <;> try exact h.elim
    case tup xs =>
      obtain ⟨a, ws, rfl, t1, r1, _⟩ := rd_tup R hd
      refine call_len pins s σ' H _ us Q I r ⟨_, ws.length, rfl, .inr ⟨ws, hK ▸ t1, rfl⟩, ?_⟩
      rw [r1.length]; exact ans_int h R
    case lst xs =>
      obtain ⟨a, ws, rfl, t1, r1⟩ := rd_lst R hd
      refine call_len pins s σ' H _ us Q I r ⟨_, ws.length, rfl, .inl ⟨ws, .inl (.inl t1), rfl⟩, ?_⟩
      rw [r1.length]; exact ans_int h R
    case scr ns =>
      obtain ⟨a, rfl, t1⟩ := rd_scr R hd
      refine call_len pins s σ' H _ us Q I r ⟨_, (ns.map V.int).length, rfl, .inl ⟨_, hK ▸ t1, rfl⟩, ?_⟩
      rw [List.length_map]; exact ans_int h R
  · cases d <;> exact h.elim
theorem blt_abs : CallR X (.builtin "abs") (RBl W E (bltD .abs)) := by
  intro pins s σ' H vs us Q I r ⟨Γ, ρ, F, σ, ds, R, hv, h⟩
  rcases ds with _ | ⟨d, _ | ⟨d2, ds⟩⟩
  · exact h.elim
  · obtain ⟨v, rfl, hd⟩ := rds1 hv
    cases d <;> try exact h.elim
    case int i => rw [rd_int hd] at r; exact call_abs pins s σ' H _ us Q I r ⟨i, rfl, ans_int h R⟩
  · cases d <;> exact h.elim
theorem blt_int : CallR X (.type "int") (RBl W E (bltD .int)) := by
  intro pins s σ' H vs us Q I r ⟨Γ, ρ, F, σ, ds, R, hv, h⟩
  rcases ds with _ | ⟨d, _ | ⟨d2, ds⟩⟩
  · exact h.elim
  · obtain ⟨v, rfl, hd⟩ := rds1 hv
    cases d <;> try exact h.elim
    case int i => rw [rd_int hd] at r; exact call_int1 pins s σ' H _ us Q I r (.inl ⟨i, rfl, ans_int h R⟩)
    case bl b => rw [rd_bl hd] at r; exact call_int1 pins s σ' H _ us Q I r (.inr ⟨b, rfl, ans_int h R⟩)
  · cases d <;> exact h.elim
theorem blt_str : CallR X (.type "str") (RBl W E (bltD .str)) := by
  intro pins s σ' H vs us Q I r ⟨Γ, ρ, F, σ, ds, R, hv, h⟩
  rcases ds with _ | ⟨d, _ | ⟨d2, ds⟩⟩
  · exact h.elim
  · obtain ⟨v, rfl, hd⟩ := rds1 hv
    cases d <;> try exact h.elim
    case int i =>
      rw [rd_int hd] at r
      obtain ⟨c, h⟩ := ok_if h
      exact call_str_int pins s σ' H _ us Q I r ⟨i, rfl, strOk_1 c, ans_str h R⟩
  · cases d <;> exact h.elim
theorem blt_tuple (hK : X.K = W.K) : CallR X (.type "tuple") (RBl W E (bltD .tuple)) := by
  intro pins s σ' H vs us Q I r ⟨Γ, ρ, F, σ, ds, R, hv, h⟩
  rcases ds with _ | ⟨d, _ | ⟨d2, ds⟩⟩
  · exact h.elim
  · obtain ⟨v, rfl, hd⟩ := rds1 hv
    cases d <;> try exact h.elim
    case tup xs =>
      obtain ⟨a, ws, rfl, t1, r1, q⟩ := rd_tup R hd
      exact call_tuple_of pins s σ' H _ us Q I r ⟨a, ws, rfl, .inr ⟨hK ▸ t1, ans_dat h R q⟩⟩
    case lst xs =>
      obtain ⟨a, ws, rfl, t1, r1⟩ := rd_lst R hd
      exact call_tuple_of pins s σ' H _ us Q I r ⟨a, ws, rfl, .inl ⟨.inl (.inl t1), fun l hl => ans_tup h R r1 hl⟩⟩
  · cases d <;> exact h.elim
theorem blt_list (hK : X.K = W.K) : CallR X (.type "list") (RBl W E (bltD .list)) := by
  intro pins s σ' H vs us Q I r ⟨Γ, ρ, F, σ, ds, R, hv, h⟩
  rcases ds with _ | ⟨d, _ | ⟨d2, ds⟩⟩
  · exact h.elim
  · obtain ⟨v, rfl, hd⟩ := rds1 hv
    cases d <;> try exact h.elim
    case tup xs =>
      obtain ⟨a, ws, rfl, t1, r1, q⟩ := rd_tup R hd
      exact call_list_of pins s σ' H _ us Q I r ⟨a, ws, rfl, .inr (hK ▸ t1), fun l hl => ans_lst h R r1 hl⟩
    case lst xs =>
      obtain ⟨a, ws, rfl, t1, r1⟩ := rd_lst R hd
      exact call_list_of pins s σ' H _ us Q I r ⟨a, ws, rfl, .inl (.inl (.inl t1)), fun l hl => ans_lst h R r1 hl⟩
  · cases d <;> exact h.elim
def rSumT (K : PySem.W.Frag) : List V → Hp → VK → Prop := fun vs H Q => ∃ (a : Addr) (ns : List Int), vs = [V.ref a] ∧ SqT K H a (ns.map V.int) ∧ Q (.int ns.sum) H
theorem cr_sumT (hc : X.calm = true) : CallR X (.builtin "sum") (rSumT X.K) := by
  intro pins s σ H vs us Q I r h
  obtain ⟨a, ns, rfl, hs, q⟩ := h
  obtain ⟨its, rv, ht, _⟩ := I.tuple hs
  rw [Vals.ref1 r]
  have hi : IntsAre its ns := rv.ints
  obtain ⟨xs, e⟩ := hi.allInts.items
  have hn : numsOf (intItems xs).toList = ns := by rw [← e]; exact hi.numsOf
  rw [nums_intItems] at hn
  rw [e] at ht
  refine PySem.W.ktm_sumG (I.ok.hd hc) ht fun h' tk t' hk => ?_
  rw [preSum_eq, List.take_of_length_le (by simp), hn]
  exact ⟨.int _, H, I.kept hk, ⟨_, rfl⟩, q⟩
theorem blt_sum (hK : X.K = W.K) (hc : X.calm = true) : CallR X (.builtin "sum") (RBl W E (bltD .sum)) := by
  intro pins s σ' H vs us Q I r ⟨Γ, ρ, F, σ, ds, R, hv, h⟩
  rcases ds with _ | ⟨d, _ | ⟨d2, ds⟩⟩
  · exact h.elim
  · obtain ⟨v, rfl, hd⟩ := rds1 hv
    cases d <;> try exact h.elim
    case lst xs =>
      obtain ⟨a, ws, rfl, t1, r1⟩ := rd_lst R hd
      dsimp only [bltD] at h
      cases q : dInts xs with
      | none => rw [q] at h; exact h.elim
      | some ns =>
        rw [q] at h
        have e := ints_of r1 q; subst e
        exact cr_sum hc pins s σ' H _ us Q I r ⟨a, ns, rfl, .inl (.inl t1), ans_int h R⟩
    case tup xs =>
      obtain ⟨a, ws, rfl, t1, r1, _⟩ := rd_tup R hd
      dsimp only [bltD] at h
      cases q : dInts xs with
      | none => rw [q] at h; exact h.elim
      | some ns =>
        rw [q] at h
        have e := ints_of r1 q; subst e
        exact cr_sumT hc pins s σ' H _ us Q I r ⟨a, ns, rfl, hK ▸ t1, ans_int h R⟩
  · cases d <;> exact h.elim
theorem blt_all (hc : X.calm = true) : CallR X (.builtin "all") (RBl W E (bltD .all)) := by
  intro pins s σ' H vs us Q I r ⟨Γ, ρ, F, σ, ds, R, hv, h⟩
  rcases ds with _ | ⟨d, _ | ⟨d2, ds⟩⟩
  · exact h.elim
  · obtain ⟨v, rfl, hd⟩ := rds1 hv
    cases d <;> try exact h.elim
    case lst xs =>
      obtain ⟨a, ws, rfl, t1, r1⟩ := rd_lst R hd
      dsimp only [bltD] at h
      cases q : dBools xs with
      | none => rw [q] at h; exact h.elim
      | some ns =>
        rw [q] at h
        have e := bools_of r1 q; subst e
        exact cr_all hc pins s σ' H _ us Q I r ⟨a, ns, rfl, .inl (.inl t1), ans_bl h R⟩
  · cases d <;> exact h.elim
theorem blt_any (hc : X.calm = true) : CallR X (.builtin "any") (RBl W E (bltD .any)) := by
  intro pins s σ' H vs us Q I r ⟨Γ, ρ, F, σ, ds, R, hv, h⟩
  rcases ds with _ | ⟨d, _ | ⟨d2, ds⟩⟩
  · exact h.elim
  · obtain ⟨v, rfl, hd⟩ := rds1 hv
    cases d <;> try exact h.elim
    case lst xs =>
      obtain ⟨a, ws, rfl, t1, r1⟩ := rd_lst R hd
      dsimp only [bltD] at h
      cases q : dBools xs with
      | none => rw [q] at h; exact h.elim
      | some ns =>
        rw [q] at h
        have e := bools_of r1 q; subst e
        exact cr_any hc pins s σ' H _ us Q I r ⟨a, ns, rfl, .inl (.inl t1), ans_bl h R⟩
  · cases d <;> exact h.elim
theorem ok_ifn {α : Type} {c : Bool} {x : Option α} {K : α → En → Hp → Hp → Prop} (h : Ok W Γ E σ F (O.of (if c = true then none else x) ρ) K) : c = false ∧ Ok W Γ E σ F (O.of x ρ) K := by
  cases c with
  | false => exact ⟨rfl, h⟩
  | true => exact h.elim
theorem blt_max (hc : X.calm = true) : CallR X (.builtin "max") (RBl W E (bltD .max)) := by
  intro pins s σ' H vs us Q I r ⟨Γ, ρ, F, σ, ds, R, hv, h⟩
  rcases ds with _ | ⟨d, _ | ⟨d2, ds⟩⟩
  · exact h.elim
  · obtain ⟨v, rfl, hd⟩ := rds1 hv
    cases d <;> try exact h.elim
    case lst xs =>
      obtain ⟨a, ws, rfl, t1, r1⟩ := rd_lst R hd
      dsimp only [bltD] at h
      cases q : dInts xs with
      | none => rw [q] at h; exact h.elim
      | some ns =>
        rw [q] at h
        have e := ints_of r1 q; subst e
        dsimp only [Option.bind] at h
        obtain ⟨c, h⟩ := ok_ifn h
        refine cr_max hc pins s σ' H _ us Q I r ⟨a, ns, rfl, .inl (.inl t1), ?_, fun m hm hb => ?_⟩
        · cases ns with
          | nil => exact nomatch c
          | cons _ _ => exact Nat.succ_pos _
        · rw [← maxI_eq hm hb]; exact ans_int h R
  · cases d <;> exact h.elim
theorem blt_min (hc : X.calm = true) : CallR X (.builtin "min") (RBl W E (bltD .min)) := by
  intro pins s σ' H vs us Q I r ⟨Γ, ρ, F, σ, ds, R, hv, h⟩
  rcases ds with _ | ⟨d, _ | ⟨d2, ds⟩⟩
  · exact h.elim
  · obtain ⟨v, rfl, hd⟩ := rds1 hv
    cases d <;> try exact h.elim
    case lst xs =>
      obtain ⟨a, ws, rfl, t1, r1⟩ := rd_lst R hd
      dsimp only [bltD] at h
      cases q : dInts xs with
      | none => rw [q] at h; exact h.elim
      | some ns =>
        rw [q] at h
        have e := ints_of r1 q; subst e
        dsimp only [Option.bind] at h
        obtain ⟨c, h⟩ := ok_ifn h
        refine cr_min hc pins s σ' H _ us Q I r ⟨a, ns, rfl, .inl (.inl t1), ?_, fun m hm hb => ?_⟩
        · cases ns with
          | nil => exact nomatch c
          | cons _ _ => exact Nat.succ_pos _
        · rw [← minI_eq hm hb]; exact ans_int h R
  · cases d <;> exact h.elim
theorem blt_max2 (hc : X.calm = true) : CallR X (.builtin "max") (RBl W E (bltD .max2)) := by
  intro pins s σ' H vs us Q I r ⟨Γ, ρ, F, σ, ds, R, hv, h⟩
  rcases ds with _ | ⟨d, _ | ⟨d2, _ | ⟨d3, ds⟩⟩⟩
  · exact h.elim
  · cases d <;> exact h.elim
  · obtain ⟨v, v2, rfl, hd, hd2⟩ := rds2 hv
    cases d <;> cases d2 <;> try exact h.elim
    case int.int i j => rw [rd_int hd, rd_int hd2] at r; exact call_max2 hc pins s σ' H _ us Q I r ⟨i, j, rfl, ans_int h R⟩
  · cases d <;> cases d2 <;> exact h.elim
theorem blt_min2 (hc : X.calm = true) : CallR X (.builtin "min") (RBl W E (bltD .min2)) := by
  intro pins s σ' H vs us Q I r ⟨Γ, ρ, F, σ, ds, R, hv, h⟩
  rcases ds with _ | ⟨d, _ | ⟨d2, _ | ⟨d3, ds⟩⟩⟩
  · exact h.elim
  · cases d <;> exact h.elim
  · obtain ⟨v, v2, rfl, hd, hd2⟩ := rds2 hv
    cases d <;> cases d2 <;> try exact h.elim
    case int.int i j => rw [rd_int hd, rd_int hd2] at r; exact call_min2 hc pins s σ' H _ us Q I r ⟨i, j, rfl, ans_int h R⟩
  · cases d <;> cases d2 <;> exact h.elim
theorem blt_gcd : CallR X (.builtin "math.gcd") (RBl W E (bltD .gcd)) := by
  intro pins s σ' H vs us Q I r ⟨Γ, ρ, F, σ, ds, R, hv, h⟩
  rcases ds with _ | ⟨d, _ | ⟨d2, _ | ⟨d3, ds⟩⟩⟩
  · exact h.elim
  · cases d <;> exact h.elim
  · obtain ⟨v, v2, rfl, hd, hd2⟩ := rds2 hv
    cases d <;> cases d2 <;> try exact h.elim
    case int.int i j => rw [rd_int hd, rd_int hd2] at r; exact cr_gcd pins s σ' H _ us Q I r ⟨i, j, rfl, ans_int h R⟩
  · cases d <;> cases d2 <;> exact h.elim
/-- the reading of a built-in function's call -/
theorem rd_blt {f : Bf} {cs : List C} (h : rd W p E (n + 1) (.blt f cs) σ H Q) : tCB (RBl W E (bltD f)) (rdA W p E n cs) σ H Q := by
  obtain ⟨Γ, ρ, F, R, h⟩ := h
  unfold ev at h
  refine ⟨Γ, ρ, F, R, h.bind.imp fun rs ρ1 F1 H1 s1 R1 h1 vs hvs => ?_⟩
  cases e : pks rs ρ1 with
  | none => rw [e] at h1; exact h1.elim
  | some ds => rw [e] at h1; exact ⟨Γ, ρ1, F1, σ, ds, R1, hvs.pks R1 e, h1⟩
/-! ### isinstance -/
def Ty.nm : Ty → String
  | .int => "int" | .bool => "bool" | .str => "str" | .tuple => "tuple" | .list => "list" | .dict => "dict"
def D.tyNm : D → String
  | .non => "NoneType" | .bl _ => "bool" | .int _ => "int" | .str _ => "str" | .tup _ => "tuple" | .lst _ => "list" | .dct _ _ => "dict" | _ => ""
theorem isi_kit {d : D} {t : Ty} {b : Bool} (h : isiD d t = some b) : kitB d.tyNm t.nm = some b := by
  cases d <;> cases t <;> first
    | (injection h; done)
    | (injection h with h; subst h; simp only [D.tyNm, Ty.nm]; decide +kernel)
theorem tyX_D {v : V} {d : D} {t : Ty} {b : Bool} (R : Rel W Γ F ρ σ H) (hv : RdD W F H v d) (h : isiD d t = some b) : TyX W.K H v (.type d.tyNm) := by
  cases d <;> try (injection h; done)
  case non => rw [rd_non hv]; exact .base .non
  case bl => rw [rd_bl hv]; exact .base (.bl _)
  case int => rw [rd_int hv]; exact .base (.int _)
  case str => rw [rd_str hv]; exact .base (.str _)
  case tup =>
    obtain ⟨a, ws, rfl, t1, r1, q⟩ := rd_tup R hv
    rcases t1 with (t1 | ⟨o, t1⟩) | ⟨o, its, k, e1, e2, _⟩
    · exact .base (.tup t1)
    · exact .fTuple t1
    · exact .kTuple e1 e2
  case lst =>
    obtain ⟨a, ws, rfl, t1, r1⟩ := rd_lst R hv
    exact .base (.lst t1)
  case dct =>
    obtain ⟨_, _, a, rfl, t1⟩ := rd_dct R hv
    exact .base (.dK t1)
theorem boot_isi : bootBuiltins "isinstance" = some (.builtin "isinstance") := by rfl
theorem pe_isiD {a : Expr} {ca : C} {t : Ty} {x : Str} {p1 p2 pos : Pos} (hK : X.K = W.K) (hg : Gl X "isinstance") (hm : X.mg "isinstance" = none) (hs : notStar a = true) (hx : Gl X x) (hmx : X.mg x = none) (hbx : bootBuiltins x = some (.type t.nm)) (hn : x ≠ "__name__") (hd : (x == ("__debug__" : Str)) = false)
    (ha : PE X a (rd W p E n ca)) : PE X (.Call (.Name "isinstance" p1) [a, .Name x p2] [] pos) (rd W p E (n + 1) (.isi ca t)) := by
  have h2 : PE X (.Name x p2) (tC (.ty t.nm)) := pe_bltn hx hmx hbx rfl hn hd
  refine (pe_callB call_isi hg hm boot_isi (pa_cons ha (pa_cons h2 pa_nil rfl) (star_cons _ _ hs)) (he := star_cons _ _ hs) (hpl := rfl)).weak fun σ H Q ⟨Γ, ρ, F, R, h⟩ => ?_
  unfold ev at h
  obtain ⟨Γ', ρ', F', R', h'⟩ := rd_peek R h
  refine ⟨Γ', ρ', F', R', h'.imp fun r ρ1 F1 H1 s1 R1 k v hv => ?_⟩
  obtain ⟨d, ρ2, F2, R2, s2, rd2, k⟩ := k v hv
  cases e : isiD d t with
  | none => rw [e] at k; exact k.elim
  | some b =>
    rw [e] at k
    exact ⟨v, .ty t.nm, _, _, b, rfl, .ty _, hK ▸ tyX_D R2 rd2 e, kit_ty (isi_kit e), ans_bl k R2⟩
/-! ### f-strings -/
def rdF (W : Wd) (p : Pr) (E : XK) (n : Nat) (c : C) : TE := fun σ H Q => ∃ Γ ρ F, Rel W Γ F ρ σ H ∧ Ok W Γ E σ F (partS (ev p n) c ρ) (fun y _ _ H' => Q (.str y) H')
theorem pe_fmtD {e : Expr} {c : C} {pos : Pos} (h : PE X e (rd W p E n c)) : PE X (.FormattedValue e (-1) none pos) (rdF W p E n c) :=
  (pe_fmt h).weak fun σ H Q ⟨Γ, ρ, F, R, h⟩ => by
    unfold partS at h
    obtain ⟨Γ', ρ', F', R', h'⟩ := rd_peek R h
    refine ⟨Γ', ρ', F', R', h'.imp fun r ρ1 F1 H1 s1 R1 k v hv => ?_⟩
    obtain ⟨d, ρ2, F2, R2, s2, rd2, k⟩ := k v hv
    cases d <;> try exact k.elim
    case str x =>
      obtain ⟨c, k⟩ := ok_if2 (y := .bad) k
      exact .inl ⟨x, rd_str rd2, fits_le c, k.at R2⟩
    case int i =>
      obtain ⟨c, k⟩ := ok_if2 (y := .bad) k
      exact .inr ⟨i, rd_int rd2, strOk_1 c, k.at R2⟩
theorem pe_fconD {x : Str} {j : Nat} {pos : Pos} : PE X (.Constant (.str x) j pos) (rdF W p E (n + 1) (.lit (.str x))) :=
  pe_str.weak fun σ H Q ⟨Γ, ρ, F, R, h⟩ => by
    unfold partS peek ev at h
    have h : Ok W Γ E σ F (if fits x.length = true then O.ok x ρ else O.bad) (fun y _ _ H' => Q (.str y) H') := h
    obtain ⟨c, k⟩ := ok_if2 (y := .bad) h
    exact k.at R
def rdFs (W : Wd) (p : Pr) (E : XK) (n : Nat) (cs : List C) (acc : Str) : L2.St → Hp → (Str → Hp → Prop) → Prop := fun σ H Q => ∃ Γ ρ F, Rel W Γ F ρ σ H ∧ Ok W Γ E σ F (fstL (ev p n) cs acc ρ) (fun y _ _ H' => Q y H')
theorem fst_run : ∀ (cs : List C) (acc : Str) (σ : L2.St) (H : Hp) (Q : Str → Hp → Prop), rdFs W p E n cs acc σ H Q → tJs (cs.map (rdF W p E n)) acc σ H Q
  | [], acc, σ, H, Q, ⟨Γ, ρ, F, R, h⟩ => h.at R
  | c :: cs, acc, σ, H, Q, ⟨Γ, ρ, F, R, h⟩ => by
    unfold fstL at h
    refine ⟨Γ, ρ, F, R, h.bind.imp fun y ρ1 F1 H1 s1 R1 h1 => ?_⟩
    obtain ⟨c, h1⟩ := ok_if2 (y := .bad) h1
    exact ⟨y, rfl, fits_le c, fst_run cs _ σ H1 Q ⟨Γ, ρ1, F1, R1, h1⟩⟩
theorem pe_fstD {v1 v2 : Expr} {rest : List Expr} {cs : List C} {pos : Pos} (h : PJ X (v1 :: v2 :: rest) (cs.map (rdF W p E n))) : PE X (.JoinedStr (v1 :: v2 :: rest) pos) (rd W p E (n + 1) (.fst cs)) :=
  (pe_joined h).weak fun σ H Q ⟨Γ, ρ, F, R, h⟩ => by
    unfold ev at h
    exact fst_run cs _ σ H _ ⟨Γ, ρ, F, R, h.bind.imp fun y ρ1 F1 H1 s1 R1 h1 => ans_str h1 R1⟩
theorem str_empty (y : Str) : Str.empty ++ y = y := Str.ext' (by rw [Str.cps_append]; exact Array.empty_append)
theorem pe_fst1D {e : Expr} {c : C} {pos : Pos} (h : PE X e (rdF W p E n c)) : PE X (.JoinedStr [e] pos) (rd W p E (n + 1) (.fst [c])) :=
  (pe_joined1 h).weak fun σ H Q ⟨Γ, ρ, F, R, h⟩ => by
    unfold ev at h
    have h := h.bind
    have h : Ok W Γ E σ F ((partS (ev p n) c ρ).bind fun y ρ1 => if fits ((Str.empty ++ y).length) = true then fstL (ev p n) [] (Str.empty ++ y) ρ1 else .bad) _ := h
    refine ⟨Γ, ρ, F, R, h.bind.imp fun y ρ1 F1 H1 s1 R1 h1 => ?_⟩
    obtain ⟨_, h1⟩ := ok_if2 (y := .bad) h1
    have h2 := (show Ok W Γ E σ F1 (.ok (Str.empty ++ y) ρ1) _ from h1).at R1
    rw [str_empty] at h2
    exact ans_str h2 R1
end
end Pv
end PvE_
section PvSo_
set_option maxRecDepth 100000
set_option maxHeartbeats 4000000
/-! PvSo: sorted of lists and tuples of ints, of lists of tuples of ints of any lengths. -/
namespace SrtO
open PySem PyProof.Rows Srt
section
variable {prog : Program} {w : World} {A : Around} {E : Value → Shared → Prop} {s : Shared}
/-- a list's or a tuple's items -/
def IsSq (h : Heap) (l : Addr) (vs : List Value) : Prop := ∃ o T, h.get? l = some o ∧ o.cls = .type T ∧ (T = "list" ∨ T = "tuple") ∧ ∃ n, o.data = .seq vs.toArray n
theorem collect_sq {l : Addr} {vs : List Value} {Q : List Value → Shared → Prop} (hl : IsSq s.heap l vs)
    (h : Q vs { s with heap := (s.heap.push (seqObj "list" #[] 0)).update s.heap.objs.size (Obj.mapSeq (· ++ vs.toArray)) }) (hsz : vs.length ≤ sizeLine) :
    wpAny (model prog w) A (collect (.ref l)) Q E s := by
  obtain ⟨o, T, ho, hc, hT, n, hd⟩ := id hl
  unfold collect
  refine wpAny_bind (wpAny_runValue (codeAny_builtin entry_proto_collect' ?_))
  show wpAny _ _ (do again (.builtin "list.__iadd__" ⟨[← newList [], .ref l], []⟩)) _ _ s
  refine wpAny_bind (wpAny_newList (wpAny_pure ⟨Code.quiet_builtin _ (by decide +kernel), codeAny_builtin entry_list_iadd' ?_⟩))
  show wpAny _ _ (Builtin.List.listExtendWith (.ref s.heap.objs.size) (.ref l) (.ref s.heap.objs.size)) _ _ { s with heap := s.heap.push (seqObj "list" #[] 0) }
  unfold Builtin.List.listExtendWith
  have ho' : (s.heap.push (seqObj "list" #[] 0)).get? l = some o := Heap.get?_push_of_some _ ho
  refine wpAny_bind (wpAny_typeOf (T := T) ⟨o, ho', hc⟩ ?_)
  have htt : (Builtin.List.listSameRef (Value.ref s.heap.objs.size) (Value.ref l) || Value.type T == Value.type "list" || Value.type T == Value.type "tuple") = true := by
    have a1 : (Value.type "list" == Value.type "list") = true := by rfl
    have a2 : (Value.type "tuple" == Value.type "tuple") = true := by rfl
    rcases hT with rfl | rfl
    · rw [a1]; simp
    · rw [a2]; simp
  rw [if_pos htt]
  refine wpAny_bind (listItems_at ho' hd ?_)
  refine wpAny_bind (listItems_at (xs := #[]) (n := 0) (Heap.get?_push_size _ rfl) rfl ?_)
  rw [if_neg (by simp)]
  refine wpAny_bind (listUpdate_at (xs := #[]) (n := 0) (Heap.get?_push_size _ rfl) rfl ?_ (Nat.zero_le _) (by show (#[] ++ vs.toArray).size ≤ sizeLine + 1; simp only [Array.size_append, List.size_toArray, List.length_nil]; omega))
  refine wpAny_pure ?_
  show wpAny (model prog w) A (do
      let o ← load s.heap.objs.size
      match o.data with
      | .seq xs _ => pure xs.toList
      | _ => unsupported "internal:collect") Q E { s with heap := (s.heap.push (seqObj "list" #[] 0)).update s.heap.objs.size (Obj.mapSeq (· ++ vs.toArray)) }
  refine wpAny_bind (wpAny_load (get?_update_seq (Heap.get?_push_size _ rfl) _) ?_)
  show wpAny _ _ (pure ((#[] : Array Value) ++ vs.toArray).toList) Q E _
  rw [show ((#[] : Array Value) ++ vs.toArray).toList = vs by simp]
  exact wpAny_pure h
theorem sorted_sq {l : Addr} {vs : List Value} {ltv : Value → Value → Bool} {Q : Value → Shared → Prop} (O : Swo ltv) (hl : IsSq s.heap l vs) (hz : vs.length ≤ sizeLine)
    (hS : 2 ≤ vs.length → ∀ (h₁ : Heap) (a : Addr), h₁.get? a = some (seqObj "list" vs.toArray 0) → (∀ b o, s.heap.get? b = some o → b ≠ a ∧ h₁.get? b = some o) → SortableO prog w A.in1.in1 { s with heap := h₁ } a vs ltv)
    (h : ∀ out : List Value, Srtd ltv out → Stb ltv out vs → Q (.ref (s.heap.objs.size + 1)) { s with heap := sortedAll s.heap vs out.toArray }) :
    wpAny (model prog w) A (call (.builtin "sorted") [.ref l]) Q E s := by
  refine Calls.call_function_entry kind_sorted plain_sorted entry_sorted (args_sorted1 _) ?_
  unfold Builtin.«sorted»
  refine wpAny_bind (m := checkCount "sorted" 1 1 _) (wpAny_pure ?_)
  refine wpAny_bind (collect_sq hl ?_ hz)
  refine wpAny_bind (wpAny_newList ?_ hz)
  have hsz : ((s.heap.push (seqObj "list" #[] 0)).update s.heap.objs.size (Obj.mapSeq (· ++ vs.toArray))).objs.size = s.heap.objs.size + 1 := by
    rw [Heap.size_update, size_push']
  have hoL : (((s.heap.push (seqObj "list" #[] 0)).update s.heap.objs.size (Obj.mapSeq (· ++ vs.toArray))).push (seqObj "list" vs.toArray 0)).get? (s.heap.objs.size + 1) = some (seqObj "list" vs.toArray 0) := by
    rw [← hsz]; exact Heap.get?_push_size _ rfl
  have keep : ∀ b o, s.heap.get? b = some o → b ≠ s.heap.objs.size + 1 ∧ (((s.heap.push (seqObj "list" #[] 0)).update s.heap.objs.size (Obj.mapSeq (· ++ vs.toArray))).push (seqObj "list" vs.toArray 0)).get? b = some o := fun b o q => by
    have hlt : b < s.heap.objs.size := Heap.lt_size q
    refine ⟨Nat.ne_of_lt (Nat.lt_succ_of_lt hlt), Heap.get?_push_of_some _ ?_⟩
    rw [Heap.get?_update_ne _ _ _ _ (Nat.ne_of_lt hlt)]
    exact Heap.get?_push_of_some _ q
  show wpAny _ _ _ _ _ { s with heap := ((s.heap.push (seqObj "list" #[] 0)).update s.heap.objs.size (Obj.mapSeq (· ++ vs.toArray))).push (seqObj "list" vs.toArray 0) }
  rw [hsz]
  refine wpAny_bind (wpAny_holding (wpAny_call_entry slot_list_sort ⟨_, hoL, rfl⟩ entry_list_sort (list_sort_ord O hoL hz (fun h2 => hS h2 _ _ hoL keep) fun out hs hb => ⟨_, rfl, ?_⟩) (args_list_sort _)))
  exact wpAny_pure ⟨_, rfl, h out hs hb⟩
/-! ### tuples of ints -/
open HT (lexLt)
theorem swo_lexI (k : Value → List Int) : Swo fun v u => lexLt (k v) (k u) := ⟨fun _ _ h => lex_asym _ _ h, fun _ _ _ h1 h2 => lex_tr _ _ _ h1 h2⟩
def IsTI (h : Heap) (v : Value) (ns : List Int) : Prop := ∃ a items, v = .ref a ∧ IsTup h a items ∧ IntsAre items.toList ns
theorem IsTI.keeps {h h' : Heap} {v : Value} {ns : List Int} (x : IsTI h v ns) (k : ∀ b o, h.get? b = some o → o.cls = .type "tuple" → h'.get? b = some o) : IsTI h' v ns := by
  obtain ⟨a, items, e, ⟨o, ho, hc, n, hd⟩, hi⟩ := x
  exact ⟨a, items, e, ⟨o, k a o ho hc, hc, n, hd⟩, hi⟩
theorem katLex_ints {Q : Bool → Shared → Prop} : ∀ {xs ys : List Value} {ns ms : List Int} {i : Nat}, IntsAre xs ns → IntsAre ys ms → Q (lexLt ns ms) s → PySem.W.KatLex prog w A true (decide (ns.length < ms.length)) Q (xs.zip ys) i s
  | _, _, _, _, i, .nil, .nil, h => PySem.W.kat_nil h
  | _, _, _, _, i, .nil, .cons n t r, h => PySem.W.kat_nil h
  | _, _, _, _, i, .cons n t r, .nil, h => PySem.W.kat_nil h
  | _, _, _, _, i, .cons (ns := ns) x t r, .cons (ns := ms) y u r', h => by
    rw [List.zip_cons_cons]
    rw [HT.lexLt_cons] at h
    refine PySem.W.kat_cons (SeqAt.EqAt.int_int x t y u prog w _ _ ?_)
    refine PySem.W.kat_go (fun e1 => ?_) (fun e1 => ?_)
    · have ex : x = y := by simpa using e1
      rw [if_pos ex] at h
      have e : decide ((x :: ns).length < (y :: ms).length) = decide (ns.length < ms.length) := by
        rw [List.length_cons, List.length_cons]
        exact decide_eq_decide.mpr (by omega)
      rw [e]
      exact PySem.W.kat_yes (katLex_ints r r' h)
    · have ex : ¬ x = y := by simpa using e1
      rw [if_neg ex] at h
      exact PySem.W.kat_no (oneLt_any_int h)
theorem cmpT_tuples {vs : List Value} {k : Value → List Int} (hp : ∀ v ∈ vs, IsTI s.heap v (k v)) : Cmp prog w A s (tuples' true) (fun p => p.1 ∈ vs) (lt2 fun v u => lexLt (k v) (k u)) := by
  intro p q hm hm'
  obtain ⟨a, xs, e, ⟨o, ho, hc, n, hd⟩, hi⟩ := hp _ hm
  obtain ⟨b, ys, e', ⟨o', ho', hc', n', hd'⟩, hi'⟩ := hp _ hm'
  show wpAny (model prog w) A (keyLt' (tuples' true) p.1 q.1) (fun r s' => s' = s ∧ r = lexLt (k p.1) (k q.1)) (fun _ _ => False) s
  generalize k p.1 = ns at hi ⊢
  generalize k q.1 = ms at hi' ⊢
  rw [e, e']
  refine PySem.W.kat_lt ho hd ho' hd' ?_
  have e1 : xs.size = ns.length := by rw [← hi.length]; simp
  have e2 : ys.size = ms.length := by rw [← hi'.length]; simp
  rw [e1, e2]
  exact katLex_ints hi hi' ⟨rfl, rfl⟩
theorem cmpT_one {vs : List Value} {k : Value → List Int} {ty : Bool} (hu : A.units < cLine) (hp : ∀ v ∈ vs, IsTI s.heap v (k v)) : Cmp prog w A s (if ty then oneType' else general') (fun p => p.1 ∈ vs) (lt2 fun v u => lexLt (k v) (k u)) := by
  intro p q hm hm'
  obtain ⟨a, xs, e, ht, hi⟩ := hp _ hm
  obtain ⟨b, ys, e', ht', hi'⟩ := hp _ hm'
  show wpAny (model prog w) A (keyLt' (if ty then oneType' else general') p.1 q.1) (fun r s' => s' = s ∧ r = lexLt (k p.1) (k q.1)) (fun _ _ => False) s
  generalize k p.1 = ns at hi ⊢
  generalize k q.1 = ms at hi' ⊢
  rw [e, e']
  cases ty with
  | false => exact PySem.W.kat_one _ _ (HT.lt_tupInts ht ht' hi hi' hu (show PySem.W.BoolBack _ (.bool (lexLt ns ms)) s from ⟨rfl, rfl⟩))
  | true =>
    rw [if_pos rfl, keyLt'_oneType, oneLt'_eq]
    simp only [if_true]
    obtain ⟨⟨cls, dd, data, sl⟩, ho, hc, n, hd⟩ := id ht
    obtain ⟨⟨cls2, dd2, data2, sl2⟩, ho2, hc2, n2, hd2⟩ := id ht'
    simp only at hc hd hc2 hd2
    subst hc hd hc2 hd2
    refine wpAny_bind (wpAny_cRoomFor hu ?_)
    refine wpAny_bind (wpAny_callSpecialIfBound?_slot (T := "tuple") ⟨_, ho, rfl⟩ PySem.F.slot_tuple_lt (call_meets PySem.F.slot_tuple_lt ⟨_, ho, rfl⟩ PySem.F.entry_tuple_lt (PySem.F.args_tuple_lt_2 _ _) (HT.tuple_lt_ints a b xs ys n n2 dd dd2 sl sl2 ns ms hi hi')
      ⟨ho, ho2, ?_⟩))
    exact wpAny_truthy_bool ⟨rfl, rfl⟩
/-- the first items: some, or none of an empty tuple -/
theorem first_tup {v : Value} {ns : List Int} {Q : Option Value → Shared → Prop} (hv : IsTI s.heap v ns) (h : ∀ f : Option Value, f.isSome = !ns.isEmpty → (∀ u, f = some u → ∃ i t, u = .int i t) → Q f s) : wpAny (model prog w) A (firstOfTuple' v) Q E s := by
  obtain ⟨a, xs, rfl, ⟨o, ho, hc, n, hd⟩, hi⟩ := hv
  rw [PySem.W.kas_first_eq]
  refine wpAny_bind (PySem.W.Looks.here (show PySem.W.Looks (model prog w) s.heap (typeOf (.ref a)) o.cls from (PySem.W.Looks.ld ho).andThen .now) ?_)
  rw [hc, if_neg (by first | decide | simp)]
  refine wpAny_bind (listItems_at ho hd (wpAny_pure ?_))
  have e : xs[0]? = xs.toList[0]? := by rw [Array.getElem?_toList]
  rw [e]
  cases hi' : xs.toList with
  | nil =>
    rw [hi'] at hi
    cases hi
    exact h _ rfl fun u z => nomatch z
  | cons u us =>
    rw [hi'] at hi
    cases hi with
    | cons i t r => exact h _ rfl fun u z => by injection z with z; exact ⟨i, t, z.symm⟩
theorem firsts_tup {k : Value → List Int} : ∀ {vs : List Value} {Q : List (Option Value) → Shared → Prop}, (∀ v ∈ vs, IsTI s.heap v (k v)) → (∀ fs : List (Option Value), fs.map (·.isSome) = vs.map (fun v => !(k v).isEmpty) → (∀ f ∈ fs, ∀ u, f = some u → ∃ i t, u = .int i t) → Q fs s) → wpAny (model prog w) A (vs.mapM firstOfTuple') Q E s
  | [], Q, _, h => by rw [List.mapM_nil]; exact wpAny_pure (h [] rfl fun f hf => nomatch hf)
  | v :: vs, Q, hv, h => by
    rw [List.mapM_cons]
    refine wpAny_bind (first_tup (hv v List.mem_cons_self) fun f h1 h2 => wpAny_bind (firsts_tup (fun u hu => hv u (List.mem_cons_of_mem _ hu)) fun fs e1 e2 => wpAny_pure (h _ (by rw [List.map_cons, e1, h1, List.map_cons]) fun g hg u e => ?_)))
    rcases List.mem_cons.mp hg with rfl | hg
    · exact h2 u e
    · exact e2 g hg u e
theorem types_ints : ∀ (l : List Value), (∀ u ∈ l, ∃ i t, u = Value.int i t) → l.mapM typeOf = (pure (l.map fun _ => Value.type "int") : Sem _)
  | [], _ => by simp
  | v :: l, h => by
    obtain ⟨i, t, rfl⟩ := h v List.mem_cons_self
    rw [List.mapM_cons, types_ints l fun u hu => h u (List.mem_cons_of_mem _ hu)]
    show (pure (Value.type "int") >>= fun b => pure _ >>= fun bs => pure (b :: bs)) = _
    simp
theorem types_tups {k : Value → List Int} : ∀ {vs : List Value} {Q : List Value → Shared → Prop}, (∀ v ∈ vs, IsTI s.heap v (k v)) → Q (vs.map fun _ => Value.type "tuple") s → wpAny (model prog w) A (vs.mapM typeOf) Q E s
  | [], Q, _, h => by rw [List.mapM_nil]; exact wpAny_pure h
  | v :: vs, Q, hv, h => by
    rw [List.mapM_cons]
    obtain ⟨a, xs, rfl, ⟨o, ho, hc, _⟩, _⟩ := hv v List.mem_cons_self
    refine wpAny_bind (PySem.W.Looks.here (show PySem.W.Looks (model prog w) s.heap (typeOf (.ref a)) o.cls from (PySem.W.Looks.ld ho).andThen .now) ?_)
    rw [hc]
    exact wpAny_bind (types_tups (fun u hu => hv u (List.mem_cons_of_mem _ hu)) (wpAny_pure h))
/-- the kind that is found -/
def kindT (bs : List Bool) : SortKind := if bs.all id then tuples' true else if bs.headD false then general' else oneType'
theorem kind_tups {vs : List Value} {k : Value → List Int} {Q : SortKind → Shared → Prop} (h0 : 0 < vs.length) (hv : ∀ v ∈ vs, IsTI s.heap v (k v)) (h1 : Q (kindT (vs.map fun v => !(k v).isEmpty)) s) : wpAny (model prog w) A (keyKind' vs.toArray) Q E s := by
  rw [keyKind'_eq, List.mapM_toArray, map_eq_pure_bind]
  refine wpAny_bind (wpAny_bind (firsts_tup hv fun fs e1 e2 => wpAny_pure ?_))
  rw [← e1] at h1
  have el : fs.length = vs.length := by
    have := congrArg List.length e1
    simpa using this
  have ea : (fs.toArray.all fun x => x.isSome) = (fs.map (·.isSome)).all id := by
    simp [List.all_map]
  unfold kindT at h1
  by_cases ha : ((fs.map (·.isSome)).all id) = true
  · rw [if_pos (by rw [ea]; exact ha)]
    rw [if_pos ha] at h1
    refine wpAny_bind (wpAny_rule ?_)
    have efm : fs.toArray.filterMap id = (fs.filterMap id).toArray := by simp
    rw [efm, oneTypeOnly'_eq, List.mapM_toArray, map_eq_pure_bind]
    have hi : ∀ u ∈ fs.filterMap id, ∃ i t, u = Value.int i t := fun u hu => by
      obtain ⟨f, hf, e⟩ := List.mem_filterMap.mp hu
      exact e2 f hf u e
    rw [types_ints _ hi]
    have hl : ∀ fs : List (Option Value), ((fs.map (·.isSome)).all id) = true → (fs.filterMap id).length = fs.length := by
      intro fs
      induction fs with
      | nil => exact fun _ => rfl
      | cons f fs ih =>
        intro ha
        rw [List.map_cons, List.all_cons, Bool.and_eq_true] at ha
        cases f with
        | none => exact nomatch ha.1
        | some u =>
          show (fs.filterMap id).length + 1 = fs.length + 1
          rw [ih ha.2]
    have hl := hl fs ha
    obtain ⟨u, us, eu⟩ : ∃ u us, fs.filterMap id = u :: us := by
      cases e : fs.filterMap id with
      | nil => rw [e] at hl; exact absurd hl (by rw [List.length_nil]; omega)
      | cons u us => exact ⟨u, us, rfl⟩
    rw [eu]
    refine wpAny_bind (wpAny_bind (wpAny_bind (wpAny_pure (wpAny_pure ?_))))
    have hall2 : ((List.map (fun _ => Value.type "int") (u :: us)).toArray.all fun x => x == Value.type "int") = true := by
      simp only [List.all_toArray, List.all_map, List.all_eq_true]
      intro _ _
      rfl
    have h00 : (List.map (fun _ => Value.type "int") (u :: us)).toArray[0]? = some (Value.type "int") := by simp
    rw [h00]
    simp only [hall2, if_true]
    refine wpAny_pure (wpAny_pure ?_)
    have e : ((some (Value.type "int")).any fun x => x != Value.type "tuple") = true := by first | decide +kernel | rfl | decide
    rw [e]
    exact h1
  · rw [if_neg (by rw [ea]; exact ha)]
    rw [if_neg ha] at h1
    obtain ⟨u, us, rfl⟩ : ∃ u us, vs = u :: us := by
      cases vs with
      | nil => exact absurd h0 (Nat.lt_irrefl _)
      | cons u us => exact ⟨u, us, rfl⟩
    obtain ⟨f, fs, rfl⟩ : ∃ f fs', fs = f :: fs' := by
      cases fs with
      | nil => exact nomatch el
      | cons u us => exact ⟨u, us, rfl⟩
    have eb : ((f :: fs).toArray[0]?.bind id).isSome = f.isSome := by simp
    have hh : ((f :: fs).map (·.isSome)).headD false = f.isSome := rfl
    rw [hh] at h1
    by_cases hf : f.isSome = true
    · rw [if_pos hf] at h1
      rw [if_pos (by rw [eb]; exact hf)]
      exact wpAny_pure h1
    · rw [if_neg hf] at h1
      rw [if_neg (by rw [eb]; exact hf), oneTypeOnly'_eq, List.mapM_toArray, map_eq_pure_bind]
      refine wpAny_bind (wpAny_bind (wpAny_bind (types_tups hv (wpAny_pure ?_))))
      have h00 : (List.map (fun _ => Value.type "tuple") (u :: us)).toArray[0]? = some (Value.type "tuple") := by simp
      have hall2 : ((List.map (fun _ => Value.type "tuple") (u :: us)).toArray.all fun x => x == Value.type "tuple") = true := by
        simp only [List.all_toArray, List.all_map, List.all_eq_true]
        intro _ _
        rfl
      rw [h00]
      simp only [hall2, if_true]
      exact wpAny_pure (wpAny_pure h1)
theorem tups_sortable {a : Addr} {vs : List Value} {k : Value → List Int} (hu : A.units < cLine) (h0 : 0 < vs.length) (hp : ∀ v ∈ vs, IsTI s.heap v (k v)) (ha : ∀ o, s.heap.get? a = some o → o.cls ≠ .type "tuple") : SortableO prog w A s a vs fun v u => lexLt (k v) (k u) := by
  intro h' keep
  have hp' : ∀ v ∈ vs, IsTI h' v (k v) := fun v hm => (hp v hm).keeps fun b o e c => keep b o (fun z => by subst z; exact ha o e c) e
  refine ⟨kindT (vs.map fun v => !(k v).isEmpty), fun Q E hq => kind_tups h0 hp' hq, ?_⟩
  unfold kindT
  split
  · exact cmpT_tuples hp'
  · split
    · exact cmpT_one (ty := false) hu hp'
    · exact cmpT_one (ty := true) hu hp'
end
end SrtO

namespace L2
open PySem PySem.Spec PyProof.Rows
/-- sorted(xs), a list or a tuple of ints -/
def rSortII (K : PySem.W.Frag) : List V → Hp → VK → Prop := fun vs H Q => ∃ (a : Addr) (ns : List Int), vs = [V.ref a] ∧ (SqL K H a (ns.map V.int) ∨ SqT K H a (ns.map V.int)) ∧
  ∀ (ns' : List Int) (p : Addr), ns'.Perm ns → ns'.Pairwise (· ≤ ·) → H p = none → Q (.ref p) (upd H p (.lst (ns'.map V.int)))
/-- sorted(xs), tuples of ints: k tells the ints -/
def rSortTI (K : PySem.W.Frag) : List V → Hp → VK → Prop := fun vs H Q => ∃ (a : Addr) (xs : List V) (k : V → List Int), vs = [V.ref a] ∧ (SqL K H a xs ∨ SqT K H a xs) ∧ (∀ x ∈ xs, ∃ t, x = .ref t ∧ SqT K H t ((k x).map V.int)) ∧
  ∀ (ys : List V) (p : Addr), ys.Perm xs → ys.Pairwise (fun x y => HT.lexLt (k y) (k x) = false) → H p = none → Q (.ref p) (upd H p (.lst ys))
section
variable {X : Cx}
theorem sq_of {pins : List (Addr × Obj)} {σ : L2.St} {H : Hp} {s : Shared} {a : Addr} {xs : List V} (I : Inv X pins σ H s) (h : SqL X.K H a xs ∨ SqT X.K H a xs) : ∃ its : List Value, Vals xs its ∧ SrtO.IsSq s.heap a its ∧ xs.length ≤ sizeLine := by
  rcases h with h | h
  · obtain ⟨its, rv, hl, hz⟩ := I.list h
    obtain ⟨o, ho, hc, n, hd⟩ := hl.isList
    exact ⟨its, rv, ⟨o, "list", ho, hc, .inl rfl, n, hd⟩, hz⟩
  · obtain ⟨its, rv, ⟨o, ho, hc, n, hd⟩, hz⟩ := I.tuple h
    exact ⟨its, rv, ⟨o, "tuple", ho, hc, .inr rfl, n, hd⟩, hz⟩
theorem cr_sortII : CallR X (.builtin "sorted") (rSortII X.K) := by
  intro pins s σ H vs us Q I r h
  obtain ⟨a, ns, rfl, hs, q⟩ := h
  obtain ⟨its, rv, hl, hz⟩ := sq_of I hs
  rw [Vals.ref1 r]
  have hi := rv.ints
  refine SrtO.sorted_sq SrtO.swo_int hl (by rw [← rv.length]; exact hz) (fun h2 h₁ a' _ _ => SrtO.ints_sortable hi h2) fun out h1 h2 => ?_
  obtain ⟨k1, k2, k3⟩ := SrtO.ints_out hi h1 h2
  obtain ⟨ep, he'⟩ := PyProof.Rows.sortedAll_at s.heap its out.toArray
  have hlen : ((out.map SrtO.iv).map V.int).length ≤ sizeLine := by
    rw [List.length_map, k2.length_eq]
    rw [List.length_map] at hz
    exact hz
  exact ⟨.ref _, upd H (s.heap.objs.size + 1) (.lst ((out.map SrtO.iv).map V.int)), I.laid (t' := s.toks) (fun _ _ => PyProof.Rows.sortedAll_old) (Nat.le_succ _) ⟨hlen, out, ep, vals_of_ints k1, he'⟩, rfl, q _ _ k2 k3 (I.hok.fresh (Nat.le_succ _))⟩
theorem cr_sortTI (hu : X.A.units + 64 < cLine) : CallR X (.builtin "sorted") (rSortTI X.K) := by
  intro pins s σ H vs us Q I r h
  obtain ⟨a, xs, k, rfl, hs, hx, q⟩ := h
  obtain ⟨its, rv, hl, hz⟩ := sq_of I hs
  rw [Vals.ref1 r]
  obtain ⟨e1, e2⟩ := refs_back rv fun x m => by
    obtain ⟨t, e, _⟩ := hx x m
    exact ⟨t, e⟩
  have hp : ∀ v ∈ its, SrtO.IsTI s.heap v (k (backV v)) := fun v hv => by
    obtain ⟨t, rfl⟩ := e2 v hv
    have hm : V.ref t ∈ xs := by rw [e1]; exact List.mem_map.mpr ⟨_, hv, rfl⟩
    obtain ⟨t', e, ht⟩ := hx _ hm
    cases e
    obtain ⟨its2, r2, p2, _⟩ := I.tuple ht
    exact ⟨t, its2.toArray, rfl, p2, by rw [List.toList_toArray]; exact r2.ints⟩
  refine SrtO.sorted_sq (SrtO.swo_lexI fun u => k (backV u)) hl (by rw [← rv.length]; exact hz) (fun h2 h₁ a' ha kk => SrtO.tups_sortable (by show X.A.units + 2 < cLine; omega) (by omega) (fun v hm => (hp v hm).keeps fun b o e _ => (kk b o e).2) fun o e => ?_) fun out h1 h2 => ?_
  · have e' : some o = some (seqObj "list" its.toArray 0) := e.symm.trans ha
    cases e'
    intro c
    exact absurd (Value.type.inj c) (by decide)
  · have h3 : ∀ u ∈ out, ∃ a, u = Value.ref a := fun u hu => e2 u (h2.perm.mem_iff.mp hu)
    obtain ⟨ep, he'⟩ := PyProof.Rows.sortedAll_at s.heap its out.toArray
    have hperm : (out.map backV).Perm xs := by
      rw [e1]
      exact h2.perm.map _
    have hlen : (out.map backV).length ≤ sizeLine := by
      rw [hperm.length_eq]
      exact hz
    exact ⟨.ref _, upd H (s.heap.objs.size + 1) (.lst (out.map backV)), I.laid (t' := s.toks) (fun _ _ => PyProof.Rows.sortedAll_old) (Nat.le_succ _) ⟨hlen, out, ep, vals_back h3, he'⟩, rfl, q _ _ hperm (List.pairwise_map.mpr h1) (I.hok.fresh (Nat.le_succ _))⟩
end
end L2
end PvSo_
section PvRs_
set_option maxRecDepth 100000
/-! PvRs: sorted, list(range(..)). -/
namespace Pv
open PySem PySem.Spec PyProof.Rows L2
section
variable {W : Wd} {p : Pr} {E : XK} {n : Nat} {X : Cx} {Γ : Gm} {σ : L2.St} {F F' : Hp} {ρ ρ' : En} {H H' : Hp} {Q : VK}
theorem reps_ints (F : Hp) : ∀ ns : List Int, Reps W F (ns.map V.int) (ns.map D.int)
  | [] => Reps.nil
  | i :: ns => Reps.cons (by unfold Rep; rfl) (reps_ints F ns)
def IsT (W : Wd) (F : Hp) (v : V) (ns : List Int) : Prop := ∃ t, v = .ref t ∧ SqT W.K F t (ns.map V.int)
open Classical in
noncomputable def keyT (W : Wd) (F : Hp) (v : V) : List Int := if h : ∃ ns, IsT W F v ns then Classical.choose h else []
theorem keyT_is {v : V} {ns : List Int} (h : IsT W F v ns) : IsT W F v (keyT W F v) := by
  unfold keyT
  have h' : ∃ ns, IsT W F v ns := ⟨ns, h⟩
  rw [dif_pos h']
  exact Classical.choose_spec h'
theorem map_int_inj : ∀ {a b : List Int}, a.map V.int = b.map V.int → a = b
  | [], [], _ => rfl
  | [], _ :: _, h => nomatch h
  | _ :: _, [], h => nomatch h
  | x :: a, y :: b, h => by
    injection h with h1 h2
    injection h1 with h1
    rw [h1, map_int_inj h2]
theorem tups_of : ∀ {xs : List D} {vs : List V} {ts : List (List Int)}, Reps W F vs xs → tInts xs = some ts → vs.length = ts.length ∧ ∀ (i : Nat) (v : V), vs[i]? = some v → ∃ ns, ts[i]? = some ns ∧ IsT W F v ns
  | [], vs, ts, r, e => by
    injection e with e; subst e; rw [r.nil_inv]
    exact ⟨rfl, fun i v h => nomatch h⟩
  | x :: xs, vs, ts, r, e => by
    obtain ⟨u, us, ev, h, r'⟩ := r.cons_inv
    subst ev
    cases x <;> try (injection e; done)
    case tup ys =>
      unfold tInts at e
      cases q : dInts ys with
      | none => rw [q] at e; exact nomatch e
      | some ns =>
        rw [q] at e
        have e : (tInts xs).map (ns :: ·) = some ts := e
        cases q2 : tInts xs with
        | none => rw [q2] at e; exact nomatch e
        | some ms =>
          rw [q2] at e; injection e with e; subst e
          obtain ⟨i1, i2⟩ := tups_of r' q2
          refine ⟨by rw [List.length_cons, List.length_cons, i1], fun i v hv => ?_⟩
          cases i with
          | zero =>
            injection hv with hv; subst hv
            unfold Rep at h
            obtain ⟨a, ws, e1, t1, r1⟩ := h
            have := ints_of r1 q; subst this
            exact ⟨ns, rfl, a, e1, t1⟩
          | succ i => exact i2 i v hv
theorem reps_map {f : V → D} : ∀ {ys : List V}, (∀ y ∈ ys, Rep W F y (f y)) → Reps W F ys (ys.map f)
  | [], _ => Reps.nil
  | y :: ys, h => Reps.cons (h y List.mem_cons_self) (reps_map fun z hz => h z (List.mem_cons_of_mem _ hz))
theorem blt_sortL (hK : X.K = W.K) (hu : X.A.units + 64 < cLine) {pins : List (Addr × Obj)} {s : Shared} {σ' : L2.St} {v : V} {us : List Value} {a : Addr} {ws : List V} {xs : List D} (I : Inv X pins σ' H s) (r : Vals [v] us) (R : Rel W Γ F ρ σ H) (ev : v = .ref a) (t1 : SqL X.K H a ws ∨ SqT X.K H a ws) (r1 : Reps W F ws xs)
    (h : Ok W Γ E σ F (O.of ((sortD xs).map fun y => .own (.lst y)) ρ) (KR W Γ σ Q)) : wpAny (model X.prog X.w) X.A (call (.builtin "sorted") us) (EP X pins σ' Q) X.xe s := by
  subst ev
  unfold sortD at h
  cases q : dInts xs with
  | some ns =>
    rw [q] at h
    have e := ints_of r1 q; subst e
    refine cr_sortII pins s σ' H _ us Q I r ⟨a, ns, rfl, t1, fun ns' b hp hs hb => ?_⟩
    rw [sortI_eq hs hp]
    exact ans_lst h R (reps_ints F _) hb
  | none =>
    rw [q] at h
    cases q2 : tInts xs with
    | none => rw [q2] at h; exact h.elim
    | some ts =>
      rw [q2] at h
      obtain ⟨i1, i2⟩ := tups_of r1 q2
      have hw : ∀ w ∈ ws, IsT W F w (keyT W F w) := fun w hm => by
        obtain ⟨i, hi, e⟩ := List.mem_iff_getElem.mp hm
        obtain ⟨ns, _, z⟩ := i2 i w (by rw [List.getElem?_eq_getElem hi, e])
        exact keyT_is z
      have ek : ws.map (keyT W F) = ts := by
        apply List.ext_getElem?
        intro i
        rw [List.getElem?_map]
        cases e : ws[i]? with
        | none =>
          have hl := List.getElem?_eq_none_iff.mp e
          rw [List.getElem?_eq_none (by omega)]; rfl
        | some w =>
          obtain ⟨ns, e1, t, e2, e3⟩ := i2 i w e
          obtain ⟨t', e4, e5⟩ := hw w (List.mem_of_getElem? e)
          rw [e1]
          have : t' = t := by rw [e2] at e4; injection e4 with e4; exact e4.symm
          subst this
          have z := I.tuple_inj (hK ▸ sqT_sub R.sub e3) (hK ▸ sqT_sub R.sub e5)
          show some (keyT W F w) = some ns
          rw [map_int_inj z]
      refine cr_sortTI hu pins s σ' H _ us Q I r ⟨a, ws, keyT W F, rfl, t1, fun w hm => ?_, fun ys b hp hs hb => ?_⟩
      · obtain ⟨t, e1, e2⟩ := hw w hm
        exact ⟨t, e1, hK ▸ sqT_sub R.sub e2⟩
      · have e6 : ys.map (keyT W F) = sortB HT.lexLt ts := srt_eq swoL lex_anti (List.pairwise_map.mpr hs) (by rw [← ek]; exact hp.map _)
        have h : Ok W Γ E σ F (.ok (.own (.lst ((sortB HT.lexLt ts).map tupI))) ρ) (KR W Γ σ Q) := h
        rw [← e6, List.map_map] at h
        refine ans_lst h R (reps_map fun y hy => ?_) hb
        obtain ⟨t, e1, e2⟩ := hw y (hp.mem_iff.mp hy)
        show Rep W F y (.tup ((keyT W F y).map D.int))
        unfold Rep
        exact ⟨t, _, e1, e2, reps_ints F _⟩
theorem blt_sorted (hK : X.K = W.K) (hu : X.A.units + 64 < cLine) : CallR X (.builtin "sorted") (RBl W E (bltD .sorted)) := by
  intro pins s σ' H vs us Q I r ⟨Γ, ρ, F, σ, ds, R, hv, h⟩
  rcases ds with _ | ⟨d, _ | ⟨d2, ds⟩⟩
  · exact h.elim
  · obtain ⟨v, rfl, hd⟩ := rds1 hv
    cases d <;> try exact h.elim
    case lst xs =>
      obtain ⟨a, ws, e, t1, r1⟩ := rd_lst R hd
      exact blt_sortL hK hu I r R e (.inl (.inl (.inl t1))) r1 h
    case tup xs =>
      obtain ⟨a, ws, e, t1, r1, _⟩ := rd_tup R hd
      exact blt_sortL hK hu I r R e (.inr (hK ▸ t1)) r1 h
  · cases d <;> exact h.elim
/-! ### list(range(..)) -/
theorem reps_rg (F : Hp) (lo hi : Int) : Reps W F (rgV lo hi) (rngL lo hi) := by
  unfold rgV rngL
  generalize List.range (hi - lo).toNat = l
  induction l with
  | nil => exact Reps.nil
  | cons i l ih => exact Reps.cons (by unfold Rep; rfl) ih
theorem pe_lrng1D {a : Expr} {ca : C} {p1 p2 pos1 pos : Pos} (hc : X.calm = true) (hg : Gl X "list") (hm : X.mg "list" = none) (hg2 : Gl X "range") (hm2 : X.mg "range" = none) (hs : notStar a = true) (ha : PE X a (rd W p E n ca)) :
    PE X (.Call (.Name "list" p1) [.Call (.Name "range" p2) [a] [] pos1] [] pos) (rd W p E (n + 1) (.blt .lrng1 [ca])) :=
  (pe_listRg hc hg hm (prg_1 hg2 hm2 ha (star_cons [] _ hs))).weak fun σ H Q ⟨Γ, ρ, F, R, h⟩ => by
    unfold ev at h
    have h := h.bind
    unfold evs at h
    have h := h.bind
    refine ⟨Γ, ρ, F, R, h.imp fun r ρ1 F1 H1 s1 R1 k v hv => ?_⟩
    unfold evs at k
    have k : Ok W Γ E σ F1 (match pks [r] ρ1 with | some ds => O.of (bltD .lrng1 ds) ρ1 | none => .bad) (KR W Γ σ Q) := k.at R1
    cases e : pk r ρ1 with
    | none => unfold pks at k; rw [e] at k; exact k.elim
    | some d =>
      unfold pks at k
      rw [e] at k
      unfold pks at k
      have hd := hv.pk R1 e
      cases d <;> try exact k.elim
      case int j =>
        have := rd_int hd; subst this
        obtain ⟨c, k⟩ := ok_if k
        have c := of_decide_eq_true c
        refine ⟨j, rfl, ⟨by omega, by omega, by omega, by omega, by omega⟩, fun q hq => ans_lst k R1 (reps_rg F1 0 j) hq⟩
theorem pe_lrng2D {a b : Expr} {ca cb : C} {p1 p2 pos1 pos : Pos} (hc : X.calm = true) (hg : Gl X "list") (hm : X.mg "list" = none) (hg2 : Gl X "range") (hm2 : X.mg "range" = none) (hs : notStar a = true) (hs2 : notStar b = true) (ha : PE X a (rd W p E n ca)) (hb : PE X b (rd W p E n cb)) :
    PE X (.Call (.Name "list" p1) [.Call (.Name "range" p2) [a, b] [] pos1] [] pos) (rd W p E (n + 1) (.blt .lrng2 [ca, cb])) :=
  (pe_listRg hc hg hm (prg_2 hg2 hm2 ha hb (star_cons [b] _ hs) (star_cons [] _ hs2) (by rw [star_cons [] _ hs2]; rfl))).weak fun σ H Q ⟨Γ, ρ, F, R, h⟩ => by
    unfold ev at h
    have h := h.bind
    unfold evs at h
    have h := h.bind
    refine ⟨Γ, ρ, F, R, h.imp fun r ρ1 F1 H1 s1 R1 k v hv => ?_⟩
    unfold evs at k
    have k := k.bind.bind
    refine ⟨_, ρ1, F1, hv.keepRel R1, (k.keep hv R1).imp fun r2 ρ2 F2 H2 s2 R2k ⟨hx2, R2, e0, k⟩ v2 hv2 => ?_⟩
    have hv2 := hv2.unkeep hv.ownH0
    unfold evs at k
    have k := k.at R2
    have k : Ok W Γ E σ F2 (match pks [r, r2] ρ2 with | some ds => O.of (bltD .lrng2 ds) ρ2 | none => .bad) (KR W Γ σ Q) := k.at R2
    cases e : pk r ρ2 with
    | none => unfold pks at k; rw [e] at k; exact k.elim
    | some d =>
      cases e2 : pk r2 ρ2 with
      | none => unfold pks at k; rw [e] at k; unfold pks at k; rw [e2] at k; exact k.elim
      | some d2 =>
        unfold pks at k
        rw [e] at k
        unfold pks at k
        rw [e2] at k
        unfold pks at k
        have hd := hx2.pk R2 e
        have hd2 := hv2.pk R2 e2
        cases d <;> cases d2 <;> try exact k.elim
        case int.int i j =>
          have := rd_int hd; subst this
          have := rd_int hd2; subst this
          obtain ⟨c, k⟩ := ok_if k
          rw [Bool.and_eq_true] at c
          have c1 := of_decide_eq_true c.1
          have c2 := of_decide_eq_true c.2
          refine ⟨i, j, rfl, rfl, ⟨by omega, by omega, by omega, by omega, by omega⟩, fun q hq => ans_lst k R2 (reps_rg F2 i j) hq⟩
end
end Pv
end PvRs_
section PvF_
set_option maxRecDepth 100000
/-! PvF: methods of lists; calls of defs. -/
namespace Pv
open PySem PySem.Spec PyProof.Rows L2
section
variable {W : Wd} {p : Pr} {E : XK} {n : Nat} {X : Cx} {Γ : Gm} {σ : L2.St} {F F' : Hp} {ρ ρ' : En} {H H' : Hp} {Q : VK}
theorem Reps.rds : ∀ {ds : List D} {vs : List V}, Reps W F vs ds → RdDs W F H vs ds
  | [], vs, r => by rw [r.nil_inv]; trivial
  | d :: ds, vs, r => by
    obtain ⟨u, us, e, h, r⟩ := r.cons_inv
    rw [e]; exact ⟨.inl h, r.rds⟩
/-- a method of a value, read or changed -/
def MthA (W : Wd) (E : XK) (m : Mt) (x : V) (vs : List V) (H : Hp) (Q : VK) : Prop :=
  ∃ Γ ρ F σ i q o b d ds r y, Rel W Γ F ρ σ H ∧ x = .ref q ∧ ρ[i]? = some (.own b false d) ∧ σ[i]? = some (some (.ref q)) ∧ H q = some o ∧ Top W F o d ∧ Reps W F vs ds ∧ mthD m d ds = some (r, y) ∧ Ok W Γ E σ F (.ok r (ρ.set i (.own b false y))) (KR W Γ σ Q)
def MthB (W : Wd) (E : XK) (m : Mt) (x : V) (vs : List V) (H : Hp) (Q : VK) : Prop :=
  ∃ Γ ρ F σ d ds, Rel W Γ F ρ σ H ∧ RdD W F H x d ∧ RdDs W F H vs ds ∧ Ok W Γ E σ F (O.of (rdmD m d ds) ρ) (KR W Γ σ Q)
def RMt (W : Wd) (E : XK) (m : Mt) : V → List V → Hp → VK → Prop := fun x vs H Q => MthA W E m x vs H Q ∨ MthB W E m x vs H Q
theorem mth_split {m : Mt} {ro : R} {rs : List R} {x : V} {vs : List V} (R : Rel W Γ F ρ σ H) (hx : RepR W Γ F ρ σ H x ro) (hv : RepRs W Γ F ρ σ H vs rs) (h : Ok W Γ E σ F (mthO m ro rs ρ) (KR W Γ σ Q)) : RMt W E m x vs H Q := by
  have rest : ∀ ro : Pv.R, RepR W Γ F ρ σ H x ro → Ok W Γ E σ F (match pk ro ρ, pks rs ρ with | some d, some ds => O.of (rdmD m d ds) ρ | _, _ => .bad) (KR W Γ σ Q) → RMt W E m x vs H Q := fun ro hx h => by
    cases e1 : pk ro ρ with
    | none => rw [e1] at h; exact h.elim
    | some d =>
      cases e2 : pks rs ρ with
      | none => rw [e1, e2] at h; exact h.elim
      | some ds => rw [e1, e2] at h; exact .inr ⟨Γ, ρ, F, σ, d, ds, R, hx.pk R e1, hv.pks R e2, h⟩
  cases ro with
  | dat d => exact rest _ hx h
  | own d => exact rest _ hx h
  | ptr i =>
    unfold mthO at h
    dsimp only at h
    cases e1 : frzs rs ρ with
    | none => rw [e1] at h; exact h.elim
    | some q =>
      rw [e1] at h
      obtain ⟨ds, ρ3⟩ := q
      dsimp only at h
      obtain ⟨F3, s3, R3, rps, k⟩ := hv.frzs R e1
      have hx3 := k x (.ptr i) hx fun d z => (nomatch z)
      have rd : ∀ d, rdS (getS ρ3 i) = some d → Ok W Γ E σ F (O.of (rdmD m d ds) ρ3) (KR W Γ σ Q) → RMt W E m x vs H Q := fun d e h =>
        .inr ⟨Γ, ρ3, F3, σ, d, ds, R3, hx3.pk (r := .ptr i) R3 e, rps.rds, h.sub s3⟩
      cases e2 : getS ρ3 i with
      | emp => rw [e2] at h; exact h.elim
      | cls _ => rw [e2] at h; exact h.elim
      | dat d => rw [e2] at h; exact rd d (by rw [e2]; rfl) h
      | own b l d =>
        cases l with
        | true => rw [e2] at h; exact rd d (by rw [e2]; rfl) h
        | false =>
          rw [e2] at h
          dsimp only at h
          cases e3 : mthD m d ds with
          | none => rw [e3] at h; exact rd d (by rw [e2]; rfl) h
          | some t =>
            rw [e3] at h
            have e4 := getS_some e2 (fun z => nomatch z)
            obtain ⟨q, o, f1, f2, f3, _⟩ := R3.slotOwn e4
            have hx3 : σ[i]? = some (some x) := hx3
            rw [f1] at hx3; injection hx3 with hx3; injection hx3 with hx3
            exact .inl ⟨Γ, ρ3, F3, σ, i, q, o, b, d, ds, t.1, t.2, R3, hx3.symm, e4, f1, f2, f3, rps, e3, h.sub s3⟩
theorem reps1 {vs : List V} {d : D} (r : Reps W F vs [d]) : ∃ v, vs = [v] ∧ Rep W F v d := by
  obtain ⟨u, us, e, h, r⟩ := r.cons_inv
  rw [r.nil_inv] at e; exact ⟨u, e, h⟩
theorem top_lst {o : HO} {xs : List D} (t : Top W F o (.lst xs)) : ∃ ws, o = .lst ws ∧ Reps W F ws xs := t
theorem mt_appendD : MtR X "list.append" (RMt W E .append) := by
  intro pins s σ' H x vs v us Q I rx rvs h
  rcases h with ⟨Γ, ρ, F, σ, i, q, o, b, d, ds, r, y, R, hx, e1, e2, e3, t, rp, e4, h⟩ | ⟨Γ, ρ, F, σ, d, ds, R, hd, hv, h⟩
  · cases d <;> try (injection e4; done)
    case lst xs =>
      rcases ds with _ | ⟨d, _ | ⟨d2, ds⟩⟩
      · exact nomatch e4
      · dsimp only [mthD] at e4
        by_cases c : fits (xs.length + 1) = true
        · rw [if_pos c] at e4; injection e4 with e4; injection e4 with g1 g2; subst g1; subst g2
          obtain ⟨w, rfl, rw_⟩ := reps1 rp
          obtain ⟨ws, rfl, r1⟩ := top_lst t
          have c := fits_le c
          refine mt_append pins s σ' H x _ v us Q I rx rvs ⟨q, ws, w, hx, rfl, e3, by rw [r1.length]; exact c, ?_⟩
          exact ans_non h (R.mut e1 e2 ⟨_, rfl, r1.append (Reps.nil.cons rw_)⟩)
        · rw [if_neg c] at e4; exact nomatch e4
      · exact nomatch e4
  · exact h.elim
theorem mt_extendD : MtR X "list.extend" (RMt W E .extend) := by
  intro pins s σ' H x vs v us Q I rx rvs h
  rcases h with ⟨Γ, ρ, F, σ, i, q, o, b, d, ds, r, y, R, hx, e1, e2, e3, t, rp, e4, h⟩ | ⟨Γ, ρ, F, σ, d, ds, R, hd, hv, h⟩
  · cases d <;> try (injection e4; done)
    case lst xs =>
      rcases ds with _ | ⟨d, _ | ⟨d2, ds⟩⟩
      · exact nomatch e4
      · cases d <;> try (injection e4; done)
        case lst ys =>
          dsimp only [mthD] at e4
          by_cases c : fits (xs.length + ys.length) = true
          · rw [if_pos c] at e4; injection e4 with e4; injection e4 with g1 g2; subst g1; subst g2
            obtain ⟨w, rfl, rw_⟩ := reps1 rp
            obtain ⟨ws, rfl, r1⟩ := top_lst t
            unfold Rep at rw_
            obtain ⟨a, zs, rfl, f1, f2⟩ := rw_
            have c := fits_le c
            refine mt_extend pins s σ' H x _ v us Q I rx rvs ⟨q, a, ws, zs, hx, rfl, e3, R.sub _ _ f1, by rw [r1.length, f2.length]; exact c, ?_⟩
            exact ans_non h (R.mut e1 e2 ⟨_, rfl, r1.append f2⟩)
          · rw [if_neg c] at e4; exact nomatch e4
      · cases d <;> exact nomatch e4
  · exact h.elim
theorem mt_popD : MtR X "list.pop" (RMt W E .pop) := by
  intro pins s σ' H x vs v us Q I rx rvs h
  rcases h with ⟨Γ, ρ, F, σ, i, q, o, b, d, ds, r, y, R, hx, e1, e2, e3, t, rp, e4, h⟩ | ⟨Γ, ρ, F, σ, d, ds, R, hd, hv, h⟩
  · cases d <;> try (injection e4; done)
    case lst xs =>
      rcases ds with _ | ⟨d, ds⟩
      · dsimp only [mthD] at e4
        cases e5 : xs.getLast? with
        | none => rw [e5] at e4; exact nomatch e4
        | some z =>
          rw [e5] at e4; injection e4 with e4; injection e4 with g1 g2; subst g1; subst g2
          have := rp.nil_inv; subst this
          obtain ⟨ws, rfl, r1⟩ := top_lst t
          rw [List.getLast?_eq_getElem?] at e5
          obtain ⟨w, f1, f2⟩ := r1.get e5
          rw [← r1.length] at f1
          refine mt_pop pins s σ' H x _ v us Q I rx rvs ⟨q, ws, w, hx, rfl, e3, f1, ?_⟩
          refine ans_dat h (R.mut e1 e2 ⟨_, rfl, ?_⟩) f2
          rw [List.dropLast_eq_take, List.dropLast_eq_take, r1.length]
          exact r1.take _
      · exact nomatch e4
  · cases d <;> exact h.elim
theorem eraseIdx_reps {vs : List V} {xs : List D} (r : Reps W F vs xs) (k : Nat) : Reps W F (vs.eraseIdx k) (xs.eraseIdx k) := by
  rw [List.eraseIdx_eq_take_drop_succ, List.eraseIdx_eq_take_drop_succ]
  exact (r.take k).append (r.drop (k + 1))
theorem mt_popAtD : MtR X "list.pop" (RMt W E .popAt) := by
  intro pins s σ' H x vs v us Q I rx rvs h
  rcases h with ⟨Γ, ρ, F, σ, i, q, o, b, d, ds, r, y, R, hx, e1, e2, e3, t, rp, e4, h⟩ | ⟨Γ, ρ, F, σ, d, ds, R, hd, hv, h⟩
  · cases d <;> try (injection e4; done)
    case lst xs =>
      rcases ds with _ | ⟨d, _ | ⟨d2, ds⟩⟩
      · exact nomatch e4
      · cases d <;> try (injection e4; done)
        case int k =>
          dsimp only [mthD] at e4
          by_cases c : (decide (0 ≤ k) && decide (k < xs.length)) = true
          · rw [if_pos c] at e4
            simp only [Bool.and_eq_true, decide_eq_true_eq] at c
            cases e5 : xs[k.toNat]? with
            | none => rw [e5] at e4; exact nomatch e4
            | some z =>
              rw [e5] at e4; injection e4 with e4; injection e4 with g1 g2; subst g1; subst g2
              obtain ⟨w, rfl, rw_⟩ := reps1 rp
              unfold Rep at rw_; subst rw_
              obtain ⟨ws, rfl, r1⟩ := top_lst t
              obtain ⟨w, f1, f2⟩ := r1.get e5
              have hl := r1.length
              obtain ⟨_, _, _, hsz, _⟩ := I.lstM e3
              have hz : ws.length ≤ sizeLine := (I.lstM e3).1
              have hk : L2.ixN ws.length k = some k.toNat := by
                unfold L2.ixN
                rw [if_pos c.1, if_pos (by rw [hl]; exact c.2)]
              have big : (sizeLine : Int) < 2 ^ 63 := by decide
              refine mt_popAt pins s σ' H x _ v us Q I rx rvs ⟨q, ws, k, k.toNat, w, hx, rfl, e3, by omega, by omega, (L2.ixN_seq hk).1, f1, ?_⟩
              exact ans_dat h (R.mut e1 e2 ⟨_, rfl, eraseIdx_reps r1 _⟩) f2
          · rw [if_neg c] at e4; exact nomatch e4
      · cases d <;> exact nomatch e4
  · cases d <;> exact h.elim
theorem mt_countD (hK : X.K = W.K) : MtR X "list.count" (RMt W E .count) := by
  intro pins s σ' H x vs v us Q I rx rvs h
  rcases h with ⟨Γ, ρ, F, σ, i, q, o, b, d, ds, r, y, R, hx, e1, e2, e3, t, rp, e4, h⟩ | ⟨Γ, ρ, F, σ, d, ds, R, hd, hv, h⟩
  · cases d <;> exact nomatch e4
  · cases d <;> try exact h.elim
    case lst xs =>
      rcases ds with _ | ⟨d, _ | ⟨d2, ds⟩⟩
      · exact h.elim
      · cases d <;> try exact h.elim
        case int k =>
          obtain ⟨w, rfl, hw⟩ := rds1 hv
          rw [rd_int hw] at rvs
          obtain ⟨a, ws, rfl, t1, r1⟩ := rd_lst R hd
          dsimp only [rdmD] at h
          cases e5 : dInts xs with
          | none => rw [e5] at h; exact h.elim
          | some ns =>
            rw [e5] at h
            have e := ints_of r1 e5; subst e
            exact mt_lcount pins s σ' H _ _ v us Q I rx rvs ⟨a, ns, k, rfl, rfl, .inl (.inl t1), ans_int h R⟩
      · cases d <;> exact h.elim
theorem find_at (k : Int) : ∀ (ns : List Int) (j : Nat), ns.findIdx? (· == k) = some j → ns[j]? = some k ∧ ∀ (m : Nat) (z : Int), m < j → ns[m]? = some z → z ≠ k
  | [], j, h => nomatch h
  | x :: ns, j, h => by
    rw [List.findIdx?_cons] at h
    by_cases c : (x == k) = true
    · rw [if_pos c] at h
      injection h with h; subst h
      exact ⟨by rw [List.getElem?_cons_zero, beq_iff_eq.mp c], fun m z hm => absurd hm (Nat.not_lt_zero _)⟩
    · rw [if_neg c] at h
      cases e : ns.findIdx? (· == k) with
      | none => rw [e] at h; exact nomatch h
      | some i =>
        rw [e] at h
        injection h with h; subst h
        obtain ⟨h1, h2⟩ := find_at k ns i e
        refine ⟨by rw [List.getElem?_cons_succ]; exact h1, fun m z hm hz => ?_⟩
        cases m with
        | zero =>
          rw [List.getElem?_cons_zero] at hz; injection hz with hz; subst hz
          exact fun z => c (beq_iff_eq.mpr z)
        | succ m => exact h2 m z (Nat.lt_of_succ_lt_succ hm) (by rw [List.getElem?_cons_succ] at hz; exact hz)
theorem mt_indexD (hK : X.K = W.K) : MtR X "list.index" (RMt W E .index) := by
  intro pins s σ' H x vs v us Q I rx rvs h
  rcases h with ⟨Γ, ρ, F, σ, i, q, o, b, d, ds, r, y, R, hx, e1, e2, e3, t, rp, e4, h⟩ | ⟨Γ, ρ, F, σ, d, ds, R, hd, hv, h⟩
  · cases d <;> exact nomatch e4
  · cases d <;> try exact h.elim
    case lst xs =>
      rcases ds with _ | ⟨d, _ | ⟨d2, ds⟩⟩
      · exact h.elim
      · cases d <;> try exact h.elim
        case int k =>
          obtain ⟨w, rfl, hw⟩ := rds1 hv
          rw [rd_int hw] at rvs
          obtain ⟨a, ws, rfl, t1, r1⟩ := rd_lst R hd
          dsimp only [rdmD] at h
          cases e5 : dInts xs with
          | none => rw [e5] at h; exact h.elim
          | some ns =>
            rw [e5] at h
            have e := ints_of r1 e5; subst e
            have h : Ok W Γ E σ F (O.of ((ns.findIdx? (· == k)).map fun (j : Nat) => Pv.R.dat (.int (j : Int))) ρ) (KR W Γ σ Q) := h
            cases e6 : ns.findIdx? (· == k) with
            | none => rw [e6] at h; exact h.elim
            | some j =>
              rw [e6] at h
              obtain ⟨f1, f2⟩ := find_at k ns j e6
              refine mt_index pins s σ' H _ _ v us Q I rx rvs ⟨a, _, .int k, j, .int k, rfl, rfl, .inl (.inl t1), rfl, ?_, ?_, ?_, fun m z' hm hz => ?_, ans_int h R⟩
              · rw [List.all_eq_true]
                intro z hz
                obtain ⟨i, _, rfl⟩ := List.mem_map.mp hz
                rfl
              · rw [List.getElem?_map, f1]; rfl
              · show (k == k) = true
                simp
              · rw [List.getElem?_map] at hz
                cases e7 : ns[m]? with
                | none => rw [e7] at hz; exact nomatch hz
                | some i =>
                  rw [e7] at hz; injection hz with hz; subst hz
                  show (i == k) = false
                  exact beq_eq_false_iff_ne.mpr (f2 m i hm e7)
      · cases d <;> exact h.elim
/-- the receiver of a method -/
def plainRecv : Expr → Bool
  | .Call _ _ _ _ => false
  | _ => true
theorem plainRecv_ok {o : Expr} {name : Str} {env : Env} (h : plainRecv o = true) : attributeBase o name env (eval o env) = eval o env := by
  cases o <;> first
    | rfl
    | exact nomatch h
theorem rd_mth {m : Mt} {co : C} {cs : List C} (hK : X.K = W.K) (h : rd W p E (n + 1) (.mth m co cs) σ H Q) : tBM X.K "list" (RMt W E m) (rd W p E n co) (rdA W p E n cs) σ H Q := by
  obtain ⟨Γ, ρ, F, R, h⟩ := h
  unfold ev at h
  refine ⟨Γ, ρ, F, R, h.bind.imp fun ro ρ1 F1 H1 s1 R1 h1 x hx => ?_⟩
  cases e1 : pk ro ρ1 with
  | none => rw [e1] at h1; exact h1.elim
  | some d =>
    rw [e1] at h1
    cases d <;> try exact h1.elim
    case lst xs =>
      obtain ⟨a, ws, rfl, t1, r1⟩ := rd_lst R1 (hx.pk R1 e1)
      refine ⟨.inl ⟨rfl, ws, .inl (.inl t1)⟩, _, ρ1, F1, hx.keepRel R1, (h1.bind.keep hx R1).imp fun rs ρ2 F2 H2 s2 R2k ⟨hx2, R2, e, h2⟩ vs hvs => ?_⟩
      exact mth_split R2 hx2 (hvs.map fun j v r' _ _ h' => h'.unkeep hx.ownH0) h2
theorem tyd (id : String) (h : typeOf (.builtin id) = pure (.type "method_descriptor")) : typeOf (.builtin id) = pure (.type "method_descriptor") := h
theorem few1 {e : Expr} {env : Env} {pos : Pos} (h : notStar e = true) : ((backTo pos (starEach [e] env)).all (fun x => !x.1) && (backToKw pos (keywordEach [] env)).all (fun x => x.1.isSome)
      && decide (([e] : List Expr).length + ([] : List Keyword).length + (if ([] : List Keyword).isEmpty then 0 else 1) < 30)) = true := by
  rw [star_cons [] env h]; rfl
theorem pe_mth1 {m : Mt} {o e : Expr} {co ce : C} {name : Str} {id : String} {apos cpos : Pos} (hK : X.K = W.K) (slot : Slot "list" name id) (hty : typeOf (.builtin id) = pure (.type "method_descriptor")) (hm : MtR X id (RMt W E m)) (hl : (apos.endLine == cpos.line) = true)
    (hr : plainRecv o = true) (hs : notStar e = true) (ho : PE X o (rd W p E n co)) (he : PE X e (rd W p E n ce)) : PE X (.Call (.Attribute o name apos) [e] [] cpos) (rd W p E (n + 1) (.mth m co [ce])) :=
  (pe_bm F.plainAttrs_list slot hty hm ho (pa_consD hs he pa_nilD) (plainRecv_ok hr) (few1 hs) hl (star_cons _ _ hs) rfl).weak fun σ H Q h => rd_mth hK h
theorem pe_mth0 {m : Mt} {o : Expr} {co : C} {name : Str} {id : String} {apos cpos : Pos} (hK : X.K = W.K) (slot : Slot "list" name id) (hty : typeOf (.builtin id) = pure (.type "method_descriptor")) (hm : MtR X id (RMt W E m)) (hl : (apos.endLine == cpos.line) = true)
    (hr : plainRecv o = true) (ho : PE X o (rd W p E n co)) : PE X (.Call (.Attribute o name apos) [] [] cpos) (rd W p E (n + 1) (.mth m co [])) :=
  (pe_bm0 F.plainAttrs_list slot hty hm ho (plainRecv_ok hr) hl).weak fun σ H Q h => by
    have h := rd_mth hK h
    obtain ⟨Γ, ρ, F, R, h⟩ := h
    refine ⟨Γ, ρ, F, R, h.imp fun r ρ1 F1 H1 s1 R1 h1 x hx => ?_⟩
    obtain ⟨a, Γ2, ρ2, F2, R2, h2⟩ := h1 x hx
    refine ⟨a, ?_⟩
    exact h2.at R2 [] trivial
end
end Pv
end PvF_
section PvG_
set_option maxRecDepth 100000
/-! PvG: what a def promises by the evaluator; calls. -/
namespace Pv
open PySem PySem.Spec PyProof.Rows L2
def ArOk (W : Wd) (F H : Hp) (v : V) : Ar → Prop
  | .dat d => Rep W F v d
  | .own _ d => ∃ p o, v = .ref p ∧ H p = some o ∧ Top W F o d ∧ F p = none
structure CallOk (W : Wd) (F H : Hp) (vs : List V) (as : List Ar) : Prop where
  len : vs.length = as.length
  fh : ∀ a o, F a = some o → H a = some o ∧ Nt o
  tb : LamX.Tabs W.T H
  ar : ∀ (j : Nat) a v, as[j]? = some a → vs[j]? = some v → ArOk W F H v a
  dis : ∀ (i j : Nat) l d l' d' p, as[i]? = some (.own l d) → as[j]? = some (.own l' d') → vs[i]? = some (V.ref p) → vs[j]? = some (V.ref p) → i = j
def OwnAt (vs : List V) (as : List Ar) (a : Addr) : Prop := ∃ (j : Nat) (l : Bool) (d : D), as[j]? = some (.own l d) ∧ vs[j]? = some (V.ref a)
structure After (W : Wd) (F H : Hp) (vs : List V) (as : List Ar) (F' H' : Hp) (out : List (Option D)) : Prop where
  sub : Sub F F'
  fh : ∀ a o, F' a = some o → H' a = some o ∧ Nt o
  fnew : ∀ a o, F' a = some o → F a = some o ∨ Nx H a
  kp : ∀ a o, H a = some o → (∀ ps, o ≠ .tbl ps) → ¬ OwnAt vs as a → H' a = some o
  dmn : ∀ a, Nx H' a → Nx H a
  tb : LamX.Tabs W.T H'
  out : ∀ (j : Nat) l d, as[j]? = some (.own l d) → ∃ p o d', vs[j]? = some (V.ref p) ∧ out[j]? = some (some d') ∧ H' p = some o ∧ Top W F' o d' ∧ F' p = none ∧ (l = true → d' = d)
def RetOk (W : Wd) (H F' H' : Hp) (v : V) : R → Prop
  | .dat d => Rep W F' v d
  | .own d => ∃ p o, v = .ref p ∧ H' p = some o ∧ Top W F' o d ∧ F' p = none ∧ Nx H p
  | .ptr _ => False
/-- a def's promise -/
def EndOk (W : Wd) (F H : Hp) (vs : List V) (as : List Ar) (Q : VK) (E : XK) : Out → Prop
  | .ret r out => ∀ F' H' v, After W F H vs as F' H' out → RetOk W H F' H' v r → Q v H'
  | .exc c d out => ∀ F' H' cls dx, After W F H vs as F' H' out → XRep W F' H' cls dx c d → E cls dx H'
  | .bad => False
def spOf (W : Wd) (p : Pr) (f : Nat) : Sp := fun vs H Q E => ∃ F as, CallOk W F H vs as ∧ EndOk W F H vs as Q E (p.cal f as)
section
variable {W : Wd} {G : Heap} {c : Frm} {F H F' H' : Hp} {vs : List V} {as : List Ar} {out : List (Option D)} {Q : VK} {E : XK}
theorem arOk_at (v : V) (a : Ar) : ArOk (W.up G c) F H v a = ArOk W F H v a := by
  cases a with
  | dat d => exact rep_up W G c F d v
  | own l d => unfold ArOk; simp only [top_up]
theorem CallOk.to (h : CallOk W F H vs as) : CallOk (W.up G c) F H vs as := ⟨h.len, h.fh, h.tb, fun j a v e1 e2 => by rw [arOk_at]; exact h.ar j a v e1 e2, h.dis⟩
theorem CallOk.back (h : CallOk (W.up G c) F H vs as) : CallOk W F H vs as := ⟨h.len, h.fh, h.tb, fun j a v e1 e2 => by have := h.ar j a v e1 e2; rwa [arOk_at] at this, h.dis⟩
theorem After.to (h : After W F H vs as F' H' out) : After (W.up G c) F H vs as F' H' out := ⟨h.sub, h.fh, h.fnew, h.kp, h.dmn, h.tb, fun j l d e => by
  obtain ⟨p, o, d', h1, h2, h3, h4, h5⟩ := h.out j l d e
  exact ⟨p, o, d', h1, h2, h3, by rw [top_up]; exact h4, h5⟩⟩
theorem After.back (h : After (W.up G c) F H vs as F' H' out) : After W F H vs as F' H' out := ⟨h.sub, h.fh, h.fnew, h.kp, h.dmn, h.tb, fun j l d e => by
  obtain ⟨p, o, d', h1, h2, h3, h4, h5⟩ := h.out j l d e
  exact ⟨p, o, d', h1, h2, h3, by rwa [top_up] at h4, h5⟩⟩
theorem retOk_at (v : V) (r : R) : RetOk (W.up G c) H F' H' v r = RetOk W H F' H' v r := by
  cases r with
  | dat d => exact rep_up W G c F' d v
  | own d => unfold RetOk; simp only [top_up]
  | ptr i => rfl
theorem xrep_at (cls : Value) (dx : Option Addr) (k : Nat) (d : Option D) : XRep (W.up G c) F H cls dx k d = XRep W F H cls dx k d := by
  unfold XRep
  cases d with
  | none => rfl
  | some x => simp only [rep_up]
theorem EndOk.to {x : Out} (h : EndOk W F H vs as Q E x) : EndOk (W.up G c) F H vs as Q E x := by
  cases x with
  | ret r out => exact fun F' H' v A k => h F' H' v A.back (by rwa [retOk_at] at k)
  | exc cc d out => exact fun F' H' cls dx A k => h F' H' cls dx A.back (by rwa [xrep_at] at k)
  | bad => exact h
theorem EndOk.back {x : Out} (h : EndOk (W.up G c) F H vs as Q E x) : EndOk W F H vs as Q E x := by
  cases x with
  | ret r out => exact fun F' H' v A k => h F' H' v A.to (by rw [retOk_at]; exact k)
  | exc cc d out => exact fun F' H' cls dx A k => h F' H' cls dx A.to (by rw [xrep_at]; exact k)
  | bad => exact h
end
section
variable {W : Wd} {p : Pr} {E : XK} {n : Nat} {X : Cx} {Γ : Gm} {σ : L2.St} {F F' : Hp} {ρ ρ' : En} {H H' : Hp} {Q : VK}
theorem RepRs.args1 {ref : List Nat} : ∀ {rs : List R} {vs : List V} {k : Nat} {F : Hp} {ρ : En} {q : List R × En}, Rel W Γ F ρ σ H → RepRs W Γ F ρ σ H vs rs → args1 ref k rs ρ = some q →
    ∃ F', Sub F F' ∧ Rel W Γ F' q.2 σ H ∧ RepRs W Γ F' q.2 σ H vs q.1 ∧ (∀ (j : Nat) d, q.1[j]? = some (.own d) → rs[j]? = some (.own d)) ∧
      ∀ v' r', RepR W Γ F ρ σ H v' r' → ((∃ d, r' = .own d) → ∀ (j : Nat) u d, vs[j]? = some u → rs[j]? = some (.own d) → u ≠ v') → RepR W Γ F' q.2 σ H v' r'
  | [], [], k, F, ρ, q, R, h, e => by injection e with e; subst e; exact ⟨F, Sub.rfl, R, trivial, fun j d z => by simp at z, fun _ _ h _ => h⟩
  | [], _ :: _, _, _, _, _, R, h, e => h.elim
  | _ :: _, [], _, _, _, _, R, h, e => h.elim
  | r :: rs, v :: vs, k, F, ρ, q, R, h, e => by
    unfold Pv.args1 at e
    cases c : ref.contains k with
    | true =>
      rw [c] at e
      dsimp only at e
      cases e2 : Pv.args1 ref (k + 1) rs ρ with
      | none => rw [e2] at e; exact nomatch e
      | some u =>
        rw [e2] at e; injection e with e; subst e
        obtain ⟨F2, s2, R2, rps, own, kk⟩ := RepRs.args1 R h.2.1 e2
        refine ⟨F2, s2, R2, ⟨kk v r h.1 fun z j u' d a1 a2 => h.2.2 z j u' d a1 a2, rps, fun z j u' d a1 a2 => h.2.2 z j u' d a1 (own j d a2)⟩, fun j d z => ?_, fun v' r' h' n => kk v' r' h' fun z j u' d a1 a2 => n z (j + 1) u' d (by rw [List.getElem?_cons_succ]; exact a1) (by rw [List.getElem?_cons_succ]; exact a2)⟩
        cases j with
        | zero => exact z
        | succ j => rw [List.getElem?_cons_succ] at z ⊢; exact own j d z
    | false =>
      rw [c] at e
      dsimp only at e
      cases e1 : Pv.frz r ρ with
      | none => rw [e1] at e; exact nomatch e
      | some t =>
        rw [e1] at e
        dsimp only [Option.bind] at e
        obtain ⟨F1, s1, R1, rp, k1⟩ := h.1.frz R e1
        cases e2 : Pv.args1 ref (k + 1) rs t.2 with
        | none => rw [e2] at e; exact nomatch e
        | some u =>
          rw [e2] at e; injection e with e; subst e
          have h2 : RepRs W Γ F1 t.2 σ H vs rs := h.2.1.map fun j v' r' a1 a2 h' => k1 v' r' h' fun z1 ⟨d, z2⟩ => h.2.2 z1 j v' d a1 (z2 ▸ a2)
          obtain ⟨F2, s2, R2, rps, own, kk⟩ := RepRs.args1 R1 h2 e2
          refine ⟨F2, s1.trans s2, R2, ⟨rp.mono s2 _, rps, fun ⟨d, z⟩ => (nomatch z)⟩, fun j d z => ?_, fun v' r' h' n => kk v' r' (k1 v' r' h' fun ⟨d, z1⟩ z2 => ?_) fun z j u' d a1 a2 => n z (j + 1) u' d (by rw [List.getElem?_cons_succ]; exact a1) (by rw [List.getElem?_cons_succ]; exact a2)⟩
          · cases j with
            | zero => rw [List.getElem?_cons_zero] at z; injection z with z; exact nomatch z
            | succ j => rw [List.getElem?_cons_succ] at z ⊢; exact own j d z
          · exact fun z => n z2 0 v d rfl (by rw [z1]; rfl) z.symm
theorem args2_get : ∀ {qs : List R} {ρ : En} {as : List Ar}, args2 qs ρ = some as → as.length = qs.length ∧ (∀ (j : Nat) a, as[j]? = some a → ∃ r, qs[j]? = some r ∧ arOf r ρ = some a) ∧ ∀ (j : Nat) r, qs[j]? = some r → ∃ a, as[j]? = some a ∧ arOf r ρ = some a
  | [], ρ, as, e => by injection e with e; subst e; exact ⟨rfl, fun j a z => by simp at z, fun j a z => by simp at z⟩
  | r :: rs, ρ, as, e => by
    unfold args2 at e
    cases e1 : arOf r ρ with
    | none => rw [e1] at e; exact nomatch e
    | some a =>
      cases e2 : args2 rs ρ with
      | none => rw [e1, e2] at e; exact nomatch e
      | some bs =>
        rw [e1, e2] at e; injection e with e; subst e
        obtain ⟨h1, h2, h3⟩ := args2_get e2
        refine ⟨by rw [List.length_cons, List.length_cons, h1], fun j a' z => ?_, fun j r' z => ?_⟩
        · cases j with
          | zero => rw [List.getElem?_cons_zero] at z; injection z with z; subst z; exact ⟨r, rfl, e1⟩
          | succ j => rw [List.getElem?_cons_succ] at z ⊢; exact h2 j a' z
        · cases j with
          | zero => rw [List.getElem?_cons_zero] at z; injection z with z; subst z; exact ⟨a, rfl, e1⟩
          | succ j => rw [List.getElem?_cons_succ] at z ⊢; exact h3 j r' z
theorem mem_ptrs : ∀ {qs : List R} {j i : Nat}, qs[j]? = some (.ptr i) → i ∈ ptrs qs
  | [], j, i, e => by simp at e
  | r :: qs, 0, i, e => by
    rw [List.getElem?_cons_zero] at e; injection e with e; subst e
    exact List.mem_cons_self ..
  | r :: qs, j + 1, i, e => by
    rw [List.getElem?_cons_succ] at e
    have := mem_ptrs e
    cases r with
    | ptr k => exact List.mem_cons_of_mem _ this
    | dat d => exact this
    | own d => exact this
theorem noDup_ix : ∀ {qs : List R} {i j a : Nat}, noDup (ptrs qs) = true → qs[i]? = some (.ptr a) → qs[j]? = some (.ptr a) → i = j
  | [], i, j, a, h, e1, e2 => by simp at e1
  | r :: qs, 0, 0, a, h, e1, e2 => rfl
  | r :: qs, 0, j + 1, a, h, e1, e2 => by
    rw [List.getElem?_cons_zero] at e1; injection e1 with e1; subst e1
    rw [List.getElem?_cons_succ] at e2
    have h : (!(ptrs qs).contains a && noDup (ptrs qs)) = true := h
    rw [Bool.and_eq_true, Bool.not_eq_true'] at h
    have := mem_ptrs e2
    have c : (ptrs qs).contains a = true := List.contains_iff_mem.mpr this
    rw [c] at h; exact nomatch h.1
  | r :: qs, i + 1, 0, a, h, e1, e2 => by
    rw [List.getElem?_cons_zero] at e2; injection e2 with e2; subst e2
    rw [List.getElem?_cons_succ] at e1
    have h : (!(ptrs qs).contains a && noDup (ptrs qs)) = true := h
    rw [Bool.and_eq_true, Bool.not_eq_true'] at h
    have := mem_ptrs e1
    have c : (ptrs qs).contains a = true := List.contains_iff_mem.mpr this
    rw [c] at h; exact nomatch h.1
  | r :: qs, i + 1, j + 1, a, h, e1, e2 => by
    rw [List.getElem?_cons_succ] at e1 e2
    have h2 : noDup (ptrs qs) = true := by
      cases r with
      | ptr k =>
        have h : (!(ptrs qs).contains k && noDup (ptrs qs)) = true := h
        rw [Bool.and_eq_true] at h; exact h.2
      | dat d => exact h
      | own d => exact h
    rw [noDup_ix h2 e1 e2]
theorem lookOut_some : ∀ {qs : List R} {os : List (Option D)} {j : Nat} {d : D}, lookOut j qs os = some d → ∃ t : Nat, qs[t]? = some (.ptr j) ∧ os[t]? = some (some d)
  | [], os, j, d, e => by unfold lookOut at e; exact nomatch e
  | r :: qs, [], j, d, e => by cases r <;> (unfold lookOut at e; exact nomatch e)
  | r :: qs, o :: os, j, d, e => by
    have step : lookOut j qs os = some d → ∃ t : Nat, (r :: qs)[t]? = some (.ptr j) ∧ (o :: os)[t]? = some (some d) := fun e => by
      obtain ⟨t, a, b⟩ := lookOut_some e
      exact ⟨t + 1, by rw [List.getElem?_cons_succ]; exact a, by rw [List.getElem?_cons_succ]; exact b⟩
    cases r with
    | dat _ => exact step e
    | own _ => exact step e
    | ptr i =>
      unfold lookOut at e
      cases c : i == j with
      | false => rw [c] at e; exact step e
      | true =>
        rw [c] at e
        have := beq_iff_eq.mp c; subst this
        cases o with
        | none => exact step e
        | some d' => injection e with e; subst e; exact ⟨0, rfl, rfl⟩
theorem lookOut_none : ∀ {qs : List R} {os : List (Option D)} {j t : Nat} {d : D}, qs[t]? = some (.ptr j) → os[t]? = some (some d) → lookOut j qs os ≠ none
  | [], os, j, t, d, e1, e2 => by simp at e1
  | r :: qs, [], j, t, d, e1, e2 => by simp at e2
  | r :: qs, o :: os, j, 0, d, e1, e2 => by
    rw [List.getElem?_cons_zero] at e1 e2; injection e1 with e1; injection e2 with e2; subst e1; subst e2
    unfold lookOut
    rw [beq_self_eq_true]
    exact fun z => nomatch z
  | r :: qs, o :: os, j, t + 1, d, e1, e2 => by
    rw [List.getElem?_cons_succ] at e1 e2
    have ih := lookOut_none e1 e2
    cases r with
    | dat _ => exact ih
    | own _ => exact ih
    | ptr i =>
      unfold lookOut
      cases c : i == j with
      | false => exact ih
      | true =>
        cases o with
        | none => exact ih
        | some d' => exact fun z => nomatch z
/-- the operands of a call -/
theorem callOk {qs : List R} {vs : List V} {as : List Ar} (R : Rel W Γ F ρ σ H) (h : RepRs W Γ F ρ σ H vs qs) (e : args2 qs ρ = some as) (nd : noDup (ptrs qs) = true) : CallOk W F H vs as := by
  obtain ⟨h1, h2, h3⟩ := args2_get e
  have kind : ∀ (j : Nat) l d q, as[j]? = some (.own l d) → vs[j]? = some (V.ref q) → (∃ d', qs[j]? = some (.own d') ∧ RepR W Γ F ρ σ H (.ref q) (.own d')) ∨ ∃ i b, qs[j]? = some (.ptr i) ∧ ρ[i]? = some (.own b l d) ∧ σ[i]? = some (some (.ref q)) := fun j l d q a1 a2 => by
    obtain ⟨r, b1, b2⟩ := h2 j _ a1
    obtain ⟨v, c1, c2⟩ := h.get b1
    rw [a2] at c1; injection c1 with c1; subst c1
    cases r with
    | dat d' => injection b2 with b2; exact nomatch b2
    | own d' => exact .inl ⟨d', b1, c2⟩
    | ptr i =>
      have b2 : (match getS ρ i with | .dat d => some (Ar.dat d) | .own _ l d => some (.own l d) | .emp => none | .cls _ => none) = some (.own l d) := b2
      cases q' : getS ρ i with
      | emp => rw [q'] at b2; exact nomatch b2
      | cls _ => rw [q'] at b2; exact nomatch b2
      | dat d => rw [q'] at b2; injection b2 with b2; exact nomatch b2
      | own b l' d' =>
        rw [q'] at b2; injection b2 with b2; injection b2 with b2 b3; subst b2; subst b3
        exact .inr ⟨i, b, b1, getS_some q' (fun z => nomatch z), c2⟩
  refine ⟨by rw [h.length, h1], R.fh, R.tb, fun j a v a1 a2 => ?_, fun i j l d l' d' q a1 a2 b1 b2 => ?_⟩
  · obtain ⟨r, b1, b2⟩ := h2 j a a1
    obtain ⟨v', c1, c2⟩ := h.get b1
    rw [a2] at c1; injection c1 with c1; subst c1
    cases r with
    | dat d' => injection b2 with b2; subst b2; exact c2
    | own d' =>
      injection b2 with b2; subst b2
      obtain ⟨q, o, e1, e2, e3, e4, _⟩ := c2
      exact ⟨q, o, e1, e2, e3, e4⟩
    | ptr i =>
      have b2 : (match getS ρ i with | .dat d => some (Ar.dat d) | .own _ l d => some (.own l d) | .emp => none | .cls _ => none) = some a := b2
      have c2 : σ[i]? = some (some v) := c2
      cases q' : getS ρ i with
      | emp => rw [q'] at b2; exact nomatch b2
      | cls _ => rw [q'] at b2; exact nomatch b2
      | dat d =>
        rw [q'] at b2; injection b2 with b2; subst b2
        obtain ⟨v', e', r'⟩ := R.sl i _ (getS_some q' (fun z => nomatch z))
        rw [c2] at e'; injection e' with e'; injection e' with e'; subst e'; exact r'
      | own b l' d' =>
        rw [q'] at b2; injection b2 with b2; subst b2
        obtain ⟨q, o, e1, e2, e3, e4, _⟩ := R.slotOwn (getS_some q' (fun z => nomatch z))
        rw [c2] at e1; injection e1 with e1; injection e1 with e1
        exact ⟨q, o, e1, e2, e3, e4⟩
  · rcases kind i l d q a1 b1 with ⟨x, k1, k2⟩ | ⟨x, bx, k1, k2, k3⟩
    · rcases kind j l' d' q a2 b2 with ⟨y, m1, m2⟩ | ⟨y, by_, m1, m2, m3⟩
      · -- two new things
        rcases Nat.lt_trichotomy i j with c | c | c
        · exact absurd rfl (aparts h c k1 m1 b1 b2)
        · exact c
        · exact absurd rfl (aparts h c m1 k1 b2 b1)
      · obtain ⟨q', o, e1, e2, e3, e4, e5, e6⟩ := k2
        injection e1 with e1; subst e1
        exact absurd m3 (e6 y _ _ _ m2)
    · rcases kind j l' d' q a2 b2 with ⟨y, m1, m2⟩ | ⟨y, by_, m1, m2, m3⟩
      · obtain ⟨q', o, e1, e2, e3, e4, e5, e6⟩ := m2
        injection e1 with e1; subst e1
        exact absurd k3 (e6 x _ _ _ k2)
      · have := R.dis x y _ _ _ _ _ _ q k2 m2 k3 m3; subst this
        exact noDup_ix nd k1 m1
where
  aparts : ∀ {rs : List Pv.R} {vs : List V} {i j : Nat} {d d' : D} {u v : V}, RepRs W Γ F ρ σ H vs rs → i < j → rs[i]? = some (.own d) → rs[j]? = some (.own d') → vs[i]? = some u → vs[j]? = some v → v ≠ u
    | [], [], i, j, _, _, _, _, h, c, e1, e2, f1, f2 => by simp at e1
    | [], _ :: _, _, _, _, _, _, _, h, c, e1, e2, f1, f2 => h.elim
    | _ :: _, [], _, _, _, _, _, _, h, c, e1, e2, f1, f2 => h.elim
    | r :: rs, x :: vs, 0, j + 1, d, d', u, v, h, c, e1, e2, f1, f2 => by
      rw [List.getElem?_cons_zero] at e1 f1; injection e1 with e1; injection f1 with f1; subst e1; subst f1
      rw [List.getElem?_cons_succ] at e2 f2
      exact h.2.2 ⟨_, rfl⟩ j v d' f2 e2
    | r :: rs, x :: vs, i + 1, j + 1, d, d', u, v, h, c, e1, e2, f1, f2 => by
      rw [List.getElem?_cons_succ] at e1 e2 f1 f2
      exact aparts h.2.1 (Nat.lt_of_succ_lt_succ c) e1 e2 f1 f2
    | r :: rs, x :: vs, i, 0, d, d', u, v, h, c, e1, e2, f1, f2 => absurd c (Nat.not_lt_zero _)
theorem putOut_get {qs : List R} {out : List (Option D)} {j : Nat} {x : Sl} (h : (putOut qs out ρ)[j]? = some x) : ∃ y, ρ[j]? = some y ∧ x = putS qs out j y := by
  unfold putOut at h
  rw [List.getElem?_mapIdx] at h
  cases e : ρ[j]? with
  | none => rw [e] at h; exact nomatch h
  | some y => rw [e] at h; injection h with h; exact ⟨y, rfl, h.symm⟩
theorem putOut_at {qs : List R} {out : List (Option D)} {j : Nat} {y : Sl} (h : ρ[j]? = some y) : (putOut qs out ρ)[j]? = some (putS qs out j y) := by
  unfold putOut
  rw [List.getElem?_mapIdx, h]; rfl
/-- behind a call: the caller's slots -/
theorem Rel.called {qs : List R} {vs : List V} {as : List Ar} {out : List (Option D)} (R : Rel W Γ F ρ σ H) (h : RepRs W Γ F ρ σ H vs qs) (e : args2 qs ρ = some as) (A : After W F H vs as F' H' out) : Rel W Γ F' (putOut qs out ρ) σ H' := by
  obtain ⟨h1, h2, h3⟩ := args2_get e
  -- an argument that is a slot's own thing
  have ptrOwn : ∀ (t i : Nat) b l d, qs[t]? = some (.ptr i) → ρ[i]? = some (.own b l d) → as[t]? = some (.own l d) := fun t i b l d a1 a2 => by
    obtain ⟨a, b1, b2⟩ := h3 t _ a1
    have b2 : (match getS ρ i with | .dat d => some (Ar.dat d) | .own _ l d => some (.own l d) | .emp => none | .cls _ => none) = some a := b2
    rw [getS_of a2] at b2; injection b2 with b2; subst b2; exact b1
  -- whose address is an argument's own
  have at_ : ∀ q, OwnAt vs as q → (Γ.H0 q = none ∧ NoSlot ρ σ q) ∨ ∃ (t i : Nat) (b l : Bool) (d : D), qs[t]? = some (.ptr i) ∧ ρ[i]? = some (.own b l d) ∧ σ[i]? = some (some (.ref q)) := fun q ⟨t, l, d, a1, a2⟩ => by
    obtain ⟨r, b1, b2⟩ := h2 t _ a1
    obtain ⟨v, c1, c2⟩ := h.get b1
    rw [a2] at c1; injection c1 with c1; subst c1
    cases r with
    | dat d' => injection b2 with b2; exact nomatch b2
    | own d' =>
      obtain ⟨q', o, e1, e2, e3, e4, e5, e6⟩ := c2
      injection e1 with e1; subst e1
      exact .inl ⟨e5, e6⟩
    | ptr i =>
      have b2 : (match getS ρ i with | .dat d => some (Ar.dat d) | .own _ l d => some (.own l d) | .emp => none | .cls _ => none) = some (.own l d) := b2
      cases q' : getS ρ i with
      | emp => rw [q'] at b2; exact nomatch b2
      | cls _ => rw [q'] at b2; exact nomatch b2
      | dat d => rw [q'] at b2; injection b2 with b2; exact nomatch b2
      | own b l' d' => exact .inr ⟨t, i, b, l', d', b1, getS_some q' (fun z => nomatch z), c2⟩
  have nt_ : ∀ q, OwnAt vs as q → ∃ o, H q = some o ∧ Nt0 o := fun q oq => by
    obtain ⟨t, l, d, a1, a2⟩ := id oq
    obtain ⟨r, b1, b2⟩ := h2 t _ a1
    obtain ⟨v, c1, c2⟩ := h.get b1
    rw [a2] at c1; injection c1 with c1; subst c1
    have slot : ∀ (i : Nat) b l d, ρ[i]? = some (.own b l d) → σ[i]? = some (some (.ref q)) → ∃ o, H q = some o ∧ Nt0 o := fun i b l d z2 z3 => by
      obtain ⟨q', o, e1, e2, e3, _⟩ := R.slotOwn z2
      have := ref_inj z3 e1; subst this
      exact ⟨o, e2, e3.nt0⟩
    cases r with
    | dat d' => injection b2 with b2; exact nomatch b2
    | own d' =>
      obtain ⟨q', o, e1, e2, e3, _⟩ := c2
      injection e1 with e1; subst e1
      exact ⟨o, e2, e3.nt0⟩
    | ptr i =>
      rcases at_ q oq with ⟨_, z2⟩ | ⟨t, i', b, l, d, z1, z2, z3⟩
      · have b2 : (match getS ρ i with | .dat d => some (Ar.dat d) | .own _ l d => some (.own l d) | .emp => none | .cls _ => none) = some (.own l d) := b2
        cases q' : getS ρ i with
        | emp => rw [q'] at b2; exact nomatch b2
        | cls _ => rw [q'] at b2; exact nomatch b2
        | dat d => rw [q'] at b2; injection b2 with b2; exact nomatch b2
        | own b l' d' => exact slot i b l' d' (getS_some q' (fun z => nomatch z)) c2
      · exact slot i' b l d z2 z3
  have keepF : ∀ q o, H q = some o → Nt o → F q = none → F' q = none := fun q o a1 nt a2 => by
    cases e : F' q with
    | none => rfl
    | some u =>
      rcases A.fnew _ _ e with z | z
      · rw [a2] at z; exact nomatch z
      · exact (z.no a1 nt).elim
  -- a slot's own thing behind the call
  have own_ : ∀ j b l d, ρ[j]? = some (.own b l d) → ∃ d' q o, putS qs out j (.own b l d) = .own b l d' ∧ (l = true → d' = d) ∧ σ[j]? = some (some (.ref q)) ∧ H' q = some o ∧ Top W F' o d' ∧ F' q = none ∧ (b = true → q ∈ Γ.re) ∧ (b = false → Γ.H0 q = none) := fun j b l d ej => by
    obtain ⟨q, o, a1, a2, a3, a4, a5, a6⟩ := R.slotOwn ej
    show ∃ d' q o, Sl.own b l ((lookOut j qs out).getD d) = .own b l d' ∧ _
    cases el : lookOut j qs out with
    | some d' =>
      obtain ⟨t, b1, b2⟩ := lookOut_some el
      have b3 := ptrOwn t j b l d b1 ej
      obtain ⟨q', o', d2, c1, c2, c3, c4, c5, c6⟩ := A.out t l d b3
      rw [b2] at c2; injection c2 with c2; injection c2 with c2; subst c2
      obtain ⟨v, f1, f2⟩ := h.get b1
      rw [c1] at f1; injection f1 with f1; subst f1
      have f2 : σ[j]? = some (some (.ref q')) := f2
      have := ref_inj a1 f2; subst this
      exact ⟨d', q, o', rfl, c6, a1, c3, c4, c5, a5, a6⟩
    | none =>
      refine ⟨d, q, o, rfl, fun _ => rfl, a1, A.kp q o a2 a3.nt.1 (fun oq => ?_), a3.mono A.sub, keepF q o a2 a3.nt a4, a5, a6⟩
      rcases at_ q oq with ⟨z1, z2⟩ | ⟨t, i, b', l', d', z1, z2, z3⟩
      · exact z2 j b l d ej a1
      · have := R.dis i j _ _ _ _ _ _ q z2 ej z3 a1; subst this
        have b3 := ptrOwn t i b' l' d' z1 z2
        obtain ⟨q', o', d2, c1, c2, _⟩ := A.out t l' d' b3
        exact lookOut_none z1 c2 el
  have isOwn : ∀ (j : Nat) b l d, (putOut qs out ρ)[j]? = some (.own b l d) → ∃ d0, ρ[j]? = some (.own b l d0) := fun j b l d z => by
    obtain ⟨y, e1, e2⟩ := putOut_get z
    cases y with
    | emp => exact nomatch e2
    | cls _ => exact nomatch e2
    | dat _ => exact nomatch e2
    | own b' l' d' =>
      have e2 : Sl.own b l d = .own b' l' _ := e2
      injection e2 with e2 e3 e4; subst e2; subst e3; exact ⟨d', e1⟩
  refine ⟨by unfold putOut; rw [List.length_mapIdx]; exact R.len, R.f0.trans A.sub, A.fh, fun a o z => ?_, fun a o z n m => A.kp a o (R.kp a o z n m) n fun oq => ?_, fun a z => R.dmn a (A.dmn a z), A.tb, R.oO, fun i x z => ?_, fun i j b l d b' l' d' q z1 z2 => ?_, fun q hq => ?_⟩
  · rcases A.fnew a o z with z | z
    · exact R.fnew a o z
    · exact .inr (R.dmn a z)
  · rcases at_ a oq with ⟨z1, _⟩ | ⟨t, i, b, l, d, z1, z2, z3⟩
    · rw [z1] at z; exact nomatch z
    · obtain ⟨q, o', a1, a2, a3, a4, a5, a6⟩ := R.slotOwn z2
      have := ref_inj z3 a1; subst this
      cases b with
      | true => exact m (a5 rfl)
      | false => rw [a6 rfl] at z; exact nomatch z
  · obtain ⟨y, e1, e2⟩ := putOut_get z
    cases y with
    | emp => subst e2; trivial
    | cls cs =>
      have e2 : x = .cls cs := e2
      subst e2
      obtain ⟨q, ws, a1, a2, a3⟩ := R.sl i _ e1
      refine ⟨q, ws, a1, A.sub _ _ a2, a3.mono fun a u ha hx => A.kp a u ha (fun ps w => ?_) fun oq => ?_⟩
      · obtain ⟨φ, rfl⟩ := hx; exact nomatch w
      · obtain ⟨o, g1, g2⟩ := nt_ a oq
        rw [ha] at g1; injection g1 with g1; subst g1; exact g2.ext hx
    | dat d =>
      subst e2
      obtain ⟨v, a1, a2⟩ := R.sl i _ e1
      exact ⟨v, a1, a2.mono A.sub _⟩
    | own b l d =>
      obtain ⟨d', q, o, f1, f2, f3, f4, f5, f6, f7, f8⟩ := own_ i b l d e1
      rw [e2, f1]
      exact ⟨q, o, f3, f4, f5, f6, f7, f8⟩
  · obtain ⟨d1, g1⟩ := isOwn i b l d z1
    obtain ⟨d2, g2⟩ := isOwn j b' l' d' z2
    exact R.dis i j _ _ _ _ _ _ q g1 g2
  · obtain ⟨a1, a2⟩ := R.fx q hq
    refine ⟨a1, ?_⟩
    revert a2
    cases q.2.2 with
    | none =>
      rintro ⟨l, d, a2⟩
      obtain ⟨d', _, _, f1, _⟩ := own_ q.1 true l d a2
      exact ⟨l, d', by rw [putOut_at a2, f1]⟩
    | some d =>
      rintro ⟨b, a2⟩
      obtain ⟨d', _, _, f1, f2, _⟩ := own_ q.1 b true d a2
      exact ⟨b, by rw [putOut_at a2, f1, f2 rfl]⟩
/-- the reading of a call's operands: the callee's promise -/
theorem call_sp {f : Nat} {rs : List R} {vs : List V} (R : Rel W Γ F ρ σ H) (hv : RepRs W Γ F ρ σ H vs rs) (h : Ok W Γ E σ F (callO p f rs ρ) (KR W Γ σ Q)) : spOf W p f vs H Q E := by
  unfold callO at h
  cases e1 : args1 (p.ref f) 0 rs ρ with
  | none => rw [e1] at h; exact h.elim
  | some q =>
    rw [e1] at h
    obtain ⟨qs, ρ1⟩ := q
    dsimp only at h
    obtain ⟨F1, s1, R1, hq, _, _⟩ := hv.args1 R e1
    cases e2 : args2 qs ρ1 with
    | none => rw [e2] at h; cases noDup (ptrs qs) <;> exact h.elim
    | some as =>
      cases nd : noDup (ptrs qs) with
      | false => rw [e2, nd] at h; exact h.elim
      | true =>
        rw [e2, nd] at h
        dsimp only at h
        refine ⟨F1, as, callOk R1 hq e2 nd, ?_⟩
        cases e3 : p.cal f as with
        | bad => rw [e3] at h; exact h.elim
        | ret r out =>
          rw [e3] at h
          intro F' H' v A hr
          have R2 := R1.called hq e2 A
          refine h F' H' (s1.trans A.sub) R2 v ?_
          cases r with
          | dat d => exact hr
          | ptr i => exact hr.elim
          | own d =>
            obtain ⟨q, o, a1, a2, a3, a4, a5⟩ := hr
            refine ⟨q, o, a1, a2, a3, a4, R1.dmn q a5, fun j b l d2 z1 z2 => ?_⟩
            obtain ⟨y, f1, f2⟩ := putOut_get z1
            cases y with
            | emp => exact nomatch f2
            | cls _ => exact nomatch f2
            | dat _ => exact nomatch f2
            | own b' l' d' =>
              obtain ⟨q', o', g1, g2, _⟩ := R1.slotOwn f1
              have := ref_inj z2 g1; subst this
              rename_i g3; exact (a5.no g2 g3.1.nt).elim
        | exc c d out =>
          rw [e3] at h
          exact fun F' H' cls dx A hx => h F' H' cls dx (s1.trans A.sub) (R1.called hq e2 A) hx
end
/-! ### defs that are called -/
/-- HandS's FnOk, told of guards, too (g: they are wanted empty) -/
structure FnG (W : Wd) (k : Nat) (g : Bool) (a : Addr) (fd : FuncData) (ps : List Str) (sp : Sp) : Prop where
  len : ∀ vs H Q E, sp vs H Q E → vs.length = ps.length
  run : ∀ (A : Around) (outer : List Env) (s : Shared) (H : Hp) (args : Args) (us : List Value) (vs : List V) (Q : VK) (E : XK), Room k A → (g = true → A.guards = some []) → Env0 W.prog W.w W.K W.mg W.base A outer s H →
    BindsTo s fd args (ps.zip us) → Vals vs us → sp vs H Q E → codeAny (model W.prog W.w) A (.call (.ref a) args) (CR (L2.CX W.prog W.w) outer W.prog W.w H s Q E) s
/-- a def of the program, at its level -/
structure FnAt (W : Wd) (p : Pr) (k : Nat) (g : Bool) (f : Nat) (a : Addr) : Prop where
  keep : PySem.W.keepIn W.K (.ref a) = true
  fn : ∃ fd ps, FnG W k g a fd ps (spOf W p f) ∧ L2.Binds W.K fd ps []
/-- a context of the program -/
structure XW (W : Wd) (k : Nat) (g : Bool) (X : Cx) : Prop where
  prog : X.prog = W.prog
  w : X.w = W.w
  K : X.K = W.K
  mg : X.mg = W.mg
  base : X.base = W.base
  room : Room k X.A
  gd : g = true → X.A.guards = some []
section
variable {W : Wd} {p : Pr} {E : XK} {n k : Nat} {g : Bool} {X : Cx} {f : Nat} {a : Addr}
theorem run_G {gf : Bool} {sp : Sp} {fd : FuncData} {ps : List Str} {pins : List (Addr × Obj)} {σ : L2.St} {H : Hp} {s : Shared} {Q : VK} {us : List Value} {vs : List V} (hX : XW W k g X) (hg : gf = true → g = true) (Fn : FnG W k gf a fd ps sp) (hb : L2.Binds W.K fd ps []) (hx : Passes (L2.CX W.prog W.w) X E)
    (I : L2.Inv X pins σ H s) (r : Vals vs us) (h : sp vs H Q E) : wpAny (model X.prog X.w) X.A (call (.ref a) us) (EP X pins σ Q) X.xe s := by
  have hl : us.length = ps.length := by rw [← r.length]; exact Fn.len _ _ _ _ h
  have e0 : Env0 W.prog W.w W.K W.mg W.base X.A X.stack s H := by
    have := I.env0
    rw [hX.prog, hX.w, hX.K, hX.mg, hX.base] at this; exact this
  have hbd := hb s us (hX.K ▸ I.kIn) (by rw [List.append_nil]; exact hl)
  rw [List.append_nil] at hbd
  rw [hX.prog, hX.w]
  refine wpAny_call (codeAny_mono (Fn.run X.A X.stack s H ⟨us, []⟩ us vs Q E hX.room (fun z => hX.gd (hg z)) e0 hbd r h) fun r s' hq => ?_)
  cases r with
  | error e => exact hx pins σ H s e s' I hq
  | ok fl =>
    cases fl with
    | ret u =>
      have hq : CE X.stack W.prog W.w H s Q u s' := hq
      rw [← hX.prog, ← hX.w] at hq
      exact I.after hq
    | next => exact False.elim hq
    | brk => exact False.elim hq
    | cont => exact False.elim hq
theorem rd_callD {cs : List C} {σ : L2.St} {H : Hp} {Q : VK} (h : rd W p E (n + 1) (.call f cs) σ H Q) : rdA W p E n cs σ H fun vs H1 => spOf W p f vs H1 Q E := by
  obtain ⟨Γ, ρ, F, R, h⟩ := h
  unfold ev at h
  exact ⟨Γ, ρ, F, R, h.bind.imp fun rs ρ1 F1 H1 s1 R1 h1 vs hvs => call_sp R1 hvs h1⟩
theorem pe_callD {gf : Bool} {x : Str} {es : List Expr} {cs : List C} {p1 pos : Pos} (hX : XW W k g X) (hg : gf = true → g = true) (Fn : FnAt W p k gf f a) (hgl : Gl X x) (hm : W.mg x = some (.ref a)) (hx : Passes (L2.CX W.prog W.w) X E) (hd : (x == ("__debug__" : Str)) = false)
    (hs : es.all notStar = true) (hcs : es = [] → cs = []) (ha : PA X es (rdA W p E n cs)) : PE X (.Call (.Name x p1) es [] pos) (rd W p E (n + 1) (.call f cs)) := by
  obtain ⟨fd, ps, G, hb⟩ := Fn.fn
  refine ⟨fun pins s σ H Q I h => ?_⟩
  have h := rd_callD h
  refine wpAny_Call_Name_kw (ld_glob I hgl (by rw [hX.mg]; exact hm) ?_ hd)
  have run := ha.run pos pins s σ H _ I h
  cases es with
  | nil =>
    obtain ⟨Γ, ρ, F, R, h⟩ := h
    refine PySem.W.callWith_K0 I.kIn (hX.K ▸ Fn.keep) ?_
    have := hcs rfl; subst this
    exact run_G (us := []) (vs := []) hX hg G hb hx I .nil (h.at R [] trivial)
  | cons e es =>
    rw [List.all_cons, Bool.and_eq_true] at hs
    exact PySem.W.callWith_K (h₀ := X.base) I.ok.mod.kin (hX.K ▸ Fn.keep) (thn run fun us s1 ⟨vs, H1, I1, r, q⟩ => ⟨I1.kIn, run_G hX hg G hb hx I1 r q⟩) (star_cons es _ hs.1) (star_none hs.2)
/-- a call of a name that holds a def -/
theorem pe_callvD {x : Str} {i : Nat} {es : List Expr} {cs : List C} {p1 pos : Pos} (hX : XW W k g X) (Fn : ∀ f a, W.fnA f = some a → FnAt W p k false f a) (hN : X.N[i]? = some x) (hv : Vis X.env.scope x) (hx : Passes (L2.CX W.prog W.w) X E) (hd : (x == ("__debug__" : Str)) = false) (hcd : (x == ("__classdict__" : Str)) = false)
    (hs : es.all notStar = true) (hcs : es = [] → cs = []) (ha : PA X es (rdA W p E n cs)) : PE X (.Call (.Name x p1) es [] pos) (rd W p E (n + 1) (.callv i cs)) := by
  refine ⟨fun pins s σ H Q I h => ?_⟩
  obtain ⟨Γ, ρ, F, R, h⟩ := h
  unfold ev at h
  dsimp only at h
  cases eg : getS ρ i with
  | emp => rw [eg] at h; exact h.elim
  | cls _ => rw [eg] at h; exact h.elim
  | own b l d => rw [eg] at h; exact h.elim
  | dat d =>
    rw [eg] at h
    cases d <;> try exact h.elim
    rename_i f
    dsimp only at h
    obtain ⟨v, ev', rv⟩ := R.sl i _ (getS_some eg (fun z => nomatch z))
    have rv : Rep W F v (.fn f) := rv
    unfold Rep at rv
    obtain ⟨a, rfl, ea⟩ := rv
    have FA := Fn f a ea
    obtain ⟨fd, ps, G, hb⟩ := FA.fn
    have hA : rdA W p E n cs σ H fun vs H1 => spOf W p f vs H1 Q E := ⟨Γ, ρ, F, R, h.bind.imp fun rs ρ1 F1 H1 s1 R1 h1 vs hvs => call_sp R1 hvs h1⟩
    refine wpAny_Call_Name_kw (thn ((pe_var (pos := p1) hN hv hd hcd).run pins s σ H (fun v H1 => v = .ref a ∧ H1 = H) I ⟨.ref a, ev', rfl, rfl⟩) fun u s1 ⟨v, H1, I1, r1, q1⟩ => ?_)
    obtain ⟨rfl, rfl⟩ := q1
    cases r1
    have run := ha.run pos pins s1 σ _ _ I1 hA
    cases es with
    | nil =>
      obtain ⟨Γ, ρ, F, R, h⟩ := hA
      refine PySem.W.callWith_K0 I1.kIn (hX.K ▸ FA.keep) ?_
      have := hcs rfl; subst this
      exact run_G (us := []) (vs := []) hX (fun z => (Bool.false_ne_true z).elim) G hb hx I1 .nil (h.at R [] trivial)
    | cons e es =>
      rw [List.all_cons, Bool.and_eq_true] at hs
      exact PySem.W.callWith_K (h₀ := X.base) I1.ok.mod.kin (hX.K ▸ FA.keep) (thn run fun us s2 ⟨vs, H2, I2, r, q⟩ => ⟨I2.kIn, run_G hX (fun z => (Bool.false_ne_true z).elim) G hb hx I2 r q⟩) (star_cons es _ hs.1) (star_none hs.2)
end
end Pv
end PvG_
section PvEn_
set_option maxRecDepth 100000
/-! PvEn: enumerate over a tuple. -/
namespace Pv
open PySem PySem.Spec PyProof.Rows L2
theorem meets_enumT (l : Addr) (items : Array Value) :
    Meets (Builtin.«enumerate.__new__» ⟨[.type "enumerate", .ref l], []⟩) (fun _ R s => s.heap.IsTuple l items ∧
      R (.ok (.ret (.ref (s.heap.push { cls := .type "tuple_iterator", data := .fields #[.ref l, .int 0 0] }).objs.size)))
        { s with heap := (s.heap.push { cls := .type "tuple_iterator", data := .fields #[.ref l, .int 0 0] }).push { cls := .type "enumerate", data := .fields #[.none, .bool false, .ref s.heap.objs.size, rawInt 0, .none, .none] } }) :=
  .of_wp fun prog w A R s h => by
    obtain ⟨hp, g, d, tk, os⟩ := s; obtain ⟨hL, h⟩ := h
    have hsub := sub_enumerate
    have hL : Heap.IsTuple (Shared.heap ⟨hp, g, d, tk, os⟩) l items := hL
    obtain ⟨o, hl, q1, n, q2⟩ := id hL
    wp_walk using AutoSeq1.wpAny_loadPart' hl
    refine wpAny_stack_any fun st => wpAny_pure ?_
    split
    · rename_i c _ _ _ _ _
      cases (c == Value.type "enumerate")
      · wp_walk using AutoSeq1.wpAny_loadPart' hl, wpAny_pyIter_tuple hL
        exact ⟨_, rfl, h⟩
      · wp_walk using AutoSeq1.wpAny_loadPart' hl, wpAny_pyIter_tuple hL
        exact ⟨_, rfl, h⟩
    · wp_walk using AutoSeq1.wpAny_loadPart' hl, wpAny_pyIter_tuple hL
      exact ⟨_, rfl, h⟩
theorem call_enumT {prog : Program} {w : World} {A : Around} {E : Value → Shared → Prop} {s : Shared} {l : Addr} {items : Array Value} {Q : Value → Shared → Prop} (hL : s.heap.IsTuple l items)
    (h : ∀ h', IsEnum h' (s.heap.objs.size + 1) s.heap.objs.size 0 .none → h'.IsTupleIter s.heap.objs.size l 0 → h'.objs.size = s.heap.objs.size + 2 →
      (∀ b o, s.heap.get? b = some o → h'.get? b = some o) → Q (.ref (s.heap.objs.size + 1)) { s with heap := h' }) :
    wpAny (model prog w) A (call (.type "enumerate") [.ref l]) Q E s := by
  refine callType_new F.called_enumerate (by decide) (F.typeCall_enumerate_1 _) (F.newCall_enumerate_1 _) (fun obj => F.args_object_init_2 obj _) F.entry_enumerate_new (meets_enumT l items) ⟨hL, ?_⟩
  have hz : (s.heap.push { cls := .type "tuple_iterator", data := .fields #[.ref l, .int 0 0] }).objs.size = s.heap.objs.size + 1 := Heap.size_push ..
  show _ ∧ _
  rw [hz]
  have he := Heap.get?_push_size (s.heap.push { cls := .type "tuple_iterator", data := .fields #[.ref l, .int 0 0] }) (o := { cls := .type "enumerate", data := .fields #[.none, .bool false, .ref s.heap.objs.size, rawInt 0, .none, .none] }) rfl
  rw [hz] at he
  exact ⟨⟨_, he, rfl⟩, h _ he ⟨_, Heap.get?_push_of_some _ (Heap.get?_push_size _ rfl), rfl, rfl⟩ (by rw [Heap.size_push, hz]) fun b o x => Heap.get?_push_of_some _ (Heap.get?_push_of_some _ x)⟩
/-- the tuple at a, each item in a new pair with its place -/
def IteT (K : PySem.W.Frag) (a : Addr) : It :=
  ⟨fun i H => ∃ (xs : List V) (x : V), SqT K H a xs ∧ xs[i]? = some x, fun i H v H' => ∃ T x, v = .ref T ∧ H T = none ∧ H' = upd H T (.tup [.int (i : Nat), x]) ∧ ∀ xs, SqT K H a xs → xs[i]? = some x, fun i H => ∃ xs : List V, SqT K H a xs ∧ xs.length = i⟩
theorem turn_enumT {P : Program} {w : World} {K : PySem.W.Frag} {elts : List Expr} {kk : Nat} {tpos : Pos} (a e it : Addr) :
    Turn P w K (.Tuple elts kk tpos) (IteT K a) [e, it] e (fun i h => (∃ old, IsEnum h e it ((i : Nat) : Int) old) ∧ h.IsTupleIter it a i ∧ e ≠ it ∧ a ≠ it ∧ e ≠ a) where
  mem := by simp
  obj := fun i h st b hb => by
    obtain ⟨⟨old, he⟩, ⟨o, ho, hc, hd⟩, _⟩ := st
    have e' : b = e ∨ b = it := by simpa using hb
    rcases e' with z | z
    · rw [z]; exact ⟨_, he, fun v q => nomatch q⟩
    · rw [z]; exact ⟨o, ho, fun v q => by rw [hd] at q; cases q⟩
  keep := fun i h h' st k => let ⟨⟨old, he⟩, hi, hne⟩ := st; ⟨⟨old, k e (by simp) _ he⟩, hi.at fun o q => k it (by simp) o q, hne⟩
  item := by
    intro X hP hw hK hc i pins s σ H E I hf st hg
    subst hP hw hK
    obtain ⟨⟨old, he⟩, hit, hne, hae, hea⟩ := st
    obtain ⟨xs, x, hq, hx⟩ := hg
    obtain ⟨its, rv, p, hz⟩ := I.tuple hq
    obtain ⟨u, hu, ru⟩ := rv.get hx
    have hel : e < s.heap.objs.size := Heap.lt_size he
    have hil : it < s.heap.objs.size := by obtain ⟨_, q, _⟩ := hit; exact Heap.lt_size q
    have D := Draws.tuple (prog := X.prog) (w := X.w) (A := X.A.in1) (I.ok.hd hc) it a hae its.toArray
    have hlt : i < its.toArray.size := by
      have := lt_of_get hu
      simpa using this
    refine wpAny_pyNext_enum_itemD D he ⟨hit, p⟩ hlt hne (by simp [hne, hea]) fun u' h' tk hP ho hit' hT hsz hk => ?_
    have eu : u' = u := by
      have hP : its.toArray[i]? = some u' := hP
      have : its.toArray[i]? = some u := by simpa using hu
      rw [hP] at this; injection this
    subst eu
    refine ⟨_, rfl, wpAny_letOwnedTupleGo_enum (s := { s with heap := h', toks := tk + 1 }) ho fun h'' he' sb => ?_⟩
    have hT2 : h''.get? s.heap.objs.size = some { cls := .type "tuple", data := .seq #[.int i tk, u'] } := (sb.2 _ (Nat.ne_of_gt hel)).trans hT
    have new : ObjOk X.prog X.w (upd H s.heap.objs.size (.tup [.int (i : Nat), x])) h'' s.heap.objs.size (.tup [.int (i : Nat), x]) :=
      ⟨by show 2 ≤ sizeLine; decide, [.int i tk, u'], .cons ⟨_, rfl⟩ (.cons ru .nil), ⟨_, hT2, rfl, _, rfl⟩⟩
    have I1 : Inv X pins σ (upd H s.heap.objs.size (.tup [.int (i : Nat), x])) { s with heap := h'', toks := tk + 1 } :=
      I.turnedNew (ch := [e, it]) (fun b ob hb q => (sb.2 b (fun z => hb (by simp [z]))).trans (hk b ob (fun z => hb (by simp [z])) (fun z => hb (by simp [z])) q)) hf (Nat.le_refl _) new
    refine ⟨.ref s.heap.objs.size, _, I1, rfl, ⟨_, x, rfl, I.hok.fresh (Nat.le_refl _), rfl, fun ys hy => by rw [I.tuple_inj hy hq]; exact hx⟩, ⟨⟨u', ?_⟩, hit'.1.at fun o q => (sb.2 it (Ne.symm hne)).trans q, hne, hae, hea⟩, fun b hb => ?_⟩
    · have e1 : ((i + 1 : Nat) : Int) = (i : Int) + 1 := by omega
      rw [e1]; exact he'
    · have hb' : b < s.heap.objs.size := by
        have e' : b = e ∨ b = it := by simpa using hb
        rcases e' with z | z
        · rw [z]; exact hel
        · rw [z]; exact hil
      rw [upd_ne (Nat.ne_of_lt hb')]
      exact (hf b hb).1
  done := by
    intro X hP hw hK hc i pins s σ H E I hf st hg
    subst hP hw hK
    obtain ⟨⟨old, he⟩, hit, hne, hae, hea⟩ := st
    obtain ⟨xs, hq, hx⟩ := hg
    obtain ⟨its, rv, p, hz⟩ := I.tuple hq
    obtain ⟨f0, f1, f2, f3, f4, f5⟩ := hf it (by simp)
    have hl := rv.length
    have D := Draws.tuple (prog := X.prog) (w := X.w) (A := X.A.in1) (I.ok.hd hc) it a hae its.toArray
    have hn : its.toArray.size = i := by rw [← hx]; simp; omega
    subst hn
    exact wpAny_pyNext_enum_endD D he ⟨hit, p⟩ fun h' eb => ⟨rfl, I.turned (t' := s.toks) (fun b o hb q => eb b o hb q) f0 f1 f3 f4 f5⟩
  self := fun A i s Q E st h => let ⟨⟨_, he⟩, _⟩ := st; wpAny_pyIter_enum he h
/-- enumerate(e), e a list or a tuple -/
def iEnum2 (K : PySem.W.Frag) (ta : TA) : TI := fun σ H R => ta σ H fun vs H1 => ∃ a xs, vs = [.ref a] ∧ ((SqL K H1 a xs ∧ R (Ite K a) H1) ∨ (SqT K H1 a xs ∧ R (IteT K a) H1))
theorem pi_enum2 {X : Cx} {e : Expr} {ta : TA} {p pos tpos : Pos} {elts : List Expr} {kk : Nat} (hg : Gl X "enumerate") (hm : X.mg "enumerate" = none) (ha : PA X [e] ta) (hs : starEach [e] X.env = [(false, eval e X.env)]) :
    PI X (.Tuple elts kk tpos) (.Call (.Name "enumerate" p) [e] [] pos) (iEnum2 X.K ta) := by
  refine ⟨fun pins s σ H R I h => ?_⟩
  refine Call_ (ld_blt I hg hm boot_enumerate (PyProof.Rows.callWith_type1 (thn (ha.run pos pins s σ H _ I h) fun us s1 ⟨vs, H1, I1, r1, q1⟩ => ?_) hs rfl))
  obtain ⟨a, xs, ex, q1⟩ := q1
  subst ex
  cases r1 with
  | cons r rr =>
    cases rr
    cases r
    have fp : ∀ b ∈ [s1.heap.objs.size + 1, s1.heap.objs.size], FpOk X pins H1 b := fun b hb => by
      have e' : b = s1.heap.objs.size + 1 ∨ b = s1.heap.objs.size := by simpa using hb
      have hle : s1.heap.objs.size ≤ b := by
        rcases e' with z | z
        · rw [z]; exact Nat.le_add_right _ _
        · rw [z]; exact Nat.le_refl _
      exact I1.fpOk hle (I1.hok.fresh hle)
    rcases q1 with ⟨hq, q⟩ | ⟨hq, q⟩
    · obtain ⟨its, rv, p', hz⟩ := I1.list hq
      refine call_enumerate_list p'.isList fun h' he hit hsz hk => wpAny_pyIter_enum he ?_
      have I2 : Inv X pins σ H1 { s1 with heap := h' } := I1.kept (t' := s1.toks) hk
      exact ⟨s1.heap.objs.size + 1, [s1.heap.objs.size + 1, s1.heap.objs.size], _, _, H1, rfl, I2, turn_enum a (s1.heap.objs.size + 1) s1.heap.objs.size, ⟨⟨.none, he⟩, hit, Nat.succ_ne_self _⟩, fp, q⟩
    · obtain ⟨its, rv, p', hz⟩ := I1.tuple hq
      have hlt : a < s1.heap.objs.size := by obtain ⟨_, z, _⟩ := p'; exact Heap.lt_size z
      refine call_enumT p' fun h' he hit hsz hk => wpAny_pyIter_enum he ?_
      have I2 : Inv X pins σ H1 { s1 with heap := h' } := I1.kept (t' := s1.toks) hk
      exact ⟨s1.heap.objs.size + 1, [s1.heap.objs.size + 1, s1.heap.objs.size], _, _, H1, rfl, I2, turn_enumT a (s1.heap.objs.size + 1) s1.heap.objs.size, ⟨⟨.none, he⟩, hit, Nat.succ_ne_self _, Nat.ne_of_lt hlt, Nat.ne_of_gt (Nat.lt_succ_of_lt hlt)⟩, fp, q⟩
end Pv
end PvEn_
section PvH_
set_option maxRecDepth 100000
/-! PvH: what is walked; targets of data; list comprehensions. -/
namespace Pv
open PySem PySem.Spec PyProof.Rows L2
/-- things that were lent -/
structure Lent (Γ Γ' : Gm) (ls : List Nat) : Prop where
  f0 : Γ'.F0 = Γ.F0
  h0 : Γ'.H0 = Γ.H0
  re : Γ'.re = Γ.re
  fx : ∀ e ∈ Γ.fx, e ∈ Γ'.fx
  no : ∀ i ∈ ls, ∀ q ∈ Γ.fx, q.1 = i → q.2.2 = none
def ListAt (W : Wd) (Γ : Gm) (F : Hp) (a : Addr) (xs : List D) : Prop := ∀ Γ2 F' ρ' σ' H', (∀ e ∈ Γ.fx, e ∈ Γ2.fx) → Sub F F' → Rel W Γ2 F' ρ' σ' H' → ∃ vs, H' a = some (.lst vs) ∧ Reps W F' vs xs
def TupAt (W : Wd) (F : Hp) (a : Addr) (xs : List D) : Prop := ∃ vs, SqT W.K F a vs ∧ Reps W F vs xs
/-- J walks xs -/
structure WalkOf (W : Wd) (Γ : Gm) (F : Hp) (J : It) (xs : List D) : Prop where
  go : ∀ Γ2 (i : Nat) F' ρ' σ' H', (∀ e ∈ Γ.fx, e ∈ Γ2.fx) → Sub F F' → Rel W Γ2 F' ρ' σ' H' → i < xs.length → J.go i H'
  stop : ∀ Γ2 F' ρ' σ' H', (∀ e ∈ Γ.fx, e ∈ Γ2.fx) → Sub F F' → Rel W Γ2 F' ρ' σ' H' → J.stop xs.length H'
  yld : ∀ Γ2 (i : Nat) d F' ρ' σ' H' x H'', (∀ e ∈ Γ.fx, e ∈ Γ2.fx) → Sub F F' → Rel W Γ2 F' ρ' σ' H' → xs[i]? = some d → J.yld i H' x H'' → ∃ F'', Sub F' F'' ∧ Rel W Γ2 F'' ρ' σ' H'' ∧ Rep W F'' x d
section
variable {W : Wd} {p : Pr} {E : XK} {n : Nat} {X : Cx} {Γ Γ' Γ'' : Gm} {σ : L2.St} {F F' : Hp} {ρ ρ' : En} {H H' : Hp} {a b : Addr} {xs ys : List D}
theorem Lent.rel {ls : List Nat} (L : Lent Γ Γ' ls) (R : Rel W Γ' F ρ σ H) : Rel W Γ F ρ σ H := by
  have e : Γ = { Γ' with fx := Γ.fx } := by
    cases Γ; cases Γ'
    have h1 := L.f0; have h2 := L.h0; have h3 := L.re
    simp at h1 h2 h3
    subst h1; subst h2; subst h3; rfl
  rw [e]
  exact R.fxSub L.fx
theorem Rel.unlL : ∀ {ls : List Nat} {ρ : En}, Rel W Γ F ρ σ H → (∀ i ∈ ls, ∀ q ∈ Γ.fx, q.1 = i → q.2.2 = none) → Rel W Γ F (unlend ls ρ) σ H
  | [], ρ, R, h => R
  | i :: is, ρ, R, h => Rel.unlL (ls := is) (R.unl (h i (List.mem_cons_self ..))) fun j hj => h j (List.mem_cons_of_mem _ hj)
theorem Lent.un {ls : List Nat} (L : Lent Γ Γ' ls) (R : Rel W Γ' F ρ σ H) : Rel W Γ F (unlend ls ρ) σ H := (L.rel R).unlL L.no
theorem Lent.refl : Lent Γ Γ [] := ⟨rfl, rfl, rfl, fun _ h => h, fun i h => by cases h⟩
theorem Lent.trans {l l2 : List Nat} (a : Lent Γ Γ' l) (b : Lent Γ' Γ'' l2) : Lent Γ Γ'' (l2 ++ l) where
  f0 := b.f0.trans a.f0
  h0 := b.h0.trans a.h0
  re := b.re.trans a.re
  fx := fun e h => b.fx e (a.fx e h)
  no := fun i h q hq e => by
    rcases List.mem_append.mp h with h | h
    · exact b.no i h q (a.fx q hq) e
    · exact a.no i h q hq e
/-- data at an address, to be walked while Γ stands -/
def WalkAt (W : Wd) (Γ : Gm) (F : Hp) (a : Addr) : D → Prop
  | .lst xs => ListAt W Γ F a xs
  | .tup xs => TupAt W F a xs
  | _ => False
def walks : D → Bool
  | .lst _ => true
  | .tup _ => true
  | _ => false
theorem WalkAt.of_rep {v : V} {d : D} (h : Rep W F v d) (e : walks d = true) : ∃ a, v = .ref a ∧ WalkAt W Γ F a d := by
  cases d <;> try (injection e; done)
  case tup ys =>
    unfold Rep at h
    obtain ⟨a, vs, e, q, r⟩ := h
    exact ⟨a, e, vs, q, r⟩
  case lst ys =>
    unfold Rep at h
    obtain ⟨a, vs, e, q, r⟩ := h
    exact ⟨a, e, fun Γ2 F' ρ' σ' H' g s R => ⟨vs, R.sub _ _ (s _ _ q), r.mono s _⟩⟩
theorem walks_of {d : D} (e : items d = some xs) : walks d = true := by
  cases d <;> first
    | rfl
    | exact nomatch e
/-- a result is lent -/
theorem lendD {v : V} {r : R} {d : D} {ρ2 : En} {ls : List Nat} (R : Rel W Γ F ρ σ H) (h : RepR W Γ F ρ σ H v r) (e : lend r ρ = some (d, ρ2, ls)) (ei : walks d = true) :
    ∃ F2 Γ', Sub F F2 ∧ Lent Γ Γ' ls ∧ Rel W Γ' F2 ρ2 σ H ∧ (∃ a, v = .ref a ∧ WalkAt W Γ' F2 a d) ∧
      ∀ v' r', RepR W Γ F ρ σ H v' r' → ((∃ d, r = .own d) → (∃ d, r' = .own d) → v' ≠ v) → RepR W Γ' F2 ρ2 σ H v' r' := by
  cases r with
  | dat d' =>
    injection e with e; injection e with e1 e2; injection e2 with e2 e3; subst e1; subst e2; subst e3
    exact ⟨F, Γ, Sub.rfl, Lent.refl, R, WalkAt.of_rep h ei, fun _ _ h _ => h⟩
  | own d' =>
    injection e with e; injection e with e1 e2; injection e2 with e2 e3; subst e1; subst e2; subst e3
    obtain ⟨F2, s2, R2, rp, k⟩ := h.frz (q := (d', ρ)) R rfl
    exact ⟨F2, Γ, s2, Lent.refl, R2, WalkAt.of_rep rp ei, k⟩
  | ptr i =>
    have h : σ[i]? = some (some v) := h
    unfold lend at e
    dsimp only at e
    cases q : getS ρ i with
    | emp => rw [q] at e; exact nomatch e
    | cls _ => rw [q] at e; exact nomatch e
    | dat d' =>
      rw [q] at e
      injection e with e; injection e with e1 e2; injection e2 with e2 e3; subst e1; subst e2; subst e3
      obtain ⟨v', e', r'⟩ := R.sl i _ (getS_some q (fun z => nomatch z))
      rw [h] at e'; injection e' with e'; injection e' with e'; subst e'
      exact ⟨F, Γ, Sub.rfl, Lent.refl, R, WalkAt.of_rep r' ei, fun _ _ h _ => h⟩
    | own b l d' =>
      have q2 := getS_some q (fun z => nomatch z)
      obtain ⟨qa, o, f1, f2, f3, f4, f5, f6⟩ := R.slotOwn q2
      rw [h] at f1; injection f1 with f1; injection f1 with f1; subst f1
      -- the walk of a thing that stays as it is
      have at_ : ∀ {Γ' : Gm}, (i, qa, some d') ∈ Γ'.fx → walks d' = true → WalkAt W Γ' F qa d' := fun {Γ'} m ei => by
        cases d' <;> try (injection ei; done)
        case tup ys => exact f3.elim
        case lst ys =>
          intro Γ2 F' ρ' σ' H' g s R'
          obtain ⟨g1, bb, g2⟩ := R'.fx _ (g _ m)
          obtain ⟨qb, o', g3, g4, g5, _⟩ := R'.slotOwn g2
          have := ref_inj g1 g3; subst this
          obtain ⟨ws, rfl, rw_⟩ := top_lst g5
          exact ⟨ws, g4, rw_⟩
      cases l with
      | true =>
        rw [q] at e
        injection e with e; injection e with e1 e2; injection e2 with e2 e3; subst e1; subst e2; subst e3
        -- lent already: it stays so while an entry says so
        have R' : Rel W { Γ with fx := (i, qa, some d') :: Γ.fx } F ρ σ H :=
          { len := R.len, f0 := R.f0, fh := R.fh, fnew := R.fnew, kp := R.kp, dmn := R.dmn, tb := R.tb, oO := R.oO, sl := fun j x z => by
              have w := R.sl j x z
              cases x <;> exact w
            dis := R.dis, fx := fun e he => by
              rcases List.mem_cons.mp he with rfl | he
              · exact ⟨h, b, q2⟩
              · exact R.fx e he }
        refine ⟨F, { Γ with fx := (i, qa, some d') :: Γ.fx }, Sub.rfl, ⟨rfl, rfl, rfl, fun e he => List.mem_cons_of_mem _ he, fun i h => by cases h⟩, R', ⟨qa, rfl, at_ (List.mem_cons_self ..) ei⟩, fun v' r' h' _ => ?_⟩
        cases r' <;> exact h'
      | false =>
        rw [q] at e
        injection e with e; injection e with e1 e2; injection e2 with e2 e3; subst e1; subst e2; subst e3
        obtain ⟨R', no⟩ := R.lend q2 h
        refine ⟨F, { Γ with fx := (i, qa, some d') :: Γ.fx }, Sub.rfl, ⟨rfl, rfl, rfl, fun e he => List.mem_cons_of_mem _ he, fun j hj en hen e => ?_⟩, R', ⟨qa, rfl, at_ (List.mem_cons_self ..) ei⟩, fun v' r' h' _ => ?_⟩
        · have : j = i := by simpa using hj
          subst this; exact no en hen e
        · cases r' with
          | dat d2 => exact h'
          | ptr j => exact h'
          | own d2 =>
            obtain ⟨p', o', g1, g2, g3, g4, g5, g6⟩ := h'
            refine ⟨p', o', g1, g2, g3, g4, g5, fun j bb ll dd z w => ?_⟩
            rcases set_get z with ⟨rfl, _, _⟩ | ⟨_, z⟩
            · exact g6 _ _ _ _ q2 w
            · exact g6 _ _ _ _ z w
/-! ### walks -/
theorem lenR {vs : List V} (r : Reps W F vs xs) {i : Nat} (h : i < xs.length) : ∃ x, vs[i]? = some x := by
  have : i < vs.length := by rw [r.length]; exact h
  exact ⟨_, List.getElem?_eq_getElem this⟩
theorem sqL_inj {K : PySem.W.Frag} {H : Hp} {a : Addr} {vs : List V} (h : H a = some (.lst vs)) : SqL K H a vs := .inl (.inl h)
theorem walk_lst (h : ListAt W Γ F a xs) : WalkOf W Γ F (Itl W.K a) xs where
  go := fun Γ2 i F' ρ' σ' H' g s R hi => by
    obtain ⟨vs, e, r⟩ := h Γ2 F' ρ' σ' H' g s R
    obtain ⟨x, ex⟩ := lenR r hi
    exact ⟨vs, x, sqL_inj e, ex⟩
  stop := fun Γ2 F' ρ' σ' H' g s R => by
    obtain ⟨vs, e, r⟩ := h Γ2 F' ρ' σ' H' g s R
    exact ⟨vs, sqL_inj e, Nat.le_of_eq r.length⟩
  yld := fun Γ2 i d F' ρ' σ' H' x H'' g s R hi ⟨eH, q⟩ => by
    subst eH
    obtain ⟨vs, e, r⟩ := h Γ2 F' ρ' σ' _ g s R
    obtain ⟨v, ev, rv⟩ := r.get hi
    rw [q vs (sqL_inj e)] at ev; injection ev with ev; subst ev
    exact ⟨F', Sub.rfl, R, rv⟩
theorem walk_tupD (h : TupAt W F a xs) : WalkOf W Γ F (Itt W.K a) xs where
  go := fun Γ2 i F' ρ' σ' H' g s R hi => by
    obtain ⟨vs, e, r⟩ := h
    obtain ⟨x, ex⟩ := lenR r hi
    exact ⟨vs, x, sqT_sub (s.trans R.sub) e, ex⟩
  stop := fun Γ2 F' ρ' σ' H' g s R => by
    obtain ⟨vs, e, r⟩ := h
    exact ⟨vs, sqT_sub (s.trans R.sub) e, Nat.le_of_eq r.length⟩
  yld := fun Γ2 i d F' ρ' σ' H' x H'' g s R hi ⟨eH, q⟩ => by
    subst eH
    obtain ⟨vs, e, r⟩ := h
    obtain ⟨v, ev, rv⟩ := r.get hi
    rw [q vs (sqT_sub (s.trans R.sub) e)] at ev; injection ev with ev; subst ev
    exact ⟨F', Sub.rfl, R, rv.mono s _⟩
theorem rng_len (lo hi : Int) : (rngL lo hi).length = (hi - lo).toNat := by unfold rngL; rw [List.length_map, List.length_range]
theorem walk_rng (lo hi : Int) : WalkOf W Γ F (Itr lo (hi - lo).toNat) (rngL lo hi) where
  go := fun Γ2 i F' ρ' σ' H' g s R h => by rw [rng_len] at h; exact h
  stop := fun Γ2 F' ρ' σ' H' g s R => by rw [rng_len]; exact Nat.le_refl _
  yld := fun Γ2 i d F' ρ' σ' H' x H'' g s R h ⟨eH, ex⟩ => by
    subst eH; subst ex
    refine ⟨F', Sub.rfl, R, ?_⟩
    unfold rngL at h
    rw [List.getElem?_map] at h
    cases q : (List.range (hi - lo).toNat)[i]? with
    | none => rw [q] at h; exact nomatch h
    | some j =>
      rw [q] at h; injection h with h; subst h
      have hj : j = i := by
        have hl := lt_of_get q
        rw [List.getElem?_eq_getElem hl, List.getElem_range] at q
        injection q with q; exact q.symm
      subst hj
      unfold Rep; rfl
theorem pair_new {Γ : Gm} {T : Addr} {x y : V} {d e : D} {F' : Hp} {ρ' : En} {σ' : L2.St} {H' : Hp} (R : Rel W Γ F' ρ' σ' H') (hT : H' T = none) (h1 : Rep W F' x d) (h2 : Rep W F' y e) :
    ∃ F'', Sub F' F'' ∧ Rel W Γ F'' ρ' σ' (upd H' T (.tup [x, y])) ∧ Rep W F'' (.ref T) (.tup [d, e]) := by
  have hF := R.fnone hT
  have R1 := R.new (o := .tup [x, y]) hT
  have R2 := R1.frz1 (p := T) (o := .tup [x, y]) hF upd_same ⟨fun _ z => (nomatch z), fun _ z => (nomatch z)⟩ (R.dom _ hT) (R.noSlot hT)
  refine ⟨_, Sub.upd hF, R2, ?_⟩
  unfold Rep
  exact ⟨T, _, rfl, .inl (.inl upd_same), (Reps.nil.cons (h2.mono (Sub.upd hF) _)).cons (h1.mono (Sub.upd hF) _)⟩
theorem enum_get {i : Nat} {d : D} (h : (enumL xs)[i]? = some d) : ∃ e, xs[i]? = some e ∧ d = .tup [.int (i : Nat), e] := by
  unfold enumL at h
  rw [List.getElem?_map, List.getElem?_zipIdx] at h
  cases q : xs[i]? with
  | none => rw [q] at h; exact nomatch h
  | some e =>
    rw [q] at h; injection h with h
    refine ⟨e, rfl, ?_⟩
    rw [← h]
    show D.tup [.int ((0 + i : Nat) : Int), e] = _
    rw [Nat.zero_add]
theorem enum_len : (enumL xs).length = xs.length := by unfold enumL; rw [List.length_map, List.length_zipIdx]
theorem walk_enumD (h : ListAt W Γ F a xs) : WalkOf W Γ F (Ite W.K a) (enumL xs) where
  go := fun Γ2 i F' ρ' σ' H' g s R hi => by
    rw [enum_len] at hi
    obtain ⟨vs, e, r⟩ := h Γ2 F' ρ' σ' H' g s R
    obtain ⟨x, ex⟩ := lenR r hi
    exact ⟨vs, x, sqL_inj e, ex⟩
  stop := fun Γ2 F' ρ' σ' H' g s R => by
    obtain ⟨vs, e, r⟩ := h Γ2 F' ρ' σ' H' g s R
    exact ⟨vs, sqL_inj e, by rw [enum_len]; exact Nat.le_of_eq r.length⟩
  yld := fun Γ2 i d F' ρ' σ' H' x H'' g s R hi ⟨T, y, ex, hT, eH, q⟩ => by
    subst eH; subst ex
    obtain ⟨c, hc, rfl⟩ := enum_get hi
    obtain ⟨vs, e, r⟩ := h Γ2 F' ρ' σ' _ g s R
    obtain ⟨v, ev, rv⟩ := r.get hc
    rw [q vs (sqL_inj e)] at ev; injection ev with ev; subst ev
    exact pair_new R hT (by unfold Rep; rfl) rv
theorem walk_enumTD (h : TupAt W F a xs) : WalkOf W Γ F (IteT W.K a) (enumL xs) where
  go := fun Γ2 i F' ρ' σ' H' g s R hi => by
    rw [enum_len] at hi
    obtain ⟨vs, e, r⟩ := h
    obtain ⟨x, ex⟩ := lenR r hi
    exact ⟨vs, x, sqT_sub (s.trans R.sub) e, ex⟩
  stop := fun Γ2 F' ρ' σ' H' g s R => by
    obtain ⟨vs, e, r⟩ := h
    exact ⟨vs, sqT_sub (s.trans R.sub) e, by rw [enum_len]; exact r.length⟩
  yld := fun Γ2 i d F' ρ' σ' H' x H'' g s R hi ⟨T, y, ex, hT, eH, q⟩ => by
    subst eH; subst ex
    obtain ⟨c, hc, rfl⟩ := enum_get hi
    obtain ⟨vs, e, r⟩ := h
    obtain ⟨v, ev, rv⟩ := r.get hc
    rw [q vs (sqT_sub (s.trans R.sub) e)] at ev; injection ev with ev; subst ev
    exact pair_new R hT (by unfold Rep; rfl) (rv.mono s _)
theorem zip_get {i : Nat} {d : D} (h : (zipL xs ys)[i]? = some d) : ∃ e f, xs[i]? = some e ∧ ys[i]? = some f ∧ d = .tup [e, f] := by
  unfold zipL at h
  rw [List.getElem?_map] at h
  cases q : (xs.zip ys)[i]? with
  | none => rw [q] at h; exact nomatch h
  | some e =>
    rw [q] at h; injection h with h
    obtain ⟨a1, a2⟩ := List.getElem?_zip_eq_some.mp q
    exact ⟨e.1, e.2, a1, a2, h.symm⟩
theorem zip_len : (zipL xs ys).length = min xs.length ys.length := by unfold zipL; rw [List.length_map, List.length_zip]
theorem walk_zipD (h : ListAt W Γ F a xs) (h2 : ListAt W Γ F b ys) : WalkOf W Γ F (Itz W.K a b) (zipL xs ys) where
  go := fun Γ2 i F' ρ' σ' H' g s R hi => by
    rw [zip_len] at hi
    obtain ⟨vs, e, r⟩ := h Γ2 F' ρ' σ' H' g s R
    obtain ⟨us, e2, r2⟩ := h2 Γ2 F' ρ' σ' H' g s R
    obtain ⟨x, ex⟩ := lenR r (Nat.lt_of_lt_of_le hi (Nat.min_le_left ..))
    obtain ⟨y, ey⟩ := lenR r2 (Nat.lt_of_lt_of_le hi (Nat.min_le_right ..))
    exact ⟨vs, us, x, y, sqL_inj e, sqL_inj e2, ex, ey⟩
  stop := fun Γ2 F' ρ' σ' H' g s R => by
    obtain ⟨vs, e, r⟩ := h Γ2 F' ρ' σ' H' g s R
    obtain ⟨us, e2, r2⟩ := h2 Γ2 F' ρ' σ' H' g s R
    refine ⟨vs, us, sqL_inj e, sqL_inj e2, ?_⟩
    rw [zip_len, r.length, r2.length]
    rcases Nat.le_total xs.length ys.length with c | c
    · exact .inl (by rw [Nat.min_eq_left c]; exact Nat.le_refl _)
    · exact .inr (by rw [Nat.min_eq_right c]; exact Nat.le_refl _)
  yld := fun Γ2 i d F' ρ' σ' H' x H'' g s R hi ⟨T, y, z, ex, hT, eH, q, q2⟩ => by
    subst eH; subst ex
    obtain ⟨c, c2, hc, hc2, rfl⟩ := zip_get hi
    obtain ⟨vs, e, r⟩ := h Γ2 F' ρ' σ' _ g s R
    obtain ⟨us, e2, r2⟩ := h2 Γ2 F' ρ' σ' _ g s R
    obtain ⟨v, ev, rv⟩ := r.get hc
    obtain ⟨u, eu, ru⟩ := r2.get hc2
    rw [q vs (sqL_inj e)] at ev; injection ev with ev; subst ev
    rw [q2 us (sqL_inj e2)] at eu; injection eu with eu; subst eu
    exact pair_new R hT rv ru
theorem walk_zipTD (h : TupAt W F a xs) (h2 : TupAt W F b ys) : WalkOf W Γ F (RZ.ItzT W.K a b) (zipL xs ys) where
  go := fun Γ2 i F' ρ' σ' H' g s R hi => by
    rw [zip_len] at hi
    obtain ⟨vs, e, r⟩ := h
    obtain ⟨us, e2, r2⟩ := h2
    obtain ⟨x, ex⟩ := lenR r (Nat.lt_of_lt_of_le hi (Nat.min_le_left ..))
    obtain ⟨y, ey⟩ := lenR r2 (Nat.lt_of_lt_of_le hi (Nat.min_le_right ..))
    exact ⟨vs, us, x, y, sqT_sub (s.trans R.sub) e, sqT_sub (s.trans R.sub) e2, ex, ey⟩
  stop := fun Γ2 F' ρ' σ' H' g s R => by
    obtain ⟨vs, e, r⟩ := h
    obtain ⟨us, e2, r2⟩ := h2
    refine ⟨vs, us, sqT_sub (s.trans R.sub) e, sqT_sub (s.trans R.sub) e2, ?_⟩
    rw [zip_len, r.length, r2.length]
    rcases Nat.le_total xs.length ys.length with c | c
    · exact .inl (by rw [Nat.min_eq_left c]; exact Nat.le_refl _)
    · exact .inr (by rw [Nat.min_eq_right c]; exact Nat.le_refl _)
  yld := fun Γ2 i d F' ρ' σ' H' x H'' g s R hi ⟨T, y, z, ex, hT, eH, q, q2⟩ => by
    subst eH; subst ex
    obtain ⟨c, c2, hc, hc2, rfl⟩ := zip_get hi
    obtain ⟨vs, e, r⟩ := h
    obtain ⟨us, e2, r2⟩ := h2
    obtain ⟨v, ev, rv⟩ := r.get hc
    obtain ⟨u, eu, ru⟩ := r2.get hc2
    rw [q vs (sqT_sub (s.trans R.sub) e)] at ev; injection ev with ev; subst ev
    rw [q2 us (sqT_sub (s.trans R.sub) e2)] at eu; injection eu with eu; subst eu
    exact pair_new R hT (rv.mono s _) (ru.mono s _)
/-! ### what is walked, by the evaluator -/
def rdI (W : Wd) (p : Pr) (E : XK) (n : Nat) (it : I) : TI := fun σ H R => ∃ Γ ρ F, Rel W Γ F ρ σ H ∧ Ok W Γ E σ F (evI (ev p n) it ρ) (fun w ρ' F' H' => ∀ J Γ' F2, Sub F' F2 → Lent Γ Γ' w.2 → Rel W Γ' F2 ρ' σ H' → WalkOf W Γ' F2 J w.1 → R J H')
theorem _root_.L2.PI.weak {tg it : Expr} {t t' : TI} (h : PI X tg it t) (w : ∀ σ H Q, t' σ H Q → t σ H Q) : PI X tg it t' := ⟨fun pins s σ H Q I q => h.run pins s σ H Q I (w _ _ _ q)⟩
theorem pi_rng1D {tg e : Expr} {c : C} {p1 pos : Pos} (hg : Gl X "range") (hm : X.mg "range" = none) (hs : notStar e = true) (ha : PE X e (rd W p E n c)) : PI X tg (.Call (.Name "range" p1) [e] [] pos) (rdI W p E n (.rng1 c)) :=
  (pi_range1 hg hm (pa_cons ha pa_nil (star_cons [] _ hs)) (star_cons [] _ hs)).weak fun σ H Q ⟨Γ, ρ, F, R, h⟩ => by
    unfold evI at h
    obtain ⟨Γ', ρ', F', R', h'⟩ := rd_peek R h
    refine ⟨Γ', ρ', F', R', h'.imp fun r ρ1 F1 H1 s1 R1 k v hv => ?_⟩
    obtain ⟨d, ρ2, F2, R2, s2, rd2, k⟩ := k v hv
    cases d <;> try exact k.elim
    case int j =>
      obtain ⟨c, k⟩ := ok_if2 (y := .bad) k
      unfold small62 at c
      simp only [Bool.and_eq_true, decide_eq_true_eq] at c
      refine ⟨j, by rw [rd_int rd2], c.1, c.2, ?_⟩
      have w := k.at R2 (Itr 0 j.toNat) Γ F2 Sub.rfl Lent.refl R2
      have e : (j - 0).toNat = j.toNat := by rw [Int.sub_zero]
      have z := walk_rng (W := W) (Γ := Γ) (F := F2) 0 j
      rw [e] at z
      exact w z
theorem pi_rng2D {tg e e2 : Expr} {c c2 : C} {p1 pos : Pos} (hg : Gl X "range") (hm : X.mg "range" = none) (hs : notStar e = true) (hs2 : notStar e2 = true) (ha : PE X e (rd W p E n c)) (hb : PE X e2 (rd W p E n c2)) : PI X tg (.Call (.Name "range" p1) [e, e2] [] pos) (rdI W p E n (.rng2 c c2)) :=
  (pi_range2 hg hm (pa_cons ha (pa_cons hb pa_nil (star_cons [] _ hs2)) (star_cons [e2] _ hs)) (by rw [star_cons [e2] _ hs, star_cons [] _ hs2]; rfl) (star_cons [] _ hs2)).weak fun σ H Q ⟨Γ, ρ, F, R, h⟩ => by
    unfold evI at h
    obtain ⟨Γ', ρ', F', R', h'⟩ := rd_peek R h
    refine ⟨Γ', ρ', F', R', h'.imp fun r ρ1 F1 H1 s1 R1 k v hv => ?_⟩
    obtain ⟨d, ρ2, F2, R2, s2, rd2, k⟩ := k v hv
    obtain ⟨Γ'', ρ'', F'', R'', h''⟩ := rd_peek R2 k
    refine ⟨Γ'', ρ'', F'', R'', h''.imp fun r2 ρ3 F3 H3 s3 R3 k3 v2 hv2 => ?_⟩
    obtain ⟨d2, ρ4, F4, R4, s4, rd4, k4⟩ := k3 v2 hv2
    cases d <;> cases d2 <;> try exact k4.elim
    case int.int i j =>
      obtain ⟨c, k⟩ := ok_if2 (y := .bad) k4
      unfold small62 at c
      simp only [Bool.and_eq_true, decide_eq_true_eq] at c
      exact ⟨i, j, by rw [rd_int rd2, rd_int rd4], ⟨c.1.1, c.1.2, c.2.1, c.2.2⟩, k.at R4 _ Γ F4 Sub.rfl Lent.refl R4 (walk_rng i j)⟩
theorem fresh1 {pins : List (Addr × Obj)} {s1 : Shared} {σ1 : L2.St} {H1 : Hp} (I1 : L2.Inv X pins σ1 H1 s1) : ∀ c ∈ [s1.heap.objs.size], FpOk X pins H1 c := fun c hc => by
  have z : c = s1.heap.objs.size := List.mem_singleton.mp hc
  rw [z]; exact I1.fpOk (Nat.le_refl _) (I1.hok.fresh (Nat.le_refl _))
/-- a list or a tuple that has come, to be walked -/
theorem iter_seq {tg : Expr} {pins : List (Addr × Obj)} {s1 : Shared} {σ1 : L2.St} {H1 : Hp} {R : It → Hp → Prop} {x : V} {v : Value} (hK : X.K = W.K) (I1 : L2.Inv X pins σ1 H1 s1) (r1 : L2.RelV x v) (h : ∃ a, x = .ref a ∧ ((∃ vs, H1 a = some (.lst vs) ∧ R (Itl W.K a) H1) ∨ ∃ vs, SqT W.K H1 a vs ∧ R (Itt W.K a) H1)) :
    wpAny (model X.prog X.w) X.A (pyIter v) (PIE X pins σ1 tg R) X.xe s1 := by
  obtain ⟨a, rfl, h⟩ := h
  cases r1
  have grow : ∀ o : Obj, L2.Inv X pins σ1 H1 { s1 with heap := s1.heap.push o } := fun o => I1.kept (t' := s1.toks) fun _ _ z => Heap.get?_push_of_some _ z
  rcases h with ⟨vs, hq, q⟩ | ⟨vs, hq, q⟩
  · obtain ⟨its, _, pl, _⟩ := I1.list (sqL_inj hq)
    refine wpAny_pyIter_list pl.isList ?_
    refine ⟨_, [s1.heap.objs.size], fun i h => h.IsListIter s1.heap.objs.size a i, Itl W.K a, H1, rfl, grow _, by rw [hK]; exact turn_list a _, ⟨_, Heap.get?_push_size _ rfl, rfl, rfl⟩, fresh1 I1, q⟩
  · obtain ⟨its, _, pl, _⟩ := I1.tuple (hK ▸ hq)
    refine wpAny_pyIter_tuple (show s1.heap.IsTuple a its.toArray from pl) ?_
    refine ⟨_, [s1.heap.objs.size], fun i h => h.IsTupleIter s1.heap.objs.size a i, Itt W.K a, H1, rfl, grow _, by rw [hK]; exact turn_tuple a _, ⟨_, Heap.get?_push_size _ rfl, rfl, rfl⟩, fresh1 I1, q⟩
theorem pi_seqD {tg e : Expr} {c : C} (hK : X.K = W.K) (ha : PE X e (rd W p E n c)) : PI X tg e (rdI W p E n (.seq c)) := by
  refine ⟨fun pins s σ H Q I ⟨Γ, ρ, F, R, h⟩ => ?_⟩
  unfold evI evW at h
  refine thn (ha.run pins s σ H (fun x H1 => ∃ a, x = .ref a ∧ ((∃ vs, H1 a = some (.lst vs) ∧ Q (Itl W.K a) H1) ∨ ∃ vs, SqT W.K H1 a vs ∧ Q (Itt W.K a) H1)) I ⟨Γ, ρ, F, R, h.bind.imp fun r ρ1 F1 H1 s1 R1 k x hx => ?_⟩) fun v s1 ⟨x, H1, I1, r1, q1⟩ => iter_seq hK I1 r1 q1
  cases e1 : lend r ρ1 with
  | none => rw [e1] at k; exact k.elim
  | some t =>
    rw [e1] at k
    obtain ⟨d, ρ2, ls⟩ := t
    dsimp only at k
    cases e2 : items d with
    | none => rw [e2] at k; exact k.elim
    | some xs =>
      rw [e2] at k
      obtain ⟨F2, Γ', s2, L, R2, ⟨a, ea, sq⟩, _⟩ := lendD R1 hx e1 (walks_of e2)
      have k := (k.sub s2).at (L.rel R2)
      refine ⟨a, ea, ?_⟩
      cases d <;> try (injection e2; done)
      case lst ys =>
        injection e2 with e2; subst e2
        obtain ⟨vs, e3, _⟩ := sq Γ' F2 ρ2 σ H1 (fun _ z => z) Sub.rfl R2
        exact .inl ⟨vs, e3, k _ Γ' F2 Sub.rfl L R2 (walk_lst sq)⟩
      case tup ys =>
        injection e2 with e2; subst e2
        obtain ⟨vs, e3, _⟩ := id sq
        exact .inr ⟨vs, sqT_sub R2.sub e3, k _ Γ' F2 Sub.rfl L R2 (walk_tupD sq)⟩
theorem pi_enumD {e : Expr} {elts : List Expr} {c : C} {kk : Nat} {p1 pos tpos : Pos} (hK : X.K = W.K) (hg : Gl X "enumerate") (hm : X.mg "enumerate" = none) (hs : notStar e = true) (ha : PE X e (rd W p E n c)) : PI X (.Tuple elts kk tpos) (.Call (.Name "enumerate" p1) [e] [] pos) (rdI W p E n (.enum c)) :=
  (pi_enum2 hg hm (pa_cons ha pa_nil (star_cons [] _ hs)) (star_cons [] _ hs)).weak fun σ H Q ⟨Γ, ρ, F, R, h⟩ => by
    unfold evI at h
    refine ⟨Γ, ρ, F, R, h.bind.imp fun r ρ1 F1 H1 s1 R1 k x hx => ?_⟩
    cases e1 : lend r ρ1 with
    | none => rw [e1] at k; exact k.elim
    | some t =>
      rw [e1] at k
      obtain ⟨d, ρ2, ls⟩ := t
      cases d <;> try exact k.elim
      case lst xs =>
        obtain ⟨F2, Γ', s2, L, R2, ⟨a, ea, sq⟩, _⟩ := lendD R1 hx e1 rfl
        have k := (Ok.sub (show Ok W Γ E σ F1 (.ok (enumL xs, ls) ρ2) _ from k) s2).at (L.rel R2)
        have sq : ListAt W Γ' F2 a xs := sq
        obtain ⟨vs, e3, _⟩ := sq Γ' F2 ρ2 σ H1 (fun _ z => z) Sub.rfl R2
        exact ⟨a, vs, by rw [ea], .inl ⟨sqL_inj e3, hK ▸ k _ Γ' F2 Sub.rfl L R2 (walk_enumD sq)⟩⟩
      case tup xs =>
        obtain ⟨F2, Γ', s2, L, R2, ⟨a, ea, sq⟩, _⟩ := lendD R1 hx e1 rfl
        have k := (Ok.sub (show Ok W Γ E σ F1 (.ok (enumL xs, ls) ρ2) _ from k) s2).at (L.rel R2)
        have sq : TupAt W F2 a xs := sq
        obtain ⟨vs, e3, _⟩ := id sq
        exact ⟨a, vs, by rw [ea], .inr ⟨hK ▸ sqT_sub R2.sub e3, hK ▸ k _ Γ' F2 Sub.rfl L R2 (walk_enumTD sq)⟩⟩
theorem pi_zipD {e e2 : Expr} {elts : List Expr} {c c2 : C} {kk : Nat} {p1 pos tpos : Pos} (hK : X.K = W.K) (hg : Gl X "zip") (hm : X.mg "zip" = none) (hs : notStar e = true) (hs2 : notStar e2 = true) (ha : PE X e (rd W p E n c)) (hb : PE X e2 (rd W p E n c2)) :
    PI X (.Tuple elts kk tpos) (.Call (.Name "zip" p1) [e, e2] [] pos) (rdI W p E n (.zip c c2)) :=
  (RZ.pi_zipA hg hm (pa_cons ha (pa_cons hb pa_nil (star_cons [] _ hs2)) (star_cons [e2] _ hs)) (star_cons [e2] _ hs) (star_none (by rw [List.all_cons, hs2]; rfl))).weak fun σ H Q ⟨Γ, ρ, F, R, h⟩ => by
    unfold evI at h
    refine ⟨Γ, ρ, F, R, h.bind.imp fun ra ρ1 F1 H1 s1 R1 h1 x hx => ⟨_, ρ1, F1, hx.keepRel R1, (h1.bind.keep hx R1).imp fun rb ρ2 F2 H2 s2 R2k ⟨hx2, R2, ek, h2⟩ y hy => ?_⟩⟩
    have ap : (∃ d, ra = .own d) → (∃ d, rb = .own d) → y ≠ x := fun z1 ⟨d', z2⟩ => by
      subst z2
      rw [← ek] at hy
      exact keep_apart hy hx2 z1
    have hy := hy.unkeep hx.ownH0
    cases e1 : lend ra ρ2 with
    | none => rw [e1] at h2; exact h2.elim
    | some t =>
      rw [e1] at h2
      obtain ⟨d, ρ3, ls⟩ := t
      dsimp only at h2
      cases e2 : lend rb ρ3 with
      | none => rw [e2] at h2; exact h2.elim
      | some t2 =>
        rw [e2] at h2
        obtain ⟨d2, ρ4, ls2⟩ := t2
        dsimp only at h2
        cases d <;> cases d2 <;> try exact h2.elim
        case tup.tup xs ys =>
          obtain ⟨F3, Γ3, s3, L3, R3, ⟨a, ea, sq⟩, kk3⟩ := lendD R2 hx2 e1 rfl
          obtain ⟨F4, Γ4, s4, L4, R4, ⟨b, eb, sq2⟩, _⟩ := lendD R3 (kk3 y rb hy ap) e2 rfl
          have sq : TupAt W F3 a xs := sq
          have sq2 : TupAt W F4 b ys := sq2
          have k := (h2.sub (s3.trans s4)).at ((L3.trans L4).rel R4)
          obtain ⟨vs, f1, f2⟩ := sq
          have sq' : TupAt W F4 a xs := ⟨vs, sqT_sub s4 f1, f2.mono s4 _⟩
          obtain ⟨us, f3, f4⟩ := id sq2
          refine ⟨a, b, vs, us, by rw [ea, eb], .inr ⟨?_, ?_, ?_⟩⟩
          · rw [hK]; exact sqT_sub (s4.trans R4.sub) f1
          · rw [hK]; exact sqT_sub R4.sub f3
          · rw [hK]; exact k _ Γ4 F4 Sub.rfl (L3.trans L4) R4 (walk_zipTD sq' sq2)
        case lst.lst xs ys =>
          obtain ⟨F3, Γ3, s3, L3, R3, ⟨a, ea, sq⟩, kk3⟩ := lendD R2 hx2 e1 rfl
          obtain ⟨F4, Γ4, s4, L4, R4, ⟨b, eb, sq2⟩, _⟩ := lendD R3 (kk3 y rb hy ap) e2 rfl
          have sq : ListAt W Γ3 F3 a xs := sq
          have sq2 : ListAt W Γ4 F4 b ys := sq2
          have k := (h2.sub (s3.trans s4)).at ((L3.trans L4).rel R4)
          have sq' : ListAt W Γ4 F4 a xs := fun Γ2 F' ρ' σ' H' g s R => sq Γ2 F' ρ' σ' H' (fun e he => g e (L4.fx e he)) (s4.trans s) R
          obtain ⟨vs, f1, _⟩ := sq' Γ4 F4 ρ4 σ H2 (fun _ z => z) Sub.rfl R4
          obtain ⟨us, f3, _⟩ := sq2 Γ4 F4 ρ4 σ H2 (fun _ z => z) Sub.rfl R4
          refine ⟨a, b, vs, us, by rw [ea, eb], .inl ⟨sqL_inj f1, sqL_inj f3, ?_⟩⟩
          rw [hK]; exact k _ Γ4 F4 Sub.rfl (L3.trans L4) R4 (walk_zipD sq' sq2)
end
end Pv
end PvH_
section PvI_
set_option maxRecDepth 100000
/-! PvI: targets of data; list comprehensions. -/
namespace Pv
open PySem PySem.Spec PyProof.Rows L2
def gslots : G → List Nat
  | .nm i => [i]
  | .tup is => is
  | _ => []
/-- σ' is σ but for the slots is -/
def Off (is : List Nat) (σ σ' : L2.St) : Prop := σ'.length = σ.length ∧ ∀ j, j ∉ is → σ'[j]? = σ[j]?
theorem Off.refl {is : List Nat} {σ : L2.St} : Off is σ σ := ⟨rfl, fun _ _ => rfl⟩
theorem Off.trans {is : List Nat} {σ σ1 σ2 : L2.St} (a : Off is σ σ1) (b : Off is σ1 σ2) : Off is σ σ2 := ⟨b.1.trans a.1, fun j h => (b.2 j h).trans (a.2 j h)⟩
theorem Off.set {is : List Nat} {σ : L2.St} {i : Nat} {y : Option V} (h : i ∈ is) : Off is σ (σ.set i y) := ⟨List.length_set, fun j hj => set_ne (fun z => hj (z ▸ h))⟩
def OkG (W : Wd) (Γ : Gm) (E : XK) (F : Hp) (is : List Nat) (σ : L2.St) (x : O Unit) (K : L2.St → Hp → Prop) (ρK : En → Prop) : Prop := match x with
  | .ok _ ρ' => ρK ρ' → ∀ F' σ' H', Sub F F' → Off is σ σ' → Rel W Γ F' ρ' σ' H' → K σ' H'
  | .exc c d ρ' => ∀ F' H' cls dx, Sub F F' → Rel W Γ F' ρ' σ H' → XRep W F' H' cls dx c d → E cls dx H'
  | .bad => False
/-- a target takes data -/
def rdG (W : Wd) (p : Pr) (E : XK) (n : Nat) (g : G) : TG := fun v σ H Q => ∃ Γ ρ F d, Rel W Γ F ρ σ H ∧ Rep W F v d ∧ OkG W Γ E F (gslots g) σ (setG (ev p n) g d ρ) Q fun _ => True
theorem _root_.L2.PG.weak {X : Cx} {e : Expr} {t t' : TG} (h : PG X e t) (w : ∀ v σ H Q, t' v σ H Q → t v σ H Q) : PG X e t' := ⟨fun pins s σ H v u Q I r q => h.run pins s σ H v u Q I r (w _ _ _ _ q)⟩
section
variable {W : Wd} {p : Pr} {E : XK} {n : Nat} {X : Cx} {Γ Γ' : Gm} {σ σ' : L2.St} {F F' : Hp} {ρ ρ' : En} {H H' : Hp}
theorem store_dat {i : Nat} {d : D} {v : V} (R : Rel W Γ F ρ σ H) (hv : Rep W F v d) (e : store i (.dat d) ρ = some ρ') : Rel W Γ F ρ' (σ.set i (some v)) H := by
  unfold store at e
  by_cases c : (decide (i < ρ.length) && freeS (getS ρ i)) = true
  · rw [if_pos c] at e; injection e with e; subst e
    rw [Bool.and_eq_true, decide_eq_true_eq] at c
    exact R.storeD c.1 c.2 hv
  · rw [if_neg c] at e; exact nomatch e
theorem pg_nmD {i : Nat} {x : Str} {pos : Pos} (hN : X.N.Nodup) (hi : X.N[i]? = some x) (hx : Loc X.env.scope x) (hf : X.fn x = true ∨ X.env.scope.names.lookup x = some .local) : PG X (.Name x pos) (rdG W p E n (.nm i)) :=
  (pg_name hN hi hx hf).weak fun v σ H Q ⟨Γ, ρ, F, d, R, hv, h⟩ => by
    unfold setG at h
    dsimp only at h
    cases e : store i (.dat d) ρ with
    | none => rw [e] at h; exact h.elim
    | some ρ' =>
      rw [e] at h
      exact h trivial F _ H Sub.rfl (Off.set (List.mem_singleton.mpr rfl)) (store_dat R hv e)
def gNms : List Nat → TGs
  | [] => gNil
  | i :: is => gCons (gName i) (gNms is)
theorem nms_run : ∀ {is : List Nat} {ds : List D} {vs : List V} {ρ : En} {σ : L2.St} {Q : L2.St → Hp → Prop}, Rel W Γ F ρ σ H → Reps W F vs ds → setNms is ds ρ = some ρ' → (∀ σ', Off is σ σ' → Rel W Γ F ρ' σ' H → Q σ' H) → gNms is vs σ H Q
  | [], ds, vs, ρ, σ, Q, R, r, e, q => by
    cases ds with
    | nil => injection e with e; subst e; exact ⟨r.nil_inv, q σ Off.refl R⟩
    | cons d ds => exact nomatch e
  | i :: is, ds, vs, ρ, σ, Q, R, r, e, q => by
    cases ds with
    | nil => exact nomatch e
    | cons d ds =>
      unfold setNms at e
      obtain ⟨u, us, ev, hu, r'⟩ := r.cons_inv
      cases e1 : store i (.dat d) ρ with
      | none => rw [e1] at e; exact nomatch e
      | some ρ1 =>
        rw [e1] at e
        refine ⟨u, us, ev, nms_run (store_dat R hu e1) r' e fun σ' o R' => q σ' ?_ R'⟩
        exact ⟨o.1.trans List.length_set, fun j hj => (o.2 j (fun z => hj (List.mem_cons_of_mem _ z))).trans (set_ne (fun z => hj (z ▸ List.mem_cons_self ..)))⟩
/-- the names of a tuple target -/
def nmsOk (X : Cx) : List Expr → List Nat → Prop
  | [], [] => True
  | .Name x _ :: es, i :: is => X.N[i]? = some x ∧ Loc X.env.scope x ∧ (X.fn x = true ∨ X.env.scope.names.lookup x = some .local) ∧ nmsOk X es is
  | _, _ => False
theorem pgs_nms (hN : X.N.Nodup) : ∀ {es : List Expr} {is : List Nat}, nmsOk X es is → PGs X es (gNms is) ∧ (assignEach es X.env).length = is.length ∧ (assignEach es X.env).findIdx? (·.1) = none
  | [], [], _ => ⟨pgs_nil, rfl, rfl⟩
  | [], _ :: _, h => h.elim
  | e :: es, is, h => by
    cases e <;> try (cases is <;> exact h.elim)
    case Name x pos =>
      cases is with
      | nil => exact h.elim
      | cons i is =>
        obtain ⟨h1, h2, h3, h4⟩ := h
        obtain ⟨a, b, c⟩ := pgs_nms hN h4
        refine ⟨pgs_cons (pg_name hN h1 h2 h3) a rfl, ?_, ?_⟩
        · show (assignEach es X.env).length + 1 = _
          rw [b]; rfl
        · show List.findIdx? (·.1) ((false, assign (.Name x pos) X.env) :: assignEach es X.env) = none
          rw [List.findIdx?_cons]
          simp only [Bool.false_eq_true, if_false]
          rw [c]; rfl
theorem setNms_len : ∀ {is : List Nat} {ds : List D} {ρ : En}, setNms is ds ρ = some ρ' → ds.length = is.length
  | [], [], _, _ => rfl
  | [], _ :: _, _, e => nomatch e
  | _ :: _, [], _, e => nomatch e
  | i :: is, d :: ds, ρ, e => by
    unfold setNms at e
    cases e1 : store i (.dat d) ρ with
    | none => rw [e1] at e; exact nomatch e
    | some ρ1 => rw [e1] at e; rw [List.length_cons, List.length_cons, setNms_len e]
theorem rep_tup {v : V} {ds : List D} (R : Rel W Γ F ρ σ H) (h : Rep W F v (.tup ds)) : ∃ a vs, v = .ref a ∧ SqT W.K H a vs ∧ Reps W F vs ds := by
  obtain ⟨a, vs, e, t, r, _⟩ := rd_tup R (.inl h)
  exact ⟨a, vs, e, t, r⟩
theorem pg_tupD {es : List Expr} {is : List Nat} {k : Nat} {pos : Pos} (hK : X.K = W.K) (hc : X.calm = true) (hN : X.N.Nodup) (hn : nmsOk X es is) : PG X (.Tuple es k pos) (rdG W p E n (.tup is)) := by
  obtain ⟨a, b, c⟩ := pgs_nms hN hn
  refine (pg_tup hc a b c).weak fun v σ H Q ⟨Γ, ρ, F, d, R, hv, h⟩ => ?_
  unfold setG at h
  dsimp only at h
  cases d <;> try exact h.elim
  case tup ds =>
    dsimp only at h
    cases e : setNms is ds ρ with
    | none => rw [e] at h; exact h.elim
    | some ρ' =>
      rw [e] at h
      obtain ⟨a, vs, ev, t, r⟩ := rep_tup R hv
      exact ⟨a, vs, ev, hK ▸ t, by rw [r.length, setNms_len e], nms_run R r e fun σ' o R' => h trivial F σ' H Sub.rfl o R'⟩
/-! ### wiping, and back -/
theorem wipeS_get : ∀ {is : List Nat} {j : Nat}, (wipeS ρ is)[j]? = if j ∈ is then (ρ[j]?).map (fun _ => Sl.emp) else ρ[j]?
  | [], j => by simp [wipeS]
  | i :: is, j => by
    unfold wipeS
    by_cases c : i = j
    · subst c
      rw [if_pos (List.mem_cons_self ..), List.getElem?_set, if_pos rfl]
      have hl : (wipeS ρ is).length = ρ.length := wipeS_len
      by_cases q : i < ρ.length
      · rw [if_pos (by rw [hl]; exact q), List.getElem?_eq_getElem q]; rfl
      · rw [if_neg (by rw [hl]; exact q), List.getElem?_eq_none (by omega)]; rfl
    · rw [set_ne c, wipeS_get (is := is)]
      by_cases m : j ∈ is
      · rw [if_pos m, if_pos (List.mem_cons_of_mem _ m)]
      · rw [if_neg m, if_neg]
        intro z
        rcases List.mem_cons.mp z with z | z
        · exact c z.symm
        · exact m z
where
  wipeS_len : ∀ {is : List Nat}, (wipeS ρ is).length = ρ.length
    | [] => rfl
    | i :: is => by unfold wipeS; rw [List.length_set, wipeS_len]
theorem backS_get {ρ0 : En} : ∀ {is : List Nat} {j : Nat}, (backS ρ0 ρ is)[j]? = if j ∈ is then (ρ[j]?).map (fun _ => getS ρ0 j) else ρ[j]?
  | [], j => by simp [backS]
  | i :: is, j => by
    unfold backS
    by_cases c : i = j
    · subst c
      rw [if_pos (List.mem_cons_self ..), List.getElem?_set, if_pos rfl]
      have hl : (backS ρ0 ρ is).length = ρ.length := backS_len
      by_cases q : i < ρ.length
      · rw [if_pos (by rw [hl]; exact q), List.getElem?_eq_getElem q]; rfl
      · rw [if_neg (by rw [hl]; exact q), List.getElem?_eq_none (by omega)]; rfl
    · rw [set_ne c, backS_get (is := is)]
      by_cases m : j ∈ is
      · rw [if_pos m, if_pos (List.mem_cons_of_mem _ m)]
      · rw [if_neg m, if_neg]
        intro z
        rcases List.mem_cons.mp z with z | z
        · exact c z.symm
        · exact m z
where
  backS_len : ∀ {is : List Nat}, (backS ρ0 ρ is).length = ρ.length
    | [] => rfl
    | i :: is => by unfold backS; rw [List.length_set, backS_len]
theorem wipe_in {σ : L2.St} {j : Nat} (hj : j < σ.length) : ∀ {is : List Nat}, j ∈ is → (wipe σ is)[j]? = some none
  | i :: is, h => by
    unfold wipe
    by_cases c : i = j
    · subst c; rw [set_self (by rw [wipe_length]; exact hj)]
    · rw [set_ne c]
      rcases List.mem_cons.mp h with z | z
      · exact absurd z.symm c
      · exact wipe_in hj z
theorem plain_free {x : Sl} (h : plainS x = true) : freeS x = true := by cases x <;> first | rfl | exact nomatch h
theorem Rel.wipe {is : List Nat} (R : Rel W Γ F ρ σ H) (h : (is.all fun i => plainS (getS ρ i)) = true) : Rel W Γ F (wipeS ρ is) (L2.wipe σ is) H where
  len := by rw [wipeS_get.wipeS_len, wipe_length]; exact R.len
  f0 := R.f0
  fh := R.fh
  fnew := R.fnew
  kp := R.kp
  dmn := R.dmn
  tb := R.tb
  oO := R.oO
  sl := fun i x e => by
    rw [wipeS_get] at e
    by_cases c : i ∈ is
    · rw [if_pos c] at e
      cases q : ρ[i]? with
      | none => rw [q] at e; exact nomatch e
      | some y => rw [q] at e; injection e with e; subst e; trivial
    · rw [if_neg c] at e
      have z := R.sl i x e
      cases x with
      | emp => trivial
      | cls cs => obtain ⟨v, ws, a, b⟩ := z; exact ⟨v, ws, by rw [wipe_out c]; exact a, b⟩
      | dat d => obtain ⟨v, a, b⟩ := z; exact ⟨v, by rw [wipe_out c]; exact a, b⟩
      | own b l d => obtain ⟨q, o, a, b⟩ := z; exact ⟨q, o, by rw [wipe_out c]; exact a, b⟩
  dis := fun i j b l d b' l' d' q e1 e2 s1 s2 => by
    have key : ∀ {i : Nat} {b l d}, (wipeS ρ is)[i]? = some (.own b l d) → i ∉ is ∧ ρ[i]? = some (.own b l d) := fun {i b l d} e => by
      rw [wipeS_get] at e
      by_cases c : i ∈ is
      · rw [if_pos c] at e
        cases q : ρ[i]? with
        | none => rw [q] at e; exact nomatch e
        | some y => rw [q] at e; injection e with e; exact nomatch e
      · rw [if_neg c] at e; exact ⟨c, e⟩
    obtain ⟨n1, e1⟩ := key e1
    obtain ⟨n2, e2⟩ := key e2
    rw [wipe_out n1] at s1; rw [wipe_out n2] at s2
    exact R.dis i j _ _ _ _ _ _ q e1 e2 s1 s2
  fx := fun e he => by
    obtain ⟨a, b⟩ := R.fx e he
    have nm : e.1 ∉ is := fun z => by
      have := List.all_eq_true.mp h _ z
      revert b
      cases e.2.2 with
      | none => rintro ⟨l, d, b⟩; rw [getS_of b] at this; exact nomatch this
      | some d => rintro ⟨bb, b⟩; rw [getS_of b] at this; exact nomatch this
    refine ⟨by rw [wipe_out nm]; exact a, ?_⟩
    rw [wipeS_get, if_neg nm]; exact b
theorem emp_of {j : Nat} (h : j < ρ.length) (e : getS ρ j = .emp) : ρ[j]? = some .emp := by
  unfold getS at e
  rw [List.getD_eq_getElem?_getD, List.getElem?_eq_getElem h] at e
  rw [List.getElem?_eq_getElem h]
  exact congrArg some e
/-- behind a block: its own names' slots as they stood -/
theorem Rel.back {is : List Nat} {ρ1 : En} {F1 : Hp} {H1 : Hp} (R : Rel W Γ' F (wipeS ρ is) (L2.wipe σ is) H) (R1 : Rel W Γ F1 ρ1 σ H1) (s : Sub F1 F) (h : (is.all fun i => plainS (getS ρ1 i)) = true) : Rel W Γ' F (backS ρ1 ρ is) σ H := by
  have hlen : ρ.length = σ.length := by
    have := R.len
    rw [wipeS_get.wipeS_len, wipe_length] at this; exact this
  have own_ : ∀ {i : Nat} {b l d}, (backS ρ1 ρ is)[i]? = some (.own b l d) → i ∉ is ∧ ρ[i]? = some (.own b l d) := fun {i b l d} e => by
    rw [backS_get] at e
    by_cases c : i ∈ is
    · rw [if_pos c] at e
      have pl := List.all_eq_true.mp h _ c
      cases q : ρ[i]? with
      | none => rw [q] at e; exact nomatch e
      | some y =>
      rw [q] at e; injection e with e
      have e : getS ρ1 i = .own b l d := e
      rw [e] at pl; exact nomatch pl
    · rw [if_neg c] at e; exact ⟨c, e⟩
  have low : ∀ {i : Nat} {x : Sl}, i ∉ is → ρ[i]? = some x → (wipeS ρ is)[i]? = some x := fun {i x} c e => by rw [wipeS_get, if_neg c]; exact e
  refine ⟨by rw [backS_get.backS_len]; exact hlen, R.f0, R.fh, R.fnew, R.kp, R.dmn, R.tb, R.oO, fun i x e => ?_, fun i j b l d b' l' d' q e1 e2 s1 s2 => ?_, fun e he => ?_⟩
  · rw [backS_get] at e
    by_cases c : i ∈ is
    · rw [if_pos c] at e
      have pl := List.all_eq_true.mp h _ c
      cases q : ρ[i]? with
      | none => rw [q] at e; exact nomatch e
      | some y =>
        rw [q] at e; injection e with e
        cases q2 : getS ρ1 i with
        | emp => rw [q2] at e; subst e; trivial
        | cls cs => rw [q2] at pl; exact nomatch pl
        | own b l d => rw [q2] at pl; exact nomatch pl
        | dat d =>
          rw [q2] at e; subst e
          obtain ⟨v, a, r⟩ := R1.sl i _ (getS_some q2 (fun z => nomatch z))
          exact ⟨v, a, r.mono s _⟩
    · rw [if_neg c] at e
      have z := R.sl i x (low c e)
      cases x with
      | emp => trivial
      | cls cs => obtain ⟨v, ws, a, b⟩ := z; exact ⟨v, ws, by rw [wipe_out c] at a; exact a, b⟩
      | dat d => obtain ⟨v, a, b⟩ := z; exact ⟨v, by rw [wipe_out c] at a; exact a, b⟩
      | own b l d => obtain ⟨q, o, a, b⟩ := z; exact ⟨q, o, by rw [wipe_out c] at a; exact a, b⟩
  · obtain ⟨n1, e1⟩ := own_ e1
    obtain ⟨n2, e2⟩ := own_ e2
    exact R.dis i j _ _ _ _ _ _ q (low n1 e1) (low n2 e2) (by rw [wipe_out n1]; exact s1) (by rw [wipe_out n2]; exact s2)
  · obtain ⟨a, b⟩ := R.fx e he
    have hl : e.1 < σ.length := by
      have := lt_of_get a
      rw [wipe_length] at this; exact this
    have nm : e.1 ∉ is := fun z => by
      rw [wipe_in hl z] at a
      injection a with a; exact nomatch a
    refine ⟨by rw [wipe_out nm] at a; exact a, ?_⟩
    rw [backS_get, if_neg nm]
    rw [wipeS_get, if_neg nm] at b; exact b
theorem NoSlot.back {is : List Nat} {ρ1 : En} {q : Addr} (h : NoSlot (wipeS ρ is) (L2.wipe σ is) q) (hp : (is.all fun i => plainS (getS ρ1 i)) = true) : NoSlot (backS ρ1 ρ is) σ q := fun i b l d e z => by
  rw [backS_get] at e
  by_cases c : i ∈ is
  · rw [if_pos c] at e
    have pl := List.all_eq_true.mp hp _ c
    cases q : ρ[i]? with
    | none => rw [q] at e; exact nomatch e
    | some y =>
      rw [q] at e; injection e with e
      have e : getS ρ1 i = .own b l d := e
      rw [e] at pl; exact nomatch pl
  · rw [if_neg c] at e
    exact h i b l d (by rw [wipeS_get, if_neg c]; exact e) (by rw [wipe_out c]; exact z)
theorem NoSlot.unl {q : Addr} : ∀ {ls : List Nat} {ρ : En}, NoSlot ρ σ q → NoSlot (unlend ls ρ) σ q
  | [], ρ, h => h
  | i :: is, ρ, h => NoSlot.unl (ls := is) fun j b l d e => by
    rcases set_get e with ⟨rfl, z, _⟩ | ⟨_, e⟩
    · cases q2 : getS ρ i with
      | emp => rw [q2] at z; exact nomatch z
      | cls _ => rw [q2] at z; exact nomatch z
      | dat d => rw [q2] at z; exact nomatch z
      | own b' l' d' => exact h i _ _ _ (getS_some q2 (fun z => nomatch z))
    · exact h j b l d e
theorem off_wipe {is gs : List Nat} {σ2 : L2.St} (h : Off gs (L2.wipe σ is) σ2) (hs : ∀ j ∈ gs, j ∈ is) : L2.wipe σ2 is = L2.wipe σ is := by
  apply List.ext_getElem?
  intro j
  have hl : σ2.length = σ.length := by rw [h.1, wipe_length]
  by_cases c : j ∈ is
  · by_cases q : j < σ.length
    · rw [wipe_in q c, wipe_in (by rw [hl]; exact q) c]
    · rw [List.getElem?_eq_none (by rw [wipe_length]; omega), List.getElem?_eq_none (by rw [wipe_length]; omega)]
  · rw [wipe_out c, h.2 j (fun z => c (hs j z))]
/-- a thing that nobody of ours has is changed -/
theorem Rel.other {q : Addr} {o o' : HO} (R : Rel W Γ F ρ σ H) (hH : H q = some o) (hF : F q = none) (h0 : Γ.H0 q = none) (ns : NoSlot ρ σ q) (n : Nt0 o) : Rel W Γ F ρ σ (upd H q o') where
  len := R.len
  f0 := R.f0
  fh := fun a u h => ⟨by rw [upd_ne (fun z => by rw [z, hF] at h; exact nomatch h)]; exact (R.fh a u h).1, (R.fh a u h).2⟩
  fnew := R.fnew
  kp := fun a u h m k => by rw [upd_ne (fun z => by rw [z, h0] at h; exact nomatch h)]; exact R.kp a u h m k
  dmn := fun a h => by
    rcases Nat.decEq a q with m | rfl
    · exact R.dmn a fun u e => h u (by rw [upd_ne m]; exact e)
    · exact h0
  tb := Tabs.keep R.tb fun a u h nn => by
    rw [upd_ne]
    · exact h
    · rintro rfl; rw [hH] at h; injection h with h; subst h; exact nn n
  oO := R.oO
  sl := fun i x e => by
    have z := R.sl i x e
    cases x with
    | emp => trivial
    | dat d => exact z
    | cls cs =>
      obtain ⟨a, ws, h1, h2, h3⟩ := z
      refine ⟨a, ws, h1, h2, h3.mono fun b u hb hx => ?_⟩
      rw [upd_ne]
      · exact hb
      · rintro rfl; rw [hH] at hb; injection hb with hb; subst hb; exact n.ext hx
    | own b l d =>
      obtain ⟨a, u, h1, h2, h3⟩ := z
      have m : a ≠ q := fun z => ns i b l d e (by rw [← z]; exact h1)
      exact ⟨a, u, h1, by rw [upd_ne m]; exact h2, h3⟩
  dis := R.dis
  fx := R.fx
/-! ### list comprehensions -/
def NoX : XK := fun _ _ _ => False
theorem turns_plain {e : C → En → O R} {t : T → En → O Bool} {g : G} {cond : Option T} {elt : C} {own : List Nat} {ys acc ds : List D} {ρe : En} (h : turns e t g cond elt own ys acc ρ = .ok ds ρe) : (own.all fun i => plainS (getS ρ i)) = true := by
  cases c : own.all fun i => plainS (getS ρ i) with
  | true => rfl
  | false =>
    cases ys with
    | nil => unfold turns at h; rw [c] at h; exact nomatch h
    | cons y ys => unfold turns at h; rw [c] at h; exact nomatch h
/-- a test in a comprehension, by the evaluator -/
def rdC (W : Wd) (p : Pr) (n : Nat) : Option T → TT
  | none => tYes
  | some t => rdT W p NoX n t
/-- what stands at a turn -/
def CSt (W : Wd) (p : Pr) (n : Nat) (Γ : Gm) (F1 : Hp) (σ : L2.St) (own : List Nat) (g : G) (cond : Option T) (elt : C) (ys : List D) (ds : List D) (ρe : En) (D : Addr) (Hc : Hp) : Prop :=
  ∃ ρc Fc accD accV, Sub F1 Fc ∧ Hc D = some (.lst accV) ∧ Reps W Fc accV accD ∧ Fc D = none ∧ NoSlot (wipeS ρc own) (L2.wipe σ own) D ∧ Rel W Γ Fc (wipeS ρc own) (L2.wipe σ own) Hc ∧ turns (ev p n) (evT p n) g cond elt own ys accD ρc = .ok ds ρe
theorem turn_run {J : It} {xs ys : List D} {i : Nat} {g : G} {cond : Option T} {elt : C} {own : List Nat} {d : D} {ds : List D} {ρe : En} {D : Addr} {F1 Hc H' : Hp} {x : V} (wk : WalkOf W Γ F1 J xs) (h0 : Γ.H0 D = none) (hg : ∀ j ∈ gslots g, j ∈ own) (hd : xs[i]? = some d)
    (st : CSt W p n Γ F1 σ own g cond elt (d :: ys) ds ρe D Hc) (yl : J.yld i Hc x H') :
    rdG W p NoX n g x (L2.wipe σ own) H' fun σ2 H2 => L2.wipe σ2 own = L2.wipe σ own ∧ rdC W p n cond σ2 H2 fun b H3 => if b = true then rd W p NoX n elt σ2 H3 fun y H4 => ∃ acc, H4 D = some (.lst acc) ∧ acc.length < sizeLine ∧ CSt W p n Γ F1 σ own g cond elt ys ds ρe D (upd H4 D (.lst (acc ++ [y])))
      else CSt W p n Γ F1 σ own g cond elt ys ds ρe D H3 := by
  obtain ⟨ρc, Fc, accD, accV, s, hD, ra, hF, ns, R, ht⟩ := st
  have pl := turns_plain ht
  unfold turns at ht
  rw [pl] at ht
  dsimp only at ht
  obtain ⟨_, ρa, e1, ht⟩ := bind_ok ht
  obtain ⟨b, ρb, e2, ht⟩ := bind_ok ht
  have nt : Nt (HO.lst accV) := ⟨fun _ z => (nomatch z), fun _ z => (nomatch z)⟩
  -- the new list is kept while the turn runs
  have Rp := R.addP hD hF h0 ns ⟨fun _ z => (nomatch z), fun _ z => (nomatch z)⟩
  obtain ⟨F2, s2, R2, rx⟩ := wk.yld (Γ.add D (.lst accV)) i d Fc _ _ Hc x H' (fun e he => he) s Rp hd yl
  refine ⟨Γ.add D (.lst accV), _, F2, d, R2, rx, ?_⟩
  rw [e1]
  intro _ F3 σ3 H3 s3 of R3
  have ew := off_wipe of hg
  refine ⟨ew, ?_⟩
  -- behind the test
  have rest : ∀ F4 H4, Sub F3 F4 → Rel W (Γ.add D (.lst accV)) F4 ρb σ3 H4 → (if b = true then rd W p NoX n elt σ3 H4 fun y H4 => ∃ acc, H4 D = some (.lst acc) ∧ acc.length < sizeLine ∧ CSt W p n Γ F1 σ own g cond elt ys ds ρe D (upd H4 D (.lst (acc ++ [y])))
      else CSt W p n Γ F1 σ own g cond elt ys ds ρe D H4) := fun F4 H4 s4 R4 => by
    cases b with
    | false =>
      rw [if_neg (by decide)]
      dsimp only at ht
      obtain ⟨q1, q2, q3⟩ := R4.addKept R h0 hF nt
      have R5 := (R4.unadd h0 fun z => R.oO D z h0)
      have pl2 := turns_plain ht
      have R6 := R5.wipe pl2
      rw [ew] at R6
      refine ⟨ρb, F4, accD, accV, (s.trans s2).trans (s3.trans s4), q1, ra.mono (s2.trans (s3.trans s4)) _, q2, fun j bb ll dd z w => ?_, R6, ht⟩
      rw [wipeS_get] at z
      by_cases c : j ∈ own
      · rw [if_pos c] at z
        cases q : ρb[j]? with
        | none => rw [q] at z; exact nomatch z
        | some y => rw [q] at z; injection z with z; exact nomatch z
      · rw [if_neg c] at z
        exact q3 j bb ll dd z (by rw [← ew, wipe_out c] at w; exact w)
    | true =>
      rw [if_pos rfl]
      dsimp only at ht
      obtain ⟨dv, ρd, e3, ht⟩ := bind_ok ht
      unfold hold at e3
      obtain ⟨r, ρr, e4, e5⟩ := bind_ok e3
      refine ⟨Γ.add D (.lst accV), ρb, F4, R4, ?_⟩
      rw [e4]
      intro F5 H5 s5 R5 y hy
      cases e6 : frz r ρr with
      | none => rw [e6] at e5; exact nomatch e5
      | some t =>
        rw [e6] at e5
        injection e5 with e5 e7; subst e5; subst e7
        obtain ⟨F6, s6, R6, rp, _⟩ := hy.frz R5 e6
        obtain ⟨q1, q2, q3⟩ := R6.addKept R h0 hF nt
        cases fc : fits (accD.length + 1) with
        | false => rw [fc] at ht; exact nomatch ht
        | true =>
          rw [fc] at ht
          dsimp only at ht
          have fc := fits_le fc
          have sAll : Sub Fc F6 := (s2.trans (s3.trans s4)).trans (s5.trans s6)
          refine ⟨accV, q1, by rw [ra.length]; exact fc, ?_⟩
          have pl2 := turns_plain ht
          -- the item is appended: the list is nobody's slot
          have R7 := R6.unadd h0 fun z => R.oO D z h0
          have R8 := R7.wipe pl2
          rw [ew] at R8
          have ns8 : NoSlot (wipeS t.2 own) (L2.wipe σ own) D := fun j bb ll dd z w => by
            rw [wipeS_get] at z
            by_cases c : j ∈ own
            · rw [if_pos c] at z
              cases q : t.2[j]? with
              | none => rw [q] at z; exact nomatch z
              | some y => rw [q] at z; injection z with z; exact nomatch z
            · rw [if_neg c] at z
              exact q3 j bb ll dd z (by rw [← ew, wipe_out c] at w; exact w)
          exact ⟨t.2, F6, accD ++ [t.1], accV ++ [y], s.trans sAll, upd_same, (ra.mono sAll _).append (Reps.nil.cons rp), q2, ns8, R8.other q1 q2 h0 ns8 ⟨fun _ z => (nomatch z), fun _ z => (nomatch z)⟩, ht⟩
  cases cond with
  | none =>
    injection e2 with e2 e3; subst e2; subst e3
    exact rest F3 H3 Sub.rfl R3
  | some t =>
    refine ⟨Γ.add D (.lst accV), ρa, F3, R3, ?_⟩
    have e2 : evT p n t ρa = .ok b ρb := e2
    rw [e2]
    exact fun F4 H4 s4 R4 => rest F4 H4 s4 R4
/-- the whole comprehension -/
theorem comp_rd {g : G} {it : I} {cond : Option T} {elt : C} {own : List Nat} {Q : VK} (hg : ∀ j ∈ gslots g, j ∈ own) (h : rd W p E (n + 1) (.comp elt g it cond own) σ H Q) :
    tLc (rdI W p E n it) (rdG W p NoX n g) (rdC W p n cond) (rd W p NoX n elt) own σ H Q := by
  obtain ⟨Γ, ρ, F, R, h⟩ := h
  unfold ev at h
  refine ⟨Γ, ρ, F, R, h.bind.imp fun w ρ1 F0 H1 s0 R1 h1 J Γ' F1 s1 L R1' wk D hD => ?_⟩
  obtain ⟨xs, ls⟩ := w
  have h1 : Ok W Γ E σ F0 (wipeT ρ1 own ls (turns (ev p n) (evT p n) g cond elt own xs [] ρ1)) (KR W Γ σ Q) := h1
  cases ht : turns (ev p n) (evT p n) g cond elt own xs [] ρ1 with
  | bad => rw [ht] at h1; exact h1.elim
  | exc c d ρe => rw [ht] at h1; exact h1.elim
  | ok ds ρe =>
    rw [ht] at h1
    have h0 : Γ'.H0 D = none := R1'.dom D hD
    have pl1 := turns_plain ht
    have Rn : Rel W Γ' F1 ρ1 σ (upd H1 D (.lst [])) := R1'.new hD
    have st0 : CSt W p n Γ' F1 σ own g cond elt xs ds ρe D (upd H1 D (.lst [])) := by
      have Rw := Rn.wipe pl1
      have ns : NoSlot (wipeS ρ1 own) (L2.wipe σ own) D := fun j b l d z w => by
        have ns0 := R1'.noSlot hD
        rw [wipeS_get] at z
        by_cases c : j ∈ own
        · rw [if_pos c] at z
          cases q : ρ1[j]? with
          | none => rw [q] at z; exact nomatch z
          | some y => rw [q] at z; injection z with z; exact nomatch z
        · rw [if_neg c] at z
          exact ns0 j b l d z (by rw [wipe_out c] at w; exact w)
      exact ⟨ρ1, F1, [], [], Sub.rfl, upd_same, Reps.nil, R1'.fnone hD, ns, Rw, ht⟩
    refine ⟨fun i m Hc => m = xs.length - i ∧ i ≤ xs.length ∧ CSt W p n Γ' F1 σ own g cond elt (xs.drop i) ds ρe D Hc, ⟨_, rfl, Nat.zero_le _, st0⟩, ?_⟩
    rintro i m Hc ⟨rfl, hi, st⟩
    rcases Nat.lt_or_ge i xs.length with c | c
    · refine .inr ⟨?_, fun H' => (i + 1 ≤ xs.length) ∧ CSt W p n Γ' F1 σ own g cond elt (xs.drop (i + 1)) ds ρe D H', fun H' ⟨a, b⟩ => ⟨xs.length - (i + 1), by omega, rfl, a, b⟩, fun x H' yl => ?_⟩
      · obtain ⟨ρc, Fc, _, _, s, _, _, _, _, Rc, _⟩ := st
        exact wk.go Γ' i Fc _ _ Hc (fun _ z => z) s Rc c
      · have hd : xs[i]? = some xs[i] := List.getElem?_eq_getElem c
        rw [List.drop_eq_getElem_cons c] at st
        have t := turn_run wk h0 hg hd st yl
        obtain ⟨Γ2, ρ2, F2, d2, a1, a2, a3⟩ := t
        refine ⟨Γ2, ρ2, F2, d2, a1, a2, ?_⟩
        have le : i + 1 ≤ xs.length := c
        revert a3
        cases setG (ev p n) g d2 ρ2 with
        | bad => exact fun z => z
        | exc c d ρ => exact fun z => z
        | ok u ρ3 =>
          intro a3 z F' σ' H2 s o R
          obtain ⟨b1, b2⟩ := a3 z F' σ' H2 s o R
          refine ⟨b1, ?_⟩
          have up : ∀ {H3 : Hp} {b : Bool}, (if b = true then rd W p NoX n elt σ' H3 fun y H4 => ∃ acc, H4 D = some (.lst acc) ∧ acc.length < sizeLine ∧ CSt W p n Γ' F1 σ own g cond elt (xs.drop (i + 1)) ds ρe D (upd H4 D (.lst (acc ++ [y]))) else CSt W p n Γ' F1 σ own g cond elt (xs.drop (i + 1)) ds ρe D H3) →
              (if b = true then rd W p NoX n elt σ' H3 fun y H4 => ∃ acc, H4 D = some (.lst acc) ∧ acc.length < sizeLine ∧ (i + 1 ≤ xs.length) ∧ CSt W p n Γ' F1 σ own g cond elt (xs.drop (i + 1)) ds ρe D (upd H4 D (.lst (acc ++ [y]))) else (i + 1 ≤ xs.length) ∧ CSt W p n Γ' F1 σ own g cond elt (xs.drop (i + 1)) ds ρe D H3) := fun {H3 b} q => by
            cases b with
            | false => rw [if_neg (by decide)] at q ⊢; exact ⟨le, q⟩
            | true =>
              rw [if_pos rfl] at q ⊢
              obtain ⟨Γ3, ρ4, F4, R4, k⟩ := q
              exact ⟨Γ3, ρ4, F4, R4, k.imp fun r ρ5 F5 H5 s5 R5 k y hy => by
                obtain ⟨acc, c1, c2, c3⟩ := k y hy
                exact ⟨acc, c1, c2, le, c3⟩⟩
          cases cond with
          | none => exact up (H3 := H2) (b := true) b2
          | some t =>
            obtain ⟨Γ3, ρ4, F4, R4, k⟩ := b2
            exact ⟨Γ3, ρ4, F4, R4, k.imp fun b ρ5 F5 H5 s5 R5 k => up k⟩
    · have e : i = xs.length := by omega
      subst e
      rw [List.drop_length] at st
      obtain ⟨ρc, Fc, accD, accV, s, hDc, ra, hF, ns, Rc, htc⟩ := st
      refine .inl ⟨wk.stop Γ' Fc _ _ Hc (fun _ z => z) s Rc, ?_⟩
      have pl := turns_plain htc
      unfold turns at htc
      rw [pl] at htc
      injection htc with e1 e2; subst e1; subst e2
      have Rb := Rc.back R1' s pl1
      refine h1 Fc Hc (s1.trans s) (L.un Rb) _ ⟨D, _, rfl, hDc, ⟨accV, rfl, ra⟩, hF, L.h0 ▸ h0, ?_⟩
      exact (ns.back pl1).unl
theorem iter_plain {iter : Expr} {env : Env} (h : (match iter with | .Set _ _ _ => false | _ => true) = true) : ∀ x, foldedSetIterable iter env x = pure x := by
  intro x
  cases iter <;> first
    | rfl
    | exact nomatch h
theorem pe_compD {elt tg iter : Expr} {ifs : List Expr} {scope : Scope} {own : List (Str × Nat)} {pos : Pos} {g : G} {it : I} {cond : Option T} {ce : C} (hc : X.calm = true) (hN : X.N.Nodup) (hgo : ∀ j ∈ gslots g, j ∈ own.map (·.2)) (ok : BlkOk X.N X.env.scope scope own)
    (hs : (match iter with | .Set _ _ _ => false | _ => true) = true) (hi : PI X tg iter (rdI W p E n it))
    (hg : ∀ (s : Shared) (H : Hp) (C : Addr) (cl : List (Str × Addr)) (fp : List Addr), PG (X.blk s H scope (compEnvC scope cl C X.env) fp) tg (rdG W p NoX n g))
    (ht : ∀ (s : Shared) (H : Hp) (C : Addr) (cl : List (Str × Addr)) (fp : List Addr), PTs (X.blk s H scope (compEnvC scope cl C X.env) fp) ifs (rdC W p n cond))
    (he : ∀ (s : Shared) (H : Hp) (C : Addr) (cl : List (Str × Addr)) (fp : List Addr), PE (X.blk s H scope (compEnvC scope cl C X.env) fp) elt (rd W p NoX n ce)) :
    PE X (.ListComp elt [⟨tg, iter, ifs, 0⟩] scope pos) (rd W p E (n + 1) (.comp ce g it cond (own.map (·.2)))) :=
  (pe_lc hc hN hi ok hg ht he (iter_plain hs)).weak fun σ H Q h => comp_rd hgo h
end
end Pv
end PvI_
section PvJ_
set_option maxRecDepth 100000
/-! PvJ: statements by the evaluator. -/
namespace Pv
open PySem PySem.Spec PyProof.Rows L2
/-- what is given back by a def -/
def RetR (W : Wd) (Γ : Gm) (F H : Hp) (v : V) : R → Prop
  | .dat d => Rep W F v d
  | .own d => ∃ p o, v = .ref p ∧ H p = some o ∧ Top W F o d ∧ F p = none ∧ Γ.H0 p = none
  | .ptr _ => False
/-- a statement's outcome promises the ends Z -/
def OkF (W : Wd) (Γ : Gm) (E : XK) (F : Hp) (x : Pv.F) (nx bk ct : En → L2.St → Hp → Prop) (rt : En → V → Hp → Prop) (xc : En → Prop) : Prop := match x with
  | .nx ρ' => ∀ F' σ' H', Sub F F' → Rel W Γ F' ρ' σ' H' → nx ρ' σ' H'
  | .bk ρ' => ∀ F' σ' H', Sub F F' → Rel W Γ F' ρ' σ' H' → bk ρ' σ' H'
  | .ct ρ' => ∀ F' σ' H', Sub F F' → Rel W Γ F' ρ' σ' H' → ct ρ' σ' H'
  | .rt r ρ' => ∀ F' σ' H' v, Sub F F' → Rel W Γ F' ρ' σ' H' → RetR W Γ F' H' v r → rt ρ' v H'
  | .exc c d ρ' => ∀ F' σ' H' cls dx, Sub F F' → Rel W Γ F' ρ' σ' H' → XRep W F' H' cls dx c d → E cls dx H'
  | .bad => False
abbrev OkD (W : Wd) (Γ : Gm) (E : XK) (F : Hp) (x : Pv.F) (Z : Ends) : Prop := OkF W Γ E F x (fun _ => Z.nx) (fun _ => Z.bk) (fun _ => Z.ct) (fun _ => Z.rt) fun _ => True
def rdSt (W : Wd) (p : Pr) (E : XK) (n : Nat) (s : S) : TS := fun Z σ H => ∃ Γ ρ F, Rel W Γ F ρ σ H ∧ OkD W Γ E F (ex p n s ρ) Z
def rdSs (W : Wd) (p : Pr) (E : XK) (n : Nat) (ss : List S) : TS := fun Z σ H => ∃ Γ ρ F, Rel W Γ F ρ σ H ∧ OkD W Γ E F (exsL (ex p n) ss ρ) Z
/-- a store neither breaks nor returns -/
def Plain (x : Pv.F) : Prop := (∀ ρ', x ≠ .bk ρ') ∧ (∀ ρ', x ≠ .ct ρ') ∧ ∀ q ρ', x ≠ .rt q ρ'
theorem plain_nx {ρ : En} : Plain (.nx ρ) := ⟨fun _ z => (nomatch z), fun _ z => (nomatch z), fun _ _ z => (nomatch z)⟩
theorem plain_bad : Plain .bad := ⟨fun _ z => (nomatch z), fun _ z => (nomatch z), fun _ _ z => (nomatch z)⟩
theorem plain_of (x : Option En) : Plain (F.of x) := by
  cases x with
  | none => exact plain_bad
  | some ρ => exact plain_nx
theorem plain_fl {β : Type} (x : O β) (f : β → En → Pv.F) (hf : ∀ a ρ, Plain (f a ρ)) : Plain (x.fl f) := by
  cases x with
  | ok a ρ => exact hf a ρ
  | exc c d ρ => exact ⟨fun _ z => (nomatch z), fun _ z => (nomatch z), fun _ _ z => (nomatch z)⟩
  | bad => exact plain_bad
theorem plain_subs {e : C → En → O R} : ∀ (gs : List (C × C)) (ds : List D) (ρ : En), Plain (subsF e gs ds ρ)
  | [], [], ρ => plain_nx
  | [], _ :: _, ρ => plain_bad
  | _ :: _, [], ρ => plain_bad
  | g :: gs, d :: ds, ρ => plain_fl _ _ fun a ρ => plain_subs gs ds ρ
theorem nores {p : Pr} {n : Nat} (g : G) (r : R) (ρ : En) : Plain (setGR (ev p n) g r ρ) := by
  cases g with
  | nm i => exact plain_of _
  | tup is =>
    show Plain (match pk r ρ with | some (.tup ds) => F.of (setNms is ds ρ) | _ => .bad)
    split
    · exact plain_of _
    · exact plain_bad
  | sub o i =>
    unfold setGR
    dsimp only
    cases frz r ρ with
    | none => exact plain_bad
    | some t => exact plain_fl _ _ fun a ρ => plain_nx
  | subs gs =>
    show Plain (match pk r ρ with | some (.tup ds) => (match ds.length == gs.length with | true => subsF (ev p n) gs ds ρ | false => .bad) | _ => .bad)
    split
    · split
      · exact plain_subs _ _ _
      · exact plain_bad
    · exact plain_bad
section
variable {W : Wd} {p : Pr} {E : XK} {n : Nat} {X : Cx} {Γ Γ' : Gm} {σ σ' : L2.St} {F F' : Hp} {ρ ρ' : En} {H H' : Hp} {Z Z' : Ends} {α : Type}
theorem OkF.sub {x : Pv.F} (h : OkD W Γ E F x Z) (s : Sub F F') : OkD W Γ E F' x Z := by
  cases x with
  | nx ρ => exact fun F2 σ' H' t R => h F2 σ' H' (s.trans t) R
  | bk ρ => exact fun F2 σ' H' t R => h F2 σ' H' (s.trans t) R
  | ct ρ => exact fun F2 σ' H' t R => h F2 σ' H' (s.trans t) R
  | rt r ρ => exact fun F2 σ' H' v t R => h F2 σ' H' v (s.trans t) R
  | exc c d ρ => exact fun F2 σ' H' cls dx t R => h F2 σ' H' cls dx (s.trans t) R
  | bad => exact h
theorem _root_.L2.PS.weak {st : Stmt} {t t' : TS} (h : PS X st t) (w : ∀ Z σ H, t' Z σ H → t Z σ H) : PS X st t' := ⟨fun pins s σ H Z I q => h.run pins s σ H Z I (w _ _ _ q)⟩
theorem _root_.L2.PSs.weak {st : List Stmt} {t t' : TS} (h : PSs X st t) (w : ∀ Z σ H, t' Z σ H → t Z σ H) : PSs X st t' := ⟨fun pins s σ H Z I q => h.run pins s σ H Z I (w _ _ _ q)⟩
theorem ps_zero {st : Stmt} {c : S} : PS X st (rdSt W p E 0 c) := ⟨fun pins s σ H Z I ⟨_, _, _, _, k⟩ => by unfold ex at k; exact k.elim⟩
/-- an expression's outcome ahead of a statement's -/
theorem OkF.fl {x : O α} {f : α → En → Pv.F} (h : OkD W Γ E F (x.fl f) Z) : Ok W Γ E σ F x fun a ρ1 F1 _ => OkD W Γ E F1 (f a ρ1) Z := by
  cases x with
  | ok a ρ' => exact fun F2 H2 s R => OkF.sub h s
  | exc c d ρ' => exact fun F2 H2 cls dx s R => h F2 σ H2 cls dx s R
  | bad => exact h
theorem OkF.at {ρ : En} (h : OkD W Γ E F (.nx ρ) Z) (R : Rel W Γ F ρ σ H) : Z.nx σ H := h F σ H Sub.rfl R
/-! ### blocks -/
theorem pss_nilD : PSs X [] (rdSs W p E n []) := pss_nil.weak fun Z σ H ⟨Γ, ρ, F, R, h⟩ => h.at R
theorem pss_consD {st : Stmt} {rest : List Stmt} {s : S} {ss : List S} (h1 : PS X st (rdSt W p E n s)) (h2 : PSs X rest (rdSs W p E n ss)) : PSs X (st :: rest) (rdSs W p E n (s :: ss)) :=
  (pss_cons h1 h2).weak fun Z σ H ⟨Γ, ρ, F, R, h⟩ => by
    refine ⟨Γ, ρ, F, R, ?_⟩
    have h : OkD W Γ E F ((ex p n s ρ).then (exsL (ex p n) ss)) Z := h
    revert h
    cases ex p n s ρ with
    | nx ρ1 => exact fun h F2 σ2 H2 s2 R2 => ⟨Γ, ρ1, F2, R2, h.sub s2⟩
    | bk ρ1 => exact fun h => h
    | ct ρ1 => exact fun h => h
    | rt r ρ1 => exact fun h => h
    | exc c d ρ1 => exact fun h => h
    | bad => exact fun h => h
/-! ### small statements -/
theorem ps_passD {pos : Pos} : PS X (.Pass pos) (rdSt W p E (n + 1) .pass) := ps_pass.weak fun Z σ H ⟨Γ, ρ, F, R, h⟩ => by unfold ex at h; exact h.at R
theorem ps_brkD {pos : Pos} : PS X (.Break pos) (rdSt W p E (n + 1) .brk) := ps_break.weak fun Z σ H ⟨Γ, ρ, F, R, h⟩ => by unfold ex at h; exact h F σ H Sub.rfl R
theorem ps_contD {pos : Pos} : PS X (.Continue pos) (rdSt W p E (n + 1) .cont) := ps_continue.weak fun Z σ H ⟨Γ, ρ, F, R, h⟩ => by unfold ex at h; exact h F σ H Sub.rfl R
theorem ps_docD {x : Str} {j : Nat} {pos pos' : Pos} : PS X (.Expr (.Constant (.str x) j pos) pos') (rdSt W p E (n + 1) .pass) := ps_doc.weak fun Z σ H ⟨Γ, ρ, F, R, h⟩ => by unfold ex at h; exact h.at R
theorem ps_retnD {pos : Pos} : PS X (.Return none pos) (rdSt W p E (n + 1) .retn) := ps_retN.weak fun Z σ H ⟨Γ, ρ, F, R, h⟩ => by
  unfold ex at h
  exact h F σ H .non Sub.rfl R (by show Rep W F _ _; unfold Rep; rfl)
def isComp : Expr → Bool
  | .ListComp .. => true
  | .SetComp .. => true
  | .DictComp .. => true
  | _ => false
theorem swaps_no {e : Expr} (h : isComp e = false) (t : Option Expr) (l : Nat) (env : Env) : swapsWith e t l env = pure false := by
  cases e <;> first
    | rfl
    | exact nomatch h
theorem ps_expD {e : Expr} {c : C} {pos : Pos} (hs : isComp e = false) (he : PE X e (rd W p E n c)) : PS X (.Expr e pos) (rdSt W p E (n + 1) (.exp c)) :=
  (ps_expr he (swaps_no hs _ _ _)).weak fun Z σ H ⟨Γ, ρ, F, R, h⟩ => by
    unfold ex at h
    exact ⟨Γ, ρ, F, R, (OkF.fl h).imp fun r ρ1 F1 H1 s1 R1 k x hx => k.at R1⟩
theorem ps_retD {e : Expr} {c : C} {pos : Pos} (he : PE X e (rd W p E n c)) : PS X (.Return (some e) pos) (rdSt W p E (n + 1) (.ret c)) :=
  (ps_ret he).weak fun Z σ H ⟨Γ, ρ, F, R, h⟩ => by
    unfold ex at h
    refine ⟨Γ, ρ, F, R, (OkF.fl h).imp fun r ρ1 F1 H1 s1 R1 k x hx => ?_⟩
    cases r with
    | dat d => exact k F1 σ H1 x Sub.rfl R1 hx
    | own d =>
      obtain ⟨q, o, a1, a2, a3, a4, a5, _⟩ := hx
      exact k F1 σ H1 x Sub.rfl R1 ⟨q, o, a1, a2, a3, a4, a5⟩
    | ptr i =>
      have hx : σ[i]? = some (some x) := hx
      have k : OkD W Γ E F1 (match (match getS ρ1 i with | .own false false d => some (Pv.R.own d) | _ => none) with | some q => .rt q ρ1 | none => .bad) Z := k
      cases q : getS ρ1 i with
      | emp => rw [q] at k; exact k.elim
      | cls _ => rw [q] at k; exact k.elim
      | dat d => rw [q] at k; exact k.elim
      | own b l d =>
        rw [q] at k
        cases b with
        | true => cases l <;> exact k.elim
        | false =>
          cases l with
          | true => exact k.elim
          | false =>
            obtain ⟨a, o, b1, b2, b3, b4, _, b6⟩ := R1.slotOwn (getS_some q (fun z => nomatch z))
            rw [hx] at b1; injection b1 with b1; injection b1 with b1
            exact k F1 σ H1 x Sub.rfl R1 ⟨a, o, b1, b2, b3, b4, b6 rfl⟩
theorem ps_condD {t : Expr} {a b : List Stmt} {ct : T} {ca cb : List S} {pos : Pos} (ht : PT X t (rdT W p E n ct)) (ha : PSs X a (rdSs W p E n ca)) (hb : PSs X b (rdSs W p E n cb)) : PS X (.If t a b pos) (rdSt W p E (n + 1) (.cond ct ca cb)) :=
  (ps_if ht ha hb).weak fun Z σ H ⟨Γ, ρ, F, R, h⟩ => by
    unfold ex at h
    refine ⟨Γ, ρ, F, R, (OkF.fl h).imp fun k ρ1 F1 H1 s1 R1 h1 => ?_⟩
    cases k with
    | true => rw [if_pos rfl]; exact ⟨Γ, ρ1, F1, R1, h1⟩
    | false => rw [if_neg (by decide)]; exact ⟨Γ, ρ1, F1, R1, h1⟩
/-! ### stores -/
/-- a target takes a result -/
def rdGR (W : Wd) (p : Pr) (E : XK) (n : Nat) (g : G) : TG := fun v σ H Q => ∃ Γ ρ F r, Rel W Γ F ρ σ H ∧ RepR W Γ F ρ σ H v r ∧ OkD W Γ E F (setGR (ev p n) g r ρ) ⟨Q, fun _ _ => False, fun _ _ => False, fun _ _ => False⟩
theorem asg_rd {g : G} {c : C} (h : rdSt W p E (n + 1) (.asg g c) Z σ H) : tAsg (rd W p E n c) (rdGR W p E n g) Z σ H := by
  obtain ⟨Γ, ρ, F, R, h⟩ := h
  unfold ex at h
  refine ⟨Γ, ρ, F, R, (OkF.fl h).imp fun r ρ1 F1 H1 s1 R1 k x hx => ⟨Γ, ρ1, F1, r, R1, hx, ?_⟩⟩
  obtain ⟨n1, n2, n3⟩ := nores (p := p) (n := n) g r ρ1
  revert k
  cases e : setGR (ev p n) g r ρ1 with
  | nx ρ2 => exact fun k => k
  | exc c d ρ2 => exact fun k => k
  | bad => exact fun k => k
  | bk ρ2 => exact absurd e (n1 _)
  | ct ρ2 => exact absurd e (n2 _)
  | rt q ρ2 => exact absurd e (n3 _ _)
theorem store_R {i : Nat} {v : V} {r : R} (R : Rel W Γ F ρ σ H) (hv : RepR W Γ F ρ σ H v r) (e : store i r ρ = some ρ') : ∃ F', Sub F F' ∧ Rel W Γ F' ρ' (σ.set i (some v)) H := by
  unfold store at e
  by_cases c : (decide (i < ρ.length) && freeS (getS ρ i)) = true
  · rw [if_pos c] at e
    rw [Bool.and_eq_true, decide_eq_true_eq] at c
    cases r with
    | dat d => injection e with e; subst e; exact ⟨F, Sub.rfl, R.storeD c.1 c.2 hv⟩
    | own d =>
      injection e with e; subst e
      obtain ⟨q, o, rfl, a2, a3, a4, a5, a6⟩ := hv
      exact ⟨F, Sub.rfl, R.storeO c.1 c.2 a2 a3 a4 a5 a6⟩
    | ptr k =>
      dsimp only at e
      cases e1 : frz (.ptr k) ρ with
      | none => rw [e1] at e; exact nomatch e
      | some t =>
        rw [e1] at e; injection e with e; subst e
        obtain ⟨F2, s2, R2, rp, _⟩ := RepR.frz (r := .ptr k) R hv e1
        have fr : t.2.length = ρ.length ∧ freeS (getS t.2 i) = true := by
          unfold frz at e1
          dsimp only at e1
          cases q : getS ρ k with
          | emp => rw [q] at e1; exact nomatch e1
          | cls _ => rw [q] at e1; exact nomatch e1
          | dat d => rw [q] at e1; injection e1 with e1; subst e1; exact ⟨rfl, c.2⟩
          | own b l d =>
            rw [q] at e1
            cases b with
            | true => cases l <;> exact nomatch e1
            | false =>
              cases l with
              | true => exact nomatch e1
              | false =>
                injection e1 with e1; subst e1
                refine ⟨List.length_set, ?_⟩
                show freeS (getS (ρ.set k (.dat d)) i) = true
                by_cases m : k = i
                · subst m; rw [getS_of (set_self c.1)]; rfl
                · have : getS (ρ.set k (.dat d)) i = getS ρ i := by unfold getS; rw [List.getD_eq_getElem?_getD, List.getD_eq_getElem?_getD, set_ne m]
                  rw [this]; exact c.2
        exact ⟨F2, s2, R2.storeD (by rw [fr.1]; exact c.1) fr.2 rp⟩
  · rw [if_neg c] at e; exact nomatch e
theorem gr_nm {i : Nat} {v : V} {Q : L2.St → Hp → Prop} (h : rdGR W p E n (.nm i) v σ H Q) : gName i v σ H Q := by
  obtain ⟨Γ, ρ, F, r, R, hv, h⟩ := h
  have h : OkD W Γ E F (Pv.F.of (store i r ρ)) _ := h
  cases e : store i r ρ with
  | none => rw [e] at h; exact h.elim
  | some ρ' =>
    rw [e] at h
    obtain ⟨F2, s2, R2⟩ := store_R R hv e
    exact h F2 _ H s2 R2
theorem ps_setD {i : Nat} {x : Str} {e : Expr} {c : C} {pos pos' : Pos} (hN : X.N.Nodup) (hi : X.N[i]? = some x) (hx : Loc X.env.scope x) (hf : X.fn x = true ∨ X.env.scope.names.lookup x = some .local) (hs : swapsWith e (some (.Name x pos')) pos.line X.env = pure false)
    (he : PE X e (rd W p E n c)) : PS X (.Assign [.Name x pos'] e pos) (rdSt W p E (n + 1) (.asg (.nm i) c)) :=
  (ps_set hN hi hx he hs hf).weak fun Z σ H h => by
    obtain ⟨Γ, ρ, F, R, k⟩ := asg_rd h
    exact ⟨Γ, ρ, F, R, k.imp fun r ρ1 F1 H1 s1 R1 k x hx => gr_nm (k x hx)⟩
theorem gr_tup {is : List Nat} {v : V} {Q : L2.St → Hp → Prop} (hK : X.K = W.K) (h : rdGR W p E n (.tup is) v σ H Q) : gTup X.K is.length (gNms is) v σ H Q := by
  obtain ⟨Γ, ρ, F, r, R, hv, h⟩ := h
  unfold setGR at h
  dsimp only at h
  cases e1 : pk r ρ with
  | none => rw [e1] at h; exact h.elim
  | some d =>
    rw [e1] at h
    cases d <;> try exact h.elim
    case tup ds =>
      dsimp only at h
      obtain ⟨a, vs, ev, t, rr, _⟩ := rd_tup R (hv.pk R e1)
      cases e : setNms is ds ρ with
      | none => rw [e] at h; exact h.elim
      | some ρ' =>
        rw [e] at h
        exact ⟨a, vs, ev, hK ▸ t, by rw [rr.length, setNms_len e], nms_run R rr e fun σ' o R' => h F σ' H Sub.rfl R'⟩
theorem pg_tupR {es : List Expr} {is : List Nat} {k : Nat} {pos : Pos} (hK : X.K = W.K) (hc : X.calm = true) (hN : X.N.Nodup) (hn : nmsOk X es is) : PG X (.Tuple es k pos) (rdGR W p E n (.tup is)) := by
  obtain ⟨a, b, c⟩ := pgs_nms hN hn
  exact (pg_tup hc a b c).weak fun v σ H Q h => gr_tup hK h
/-! ### o[i] = .. -/
theorem OkG.ok {is : List Nat} {x : O Unit} {K : L2.St → Hp → Prop} (h : OkG W Γ E F is σ x K fun _ => True) : Ok W Γ E σ F x fun _ _ _ H' => K σ H' := by
  cases x with
  | ok a ρ' => exact fun F2 H2 s R => h trivial F2 σ H2 s Off.refl R
  | exc c d ρ' => exact h
  | bad => exact h
theorem sub_run {co ci : C} {d : Pv.D} {v : V} {Q : L2.St → Hp → Prop} (R : Rel W Γ F ρ σ H) (hv : Rep W F v d) (h : Ok W Γ E σ F (setG (ev p n) (.sub co ci) d ρ) fun _ _ _ H' => Q σ H') :
    gSub (rd W p E n co) (rd W p E n ci) rSetL v σ H Q := by
  unfold setG at h
  dsimp only at h
  refine ⟨Γ, ρ, F, R, h.bind.imp fun r ρ1 F1 H1 s1 R1 h1 o ho => ?_⟩
  obtain ⟨Γ', ρ', F', R', h'⟩ := rd_peek (ho.keepRel R1) (h1.keep ho R1)
  refine ⟨Γ', ρ', F', R', h'.imp fun ri ρ2 F2 H2 s2 R2 k y hy => ?_⟩
  obtain ⟨dk, ρ3, F3, R3, s3, rk, k⟩ := k y hy
  cases r with
  | dat _ => exact k.elim
  | own _ => exact k.elim
  | ptr i =>
    have R3 : Rel W Γ F3 ρ3 σ H2 := R3
    have ho : σ[i]? = some (some o) := ho
    unfold setIx at k
    dsimp only at k
    cases q : getS ρ3 i with
    | emp => rw [q] at k; exact k.elim
    | cls _ => rw [q] at k; exact k.elim
    | dat _ => rw [q] at k; exact k.elim
    | own b l x =>
      rw [q] at k
      cases l with
      | true => exact k.elim
      | false =>
        dsimp only at k
        cases x <;> try exact k.elim
        case lst xs =>
          cases dk <;> try exact k.elim
          case int m =>
            dsimp only [setIxD] at k
            cases e1 : L2.ixN xs.length m with
            | none => rw [e1] at k; exact k.elim
            | some j =>
              rw [e1] at k
              have q2 := getS_some q (fun z => nomatch z)
              obtain ⟨a, ob, b1, b2, b3, _⟩ := R3.slotOwn q2
              rw [ho] at b1; injection b1 with b1; injection b1 with b1
              obtain ⟨ws, rfl, rw_⟩ := top_lst b3
              refine ⟨a, ws, m, j, b1, rd_int rk, b2, by rw [rw_.length]; exact e1, ?_⟩
              have R4 : Rel W Γ F3 (ρ3.set i (.own b false (.lst (xs.set j d)))) σ (upd H2 a (.lst (ws.set j v))) :=
                R3.mut q2 (by rw [← b1]; exact ho) ⟨_, rfl, rw_.set (hv.mono (s1.trans s3) _) j⟩
              exact (Ok.at (K := _) k R4).2.2.2
theorem plainT {i o : Expr} {pos : Pos} {env : Env} (h : plainIx i = true) : ∀ v, assign (.Subscript o i pos) env v = (do
      let ov ← holding [v] (eval o env)
      let iv ← holding [v, ov] (eval i env)
      standAt pos
      holding [v, ov, iv] (setItem ov iv v)
      release [v, ov, iv] []) := by
  intro v
  cases i <;> first
    | rfl
    | exact nomatch h
theorem pg_subD {o i : Expr} {co ci : C} {pos : Pos} (hp : plainIx i = true) (ho : PE X o (rd W p E n co)) (hi : PE X i (rd W p E n ci)) : PG X (.Subscript o i pos) (rdG W p E n (.sub co ci)) :=
  (pg_sub ho hi set_list (plainT hp)).weak fun v σ H Q ⟨Γ, ρ, F, d, R, hv, h⟩ => sub_run R hv h.ok
theorem OkF.flO {x : O α} {f : α → En → Pv.F} {Z : Ends} (h : OkD W Γ E F (x.fl f) Z) : Ok W Γ E σ F x fun a ρ1 F1 _ => OkD W Γ E F1 (f a ρ1) Z := OkF.fl h
theorem pg_subR {o i : Expr} {co ci : C} {pos : Pos} (hp : plainIx i = true) (ho : PE X o (rd W p E n co)) (hi : PE X i (rd W p E n ci)) : PG X (.Subscript o i pos) (rdGR W p E n (.sub co ci)) :=
  (pg_sub ho hi set_list (plainT hp)).weak fun v σ H Q ⟨Γ, ρ, F, r, R, hv, h⟩ => by
    unfold setGR at h
    dsimp only at h
    cases e1 : frz r ρ with
    | none => rw [e1] at h; exact h.elim
    | some t =>
      rw [e1] at h
      obtain ⟨F2, s2, R2, rp, _⟩ := hv.frz R e1
      exact sub_run R2 rp ((OkF.fl h).sub s2 |>.imp fun a ρ1 F1 H1 s1 R1 k => k F1 σ H1 Sub.rfl R1)
/-- a[i], b[j], .. = .. -/
inductive SubsOk (X : Cx) (W : Wd) (p : Pr) (E : XK) (n : Nat) : List Expr → List (C × C) → Prop where
  | nil : SubsOk X W p E n [] []
  | cons {o i : Expr} {co ci : C} {pos : Pos} {es : List Expr} {gs : List (C × C)} (hp : plainIx i = true) (ho : PE X o (rd W p E n co)) (hi : PE X i (rd W p E n ci)) (r : SubsOk X W p E n es gs) : SubsOk X W p E n (.Subscript o i pos :: es) ((co, ci) :: gs)
def gSubs (W : Wd) (p : Pr) (E : XK) (n : Nat) : List (C × C) → TGs
  | [] => gNil
  | (co, ci) :: gs => gCons (gSub (rd W p E n co) (rd W p E n ci) rSetL) (gSubs W p E n gs)
theorem pgs_subs {es : List Expr} {gs : List (C × C)} (h : SubsOk X W p E n es gs) : PGs X es (gSubs W p E n gs) ∧ (assignEach es X.env).length = gs.length ∧ (assignEach es X.env).findIdx? (·.1) = none := by
  induction h with
  | nil => exact ⟨pgs_nil, rfl, rfl⟩
  | @cons o i co ci pos es gs hp ho hi r ih =>
    obtain ⟨a, b, c⟩ := ih
    refine ⟨pgs_cons (pg_sub ho hi set_list (plainT hp)) a rfl, ?_, ?_⟩
    · show (assignEach es X.env).length + 1 = _
      rw [b]; rfl
    · show List.findIdx? (·.1) ((false, assign (.Subscript o i pos) X.env) :: assignEach es X.env) = none
      rw [List.findIdx?_cons]
      simp only [Bool.false_eq_true, if_false]
      rw [c]; rfl
theorem subs_run : ∀ {gs : List (C × C)} {ds : List Pv.D} {vs : List V} {F : Hp} {ρ : En} {H : Hp} {Q : L2.St → Hp → Prop}, Rel W Γ F ρ σ H → Reps W F vs ds → OkD W Γ E F (subsF (ev p n) gs ds ρ) ⟨Q, fun _ _ => False, fun _ _ => False, fun _ _ => False⟩ → gSubs W p E n gs vs σ H Q
  | [], [], vs, F, ρ, H, Q, R, r, h => ⟨r.nil_inv, h F σ H Sub.rfl R⟩
  | [], _ :: _, vs, F, ρ, H, Q, R, r, h => h.elim
  | _ :: _, [], vs, F, ρ, H, Q, R, r, h => h.elim
  | (co, ci) :: gs, d :: ds, vs, F, ρ, H, Q, R, r, h => by
    obtain ⟨u, us, ev_, hu, r'⟩ := r.cons_inv
    have h : OkD W Γ E F ((setG (ev p n) (.sub co ci) d ρ).fl fun _ ρ1 => subsF (ev p n) gs ds ρ1) _ := h
    refine ⟨u, us, ev_, ?_⟩
    -- the store, then the others: the items stay what they are
    have h2 : Ok W Γ E σ F (setG (ev p n) (.sub co ci) d ρ) fun _ _ _ H' => gSubs W p E n gs us σ H' Q :=
      (OkF.fl h).imp fun _ ρ1 F1 H1 s1 R1 k => subs_run R1 (r'.mono s1 _) k
    have h3 := sub_run (Q := fun σ' H' => σ' = σ ∧ gSubs W p E n gs us σ H' Q) R hu (h2.imp fun _ _ _ _ _ _ k => ⟨rfl, k⟩)
    exact gsub_imp h3 fun σ' H' ⟨a, b⟩ => by rw [a]; exact b
where
  gsub_imp {co ci : C} {v : V} {σ : L2.St} {H : Hp} {Q Q' : L2.St → Hp → Prop} (h : gSub (rd W p E n co) (rd W p E n ci) rSetL v σ H Q) (w : ∀ σ' H', Q σ' H' → Q' σ' H') : gSub (rd W p E n co) (rd W p E n ci) rSetL v σ H Q' := by
    obtain ⟨Γ1, ρ1, F1, R1, k1⟩ := h
    refine ⟨Γ1, ρ1, F1, R1, k1.imp fun r ρ2 F2 H2 s2 R2 k x hx => ?_⟩
    obtain ⟨Γ3, ρ3, F3, R3, k3⟩ := k x hx
    refine ⟨Γ3, ρ3, F3, R3, k3.imp fun r ρ4 F4 H4 s4 R4 k y hy => ?_⟩
    obtain ⟨q, xs, m, j, a1, a2, a3, a4, a5⟩ := k y hy
    exact ⟨q, xs, m, j, a1, a2, a3, a4, w _ _ a5⟩
theorem pg_subsR {es : List Expr} {gs : List (C × C)} {k : Nat} {pos : Pos} (hK : X.K = W.K) (hc : X.calm = true) (hs : SubsOk X W p E n es gs) : PG X (.Tuple es k pos) (rdGR W p E n (.subs gs)) := by
  obtain ⟨a, b, c⟩ := pgs_subs hs
  refine (pg_tup hc a b c).weak fun v σ H Q ⟨Γ, ρ, F, r, R, hv, h⟩ => ?_
  unfold setGR at h
  dsimp only at h
  cases e1 : pk r ρ with
  | none => rw [e1] at h; exact h.elim
  | some d =>
    rw [e1] at h
    cases d <;> try exact h.elim
    case tup ds =>
      dsimp only at h
      cases el : ds.length == gs.length with
      | false => rw [el] at h; exact h.elim
      | true =>
        rw [el] at h
        obtain ⟨a, vs, ev, t, rr, _⟩ := rd_tup R (hv.pk R e1)
        exact ⟨a, vs, ev, hK ▸ t, by rw [rr.length]; exact beq_iff_eq.mp el, subs_run R rr h⟩
/-- target = value, any target but a name -/
def notName : Expr → Bool
  | .Name _ _ => false
  | _ => true
theorem sole_no {tg e : Expr} (h : notName tg = true) (l : Nat) (env : Env) : swapsWithSole [tg] e l env = pure false := by
  show swapsWith e (some tg) l env = pure false
  cases tg <;> first
    | (injection h; done)
    | (cases e <;> rfl)
theorem asg1 {tg : Expr} {env : Env} (h : notStar tg = true) : (assignEach [tg] env).map (·.2) = [assign tg env] := by
  cases tg <;> first
    | rfl
    | exact nomatch h
theorem ps_asgD {tg e : Expr} {g : G} {c : C} {pos : Pos} (hn : notName tg = true) (hs : notStar tg = true) (hw : swappedStores [tg] e X.env = pure none) (he : PE X e (rd W p E n c)) (hg : PG X tg (rdGR W p E n g)) : PS X (.Assign [tg] e pos) (rdSt W p E (n + 1) (.asg g c)) :=
  (ps_asg he hg (sole_no hn _ _) hw (asg1 hs)).weak fun Z σ H h => asg_rd h
/-! ### a, b = x, y -/
theorem RepRs.settle : ∀ {rs : List R} {vs : List V} {F : Hp} {ρ : En} {q : List R × En}, Rel W Γ F ρ σ H → RepRs W Γ F ρ σ H vs rs → settle rs ρ = some q → ∃ F', Sub F F' ∧ Rel W Γ F' q.2 σ H ∧ RepRs W Γ F' q.2 σ H vs q.1 ∧ (∀ (j : Nat) d, q.1[j]? = some (.own d) → rs[j]? = some (.own d)) ∧ (∀ (j i : Nat), q.1[j]? ≠ some (.ptr i)) ∧
    ∀ v' r', RepR W Γ F ρ σ H v' r' → RepR W Γ F' q.2 σ H v' r'
  | [], [], F, ρ, q, R, h, e => by injection e with e; subst e; exact ⟨F, Sub.rfl, R, trivial, fun j d z => by simp at z, fun j i z => by simp at z, fun _ _ h => h⟩
  | [], _ :: _, _, _, _, R, h, e => h.elim
  | _ :: _, [], _, _, _, R, h, e => h.elim
  | r :: rs, v :: vs, F, ρ, q, R, h, e => by
    have keep : (∀ i, r ≠ .ptr i) → Pv.settle (r :: rs) ρ = (Pv.settle rs ρ).map fun p => (r :: p.1, p.2) := fun n => by
      cases r with
      | dat _ => rfl
      | own _ => rfl
      | ptr i => exact absurd rfl (n i)
    have stay : (∀ i, r ≠ .ptr i) → ∃ F', Sub F F' ∧ Rel W Γ F' q.2 σ H ∧ RepRs W Γ F' q.2 σ H (v :: vs) q.1 ∧ (∀ (j : Nat) d, q.1[j]? = some (.own d) → (r :: rs)[j]? = some (.own d)) ∧ (∀ (j i : Nat), q.1[j]? ≠ some (.ptr i)) ∧ ∀ v' r', RepR W Γ F ρ σ H v' r' → RepR W Γ F' q.2 σ H v' r' := fun n => by
      rw [keep n] at e
      cases e2 : Pv.settle rs ρ with
      | none => rw [e2] at e; exact nomatch e
      | some u =>
        rw [e2] at e; injection e with e; subst e
        obtain ⟨F2, s2, R2, rps, own, np, kk⟩ := RepRs.settle R h.2.1 e2
        refine ⟨F2, s2, R2, ⟨kk v r h.1, rps, fun z j u' d a1 a2 => h.2.2 z j u' d a1 (own j d a2)⟩, fun j d z => ?_, fun j i z => ?_, kk⟩
        · cases j with
          | zero => exact z
          | succ j => rw [List.getElem?_cons_succ] at z ⊢; exact own j d z
        · cases j with
          | zero => rw [List.getElem?_cons_zero] at z; injection z with z; exact n i z
          | succ j => rw [List.getElem?_cons_succ] at z; exact np j i z
    cases r with
    | dat d => exact stay fun i z => (nomatch z)
    | own d => exact stay fun i z => (nomatch z)
    | ptr i =>
      unfold Pv.settle at e
      cases e1 : frz (.ptr i) ρ with
      | none => rw [e1] at e; exact nomatch e
      | some t =>
        rw [e1] at e
        dsimp only [Option.bind] at e
        obtain ⟨F1, s1, R1, rp, k1⟩ := RepR.frz (r := .ptr i) R h.1 e1
        cases e2 : Pv.settle rs t.2 with
        | none => rw [e2] at e; exact nomatch e
        | some u =>
          rw [e2] at e; injection e with e; subst e
          have h2 : RepRs W Γ F1 t.2 σ H vs rs := h.2.1.map fun j v' r' a1 a2 h' => k1 v' r' h' fun ⟨d, z⟩ => (nomatch z)
          obtain ⟨F2, s2, R2, rps, own, np, kk⟩ := RepRs.settle R1 h2 e2
          refine ⟨F2, s1.trans s2, R2, ⟨rp.mono s2 _, rps, fun ⟨d, z⟩ => (nomatch z)⟩, fun j d z => ?_, fun j i z => ?_, fun v' r' h' => kk v' r' (k1 v' r' h' fun ⟨d, z⟩ => (nomatch z))⟩
          · cases j with
            | zero => rw [List.getElem?_cons_zero] at z; injection z with z; exact nomatch z
            | succ j => rw [List.getElem?_cons_succ] at z ⊢; exact own j d z
          · cases j with
            | zero => rw [List.getElem?_cons_zero] at z; injection z with z; exact nomatch z
            | succ j => rw [List.getElem?_cons_succ] at z; exact np j i z
/-- a settled result is stored; the others stay -/
theorem store_settled {i : Nat} {v : V} {r : R} (R : Rel W Γ F ρ σ H) (hv : RepR W Γ F ρ σ H v r) (np : ∀ k, r ≠ .ptr k) (e : store i r ρ = some ρ') :
    Rel W Γ F ρ' (σ.set i (some v)) H ∧ ∀ v' r', (∀ k, r' ≠ .ptr k) → RepR W Γ F ρ σ H v' r' → ((∃ d, r = .own d) → (∃ d, r' = .own d) → v' ≠ v) → RepR W Γ F ρ' (σ.set i (some v)) H v' r' := by
  unfold store at e
  by_cases c : (decide (i < ρ.length) && freeS (getS ρ i)) = true
  · rw [if_pos c] at e
    rw [Bool.and_eq_true, decide_eq_true_eq] at c
    have hi : i < σ.length := by rw [← R.len]; exact c.1
    cases r with
    | dat d =>
      injection e with e; subst e
      refine ⟨R.storeD c.1 c.2 hv, fun v' r' n' h' _ => ?_⟩
      cases r' with
      | dat d2 => exact h'
      | ptr j => exact absurd rfl (n' j)
      | own d2 =>
        obtain ⟨q, o, a1, a2, a3, a4, a5, a6⟩ := h'
        refine ⟨q, o, a1, a2, a3, a4, a5, fun j b l dd z w => ?_⟩
        rcases set_get z with ⟨_, z, _⟩ | ⟨m, z⟩
        · exact nomatch z
        · rw [set_ne m] at w; exact a6 j b l dd z w
    | own d =>
      injection e with e; subst e
      obtain ⟨q0, o0, rfl, b2, b3, b4, b5, b6⟩ := hv
      refine ⟨R.storeO c.1 c.2 b2 b3 b4 b5 b6, fun v' r' n' h' ap => ?_⟩
      cases r' with
      | dat d2 => exact h'
      | ptr j => exact absurd rfl (n' j)
      | own d2 =>
        obtain ⟨q, o, rfl, a2, a3, a4, a5, a6⟩ := h'
        refine ⟨q, o, rfl, a2, a3, a4, a5, fun j b l dd z w => ?_⟩
        rcases set_get z with ⟨rfl, z, _⟩ | ⟨m, z⟩
        · rw [set_self hi] at w
          injection w with w; injection w with w
          exact ap ⟨_, rfl⟩ ⟨_, rfl⟩ w.symm
        · rw [set_ne m] at w; exact a6 j b l dd z w
    | ptr k => exact absurd rfl (np k)
  · rw [if_neg c] at e; exact nomatch e
theorem par_run {is : List Nat} {rs : List R} {vs : List V} {Q : L2.St → Hp → Prop} (R : Rel W Γ F ρ σ H) (hv : RepRs W Γ F ρ σ H vs rs) (h : OkD W Γ E F (Pv.F.of ((settle rs ρ).bind fun q => setRs is q.1 q.2)) ⟨Q, fun _ _ => False, fun _ _ => False, fun _ _ => False⟩) :
    vs.length = is.length ∧ Q ((is.zip vs).foldl (fun s iv => s.set iv.1 (some iv.2)) σ) H := by
  cases e1 : settle rs ρ with
  | none => rw [e1] at h; exact h.elim
  | some q =>
    rw [e1] at h
    dsimp only [Option.bind] at h
    obtain ⟨F2, s2, R2, rps, _, np, _⟩ := hv.settle R e1
    cases e2 : setRs is q.1 q.2 with
    | none => rw [e2] at h; exact h.elim
    | some ρ' =>
      rw [e2] at h
      obtain ⟨l, R3⟩ := go R2 rps np e2
      exact ⟨l, h F2 _ H s2 R3⟩
where
  go : ∀ {is : List Nat} {rs : List Pv.R} {vs : List V} {ρ : En} {σ : L2.St} {F : Hp} {ρ' : En}, Rel W Γ F ρ σ H → RepRs W Γ F ρ σ H vs rs → (∀ (j i : Nat), rs[j]? ≠ some (.ptr i)) → setRs is rs ρ = some ρ' → vs.length = is.length ∧ Rel W Γ F ρ' ((is.zip vs).foldl (fun s iv => s.set iv.1 (some iv.2)) σ) H
    | [], [], [], ρ, σ, F, ρ', R, h, np, e => by injection e with e; subst e; exact ⟨rfl, R⟩
    | [], [], _ :: _, ρ, σ, F, ρ', R, h, np, e => h.elim
    | [], _ :: _, _, ρ, σ, F, ρ', R, h, np, e => nomatch e
    | _ :: _, [], _, ρ, σ, F, ρ', R, h, np, e => nomatch e
    | _ :: _, _ :: _, [], ρ, σ, F, ρ', R, h, np, e => h.elim
    | i :: is, r :: rs, v :: vs, ρ, σ, F, ρ', R, h, np, e => by
      unfold setRs at e
      cases e1 : store i r ρ with
      | none => rw [e1] at e; exact nomatch e
      | some ρ1 =>
        rw [e1] at e
        have npr : ∀ k, r ≠ .ptr k := fun k z => np 0 k (by rw [z]; rfl)
        obtain ⟨R1, kk⟩ := store_settled R h.1 npr e1
        have h2 : RepRs W Γ F ρ1 (σ.set i (some v)) H vs rs := h.2.1.map fun j v' r' a1 a2 h' =>
          kk v' r' (fun k z => np (j + 1) k (by rw [List.getElem?_cons_succ, a2, z])) h' fun z1 ⟨d, z2⟩ => h.2.2 z1 j v' d a1 (z2 ▸ a2)
        obtain ⟨l, R2⟩ := go R1 h2 (fun j k z => np (j + 1) k (by rw [List.getElem?_cons_succ]; exact z)) e
        exact ⟨by rw [List.length_cons, List.length_cons, l], R2⟩
theorem par_rd {is : List Nat} {cs : List C} {Z : Ends} (h : rdSt W p E (n + 1) (.par is cs) Z σ H) : rdA W p E n cs σ H fun vs H1 => vs.length = is.length ∧ Z.nx ((is.zip vs).foldl (fun s iv => s.set iv.1 (some iv.2)) σ) H1 := by
  obtain ⟨Γ, ρ, F, R, h⟩ := h
  unfold ex at h
  refine ⟨Γ, ρ, F, R, (OkF.fl h).imp fun rs ρ1 F1 H1 s1 R1 k vs hvs => par_run (E := E) R1 hvs ?_⟩
  revert k
  cases (settle rs ρ1).bind fun q => setRs is q.1 q.2 with
  | none => exact fun k => k
  | some ρ2 => exact fun k => k
theorem len2 {α : Type} {l : List α} (h : l.length = 2) : ∃ a b, l = [a, b] := by
  match l, h with
  | [a, b], _ => exact ⟨a, b, rfl⟩
theorem len3 {α : Type} {l : List α} (h : l.length = 3) : ∃ a b c, l = [a, b, c] := by
  match l, h with
  | [a, b, c], _ => exact ⟨a, b, c, rfl⟩
theorem ps_par2D {i j : Nat} {x y : Str} {a b : Expr} {ca cb : C} {px py pt pos : Pos} {kt k2 pt2} (hc : X.calm = true) (hN : X.N.Nodup) (hi : X.N[i]? = some x) (hj : X.N[j]? = some y) (hij : i ≠ j) (hx : X.env.scope.names.lookup x = some .local) (hy : X.env.scope.names.lookup y = some .local)
    (hw : swappedStores [.Tuple [.Name x px, .Name y py] kt pt] (.Tuple [a, b] k2 pt2) X.env = pure (some [x, y])) (ha : PA X [a, b] (rdA W p E n [ca, cb])) : PS X (.Assign [.Tuple [.Name x px, .Name y py] kt pt] (.Tuple [a, b] k2 pt2) pos) (rdSt W p E (n + 1) (.par [i, j] [ca, cb])) :=
  (ps_par hc hN hi hj hij hx hy ha hw (sole_no rfl _ _)).weak fun Z σ H h => by
    obtain ⟨Γ, ρ, F, R, k⟩ := par_rd h
    refine ⟨Γ, ρ, F, R, k.imp fun rs ρ1 F1 H1 s1 R1 k vs hvs => ?_⟩
    obtain ⟨l, q⟩ := k vs hvs
    obtain ⟨u, v, rfl⟩ := len2 l
    exact ⟨u, v, rfl, q⟩
theorem ps_par3D {i j m : Nat} {x y z : Str} {a b c : Expr} {ca cb cc : C} {px py pz pt pos : Pos} {kt k2 pt2} (hc : X.calm = true) (hN : X.N.Nodup) (hi : X.N[i]? = some x) (hj : X.N[j]? = some y) (hm : X.N[m]? = some z) (hij : i ≠ j) (him : i ≠ m) (hjm : j ≠ m)
    (hx : X.env.scope.names.lookup x = some .local) (hy : X.env.scope.names.lookup y = some .local) (hz : X.env.scope.names.lookup z = some .local)
    (hw : swappedStores [.Tuple [.Name x px, .Name y py, .Name z pz] kt pt] (.Tuple [a, b, c] k2 pt2) X.env = pure (some [x, y, z])) (ha : PA X [a, b, c] (rdA W p E n [ca, cb, cc])) :
    PS X (.Assign [.Tuple [.Name x px, .Name y py, .Name z pz] kt pt] (.Tuple [a, b, c] k2 pt2) pos) (rdSt W p E (n + 1) (.par [i, j, m] [ca, cb, cc])) :=
  (ps_par3 hc hN hi hj hm hij him hjm hx hy hz ha hw (sole_no rfl _ _)).weak fun Z σ H h => by
    obtain ⟨Γ, ρ, F, R, k⟩ := par_rd h
    refine ⟨Γ, ρ, F, R, k.imp fun rs ρ1 F1 H1 s1 R1 k vs hvs => ?_⟩
    obtain ⟨l, q⟩ := k vs hvs
    obtain ⟨u, v, w, rfl⟩ := len3 l
    exact ⟨u, v, w, rfl, q⟩
/-! ### x op= e -/
def R2A (W : Wd) (E : XK) (op : Operator) : R2 := fun x y H Q => ∃ Γ ρ F σ dx dy d, Rel W Γ F ρ σ H ∧ Rep W F x dx ∧ RdD W F H y dy ∧ augD op dx dy = some d ∧ ∀ v, Rep W F v d → Q v H
theorem iop_mulAny : OpR X (inplaceOp .Mult) (rI CMulW fun i j => .int (i * j)) := opI fun _ _ _ _ _ _ _ c q => imul_int q c.ok
theorem iop_D (op : Operator) : OpR X (inplaceOp op) (R2A W E op) := by
  intro pins s σ' H x y v u Q I rx ry ⟨Γ, ρ, F, σ, dx, dy, d, R, hx0, hy, e, q⟩
  replace hx0 : RdD W F H x dx := .inl hx0
  have hint : ∀ {i : Int}, d = .int i → Q (.int i) H := fun {i} z => q _ (by rw [z]; unfold Rep; rfl)
  cases op <;> cases dx <;> try (injection e; done)
  all_goals (cases dy <;> try (injection e; done))
  case Add.int.int i j =>
    have e1 := rd_int hx0; have e2 := rd_int hy; subst e1; subst e2
    injection e with e
    exact iop_add pins s σ' H _ _ v u Q I rx ry ⟨i, j, rfl, rfl, hint e.symm⟩
  case Sub.int.int i j =>
    have e1 := rd_int hx0; have e2 := rd_int hy; subst e1; subst e2
    injection e with e
    exact iop_sub pins s σ' H _ _ v u Q I rx ry ⟨i, j, rfl, rfl, hint e.symm⟩
  case Mult.int.int i j =>
    have e1 := rd_int hx0; have e2 := rd_int hy; subst e1; subst e2
    dsimp only [augD] at e
    by_cases c : mulOk i j = true
    · rw [if_pos c] at e; injection e with e
      exact iop_mulAny pins s σ' H _ _ v u Q I rx ry ⟨i, j, rfl, rfl, mulOk_1 c, hint e.symm⟩
    · rw [if_neg c] at e; exact nomatch e
theorem ps_augD {i : Nat} {x : Str} {e : Expr} {op : Operator} {c : C} {pos pos' : Pos} (hN : X.N.Nodup) (hi : X.N[i]? = some x) (hx : Loc X.env.scope x) (hf : X.fn x = true ∨ X.env.scope.names.lookup x = some .local) (he : PE X e (rd W p E n c)) : PS X (.AugAssign (.Name x pos') op e pos) (rdSt W p E (n + 1) (.aug i op c)) :=
  (ps_aug hN hi hx he (iop_D (W := W) (E := E) op) hf).weak fun Z σ H ⟨Γ, ρ, F, R, h⟩ => by
    unfold ex at h
    dsimp only at h
    cases q : getS ρ i with
    | emp => rw [q] at h; exact h.elim
    | cls _ => rw [q] at h; exact h.elim
    | own b l d => rw [q] at h; exact h.elim
    | dat a =>
      rw [q] at h
      dsimp only at h
      obtain ⟨v, e1, rv⟩ := R.sl i _ (getS_some q (fun z => nomatch z))
      refine ⟨v, e1, ?_⟩
      have h2 : Ok W Γ E σ F ((peek (ev p n) c ρ).bind fun b ρ1 => O.ok (b, ρ1) ρ1) fun t _ F1 _ => OkD W Γ E F1 (Pv.F.of ((augD op a t.1).bind fun d => store i (.dat d) t.2)) Z := by
        have := OkF.fl (σ := σ) h
        revert this
        cases peek (ev p n) c ρ with
        | ok b ρ1 => exact fun k => k
        | exc c d ρ1 => exact fun k => k
        | bad => exact fun k => k
      obtain ⟨Γ', ρ', F', R', h'⟩ := rd_peek R h2
      refine ⟨Γ', ρ', F', R', h'.imp fun r ρ1 F1 H1 s1 R1 k y hy => ?_⟩
      obtain ⟨d, ρ2, F2, R2, s2, rdd, k⟩ := k y hy
      have k := k.at R2
      dsimp only at k
      cases e2 : augD op a d with
      | none => rw [e2] at k; exact k.elim
      | some z =>
        rw [e2] at k
        dsimp only [Option.bind] at k
        refine ⟨Γ, ρ2, F2, σ, a, d, z, R2, rv.mono s2 _, rdd, e2, fun w hw => ?_⟩
        cases e3 : store i (.dat z) ρ2 with
        | none => rw [e3] at k; exact k.elim
        | some ρ3 => rw [e3] at k; exact k.at (store_dat R2 hw e3)
/-! ### loops -/
theorem OkF.then_un {ls : List Nat} {x : Pv.F} {Z : Ends} (L : Lent Γ Γ' ls) (h : OkD W Γ E F (x.then fun ρ2 => .nx (unlend ls ρ2)) Z) : OkD W Γ' E F x Z := by
  have ret : ∀ {F' H' : Hp} {v : V} {r : Pv.R}, RetR W Γ' F' H' v r → RetR W Γ F' H' v r := fun {F' H' v r} k => by
    cases r with
    | dat d => exact k
    | ptr i => exact k
    | own d =>
      obtain ⟨q, o, a1, a2, a3, a4, a5⟩ := k
      exact ⟨q, o, a1, a2, a3, a4, L.h0 ▸ a5⟩
  cases x with
  | nx ρ => exact fun F2 σ' H' s R => h F2 σ' H' s (L.un R)
  | bk ρ => exact fun F2 σ' H' s R => h F2 σ' H' s (L.rel R)
  | ct ρ => exact fun F2 σ' H' s R => h F2 σ' H' s (L.rel R)
  | rt r ρ => exact fun F2 σ' H' v s R k => h F2 σ' H' v s (L.rel R) (ret k)
  | exc c d ρ => exact fun F2 σ' H' cls dx s R => h F2 σ' H' cls dx s (L.rel R)
  | bad => exact h
/-- a loop's body, what follows it -/
theorem body_run {b : En → Pv.F} {k : En → Pv.F} {Z : Ends} {N : L2.St → Hp → Prop} {ρ1 : En} (h : OkD W Γ E F (match b ρ1 with | .nx ρ2 => k ρ2 | .ct ρ2 => k ρ2 | .bk ρ2 => .nx ρ2 | x => x) Z)
    (hN : ∀ ρ2 F' σ' H', Sub F F' → Rel W Γ F' ρ2 σ' H' → OkD W Γ E F' (k ρ2) Z → N σ' H') : OkD W Γ E F (b ρ1) { Z with nx := N, ct := N, bk := Z.nx } := by
  revert h
  cases b ρ1 with
  | nx ρ2 => exact fun h F' σ' H' s R => hN ρ2 F' σ' H' s R (h.sub s)
  | ct ρ2 => exact fun h F' σ' H' s R => hN ρ2 F' σ' H' s R (h.sub s)
  | bk ρ2 => exact fun h => h
  | rt r ρ2 => exact fun h => h
  | exc c d ρ2 => exact fun h => h
  | bad => exact fun h => h
theorem ps_loopD {tg iter : Expr} {body : List Stmt} {g : G} {it : I} {cb : List S} {pos : Pos} (hp : PassesOwn (model X.prog X.w) X.A X.env X.xe) (hc : X.calm = true) (hs : (match iter with | .Set _ _ _ => false | _ => true) = true) (hi : PI X tg iter (rdI W p E n it)) (hg : PG X tg (rdG W p E n g)) (hb : PSs X body (rdSs W p E n cb)) :
    PS X (.For tg iter body [] pos) (rdSt W p E (n + 1) (.loop g it cb)) :=
  (ps_for hp hc hi hg hb (iter_plain hs)).weak fun Z σ H ⟨Γ, ρ, F, R, h⟩ => by
    unfold ex at h
    refine ⟨Γ, ρ, F, R, (OkF.fl h).imp fun w ρ1 F0 H1 s0 R1 h1 J Γ' F1 s1 L R1' wk => ?_⟩
    obtain ⟨xs, ls⟩ := w
    have h2 : OkD W Γ' E F1 (loopF (ev p n) g (exsL (ex p n) cb) xs ρ1) Z := OkF.sub (OkF.then_un L h1) s1
    refine ⟨fun i m σ H => m = xs.length - i ∧ i ≤ xs.length ∧ ∃ ρc Fc, Sub F1 Fc ∧ Rel W Γ' Fc ρc σ H ∧ OkD W Γ' E Fc (loopF (ev p n) g (exsL (ex p n) cb) (xs.drop i) ρc) Z, ⟨_, rfl, Nat.zero_le _, ρ1, F1, Sub.rfl, R1', h2⟩, ?_⟩
    rintro i m σc Hc ⟨rfl, hi, ρc, Fc, s, Rc, hT⟩
    rcases Nat.lt_or_ge i xs.length with c | c
    · refine .inr ⟨wk.go Γ' i Fc ρc σc Hc (fun _ z => z) s Rc c, fun σ' H' => i + 1 ≤ xs.length ∧ ∃ ρc Fc, Sub F1 Fc ∧ Rel W Γ' Fc ρc σ' H' ∧ OkD W Γ' E Fc (loopF (ev p n) g (exsL (ex p n) cb) (xs.drop (i + 1)) ρc) Z,
        fun σ' H' ⟨a, b⟩ => ⟨xs.length - (i + 1), by omega, rfl, a, b⟩, fun x H' yl => ?_⟩
      have hd : xs[i]? = some xs[i] := List.getElem?_eq_getElem c
      rw [List.drop_eq_getElem_cons c] at hT
      obtain ⟨F2, s2, R2, rx⟩ := wk.yld Γ' i _ Fc ρc σc Hc x H' (fun _ z => z) s Rc hd yl
      refine ⟨Γ', ρc, F2, xs[i], R2, rx, ?_⟩
      unfold loopF at hT
      have hT := OkF.sub hT s2
      revert hT
      cases setG (ev p n) g xs[i] ρc with
      | bad => exact fun k => k
      | exc cc d ρe => exact fun k F' H' cls dx s R => k F' σc H' cls dx s R
      | ok u ρa =>
        intro k _ F3 σ3 H3 s3 _ R3
        have k := OkF.sub (show OkD W Γ' E F2 (match exsL (ex p n) cb ρa with | .nx ρ2 => loopF (ev p n) g (exsL (ex p n) cb) (xs.drop (i + 1)) ρ2 | .ct ρ2 => loopF (ev p n) g (exsL (ex p n) cb) (xs.drop (i + 1)) ρ2 | .bk ρ2 => .nx ρ2 | x => x) Z from k) s3
        exact ⟨Γ', ρa, F3, R3, body_run k fun ρ2 F' σ' H' s' R' k' => ⟨c, ρ2, F', ((s.trans s2).trans s3).trans s', R', k'⟩⟩
    · have e : i = xs.length := by omega
      subst e
      rw [List.drop_length] at hT
      exact .inl ⟨wk.stop Γ' Fc ρc σc Hc (fun _ z => z) s Rc, hT.at Rc⟩
theorem ps_whlD {t : Expr} {body : List Stmt} {ct : T} {cb : List S} {pos : Pos} (hp : PassesOwn (model X.prog X.w) X.A X.env X.xe) (ht : PT X t (rdT W p E n ct)) (hb : PSs X body (rdSs W p E n cb)) : PS X (.While t body [] pos) (rdSt W p E (n + 1) (.whl ct cb)) :=
  (ps_while hp ht hb).weak fun Z σ H ⟨Γ, ρ, F, R, h⟩ => by
    unfold ex at h
    refine ⟨fun m σ H => ∃ ρc Fc, Sub F Fc ∧ Rel W Γ Fc ρc σ H ∧ OkD W Γ E Fc (whlF (evT p n) ct (exsL (ex p n) cb) m ρc) Z, ⟨most, ρ, F, Sub.rfl, R, h⟩, ?_⟩
    rintro m σc Hc ⟨ρc, Fc, s, Rc, hT⟩
    cases m with
    | zero => exact hT.elim
    | succ m =>
      unfold whlF at hT
      refine ⟨Γ, ρc, Fc, Rc, (OkF.fl hT).imp fun b ρ1 F1 H1 s1 R1 k => ?_⟩
      cases b with
      | false => rw [if_neg (by decide)]; exact k.at R1
      | true =>
        rw [if_pos rfl]
        refine ⟨fun σ' H' => ∃ ρc Fc, Sub F Fc ∧ Rel W Γ Fc ρc σ' H' ∧ OkD W Γ E Fc (whlF (evT p n) ct (exsL (ex p n) cb) m ρc) Z, fun σ' H' k' => ⟨m, Nat.lt_succ_self m, k'⟩, ?_⟩
        exact ⟨Γ, ρ1, F1, R1, body_run (show OkD W Γ E F1 (match exsL (ex p n) cb ρ1 with | .nx ρ2 => whlF (evT p n) ct (exsL (ex p n) cb) m ρ2 | .ct ρ2 => whlF (evT p n) ct (exsL (ex p n) cb) m ρ2 | .bk ρ2 => .nx ρ2 | x => x) Z from k) fun ρ2 F' σ' H' s' R' k' => ⟨ρ2, F', (s.trans s1).trans s', R', k'⟩⟩
end
end Pv
end PvJ_
section PvK_
set_option maxRecDepth 100000
/-! PvK: a def's promise from its body. -/
namespace Pv
open PySem PySem.Spec PyProof.Rows L2
/-- what is told of a slot that is handed in: its data, where it is lent -/
def entD (l : Bool) (d : D) : Option D := match l with
  | true => some d
  | false => none
def ownL : List V → List Ar → List Addr
  | .ref a :: vs, .own _ _ :: as => a :: ownL vs as
  | _ :: vs, _ :: as => ownL vs as
  | _, _ => []
def fxL : Nat → List V → List Ar → List (Nat × Addr × Option D)
  | j, .ref a :: vs, .own l d :: as => (j, a, entD l d) :: fxL (j + 1) vs as
  | j, _ :: vs, _ :: as => fxL (j + 1) vs as
  | _, _, _ => []
theorem ownL_mem : ∀ {vs : List V} {as : List Ar} {a : Addr}, a ∈ ownL vs as ↔ OwnAt vs as a
  | [], as, a => ⟨fun h => by (unfold ownL at h; cases h), fun ⟨j, l, d, _, e⟩ => by simp at e⟩
  | v :: vs, [], a => ⟨fun h => by (cases v <;> (unfold ownL at h; cases h)), fun ⟨j, l, d, e, _⟩ => by simp at e⟩
  | v :: vs, x :: as, a => by
    have ih := ownL_mem (vs := vs) (as := as) (a := a)
    have shift : OwnAt vs as a → OwnAt (v :: vs) (x :: as) a := fun ⟨j, l, d, e1, e2⟩ => ⟨j + 1, l, d, by rw [List.getElem?_cons_succ]; exact e1, by rw [List.getElem?_cons_succ]; exact e2⟩
    have back : OwnAt (v :: vs) (x :: as) a → (∃ l d, x = .own l d ∧ v = .ref a) ∨ OwnAt vs as a := fun ⟨j, l, d, e1, e2⟩ => by
      cases j with
      | zero => rw [List.getElem?_cons_zero] at e1 e2; injection e1 with e1; injection e2 with e2; exact .inl ⟨l, d, e1, e2⟩
      | succ j => rw [List.getElem?_cons_succ] at e1 e2; exact .inr ⟨j, l, d, e1, e2⟩
    cases x with
    | dat d =>
      have e : ownL (v :: vs) (.dat d :: as) = ownL vs as := by cases v <;> rfl
      rw [e, ih]
      exact ⟨shift, fun h => by
        rcases back h with ⟨_, _, z, _⟩ | h
        · exact nomatch z
        · exact h⟩
    | own l d =>
      cases v with
      | ref b =>
        show a ∈ b :: ownL vs as ↔ _
        rw [List.mem_cons, ih]
        refine ⟨fun h => ?_, fun h => ?_⟩
        · rcases h with rfl | h
          · exact ⟨0, l, d, rfl, rfl⟩
          · exact shift h
        · rcases back h with ⟨_, _, _, z⟩ | h
          · injection z with z; exact .inl z.symm
          · exact .inr h
      | _ =>
        show a ∈ ownL vs as ↔ _
        rw [ih]
        exact ⟨shift, fun h => by
          rcases back h with ⟨_, _, _, z⟩ | h
          · exact nomatch z
          · exact h⟩
theorem fxL_of : ∀ {vs : List V} {as : List Ar} {j : Nat} {e : Nat × Addr × Option D}, e ∈ fxL j vs as → ∃ (i : Nat) (l : Bool) (d : D), as[i]? = some (.own l d) ∧ vs[i]? = some (V.ref e.2.1) ∧ e.1 = j + i ∧ e.2.2 = entD l d
  | [], as, j, e, h => by unfold fxL at h; cases h
  | v :: vs, [], j, e, h => by cases v <;> (unfold fxL at h; cases h)
  | v :: vs, x :: as, j, e, h => by
    have shift : e ∈ fxL (j + 1) vs as → ∃ (i : Nat) (l : Bool) (d : D), (x :: as)[i]? = some (.own l d) ∧ (v :: vs)[i]? = some (V.ref e.2.1) ∧ e.1 = j + i ∧ e.2.2 = entD l d := fun h => by
      obtain ⟨i, l, d, a1, a2, a3, a4⟩ := fxL_of h
      exact ⟨i + 1, l, d, by rw [List.getElem?_cons_succ]; exact a1, by rw [List.getElem?_cons_succ]; exact a2, by omega, a4⟩
    cases x with
    | dat d => cases v <;> exact shift h
    | own l d =>
      cases v with
      | ref b =>
        have h : e ∈ (j, b, entD l d) :: fxL (j + 1) vs as := h
        rcases List.mem_cons.mp h with rfl | h
        · exact ⟨0, l, d, rfl, rfl, rfl, rfl⟩
        · exact shift h
      | _ => exact shift h
theorem fxL_mem : ∀ {vs : List V} {as : List Ar} {j i : Nat} {l : Bool} {d : D} {a : Addr}, as[i]? = some (.own l d) → vs[i]? = some (V.ref a) → (j + i, a, entD l d) ∈ fxL j vs as
  | [], as, j, i, l, d, a, h1, h2 => by simp at h2
  | v :: vs, [], j, i, l, d, a, h1, h2 => by simp at h1
  | v :: vs, x :: as, j, 0, l, d, a, h1, h2 => by
    rw [List.getElem?_cons_zero] at h1 h2; injection h1 with h1; injection h2 with h2; subst h1; subst h2
    exact List.mem_cons_self ..
  | v :: vs, x :: as, j, i + 1, l, d, a, h1, h2 => by
    rw [List.getElem?_cons_succ] at h1 h2
    have ih := fxL_mem (j := j + 1) h1 h2
    have e : j + (i + 1) = j + 1 + i := by omega
    rw [e]
    cases x with
    | dat _ => cases v <;> exact ih
    | own l' d' =>
      cases v with
      | ref b => exact List.mem_cons_of_mem _ ih
      | _ => exact ih
theorem outs_get : ∀ {as : List Ar} {ρ : En} {j : Nat} {l : Bool} {d : D}, as[j]? = some (.own l d) → (outs as ρ)[j]? = some (rdS (getS ρ j))
  | [], ρ, j, l, d, h => by simp at h
  | x :: as, ρ, 0, l, d, h => by
    rw [List.getElem?_cons_zero] at h; injection h with h; subst h
    show some (rdS (ρ.headD .emp)) = some (rdS (getS ρ 0))
    cases ρ <;> rfl
  | x :: as, ρ, j + 1, l, d, h => by
    rw [List.getElem?_cons_succ] at h
    have ih := outs_get (ρ := ρ.tail) h
    have e : getS ρ.tail j = getS ρ (j + 1) := by cases ρ <;> rfl
    rw [e] at ih
    cases x with
    | dat _ => show (none :: outs as ρ.tail)[j + 1]? = _; rw [List.getElem?_cons_succ]; exact ih
    | own _ _ => show (rdS _ :: outs as ρ.tail)[j + 1]? = _; rw [List.getElem?_cons_succ]; exact ih
/-- a def's ground at its entry -/
def noTbl : HO → Bool
  | .tbl _ => false
  | _ => true
/-- the heap without its tables -/
def strip (H : Hp) : Hp := fun a => (H a).bind fun o => if noTbl o then some o else none
theorem strip_of {H : Hp} {a : Addr} {o : HO} (h : H a = some o) (n : ∀ ps, o ≠ .tbl ps) : strip H a = some o := by
  unfold strip
  rw [h]
  show (if noTbl o = true then some o else none) = some o
  cases o <;> first | rfl | exact absurd rfl (n _)
theorem strip_inv {H : Hp} {a : Addr} {o : HO} (h : strip H a = some o) : H a = some o ∧ ∀ ps, o ≠ .tbl ps := by
  unfold strip at h
  cases e : H a with
  | none => rw [e] at h; exact nomatch h
  | some u =>
    rw [e] at h
    have h : (if noTbl u = true then some u else none) = some o := h
    cases c : noTbl u with
    | false => rw [c] at h; exact nomatch h
    | true => rw [c] at h; injection h with h; subst h; exact ⟨rfl, fun ps z => by subst z; exact nomatch c⟩
theorem strip_none {H : Hp} {a : Addr} (h : strip H a = none) : Nx H a := fun o e => by
  cases o with
  | tbl ps => exact ⟨ps, rfl⟩
  | _ => rw [strip_of e fun ps z => nomatch z] at h; exact nomatch h
theorem strip_nx {H : Hp} {a : Addr} (h : Nx H a) : strip H a = none := by
  cases e : strip H a with
  | none => rfl
  | some o =>
    obtain ⟨e1, e2⟩ := strip_inv e
    obtain ⟨ps, z⟩ := h o e1
    exact absurd z (e2 ps)
def gm0 (F H : Hp) (vs : List V) (as : List Ar) : Gm := ⟨F, strip H, ownL vs as, fxL 0 vs as⟩
section
variable {W : Wd} {p : Pr} {E : XK} {F F' H H' : Hp} {vs : List V} {as : List Ar} {N : List Str} {m : Nat}
theorem env0_get {i : Nat} {x : Sl} (h : (as.map arS ++ List.replicate m Sl.emp)[i]? = some x) : (∃ a, as[i]? = some a ∧ x = arS a) ∨ x = .emp := by
  rcases Nat.lt_or_ge i as.length with c | c
  · rw [List.getElem?_append_left (by rw [List.length_map]; exact c), List.getElem?_map, List.getElem?_eq_getElem c] at h
    injection h with h
    exact .inl ⟨_, List.getElem?_eq_getElem c, h.symm⟩
  · rw [List.getElem?_append_right (by rw [List.length_map]; exact c), List.getElem?_replicate] at h
    split at h
    · injection h with h; exact .inr h.symm
    · exact nomatch h
theorem start_get {i : Nat} {v : V} (h : vs[i]? = some v) : (L2.start N vs)[i]? = some (some v) := by
  unfold L2.start
  rw [List.getElem?_append_left (by rw [List.length_map]; exact lt_of_get h), List.getElem?_map, h]; rfl
theorem start_inv {i : Nat} {v : V} (h : (L2.start N vs)[i]? = some (some v)) : vs[i]? = some v := by
  unfold L2.start at h
  rcases Nat.lt_or_ge i vs.length with c | c
  · rw [List.getElem?_append_left (by rw [List.length_map]; exact c), List.getElem?_map, List.getElem?_eq_getElem c] at h
    injection h with h; injection h with h
    rw [List.getElem?_eq_getElem c, h]
  · rw [List.getElem?_append_right (by rw [List.length_map]; exact c), List.getElem?_replicate] at h
    split at h
    · injection h with h; exact nomatch h
    · exact nomatch h
theorem CallOk.vget (c : CallOk W F H vs as) {i : Nat} {a : Ar} (h : as[i]? = some a) : ∃ v, vs[i]? = some v ∧ ArOk W F H v a := by
  have : i < vs.length := by rw [c.len]; exact lt_of_get h
  exact ⟨_, List.getElem?_eq_getElem this, c.ar i a _ h (List.getElem?_eq_getElem this)⟩
theorem CallOk.rel (c : CallOk W F H vs as) (hm : m = N.length - as.length) (hl : as.length ≤ N.length) : Rel W (gm0 F H vs as) F (as.map arS ++ List.replicate m .emp) (L2.start N vs) H where
  len := by
    unfold L2.start
    rw [List.length_append, List.length_append, List.length_map, List.length_map, List.length_replicate, List.length_replicate, c.len, hm]
  f0 := Sub.rfl
  fh := c.fh
  fnew := fun a o h => .inl h
  kp := fun a o h _ _ => (strip_inv h).1
  dmn := fun a h => strip_nx h
  tb := c.tb
  oO := fun a h z => by
    obtain ⟨j, l, d, e1, e2⟩ := ownL_mem.mp h
    obtain ⟨q, o, f1, f2, _⟩ := c.ar j _ _ e1 e2
    injection f1 with f1; subst f1
    have z : strip H a = none := z
    rename_i f3
    rw [strip_of f2 f3.1.nt.1] at z; exact nomatch z
  sl := fun i x e => by
    rcases env0_get e with ⟨a, ea, rfl⟩ | rfl
    · obtain ⟨v, ev, ok⟩ := c.vget ea
      cases a with
      | dat d => exact ⟨v, start_get ev, ok⟩
      | own l d =>
        obtain ⟨q, o, rfl, f2, f3, f4⟩ := ok
        exact ⟨q, o, start_get ev, f2, f3, f4, fun _ => ownL_mem.mpr ⟨i, l, d, ea, ev⟩, fun z => nomatch z⟩
    · trivial
  dis := fun i j b l d b' l' d' q e1 e2 s1 s2 => by
    rcases env0_get e1 with ⟨a1, ea1, z1⟩ | z1
    · rcases env0_get e2 with ⟨a2, ea2, z2⟩ | z2
      · cases a1 with
        | dat _ => exact nomatch z1
        | own l1 d1 =>
          cases a2 with
          | dat _ => exact nomatch z2
          | own l2 d2 => exact c.dis i j l1 d1 l2 d2 q ea1 ea2 (start_inv s1) (start_inv s2)
      · exact nomatch z2
    · exact nomatch z1
  fx := fun e he => by
    obtain ⟨i, l, d, a1, a2, a3, a4⟩ := fxL_of he
    have a3 : e.1 = i := by omega
    have hi : i < as.length := lt_of_get a1
    have er : (as.map arS ++ List.replicate m Sl.emp)[i]? = some (.own true l d) := by
      rw [List.getElem?_append_left (by rw [List.length_map]; exact hi), List.getElem?_map, a1]; rfl
    refine ⟨by rw [a3]; exact start_get a2, ?_⟩
    rw [a3, a4]
    cases l with
    | true => exact ⟨true, er⟩
    | false => exact ⟨_, _, er⟩
theorem After.of {ρ : En} {σ : L2.St} (c : CallOk W F H vs as) (R : Rel W (gm0 F H vs as) F' ρ σ H') : After W F H vs as F' H' (outs as ρ) where
  sub := R.f0
  fh := R.fh
  fnew := fun a o h => by
    rcases R.fnew a o h with z | z
    · exact .inl z
    · exact .inr (strip_none z)
  kp := fun a o h n m => R.kp a o (strip_of h n) n fun z => m (ownL_mem.mp z)
  dmn := fun a h => strip_none (R.dmn a h)
  tb := R.tb
  out := fun j l d e => by
    obtain ⟨v, ev, ok⟩ := c.vget e
    obtain ⟨q, o, rfl, f2, f3, f4⟩ := ok
    have m := fxL_mem (j := 0) e ev
    rw [Nat.zero_add] at m
    obtain ⟨g1, g2⟩ := R.fx _ m
    have og := outs_get (ρ := ρ) e
    cases l with
    | true =>
      obtain ⟨b, g2⟩ := g2
      obtain ⟨q', o', h1, h2, h3, h4, _⟩ := R.slotOwn g2
      have := ref_inj g1 h1; subst this
      rw [getS_of g2] at og
      exact ⟨_, o', d, ev, og, h2, h3, h4, fun _ => rfl⟩
    | false =>
      obtain ⟨l', d', g2⟩ := g2
      obtain ⟨q', o', h1, h2, h3, h4, _⟩ := R.slotOwn g2
      have := ref_inj g1 h1; subst this
      rw [getS_of g2] at og
      exact ⟨_, o', d', ev, og, h2, h3, h4, fun z => nomatch z⟩
/-- the body's outcome from the def's -/
theorem body_ok {n : Nat} {f : Fn} {Q : VK} (c : CallOk W F H vs as) (h : EndOk W F H vs as Q E (runF p n f as)) (hN : N.length = f.slots) (ha : f.args ≤ f.slots) :
    as.length = f.args ∧ rdSs W p E n f.body { nx := fun _ H' => Q .non H', rt := Q } (L2.start N vs) H := by
  unfold runF at h
  by_cases el : as.length = f.args
  · rw [if_pos el] at h
    refine ⟨el, gm0 F H vs as, _, F, c.rel (m := f.slots - f.args) (N := N) (by rw [hN, el]) (by rw [hN, el]; exact ha), ?_⟩
    revert h
    cases exsL (ex p n) f.body (as.map arS ++ List.replicate (f.slots - f.args) .emp) with
    | nx ρ => exact fun h F' σ' H' s R => h F' H' .non (After.of c R) (by show Rep W F' _ _; unfold Rep; rfl)
    | bk ρ => exact fun h => h.elim
    | ct ρ => exact fun h => h.elim
    | rt r ρ =>
      intro h F' σ' H' v s R k
      refine h F' H' v (After.of c R) ?_
      cases r with
      | dat d => exact k
      | ptr i => exact k.elim
      | own d =>
        obtain ⟨q, o, a1, a2, a3, a4, a5⟩ := k
        exact ⟨q, o, a1, a2, a3, a4, strip_none a5⟩
    | exc cc d ρ => exact fun h F' σ' H' cls dx s R k => h F' H' cls dx (After.of c R) k
    | bad => exact fun h => h
  · rw [if_neg el] at h; exact h.elim
end
/-! ### contexts -/
/-- the frame of a context -/
def frOf (X : Cx) (sb : Scope → Expr → C → Prop) : Frm := ⟨X.env.cells, X.env.qual ++ "<lambda>", sb⟩
/-- a context whose names are those of the checker: sc the scope that runs, os the one that is written -/
structure XOk (W : Wd) (N : List Str) (sc os : Scope) (k : Nat) (g : Bool) (X : Cx) : Prop extends XW W k g X where
  nN : X.N = N
  sc : X.env.scope = sc
  nd : N.Nodup
  calm : X.calm = true
  fn : ∀ x, os.names.lookup x = some .cell → X.fn x = true
/-- a def's body -/
structure XBody (W : Wd) (E : XK) (X : Cx) : Prop where
  tk : Takes X (fun cls d _ H => E cls d H)
  po : PassesOwn (model X.prog X.w) X.A X.env X.xe
  ps : Passes (L2.CX W.prog W.w) X E
theorem Room.units64 {k : Nat} {A : Around} (r : Room k A) : A.units + 64 < cLine := r.units
/-- a def of the program keeps its promise -/
theorem fn_G {W : Wd} {sb : Scope → Expr → C → Prop} {P : Prg} {l f : Nat} {fn : Fn} {k : Nat} {g : Bool} {a : Addr} {name qual : Str} {params : Arguments} {body : List Stmt} {scope : Scope} {dV kV doc pm cdv ct oc : Value} {an od : Option Addr} {osl : Array (Option Value)} {N ps : List Str}
    (hf : P.fns[f]? = some fn) (lk : W.K.lookup a = some ⟨oc, od, .func (PySem.W.fnOf name qual params body scope dV kV doc pm an cdv ct), osl⟩) (hcd : PySem.W.codeIn W.K cdv qual = true) (S : FnScope N ps scope)
    (hN : N.length = fn.slots) (hp : ps.length = fn.args) (ha : fn.args ≤ fn.slots)
    (hbody : ∀ (X : Cx) (E : XK), XOk W N scope scope k g X → XBody W E X → (∀ x, X.fn x = true) → X.env.qual = (envOfC qual scope 0 a cdv).qual → X.env.code = cdv → PSs X body (rdSs (W.at (frOf X sb)) (P.pr (P.cal l)) E fuel fn.body)) :
    FnG W (k + 1) g a (PySem.W.fnOf name qual params body scope dV kV doc pm an cdv ct) ps (spOf W (P.pr (P.cal (l + 1))) f) := by
  have cal : ∀ as, (P.pr (P.cal (l + 1))).cal f as = runF (P.pr (P.cal l)) fuel fn as := fun as => by
    show P.cal (l + 1) f as = _
    unfold Prg.cal
    rw [hf]
  have len : ∀ vs H Q E, spOf W (P.pr (P.cal (l + 1))) f vs H Q E → vs.length = ps.length := fun vs H Q E ⟨F, as, c, h⟩ => by
    rw [cal] at h
    obtain ⟨e, _⟩ := body_ok c h hN ha
    rw [c.len, e, hp]
  refine ⟨len, fun A outer s H args us vs Q E hr hg e0 hb r hsp => ?_⟩
  have hl := len vs H Q E hsp
  obtain ⟨F, as, c, h⟩ := hsp
  rw [cal] at h
  refine LamX.run_ofS lk hcd S hr e0 hb r hl fun hr' => ⟨_, hbody (cxOf (L2.CX W.prog W.w) W.prog W.w W.K W.mg W.base N qual scope a cdv A outer s H E) E ?_ ?_ (fun _ => rfl) rfl rfl, (body_ok (CallOk.to c) (EndOk.to h) hN ha).2⟩
  · exact { prog := rfl, w := rfl, K := rfl, mg := rfl, base := rfl, room := hr', gd := fun z => hg z, nN := rfl, sc := rfl, nd := S.nd, calm := rfl, fn := fun _ _ => rfl }
  · have tk := takes_of (X := cxOf (L2.CX W.prog W.w) W.prog W.w W.K W.mg W.base N qual scope a cdv A outer s H E) (E := E) rfl rfl rfl rfl
    exact ⟨tk, passes_of rfl, passes_call tk fun _ _ _ _ z => z⟩
end Pv
end PvK_
section PvGi_
set_option maxRecDepth 100000
/-! PvGi: an if in a generator's body. -/
namespace Pv
open PySem PySem.Spec PyProof.Rows L2 GenW
def tGIf (c : TT) (t u : TGn) : TGn := fun D ys σ H => c σ H fun b H1 => if b = true then t D ys σ H1 else u D ys σ H1
theorem gs_if {X : Cx} {test : Expr} {a b : List Stmt} {pos : Pos} {tc : TT} {t u : TGn} (hc : PT X test tc) (ha : GSs X a t) (hb : GSs X b u) : GS X (.If test a b pos) (tGIf tc t u) := by
  refine ⟨fun A S ip R n ys s₀ c fs K J gd lv s σ H D g hn k hI ht => ?_⟩
  obtain ⟨acc, cc, r, I⟩ := hI
  rw [exec_If]
  refine seg_bind_wrap ?_
  rw [g.over]
  refine wpAny_standAt ?_
  refine seg_bind_wrap ?_
  rw [g.over]
  refine wpAny_mono (hc.run _ s σ H _ I ht) (fun bb s' hb' => ?_) fun x s' hx => k.exc n s₀ x s' hx
  obtain ⟨H2, I2, q2⟩ := hb'
  cases bb with
  | true => exact ha.run A S ip R n ys s₀ c fs K J gd lv s' σ H2 D g hn k ⟨acc, cc, r, I2⟩ q2
  | false => exact hb.run A S ip R n ys s₀ c fs K J gd lv s' σ H2 D g hn k ⟨acc, cc, r, I2⟩ q2
end Pv
end PvGi_
section PvGe_
set_option maxRecDepth 100000
/-! PvGe: generator defs that list() walks to their end. -/
namespace Pv
open PySem PySem.Spec PyProof.Rows L2 GenW
def OkGn (W : Wd) (Γ : Gm) (E : XK) (F : Hp) (x : Pv.F × List D) (Z : GEnds) : Prop := match x.1 with
  | .nx ρ' => ∀ F' σ' H' ys, Sub F F' → Rel W Γ F' ρ' σ' H' → Reps W F' ys x.2 → Z.nx ys σ' H'
  | .bk ρ' => ∀ F' σ' H' ys, Sub F F' → Rel W Γ F' ρ' σ' H' → Reps W F' ys x.2 → Z.bk ys σ' H'
  | .ct ρ' => ∀ F' σ' H' ys, Sub F F' → Rel W Γ F' ρ' σ' H' → Reps W F' ys x.2 → Z.ct ys σ' H'
  | .rt _ _ => False
  | .exc c d ρ' => ∀ F' σ' H' cls dx, Sub F F' → Rel W Γ F' ρ' σ' H' → XRep W F' H' cls dx c d → E cls dx H'
  | .bad => False
def rdGn (W : Wd) (p : Pr) (E : XK) (n : Nat) (s : Gs) : TGn := fun Z ys σ H => ∃ Γ ρ F acc, Rel W Γ F ρ σ H ∧ Reps W F ys acc ∧ OkGn W Γ E F (exG p n s ρ acc) Z
def rdGns (W : Wd) (p : Pr) (E : XK) (n : Nat) (ss : List Gs) : TGn := fun Z ys σ H => ∃ Γ ρ F acc, Rel W Γ F ρ σ H ∧ Reps W F ys acc ∧ OkGn W Γ E F (genL (exG p n) ss ρ acc) Z
section
variable {W : Wd} {Γ : Gm} {E : XK} {F F' : Hp} {ρ ρ' : En} {σ : L2.St} {H : Hp} {p : Pr} {n : Nat} {X : Cx} {Z : GEnds} {ys : List V} {acc : List D}
theorem OkGn.sub {x : Pv.F × List D} (h : OkGn W Γ E F x Z) (s : Sub F F') : OkGn W Γ E F' x Z := by
  obtain ⟨f, a⟩ := x
  cases f with
  | nx ρ => exact fun F2 σ' H' ys s2 R r => h F2 σ' H' ys (s.trans s2) R r
  | bk ρ => exact fun F2 σ' H' ys s2 R r => h F2 σ' H' ys (s.trans s2) R r
  | ct ρ => exact fun F2 σ' H' ys s2 R r => h F2 σ' H' ys (s.trans s2) R r
  | rt r ρ => exact h
  | exc c d ρ => exact fun F2 σ' H' cls dx s2 R => h F2 σ' H' cls dx (s.trans s2) R
  | bad => exact h
theorem OkGn.at (h : OkGn W Γ E F (.nx ρ, acc) Z) (R : Rel W Γ F ρ σ H) (r : Reps W F ys acc) : Z.nx ys σ H := h F σ H ys Sub.rfl R r
theorem gs_weak {st : Stmt} {t t' : TGn} (h : GS X st t) (w : ∀ Z ys σ H, t' Z ys σ H → t Z ys σ H) : GS X st t' := ⟨fun A S ip R n ys s₀ c fs K J gd lv s σ H D g hn k hI ht => h.run A S ip R n ys s₀ c fs K J gd lv s σ H D g hn k hI (w _ _ _ _ ht)⟩
theorem gss_weak {st : List Stmt} {t t' : TGn} (h : GSs X st t) (w : ∀ Z ys σ H, t' Z ys σ H → t Z ys σ H) : GSs X st t' := ⟨fun A S ip R n ys s₀ c fs K J gd lv s σ H D g hn k hI ht => h.run A S ip R n ys s₀ c fs K J gd lv s σ H D g hn k hI (w _ _ _ _ ht)⟩
theorem gs_never {st : Stmt} : GS X st (fun _ _ _ _ => False) := ⟨fun _ _ _ _ _ _ _ _ _ _ _ _ _ _ _ _ _ _ _ _ _ h => h.elim⟩
theorem gs_zero {st : Stmt} {s : Gs} : GS X st (rdGn W p E 0 s) := gs_weak gs_never fun Z ys σ H ⟨_, _, _, _, _, _, k⟩ => by unfold exG at k; exact k
theorem gs_nev {st : Stmt} : GS X st (rdGn W p E (n + 1) .nev) := gs_weak gs_never fun Z ys σ H ⟨_, _, _, _, _, _, k⟩ => by unfold exG at k; exact k
theorem gs_plD {st : Stmt} {s : S} (h : PS X st (rdSt W p E n s)) : GS X st (rdGn W p E (n + 1) (.pl s)) := gs_weak (gs_ps h) fun Z ys σ H ⟨Γ, ρ, F, acc, R, rp, k⟩ => by
  unfold exG at k
  dsimp only at k
  refine ⟨Γ, ρ, F, R, ?_⟩
  revert k
  cases ex p n s ρ with
  | nx ρ1 => exact fun k F' σ' H' s' R' => k F' σ' H' ys s' R' (Reps.mono s' _ rp)
  | bk ρ1 => exact fun k F' σ' H' s' R' => k F' σ' H' ys s' R' (Reps.mono s' _ rp)
  | ct ρ1 => exact fun k F' σ' H' s' R' => k F' σ' H' ys s' R' (Reps.mono s' _ rp)
  | rt r ρ1 => exact fun k => k.elim
  | exc c d ρ1 => exact fun k => k
  | bad => exact fun k => k.elim
theorem gs_yldD {e : Expr} {c : C} {yp pos : Pos} (he : PE X e (rd W p E n c)) (hco : X.env.scope.isCoroutine = false) (hi : interactive X.env = false) : GS X (.Expr (.Yield (some e) yp) pos) (rdGn W p E (n + 1) (.yld c)) := gs_weak (gs_yield he hco hi) fun Z ys σ H ⟨Γ, ρ, F, acc, R, rp, k⟩ => by
  unfold exG at k
  dsimp only at k
  by_cases g : fits (acc.length + 1) = true
  · rw [if_pos g] at k
    have hl := fits_le g
    refine ⟨by rw [rp.length]; exact hl, ?_⟩
    have h2 : Ok W Γ E σ F ((hold (ev p n) c ρ).bind fun d ρ1 => O.ok d ρ1) fun d ρ1 F1 H1 => ∀ x, Rep W F1 x d → Z.nx (ys ++ [x]) σ H1 := by
      revert k
      cases hold (ev p n) c ρ with
      | ok d ρ1 => exact fun k F1 H1 s1 R1 x hx => k F1 σ H1 (ys ++ [x]) s1 R1 (Reps.append (Reps.mono s1 _ rp) (Reps.cons hx Reps.nil))
      | exc cc d ρ1 => exact fun k F1 H1 cls dx s1 R1 => k F1 σ H1 cls dx s1 R1
      | bad => exact fun k => k
    obtain ⟨Γ1, ρ1, F1, R1, k1⟩ := rd_hold R h2
    exact ⟨Γ1, ρ1, F1, R1, k1.imp fun r ρ2 F2 H2 s2 R2 k x hx => by
      obtain ⟨d, ρ3, F3, R3, s3, rx, k3⟩ := k x hx
      exact k3.at R3 x rx⟩
  · rw [if_neg g] at k
    exact k.elim
theorem OkGn.flT {t : T} {f : Bool → En → Pv.F × List D} (h : OkGn W Γ E F (match evT p n t ρ with | .ok b ρ1 => f b ρ1 | .exc c d ρ1 => (.exc c d ρ1, acc) | .bad => (.bad, acc)) Z) : Ok W Γ E σ F (evT p n t ρ) fun b ρ1 F1 _ => OkGn W Γ E F1 (f b ρ1) Z := by
  revert h
  cases evT p n t ρ with
  | ok b ρ1 => exact fun k F1 H1 s1 R1 => OkGn.sub k s1
  | exc c d ρ1 => exact fun k F1 H1 cls dx s1 R1 => k F1 σ H1 cls dx s1 R1
  | bad => exact fun k => k
theorem gss_nilD : GSs X [] (rdGns W p E n []) := gss_weak gss_nil fun Z ys σ H ⟨Γ, ρ, F, acc, R, rp, k⟩ => OkGn.at k R rp
theorem gss_consD {st : Stmt} {rest : List Stmt} {s : Gs} {ss : List Gs} (h1 : GS X st (rdGn W p E n s)) (h2 : GSs X rest (rdGns W p E n ss)) : GSs X (st :: rest) (rdGns W p E n (s :: ss)) := gss_weak (gss_cons h1 h2) fun Z ys σ H ⟨Γ, ρ, F, acc, R, rp, k⟩ => by
  refine ⟨Γ, ρ, F, acc, R, rp, ?_⟩
  unfold genL at k
  revert k
  rcases hs : exG p n s ρ acc with ⟨f, a⟩
  cases f with
  | nx ρ1 => exact fun k F' σ' H' ys' s' R' r' => ⟨Γ, ρ1, F', a, R', r', OkGn.sub k s'⟩
  | bk ρ1 => exact fun k => k
  | ct ρ1 => exact fun k => k
  | rt r ρ1 => exact fun k => k
  | exc c d ρ1 => exact fun k => k
  | bad => exact fun k => k
theorem gs_condD {t : Expr} {a b : List Stmt} {ct : T} {ca cb : List Gs} {pos : Pos} (ht : PT X t (rdT W p E n ct)) (ha : GSs X a (rdGns W p E n ca)) (hb : GSs X b (rdGns W p E n cb)) : GS X (.If t a b pos) (rdGn W p E (n + 1) (.cond ct ca cb)) := gs_weak (gs_if ht ha hb) fun Z ys σ H ⟨Γ, ρ, F, acc, R, rp, k⟩ => by
  unfold exG at k
  have k : OkGn W Γ E F (match evT p n ct ρ with | .ok b ρ1 => (match b with | true => genL (exG p n) ca ρ1 acc | false => genL (exG p n) cb ρ1 acc) | .exc c d ρ1 => (.exc c d ρ1, acc) | .bad => (.bad, acc)) Z := by
    revert k
    dsimp only
    cases evT p n ct ρ with
    | ok b ρ1 => cases b <;> exact fun k => k
    | exc c d ρ1 => exact fun k => k
    | bad => exact fun k => k
  refine ⟨Γ, ρ, F, R, (OkGn.flT (f := fun b ρ1 => match b with | true => genL (exG p n) ca ρ1 acc | false => genL (exG p n) cb ρ1 acc) k).imp fun b ρ1 F1 H1 s1 R1 k1 => ?_⟩
  cases b with
  | true => exact ⟨Γ, ρ1, F1, acc, R1, Reps.mono s1 _ rp, k1⟩
  | false => exact ⟨Γ, ρ1, F1, acc, R1, Reps.mono s1 _ rp, k1⟩
def genS (b k : En → List D → Pv.F × List D) (acc : List D) (x : Bool) (ρ1 : En) : Pv.F × List D := match x with
  | true => (match b ρ1 acc with
    | (.nx ρ2, a) => k ρ2 a
    | (.ct ρ2, a) => k ρ2 a
    | (.bk ρ2, a) => (.nx ρ2, a)
    | r => r)
  | false => (.nx ρ1, acc)
theorem gs_whlD {t : Expr} {body : List Stmt} {ct : T} {cb : List Gs} {pos : Pos} (hp : PassesOwn (model X.prog X.w) X.A X.env X.xe) (ht : PT X t (rdT W p E n ct)) (hb : GSs X body (rdGns W p E n cb)) : GS X (.While t body [] pos) (rdGn W p E (n + 1) (.whl ct cb)) := gs_weak (gs_while hp ht hb) fun Z ys σ H ⟨Γ, ρ, F, acc, R, rp, k⟩ => by
  unfold exG at k
  dsimp only at k
  refine ⟨fun m ys σ H => ∃ ρc Fc ac, Rel W Γ Fc ρc σ H ∧ Reps W Fc ys ac ∧ OkGn W Γ E Fc (genW (evT p n ct) (genL (exG p n) cb) m ρc ac) Z, ⟨most, ρ, F, acc, R, rp, k⟩, ?_⟩
  rintro m ys σc Hc ⟨ρc, Fc, ac, Rc, rc, hT⟩
  cases m with
  | zero => exact hT.elim
  | succ m =>
    unfold genW at hT
    have hT : OkGn W Γ E Fc (match evT p n ct ρc with | .ok b ρ1 => genS (genL (exG p n) cb) (genW (evT p n ct) (genL (exG p n) cb) m) ac b ρ1 | .exc c d ρ1 => (.exc c d ρ1, ac) | .bad => (.bad, ac)) Z := by
      revert hT
      cases evT p n ct ρc with
      | ok b ρ1 => cases b <;> exact fun k => k
      | exc c d ρ1 => exact fun k => k
      | bad => exact fun k => k
    refine ⟨Γ, ρc, Fc, Rc, (OkGn.flT (f := genS (genL (exG p n) cb) (genW (evT p n ct) (genL (exG p n) cb) m) ac) hT).imp fun b ρ1 F1 H1 s1 R1 k => ?_⟩
    cases b with
    | false => rw [if_neg (by decide)]; exact OkGn.at k R1 (Reps.mono s1 _ rc)
    | true =>
      rw [if_pos rfl]
      refine ⟨fun ys' σ' H' => ∃ ρc Fc ac, Rel W Γ Fc ρc σ' H' ∧ Reps W Fc ys' ac ∧ OkGn W Γ E Fc (genW (evT p n ct) (genL (exG p n) cb) m ρc ac) Z, fun ys' σ' H' k' => ⟨m, Nat.lt_succ_self m, k'⟩, ?_⟩
      refine ⟨Γ, ρ1, F1, ac, R1, Reps.mono s1 _ rc, ?_⟩
      revert k
      unfold genS
      dsimp only
      rcases hs : genL (exG p n) cb ρ1 ac with ⟨f, a⟩
      cases f with
      | nx ρ2 => exact fun k F' σ' H' ys' s' R' r' => ⟨ρ2, F', a, R', r', OkGn.sub k s'⟩
      | ct ρ2 => exact fun k F' σ' H' ys' s' R' r' => ⟨ρ2, F', a, R', r', OkGn.sub k s'⟩
      | bk ρ2 => exact fun k => k
      | rt r ρ2 => exact fun k => k
      | exc c d ρ2 => exact fun k => k
      | bad => exact fun k => k
end
end Pv
end PvGe_
section PvGl_
set_option maxRecDepth 100000
/-! PvGl: a generator def's promise, list() of its call. -/
namespace Pv
open PySem PySem.Spec PyProof.Rows L2 GenW
def EndGn (W : Wd) (F H : Hp) (vs : List V) (as : List Ar) (Q : List V → Hp → Prop) (E : XK) : Out → Prop
  | .ret (.own (.lst acc)) out => ∀ F' H' ys, After W F H vs as F' H' out → Reps W F' ys acc → Q ys H'
  | .exc c d out => ∀ F' H' cls dx, After W F H vs as F' H' out → XRep W F' H' cls dx c d → E cls dx H'
  | _ => False
def spGn (W : Wd) (p : Pr) (f : Nat) : SpG := fun vs H Q E => ∃ F as, CallOk W F H vs as ∧ EndGn W F H vs as Q E (p.cal f as)
/-- no own exception ends an iterator -/
def NoSt (W : Wd) : Prop := ∀ c C, W.clA c = some C → PySem.W.subIn W.K (.ref C) (.type "StopIteration") = some false
/-- .. so an exception's promise may tell it -/
def stE (W : Wd) (E : XK) : XK := fun cls d H => E cls d H ∧ PySem.W.subIn W.K cls (.type "StopIteration") = some false
theorem stE_no {W : Wd} {E : XK} : NoStop W.K (stE W E) := fun _ _ _ h => h.2
theorem passes_stE {W : Wd} {E : XK} {X : Cx} (h : Passes (L2.CX W.prog W.w) X E) : Passes (L2.CX W.prog W.w) X (stE W E) := fun pins σ H s e s' I hc => by
  refine h pins σ H s e s' I ?_
  obtain ⟨a, B, H', cls, d, z1, fl, z2, ub, z3, z4, z5, z6⟩ := hc
  exact ⟨a, B, H', cls, d, z1, fl, z2, ub, z3, z4, z5, z6.1⟩
theorem clsOf {W : Wd} {F H : Hp} {cls : Value} {dx : Option Addr} {c : Nat} {d : Option Pv.D} (hn : NoSt W) (h : XRep W F H cls dx c d) : PySem.W.subIn W.K cls (.type "StopIteration") = some false := by
  obtain ⟨⟨C, hC, rfl⟩, _⟩ := h
  exact hn c C hC
theorem EndGn.to {W : Wd} {c : Frm} {F H : Hp} {vs : List V} {as : List Ar} {Q : List V → Hp → Prop} {E : XK} {x : Out} (h : EndGn W F H vs as Q E x) : EndGn (W.at c) F H vs as Q E x := by
  cases x with
  | ret r out =>
    cases r with
    | own d =>
      cases d with
      | lst acc => exact fun F' H' ys A k => h F' H' ys A.back (by rwa [reps_at] at k)
      | _ => exact h
    | _ => exact h
  | exc cc d out => exact fun F' H' cls dx A k => h F' H' cls dx A.back (by rwa [xrep_at] at k)
  | bad => exact h
section
variable {W : Wd} {P : Prg} {l f : Nat} {g : Gn} {N : List Str}
theorem gbody_ok {p : Pr} {n : Nat} {F H : Hp} {vs : List V} {as : List Ar} {Q : List V → Hp → Prop} {E : XK} (c : CallOk W F H vs as) (h : EndGn W F H vs as Q E (runG p n g as)) (hN : N.length = g.slots) (ha : g.args ≤ g.slots) :
    as.length = g.args ∧ rdGns W p E n g.body { nx := fun ys _ H' => Q ys H', rt := fun ys v H' => v = .non ∧ Q ys H' } [] (L2.start N vs) H := by
  unfold runG at h
  by_cases el : as.length = g.args
  · rw [if_pos el] at h
    refine ⟨el, gm0 F H vs as, _, F, [], c.rel (m := g.slots - g.args) (N := N) (by rw [hN, el]) (by rw [hN, el]; exact ha), Reps.nil, ?_⟩
    generalize genL (exG p n) g.body (as.map arS ++ List.replicate (g.slots - g.args) .emp) [] = r at h ⊢
    obtain ⟨x, acc⟩ := r
    revert h
    cases x with
    | nx ρ => exact fun h F' σ' H' ys s R r => h F' H' ys (After.of c R) r
    | bk ρ => exact fun h => h.elim
    | ct ρ => exact fun h => h.elim
    | rt r ρ => exact fun h => h.elim
    | exc cc d ρ => exact fun h F' σ' H' cls dx s R k => h F' H' cls dx (After.of c R) k
    | bad => exact fun h => h
  · rw [if_neg el] at h; exact h.elim
theorem cal_gen (hf : P.fns[f]? = none) (hg : P.gens[f - P.fns.length]? = some g) (as : List Ar) : (P.pr (P.cal (l + 1))).cal f as = runG (P.pr (P.cal l)) fuel g as := by
  show P.cal (l + 1) f as = _
  unfold Prg.cal
  rw [hf]
  show genC P.gens _ _ _ as = _
  unfold genC
  rw [hg]
/-- a generator def of the program keeps its promise -/
theorem gen_G {sb : Scope → Expr → C → Prop} {k : Nat} {a : Addr} {name qual : Str} {params : Arguments} {body : List Stmt} {scope : Scope} {dV kV doc pm cdv ct oc : Value} {an od : Option Addr} {osl : Array (Option Value)} {ps : List Str}
    (hf : P.fns[f]? = none) (hg : P.gens[f - P.fns.length]? = some g) (lk : W.K.lookup a = some ⟨oc, od, .func (PySem.W.fnOf name qual params body scope dV kV doc pm an cdv ct), osl⟩) (hcd : PySem.W.codeIn W.K cdv qual = true) (S : GScope N ps scope)
    (hN : N.length = g.slots) (hp : ps.length = g.args) (ha : g.args ≤ g.slots)
    (hbody : ∀ (X : Cx) (E : XK), XOk W N scope scope k false X → XBody W E X → interactive X.env = false → GSs X body (rdGns (W.at (frOf X sb)) (P.pr (P.cal l)) E fuel g.body)) :
    GFn W.prog W.w W.K W.mg W.base (k + 1) a (PySem.W.fnOf name qual params body scope dV kV doc pm an cdv ct) ps (spGn W (P.pr (P.cal (l + 1))) f) := by
  have len : ∀ vs H Q E, spGn W (P.pr (P.cal (l + 1))) f vs H Q E → vs.length = ps.length := fun vs H Q E ⟨F, as, c, h⟩ => by
    rw [cal_gen hf hg] at h
    obtain ⟨e, _⟩ := gbody_ok (N := N) c h hN ha
    rw [c.len, e, hp]
  refine gfn_of lk hcd S len fun A outer s H vs Q E pn hr ⟨F, as, c, h⟩ => ?_
  rw [cal_gen hf hg] at h
  refine ⟨_, hbody (gcxOf W.prog W.w W.K W.mg W.base N qual scope a cdv A outer s H E pn) E ?_ ?_ (by show interactive (envOfC qual scope s.heap.objs.size a cdv) = false; simp [interactive, Env.blockKind, envOfC, S.kind]), (gbody_ok (N := N) (CallOk.to c) (EndGn.to h) hN ha).2⟩
  · exact { prog := rfl, w := rfl, K := rfl, mg := rfl, base := rfl, room := hr, gd := fun z => (nomatch z), nN := rfl, sc := rfl, nd := S.nd, calm := rfl, fn := fun _ _ => rfl }
  · exact ⟨takes_gcx, owns_gcx, passes_call takes_gcx fun _ _ _ _ z => z⟩
end
/-- a generator def at its level -/
structure GnAt (W : Wd) (p : Pr) (k : Nat) (f : Nat) (a : Addr) : Prop where
  keep : PySem.W.keepIn W.K (.ref a) = true
  fn : ∃ fd ps, GFn W.prog W.w W.K W.mg W.base k a fd ps (spGn W p f) ∧ L2.Binds W.K fd ps []
  out : ∀ as, p.cal f as = .bad ∨ (∃ acc out, p.cal f as = .ret (.own (.lst acc)) out) ∨ ∃ c d out, p.cal f as = .exc c d out
section
variable {W : Wd} {p : Pr} {E : XK} {n k : Nat} {gd : Bool} {X : Cx} {f : Nat} {a : Addr}
theorem after_new {F H F' H' : Hp} {vs : List V} {as : List Ar} {out : List (Option D)} {q : Addr} {o : HO} (A : After W F H vs as F' H' out) (hq : H' q = none) (ho : Nt o) : After W F H vs as F' (upd H' q o) out where
  sub := A.sub
  fh := fun b u e => by
    have := (A.fh b u e).1
    rw [upd_ne (fun z => by rw [z, hq] at this; exact nomatch this)]
    exact A.fh b u e
  fnew := A.fnew
  kp := fun b u e n m => by
    have := A.kp b u e n m
    rw [upd_ne (fun z => by rw [z, hq] at this; exact nomatch this)]
    exact this
  dmn := fun b hb => A.dmn b fun u e => by
    by_cases z : b = q
    · rw [z, hq] at e; exact nomatch e
    · exact hb u (by rw [upd_ne z]; exact e)
  tb := A.tb.ext fun b u e => by
    rw [upd_ne (fun z => by rw [z, hq] at e; exact nomatch e)]
    exact e
  out := fun j l d e => by
    obtain ⟨q', o', d', h1, h2, h3, h4, h5, h6⟩ := A.out j l d e
    exact ⟨q', o', d', h1, h2, by rw [upd_ne (fun z => by rw [z, hq] at h3; exact nomatch h3)]; exact h3, h4, h5, h6⟩
theorem sp_gen (hn : NoSt W) (G : GnAt W p k f a) {vs : List V} {H : Hp} {Q : VK} (h : spOf W p f vs H Q E) : spGn W p f vs H (fun out H2 => ∀ q, H2 q = none → Q (.ref q) (upd H2 q (.lst out))) (stE W E) := by
  obtain ⟨F, as, c, h⟩ := h
  refine ⟨F, as, c, ?_⟩
  rcases G.out as with e | ⟨acc, out, e⟩ | ⟨cc, d, out, e⟩
  · rw [e] at h; exact h.elim
  · rw [e] at h ⊢
    intro F' H' ys A rp q hq
    refine h F' _ (.ref q) (after_new A hq ⟨fun _ z => (nomatch z), fun _ z => (nomatch z)⟩) ⟨q, .lst ys, rfl, upd_same, ⟨ys, rfl, rp⟩, ?_, ?_⟩
    · cases eF : F' q with
      | none => rfl
      | some u => have := (A.fh q u eF).1; rw [hq] at this; exact nomatch this
    · exact A.dmn q fun u e => by rw [hq] at e; exact nomatch e
  · rw [e] at h ⊢
    exact fun F' H' cls dx A hx => ⟨h F' H' cls dx A hx, clsOf hn hx⟩
/-- list(x(..)) of a generator def -/
theorem pe_glD {x nm : Str} {e0 : Expr} {es : List Expr} {cs : List C} {p1 p2 pos pos' : Pos} (hn : NoSt W) (hX : XW W (k + 3) gd X) (Gn : GnAt W p k f a) (hgl : Gl X x) (hm : W.mg x = some (.ref a)) (hx : Passes (L2.CX W.prog W.w) X E) (hd : (x == ("__debug__" : Str)) = false)
    (hs : (e0 :: es).all notStar = true) (ha : PA X (e0 :: es) (rdA W p E n cs)) (hgn : Gl X nm) (hmn : W.mg nm = none) (hv : bootBuiltins nm = some (.type "list")) (hnm : nm ≠ "__name__") (hdb : (nm == ("__debug__" : Str)) = false) :
    PE X (.Call (.Name nm p2) [.Call (.Name x p1) (e0 :: es) [] pos'] [] pos) (rd W p E (n + 1) (.call f cs)) := by
  obtain ⟨fd, ps, G, hb⟩ := Gn.fn
  rw [List.all_cons, Bool.and_eq_true] at hs
  have G' : GFn X.prog X.w X.K X.mg X.base k a fd ps (spGn W p f) := by rw [hX.prog, hX.w, hX.K, hX.mg, hX.base]; exact G
  have pg : PGen X k (.Call (.Name x p1) (e0 :: es) [] pos') (tCallG (spGn W p f) [] (stE W E) (rdA W p E n cs)) (stE W E) :=
    pgen_call G' (hX.room.mono (by omega)) hgl (by rw [hX.mg]; exact hm) (hX.K ▸ Gn.keep) (hX.K ▸ hb) .nil ha hd (star_cons es _ hs.1) (star_none hs.2)
  have pass : Passes (L2.CX X.prog X.w) X (stE W E) := by rw [hX.prog, hX.w]; exact passes_stE hx
  have ns : NoStop X.K (stE W E) := by rw [hX.K]; exact stE_no
  refine PE.weak (pe_listG pg pass ns hX.room hgn (by rw [hX.mg]; exact hmn) hv hnm hdb (star_cons [] _ rfl)) fun σ H Q h => ?_
  have h := rd_callD h
  obtain ⟨Γ, ρ, F, R, h⟩ := h
  refine ⟨Γ, ρ, F, R, h.imp fun rs ρ1 F1 H1 s1 R1 h1 vs hvs => ?_⟩
  show spGn W p f (vs ++ []) _ _ _
  rw [List.append_nil]
  exact sp_gen hn Gn (h1 vs hvs)
end
end Pv
end PvGl_
section PvX_
set_option maxRecDepth 100000
/-! PvX: an own exception whose __init__ says super().__init__(text), then keeps what it got. -/
namespace Pv
open PySem PySem.Spec PyProof.Rows L2 PySem.W
/-- the body of such an __init__ -/
def payBody (fld sn gn msg : Str) (j : Nat) (p1 p2 p3 p4 p5 p6 p7 p8 p9 p10 : Pos) : List Stmt :=
  [.Expr (.Call (.Attribute (.Call (.Name "super" p1) [] [] p2) "__init__" p3) [.Constant (.str msg) j p4] [] p5) p6, .Assign [.Attribute (.Name sn p7) fld p8] (.Name gn p9) p10]
/-- what the written part says of the class and its __init__ -/
structure PayF (prog : Program) (K : Frag) (C fI cda cc : Addr) (B i newId : String) (bmB : List Value) (fld : Str) : Prop where
  FB : ExcBaseFacts B newId i bmB
  SF : StoreFacts B bmB "object.__setattr__" "object"
  KF : KxsFacts B i
  q : excInitIn K C bmB newId = true
  ini : findIn K (.ref C) "__init__" = some (some (.ref fI))
  isf : isFn K (.ref fI) = true
  kC : keepIn K (.ref C) = true
  lk : ∃ (oc : Value) (od : Option Addr) (osl : Array (Option Value)) (qual sn gn msg : Str) (params : Arguments) (scope : Scope) (dV kV doc pm ct : Value) (an : Option Addr) (j : Nat) (p1 p2 p3 p4 p5 p6 p7 p8 p9 p10 : Pos) (ar : Arg),
    K.lookup fI = some ⟨oc, od, .func (ksFn "__init__" qual params (payBody fld sn gn msg j p1 p2 p3 p4 p5 p6 p7 p8 p9 p10) scope dV kV doc pm an (.ref cda) ct cc), osl⟩ ∧ codeIn K (.ref cda) qual = true ∧
    (∀ a b : Value, bindArgs (ksFn "__init__" qual params (payBody fld sn gn msg j p1 p2 p3 p4 p5 p6 p7 p8 p9 p10) scope dV kV doc pm an (.ref cda) ct cc) ⟨[a, b], []⟩ = pure [(sn, a), (gn, b)]) ∧
    scope.kind = .function ∧ scope.isCoroutine = false ∧ scope.isGenerator = false ∧ (∀ x ∈ scope.names, x.2 ≠ .cell) ∧ scope.names.lookup sn = some .local ∧ scope.names.lookup gn = some .local ∧
    scope.names.lookup ("super" : Str) = some .globalImplicit ∧ scope.names.lookup ("__class__" : Str) = some .free ∧ (params.posonlyargs ++ params.args).head? = some ar ∧ ar.arg = sn ∧ sn ≠ gn ∧ (sn == ("__debug__" : Str)) = false ∧ (gn == ("__debug__" : Str)) = false ∧ (p3.endLine == p5.line) = true
  cod : ∃ (cl : Value) (cd : Option Addr) (vs : Array Value) (csl : Array (Option Value)) (file : Str) (tf : Tok), K.lookup cda = some ⟨cl, cd, .fields vs, csl⟩ ∧ vs[2]? = some (.str file tf) ∧ ((prog.main.file : Str) == file) = true
  top : (prog.main.scope.names.lookup ("super" : Str)).isSome = false
  cel : ∃ (cl : Value) (cd : Option Addr) (csl : Array (Option Value)), K.lookup cc = some ⟨cl, cd, .cell (some (.ref C)), csl⟩
  opq : nsIn K cStatics "thirdparty.any" = some none
  sin : ks_superIn K C C "__init__" = some (some (.builtin i))
  sub : subIn K (.ref C) (.type B) = some true
  mro : mroIn K C (.ref C) = some true
  sta : findIn K (.ref C) "__setattr__" = some (some (.builtin "object.__setattr__"))
  ovr : excOver K C bmB = true
  tak : takerIn K C fld = some none
  hdc : hasDictIn K C = true
  bex : subIn K (.ref C) (.type "BaseException") = some true
  typ : typeIn K (.ref C) = some (.type "type")
theorem sup_eq {o : Expr} {name : Str} {c : Const} {j : Nat} {apos p4 pos : Pos} {env : Env} (hl : (apos.endLine == pos.line) = true) : eval (.Call (.Attribute o name apos) [.Constant c j p4] [] pos) env = (do
      let ov ← attributeBase o name env (eval o env)
      standAt apos.atName
      let (f, first) ← holding [ov] (getMethod ov name (do return (← importBound o env).getD true))
      callWith pos f first (backTo pos (starEach [.Constant c j p4] env)) []) := by
  have h : methodCallPos true o env apos pos = pure pos := by unfold methodCallPos; rw [hl]; rfl
  show (do
    let ov ← attributeBase o name env (eval o env)
    standAt apos.atName
    methodCall o name apos pos env ov 1 (backTo pos (starEach [.Constant c j p4] env)) []) = _
  have e : ∀ ov, methodCall o name apos pos env ov 1 (backTo pos (starEach [.Constant c j p4] env)) [] = (do
      let (f, first) ← holding [ov] (getMethod ov name (do return (← importBound o env).getD true))
      callWith pos f first (backTo pos (starEach [.Constant c j p4] env)) []) := fun ov => by
    show (do
      let (f, first) ← holding [ov] (getMethod ov name (do return (← importBound o env).getD true))
      let callPos ← methodCallPos true o env apos pos
      callWith callPos f first (backTo pos (starEach [.Constant c j p4] env)) []) = _
    rw [h]
    simp only [pure_bind]
  simp only [e]
theorem ns1_one {h : Heap} {a : Addr} {hs : Int} {x : Str} {t : Tok} {v : Value} {n : Nat} (e : h.get? a = some (dictOf [⟨hs, .str x t, v⟩] n)) : h.Ns1 a fun y => if y = x then some v else none := by
  refine ⟨_, _, _, e, rfl, ?_, ?_, fun name => ?_⟩
  · intro b hb
    have : b = ⟨hs, .str x t, v⟩ := by simpa using hb
    subst this; exact ⟨x, t, rfl⟩
  · unfold UniqKeys
    exact List.pairwise_singleton _ _
  · unfold nsFind findBy
    by_cases c : name = x
    · subst c; simp [Value.isStr]
    · have c' : ¬ x = name := fun z => c z.symm
      simp [Value.isStr, c, c']
theorem made_pay {X : Cx} {pins : List (Addr × Obj)} {σ : L2.St} {H : Hp} {Q : XK} {s1 : Shared} {C fI cda cc : Addr} {B i newId : String} {bmB : List Value} {fld : Str} {v : V} {u : Value} (PF : PayF X.prog X.K C fI cda cc B i newId bmB fld) (hsup : X.mg "super" = none) (hroom : X.A.depth + 2 < recursionLimit)
    (I : L2.Inv X pins σ H s1) (r : L2.RelV v u) (q : ∀ d, H d = none → Q (.ref C) (some d) (upd H d (.xd [(fld, v)]))) : wpAny (model X.prog X.w) X.A (call (.ref C) [u]) (MkP X pins σ Q) X.xe s1 := by
  obtain ⟨oc, od, osl, qual, sn, gn, msg, params, scope, dV, kV, doc, pm, ct, an, j, p1, p2, p3, p4, p5, p6, p7, p8, p9, p10, ar, lk, hcd, hbind, hk, hco, hgen, hcell, lsn, lgn, lsup, lcls, har, harn, hne, hd1, hd2, hline⟩ := PF.lk
  obtain ⟨nm, N', qn, bs, bm, hdct, sn', sub, ab, col, dd, k0, k1, k2, k3, k5, hC, hT⟩ := excInit_of I.kIn PF.q
  obtain ⟨oI, hoI, hcI⟩ : ∃ oI, s1.heap.get? fI = some oI ∧ oI.cls = .type "function" := by
    obtain ⟨o, ho, hc⟩ := Option.map_eq_some_iff.mp (show (X.K.lookup fI).map (·.cls) = some (.type "function") from beq_iff_eq.mp PF.isf)
    exact ⟨o, I.kIn _ _ ho, hc⟩
  have hlook : Looks (model X.prog X.w) s1.heap (typeLookup (.ref C) "__init__") (some (.ref fI)) := looks_findIn I.kIn PF.ini
  have hlim := I.nolimit
  have KI := I.kIn
  have hfr : ∀ x c, s1.heap.get? x = some c → x < s1.heap.objs.size := fun x c e => Heap.lt_size e
  obtain ⟨hp, g, d, t, os⟩ := s1
  refine wpAny_call (PX.call_own PF.FB hT hC hlook (fun self => exc_bind hoI hcI self) (rest := [u]) (by show 1 ≤ sizeLine; decide) ?_)
  -- the exception's place, its args' place
  let e : Addr := hp.objs.size + 1
  let t0 : Addr := hp.objs.size
  have grow : ∀ b o, hp.get? b = some o → ((hp.push (kdv_tup [u])).push (PX.excO C hp.objs.size)).get? b = some o := fun b o z => Heap.get?_push_of_some _ (Heap.get?_push_of_some _ z)
  have K2 : X.K.In ((hp.push (kdv_tup [u])).push (PX.excO C hp.objs.size)) := KI.keeps grow
  have sz1 : (hp.push (kdv_tup [u])).objs.size = hp.objs.size + 1 := Heap.size_push ..
  have sz2 : ((hp.push (kdv_tup [u])).push (PX.excO C hp.objs.size)).objs.size = hp.objs.size + 2 := by rw [Heap.size_push, sz1]
  have ge : ((hp.push (kdv_tup [u])).push (PX.excO C hp.objs.size)).get? e = some (PX.excO C hp.objs.size) := by
    have := Heap.get?_push_size (hp.push (kdv_tup [u])) (o := PX.excO C hp.objs.size) rfl
    rw [sz1] at this; exact this
  have gt : ((hp.push (kdv_tup [u])).push (PX.excO C hp.objs.size)).get? t0 = some (kdv_tup [u]) := Heap.get?_push_of_some _ (Heap.get?_push_size _ rfl)
  refine ks_codeAny_call_defAt (fd := ksFn "__init__" qual params (payBody fld sn gn msg j p1 p2 p3 p4 p5 p6 p7 p8 p9 p10) scope dV kV doc pm an (.ref cda) ct cc) (body := payBody fld sn gn msg j p1 p2 p3 p4 p5 p6 p7 p8 p9 p10) (binds := [(sn, .ref e), (gn, u)])
    (by show X.A.depth + 1 < recursionLimit; omega) (K2 _ _ lk) rfl (hlim.keeps grow) (codeRec_of K2 hcd) rfl (BindsTo.of_eq (hbind _ _)) hcell (fun y hy => ?_) (fun h1 hns hk1 => ?_) hco hgen hk
  · have hy : y = (sn, .ref e) ∨ y = (gn, u) := by simpa using hy
    rcases hy with rfl | rfl
    · exact lsn
    · exact lgn
  rw [sz2] at hns
  -- the ledger over the heap at the call
  have F0 : Fr hp (hp.objs.size + 2) h1 (fun x => [(sn, Value.ref e), (gn, u)].reverse.lookup x) := ⟨hns, fun b o z => hk1 b o (grow b o z), by omega⟩
  have none_ : ∀ b, hp.objs.size ≤ b → hp.get? b = none := fun b hb => by
    cases z : hp.get? b with
    | none => rfl
    | some o => exact absurd (Heap.lt_size z) (Nat.not_lt.mpr hb)
  have N0 : News hp (hp.objs.size + 2) h1 [(e, excObj C t0 none .none), (t0, excTup [u])] := fun y hy => by
    have hy : y = (e, excObj C t0 none .none) ∨ y = (t0, excTup [u]) := by simpa using hy
    rcases hy with rfl | rfl
    · exact ⟨hk1 _ _ ge, by show hp.objs.size + 1 ≠ _; omega, none_ _ (by show _ ≤ hp.objs.size + 1; omega)⟩
    · exact ⟨hk1 _ _ gt, by show hp.objs.size ≠ _; omega, none_ _ (Nat.le_refl _)⟩
  have vsn : [(sn, Value.ref e), (gn, u)].reverse.lookup sn = some (.ref e) := by
    show (match sn == gn with | true => some u | false => List.lookup sn [(sn, Value.ref e)]) = _
    rw [beq_eq_false_iff_ne.mpr hne]
    show (match sn == sn with | true => some (Value.ref e) | false => none) = _
    rw [beq_self_eq_true]
  have vgn : [(sn, Value.ref e), (gn, u)].reverse.lookup gn = some u := by
    show (match gn == gn with | true => some u | false => List.lookup gn [(sn, Value.ref e)]) = _
    rw [beq_self_eq_true]
  obtain ⟨cl, cd, vs, csl, file, tf, hcode, hvs, hfile⟩ := PF.cod
  obtain ⟨cl2, cd2, csl2, hcel⟩ := PF.cel
  obtain ⟨mb, hb1, hb2⟩ := I.mod.blt
  have K1 : X.K.In h1 := KI.keeps F0.keep
  obtain ⟨cdD, hD⟩ : ∃ cdD, clsIn X.K C = some cdD := by
    cases z : clsIn X.K C with
    | none => have := PF.ovr; unfold excOver at this; rw [z] at this; exact nomatch this
    | some c => exact ⟨c, rfl⟩
  have envk : (callEnv (ksFn "__init__" qual params (payBody fld sn gn msg j p1 p2 p3 p4 p5 p6 p7 p8 p9 p10) scope dV kV doc pm an (.ref cda) ct cc) ((hp.push (kdv_tup [u])).push (PX.excO C hp.objs.size)).objs.size fI) = ksEnv qual scope (hp.objs.size + 2) fI (.ref cda) cc := by rw [sz2]; rfl
  rw [envk]
  have mglob : h1.Ns mainGlobals X.mg := I.mod.glob.keeps fun b o z => F0.keep b o (I.bk b o z)
  have mblt : h1.Ns builtinsNs mb := hb1.keeps fun b o z => F0.keep b o (I.bk b o z)
  have hq0 : (hp.objs.size + 2) = (hp.objs.size + 2) := rfl
  refine ks_wpAt_execs_cons (ks_wpAt_Expr_any (ks_wpAt_MethodCall (ks_wpAt_super_base (env := ksEnv qual scope (hp.objs.size + 2) fI (.ref cda) cc) lsup lcls rfl rfl (K1 _ _ lk) rfl har rfl (K1 _ _ hcode) rfl hvs hfile PF.top ?_) (sup_eq hline)) ?_)
  · obtain ⟨oD, hD1, hD2⟩ : ∃ oD, h1.get? C = some oD ∧ oD.data = .cls cdD := by
      unfold clsIn at hD
      split at hD
      · rename_i c0 d0 cd' sl0 ho
        cases hD
        exact ⟨_, K1 _ _ ho, rfl⟩
      · cases hD
    have I0 : InstAt h1 e (excObj C t0 none .none) C none := InstAt.of_exc0 N0 (List.mem_cons_self ..)
    refine ks_loadName_global hk lsup (Calls.loadGlobal_builtin (env := ksEnv qual scope (hp.objs.size + 2) fI (.ref cda) cc) mglob hsup mblt ((hb2 _ (by decide +kernel)).trans (by rfl)) ⟨rfl, ?_⟩)
    refine wpAny_loadName_free hk lcls rfl ⟨_, K1 _ _ hcel, rfl⟩ ?_
    rw [harn]
    refine wpAny_loadName_local hk lsn F0.ns vsn ?_
    refine ks_wpAny_isType_cls hD1 hD2 ⟨rfl, ?_⟩
    refine ks_wpAny_call_super hD1 hD2 I0.at_ I0.cls (fun c z => ?_) (looks_mroIn K1 PF.mro) (fun h2 e2 k2 => ?_)
    · have := I0.no
      unfold notCls at this
      rw [z] at this
      exact Bool.noConfusion this
    obtain ⟨F1, N1, l1⟩ := ks_newsPush (s := ⟨h1, g, d, t, os⟩) F0 N0 rfl e2 k2
    refine kxs_method PF.KF F1 KI N1 (List.mem_cons_self ..) (InstAt.of_exc0 N1 (List.mem_cons_of_mem _ (List.mem_cons_self ..))) PF.opq PF.sin PF.sub rfl (fun q2 h3 F2 N2 l2 => ?_)
    refine kxs_callWith1 N2 (List.mem_cons_self ..) ?_
    show wpAny _ _ (spliced ((false, eval (.Constant (.str msg) j p4) (ksEnv qual scope (hp.objs.size + 2) fI (.ref cda) cc)) :: [])) _ _ _
    refine Calls.spliced_cons (Calls.Constant_str (Calls.spliced_nil ⟨kxs_at N2 (List.mem_cons_self ..), ?_⟩))
    -- super().__init__(text): the args are laid anew
    have ne0 : t0 ≠ e := by show hp.objs.size ≠ hp.objs.size + 1; omega
    have lt1 : e < h1.objs.size := l1 _ (List.mem_cons_self ..)
    have ne1 : h1.objs.size ≠ e := Nat.ne_of_gt lt1
    have ne2 : q2 ≠ e := Nat.ne_of_gt (l2 _ (List.mem_cons_of_mem _ (List.mem_cons_self ..)))
    refine kxs_call F2 KI N2 PF.FB PF.q (List.mem_cons_self ..) (.tail ne2 (.tail ne1 (.head fun y hy => ?_))) (by show 1 ≤ sizeLine; decide) (fun t' h4 F4 N4 l4 => ?_)
    · have hy : y = (t0, excTup [u]) := by simpa using hy
      rw [hy]; exact ne0
    -- self.field = given
    refine ks_wpAt_execs_cons (ks_wpAt_Assign_Attr ?_ rfl)
    have ne3 : t' ≠ e := Nat.ne_of_gt (l4 _ (List.mem_cons_of_mem _ (List.mem_cons_of_mem _ (List.mem_cons_self ..))))
    refine fun Γ p _ hΓ => (wpAny_Name (env := ksEnv qual scope (hp.objs.size + 2) fI (.ref cda) cc) (wpAny_loadName_local hk lgn F4.ns vgn ?_) hd2 : wpAny _ _ _ _ _ _) Γ p hΓ
    refine wpAny_Name (wpAny_loadName_local hk lsn F4.ns vsn ?_) hd1
    refine set_exc0 PF.SF F4 KI N4 (List.mem_cons_of_mem _ (List.mem_cons_of_mem _ (List.mem_cons_of_mem _ (List.mem_cons_self ..)))) PF.sta PF.ovr PF.tak PF.hdc rfl (.tail ne3 (.tail ne2 (.tail ne1 (.head fun y hy => ?_)))) (by show 1 ≤ 1000; decide) (fun dx h5 F5 N5 l5 => ?_)
    · have hy : y = (t0, excTup [u]) := by simpa using hy
      rw [hy]; exact ne0
    refine fun Γ p _ hΓ => (wpAny_pure ?_ : wpAny _ _ (pure Flow.next) _ _ _) Γ p hΓ
    refine ⟨rfl, ?_⟩
    -- the end: the state without the exception
    obtain ⟨G, hG1, hG2⟩ := L2.restrict h5 fun b => b != e
    have ltd : hp.objs.size + 1 < dx := l5 _ (List.mem_cons_of_mem _ (List.mem_cons_of_mem _ (List.mem_cons_of_mem _ (List.mem_cons_self ..))))
    have gd : h5.get? dx = some (dictOf _ _) := (N5 _ (List.mem_cons_self ..)).1
    have gex : h5.get? e = some (excObj C t' (some dx) .none) := (N5 _ (List.mem_cons_of_mem _ (List.mem_cons_of_mem _ (List.mem_cons_of_mem _ (List.mem_cons_of_mem _ (List.mem_cons_self ..)))))).1
    have hle1 : hp.objs.size ≤ dx := Nat.le_of_lt (Nat.lt_of_succ_lt ltd)
    have hle2 : hp.objs.size ≤ e := Nat.le_succ _
    have Hd : H dx = none := I.hok.fresh hle1
    have He : H e = none := I.hok.fresh hle2
    have nde : dx ≠ e := Nat.ne_of_gt ltd
    have GI : ∀ b o, hp.get? b = some o → G.get? b = some o := fun b o z => by
      have nb : b ≠ e := fun w => by rw [w, none_ e hle2] at z; exact nomatch z
      rw [hG1 b (by show (b != e) = true; exact bne_iff_ne.mpr nb)]
      exact F5.keep b o z
    have new : ObjOk X.prog X.w (upd H dx (.xd [(fld, v)])) G dx (.xd [(fld, v)]) := by
      refine ⟨_, (ns1_one gd).at fun o z => by rw [hG1 dx (by show (dx != e) = true; exact bne_iff_ne.mpr nde)]; exact z, fun f => ?_⟩
      show RelO (match f == fld with | true => some v | false => none) (if f = fld then some u else none)
      by_cases c : f = fld
      · rw [if_pos c, beq_iff_eq.mpr c]; exact r
      · rw [if_neg c, beq_eq_false_iff_ne.mpr c]; trivial
    have In := I.laid (a := dx) (o := .xd [(fld, v)]) (h' := G) (t' := t) GI hle1 new
    refine ⟨e, _, _, _, upd H dx (.xd [(fld, v)]), .ref C, some dx, rfl, In, fun b o z => ?_, ?_, gex, ⟨rfl, rfl⟩, rfl, rfl, ?_, rfl, I.bare, raises_own PF.bex PF.typ, q dx Hd⟩
    · have z : G.get? b = some o := z
      by_cases c : b = e
      · rw [c, hG2 e (by show (e != e) = false; exact bne_self_eq_false e)] at z; exact nomatch z
      · rw [hG1 b (by show (b != e) = true; exact bne_iff_ne.mpr c)] at z; exact z
    · exact hG2 e (by show (e != e) = false; exact bne_self_eq_false e)
    · rw [upd_ne (fun z => nde z.symm)]; exact He
  · show (scope.kind == .module && _) = false
    rw [hk]; rfl
end Pv
end PvX_
section PvM_
set_option maxRecDepth 100000
set_option maxHeartbeats 1000000
/-! PvM: a try whose clauses may bear names; the defs that call what they got within one; raise. -/
namespace Pv
open PySem PySem.Spec PyProof.Rows L2
/-- a clause: its class, the name's slot (where it has one), its suite's reading -/
abbrev Cl1 : Type := Value × Option Nat × (Addr → Value → Option Addr → TS)
/-- behind a suite the clause's name is gone -/
def offE (i : Option Nat) (D : Ends) : Ends := match i with
  | none => D
  | some i => { nx := fun σ H => D.nx (σ.set i none) H, rt := D.rt, bk := fun σ H => D.bk (σ.set i none) H, ct := fun σ H => D.ct (σ.set i none) H }
def onS (i : Option Nat) (a : Addr) (σ : L2.St) : L2.St := match i with
  | none => σ
  | some i => σ.set i (some (.ref a))
def wMix (K : PySem.W.Frag) (Wo : WX) (D : Ends) : List Cl1 → WX
  | [] => Wo
  | (c, i, ts) :: r => fun cls d σ H => ∃ b, PySem.W.exmOne K cls c = some b ∧ (b = true → ∀ a, H a = none → ts a cls d (offE i D) (onS i a σ) H) ∧ (b = false → wMix K Wo D r cls d σ H)
inductive ClsOk (X : Cx) : List ExceptHandler → List Cl1 → Prop
  | nil : ClsOk X [] []
  | plain {x : Str} {c : Value} {ts : Addr → Value → Option Addr → TS} {b₀ : Stmt} {su : List Stmt} {np p : Pos} {hds : List ExceptHandler} {l : List Cl1} (hc : Names X x c)
      (hsu : ∀ (a : Addr) (oe : Obj) (cls : Value) (d : Option Addr) (pn : List (Addr × Obj)), Zc cls d oe → (∃ vs, oe.data = .fields vs) → PSs (X.suite a ((a, oe) :: pn)) (b₀ :: su) (ts a cls d)) (r : ClsOk X hds l) :
      ClsOk X (.ExceptHandler (some (.Name x np)) none (b₀ :: su) p :: hds) ((c, none, ts) :: l)
  | named {x n : Str} {i : Nat} {c : Value} {ts : Addr → Value → Option Addr → TS} {b₀ : Stmt} {su : List Stmt} {np p : Pos} {hds : List ExceptHandler} {l : List Cl1} (hc : Names X x c) (hi : X.N[i]? = some n) (hl : X.env.kindOf n = some .local)
      (hsu : ∀ (a : Addr) (oe : Obj) (cls : Value) (d : Option Addr) (pn : List (Addr × Obj)), Zc cls d oe → (∃ vs, oe.data = .fields vs) → PSs (X.suite a ((a, oe) :: pn)) (b₀ :: su) (ts a cls d)) (r : ClsOk X hds l) :
      ClsOk X (.ExceptHandler (some (.Name x np)) (some n) (b₀ :: su) p :: hds) ((c, some i, ts) :: l)
section
variable {X : Cx} {body : List Stmt} {hd0 : ExceptHandler} {hds : List ExceptHandler} {l : List Cl1} {pos : Pos} {tb : WX → TS} {Wo : WX}
theorem ps_try_mix (hs : X.stack = X.env :: X.outer) (hf : X.env.frame = some X.env.locals) (hN : X.N.Nodup) (tk : Takes X Wo)
    (hb : ∀ (Wb : WX) (pn : List (Addr × Obj)) (xe : Value → Shared → Prop), Takes (X.tr pn xe) Wb → PassesOwn (model X.prog X.w) X.A X.env xe → PSs (X.tr pn xe) body (tb Wb))
    (hh : ClsOk X (hd0 :: hds) l) : PS X (.Try body (hd0 :: hds) [] [] pos) (fun D σ H => tb (wMix X.K Wo D l) D σ H) := by
  refine ⟨fun pins s σ H D I h => ?_⟩
  have okX := I.ok
  have frs_ : X.A.frames = some (X.env :: X.outer) := okX.frames.trans (congrArg some hs)
  refine wpAny_Try_except ?_
  refine wpAny_mono ((hb (wMix X.K Wo D l) (X.pn ++ pins) (fun e t1 => wpAny (model X.prog X.w) X.A (noteFrame e X.env) (fun _ t2 => wpAny (model X.prog X.w) X.A (setFlight e none) (fun _ t3 =>
    wpAny (model X.prog X.w) X.A (handleBy e X.env (hd0 :: hds)) (SP X pins D) X.xe t3) X.xe t2) X.xe t1) (fun u s' xx => ?_) PassesOwn.looking).run [] s σ H D (I.toTry _) h) (fun f s1 hsp => ?_) (fun _ _ z => z)
  · obtain ⟨a, B, sI, pins', σ', H', cls, d, rfl, Jt, nb, up, sky, na, os, ag, w⟩ := xx
    have J : L2.Inv X pins σ' H' sI := Jt.ofTry okX
    have sky2 : Sky B (X.env :: X.outer) a (Zc cls d) X.env.locals s'.heap := hs ▸ sky
    show wpAny (model X.prog X.w) X.A (noteFrame (.ref a) X.env) _ _ _
    refine Sky.land Zc.steady frs_ hf sky2 fun h3 fl3 up3 => ?_
    have J3 : L2.Inv X pins σ' H' { s' with heap := h3 } := J.landed nb fl3.1 (up.trans up3) os ag
    obtain ⟨oe3, vs3, he3, hz3, hd3⟩ := fl3.there
    have nfr : a ∉ frs (X.env :: X.outer) := fun hm => by
      obtain ⟨_, o', e', hnf⟩ := fl3.2.2.1.mem hm
      rw [he3] at e'; cases e'
      exact hnf _ hd3
    have nL : a ≠ X.env.locals := fun z => nfr (List.mem_filterMap.mpr ⟨X.env, List.mem_cons_self, by rw [hf, z]⟩)
    have nF : a ∉ X.fs := fun hm => by
      obtain ⟨e, he, q⟩ := List.mem_filterMap.mp hm
      exact nfr (List.mem_filterMap.mpr ⟨e, List.mem_cons_of_mem _ he, q⟩)
    have S3 := J3.suite he3 hd3 na nL nF
    -- the class of a clause is looked at
    have look : ∀ {x : Str} {c : Value} {b : Bool} {np : Pos} {Q : Bool → Shared → Prop} {E : Value → Shared → Prop} {k : Value → Sem Bool}, Names X x c → PySem.W.exmOne X.K cls c = some b → True := fun _ _ => trivial
    have go : ∀ {hds' : List ExceptHandler} {l' : List Cl1}, ClsOk X hds' l' → wMix X.K Wo D l' cls d σ' H' → wpAny (model X.prog X.w) X.A (handleBy (.ref a) X.env hds') (SP X pins D) X.xe { s' with heap := h3 } := by
      intro hds' l' hk
      induction hk with
      | nil =>
        intro w
        refine wpAny_handleBy_nil ?_
        obtain ⟨_, _, _, oe, vs, T, oT, ts', he, _, hd, q1, _⟩ := id fl3
        unfold PySem.passOn
        refine wpAny_bind (wpAny_field he hd q1 ?_)
        rw [if_neg (show ¬ ((Value.ref T == Value.none) = true) from by simp)]
        have fin : wpAny (model X.prog X.w) X.A (setFlight (.ref a) X.env.frame) (fun _ s4 => wpAny (model X.prog X.w) X.A (throw (.ref a) : Sem Flow) (SP X pins D) X.xe s4) X.xe { s' with heap := h3 } := by
          rw [hf]
          exact HandSPX.setFlight_upZ fl3 fun h4 hh4 up4 => wpAny_throw (tk _ _ ⟨a, B, sI, pins, σ', H', cls, d, rfl, J, nb, (up.trans up3).trans up4, .inr (.inr (hs ▸ hh4)), na, os, ag, w⟩)
        first
          | exact wpAny_bind (wpAny_pure (wpAny_bind fin))
          | exact wpAny_bind fin
      | @plain x c ts b₀ su np p hds2 l2 hc hsu r ih =>
        intro w
        obtain ⟨b, hb1, hyes, hno⟩ := w
        refine wpAny_handleBy_cons (codeAny_handlers_test ?_) (by intro q; cases q)
        have LT : PySem.W.Looks (model X.prog X.w) h3 (typeOf (.ref a)) cls := fun A Q E s k q => wpAny_typeOf_ref (k _ _ he3) (by rw [hz3.1]; exact q)
        have LM := PySem.W.exm_one (M := model X.prog X.w) (J3.kIn) LT hb1
        have test : ∀ {Q : Value → Shared → Prop} {E : Value → Shared → Prop}, Q c { s' with heap := h3 } → wpAny (model X.prog X.w) (X.A.mark (some (.ref a))) (eval (.Name x np) X.env) Q E { s' with heap := h3 } := fun {Q E} q => by
          obtain ⟨n1, n2, n3 | ⟨n3, n4, n5⟩⟩ := hc
          · exact ld_glob (X := X.suite a ((a, oe3) :: (X.pn ++ pins))) S3 n1 n3 q n2
          · exact ld_blt (X := X.suite a ((a, oe3) :: (X.pn ++ pins))) S3 n1 n3 n4 q n5 n2
        refine test (LM.here ?_)
        cases b with
        | true =>
          refine codeAny_handlers_suite ?_
          refine HandSPX.lands_againZ fl3 fun h4 fl4 up4 => ?_
          have J4 : L2.Inv X pins σ' H' { s' with heap := h4 } := J.landed nb fl4.1 ((up.trans up3).trans up4) os ag
          obtain ⟨oe4, vs4, he4, hz4, hd4⟩ := fl4.there
          have S4 := J4.suite he4 hd4 na nL nF
          refine wpAny_mono ((hsu a oe4 cls d (X.pn ++ pins) hz4 ⟨_, hd4⟩).run [] _ _ H' _ S4 (hyes rfl a na)) (fun f s6 k => ?_) (fun _ _ z => z.elim)
          cases f with
          | next => obtain ⟨_, _, S6, q6⟩ := k; exact ⟨_, _, S6.unsuite okX, q6⟩
          | brk => obtain ⟨_, _, S6, q6⟩ := k; exact ⟨_, _, S6.unsuite okX, q6⟩
          | cont => obtain ⟨_, _, S6, q6⟩ := k; exact ⟨_, _, S6.unsuite okX, q6⟩
          | ret u => obtain ⟨_, _, _, S6, r6, q6⟩ := k; exact ⟨_, _, _, S6.unsuite okX, r6, q6⟩
        | false => exact ih (hno rfl)
      | @named x n i c ts b₀ su np p hds2 l2 hc hi hl hsu r ih =>
        intro w
        obtain ⟨b, hb1, hyes, hno⟩ := w
        refine wpAny_handleBy_cons (codeAny_handlers_test ?_) (by intro q; cases q)
        have LT : PySem.W.Looks (model X.prog X.w) h3 (typeOf (.ref a)) cls := fun A Q E s k q => wpAny_typeOf_ref (k _ _ he3) (by rw [hz3.1]; exact q)
        have LM := PySem.W.exm_one (M := model X.prog X.w) (J3.kIn) LT hb1
        have test : ∀ {Q : Value → Shared → Prop} {E : Value → Shared → Prop}, Q c { s' with heap := h3 } → wpAny (model X.prog X.w) (X.A.mark (some (.ref a))) (eval (.Name x np) X.env) Q E { s' with heap := h3 } := fun {Q E} q => by
          obtain ⟨n1, n2, n3 | ⟨n3, n4, n5⟩⟩ := hc
          · exact ld_glob (X := X.suite a ((a, oe3) :: (X.pn ++ pins))) S3 n1 n3 q n2
          · exact ld_blt (X := X.suite a ((a, oe3) :: (X.pn ++ pins))) S3 n1 n3 n4 q n5 n2
        refine test (LM.here ?_)
        cases b with
        | true =>
          refine codeAny_handlers_suite_as ?_
          refine HandSPX.lands_againZ fl3 fun h4 fl4 up4 => ?_
          have J4 : L2.Inv X pins σ' H' { s' with heap := h4 } := J.landed nb fl4.1 ((up.trans up3).trans up4) os ag
          obtain ⟨oe4, vs4, he4, hz4, hd4⟩ := fl4.there
          have S4 := J4.suite he4 hd4 na nL nF
          refine store_ok (X := X.suite a ((a, oe4) :: (X.pn ++ pins))) (v := .ref a) S4 hN hi (.inl hl) rfl (fun s5 S5 => ?_) (.inr hl)
          refine wpAny_mono ((hsu a oe4 cls d (X.pn ++ pins) hz4 ⟨_, hd4⟩).run [] s5 _ H' _ S5 (hyes rfl a na)) (fun f s6 k => ?_) (fun _ _ z => z.elim)
          have gone : ∀ {σ6 : L2.St} {H6 : Hp} {Q : Shared → Prop}, L2.Inv (X.suite a ((a, oe4) :: (X.pn ++ pins))) [] σ6 H6 s6 → (∀ s7, L2.Inv X pins (σ6.set i none) H6 s7 → Q s7) →
              wpAny (model X.prog X.w) X.A (do bindName X.env n .none; unbindBehindTheSuite X.env n p) (fun _ s7 => Q s7) X.xe s6 := fun S6 hq => gone_ok (S6.unsuite okX) hN hi hl hq
          cases f with
          | next => obtain ⟨_, _, S6, q6⟩ := k; exact gone S6 fun s7 J7 => ⟨_, _, J7, q6⟩
          | brk => obtain ⟨_, _, S6, q6⟩ := k; exact gone S6 fun s7 J7 => ⟨_, _, J7, q6⟩
          | cont => obtain ⟨_, _, S6, q6⟩ := k; exact gone S6 fun s7 J7 => ⟨_, _, J7, q6⟩
          | ret u => obtain ⟨_, _, _, S6, r6, q6⟩ := k; exact gone S6 fun s7 J7 => ⟨_, _, _, J7, r6, q6⟩
        | false => exact ih (hno rfl)
    exact go hh w
  · cases f with
    | next => obtain ⟨_, _, J2, q⟩ := hsp; exact wpAny_execs_nil ⟨_, _, J2.ofTry okX, q⟩
    | brk => obtain ⟨_, _, J2, q⟩ := hsp; exact ⟨_, _, J2.ofTry okX, q⟩
    | cont => obtain ⟨_, _, J2, q⟩ := hsp; exact ⟨_, _, J2.ofTry okX, q⟩
    | ret u => obtain ⟨_, _, _, J2, r, q⟩ := hsp; exact ⟨_, _, _, J2.ofTry okX, r, q⟩
end
end Pv
end PvM_
section PvN_
set_option maxRecDepth 100000
/-! PvN: raise; calls of defs that are held; lambdas handed to a def that catches. -/
namespace Pv
open PySem PySem.Spec PyProof.Rows L2
/-- an exception class without own __init__, under the name x -/
structure ExMsg (W : Wd) (c : Nat) (x : Str) : Prop where
  ex : ∃ (C : Addr) (B newId initId : String) (bmB : List Value), W.clA c = some C ∧ W.mg x = some (.ref C) ∧ PySem.W.keepIn W.K (.ref C) = true ∧ PySem.W.subIn W.K (.ref C) (.type "BaseException") = some true ∧
    PySem.W.typeIn W.K (.ref C) = some (.type "type") ∧ ExcBaseFacts B newId initId bmB ∧ PySem.W.excIn W.K C bmB newId = true
/-- .. whose __init__ keeps its argument -/
structure ExPay (W : Wd) (c : Nat) (x : Str) : Prop where
  ex : ∃ (C fI cda cc : Addr) (B i newId : String) (bmB : List Value), W.clA c = some C ∧ W.mg x = some (.ref C) ∧ PayF W.prog W.K C fI cda cc B i newId bmB (W.fld c)
  sup : W.mg "super" = none
section
variable {W : Wd} {p : Pr} {E : XK} {n k : Nat} {g : Bool} {X : Cx}
theorem room_depth {k : Nat} {A : Around} (r : Room k A) : A.depth + 2 < recursionLimit := by have := r.dp; omega
theorem ps_raisMD {c : Nat} {x msg : Str} {j : Nat} {p1 p2 p3 pos : Pos} (hX : XW W k g X) (hc : X.calm = true) (tk : Takes X (fun cls d _ H => E cls d H)) (M : ExMsg W c x) (hg : Gl X x) (hd : (x == ("__debug__" : Str)) = false) :
    PS X (.Raise (some (.Call (.Name x p1) [.Constant (.str msg) j p2] [] p3)) none pos) (rdSt W p E (n + 1) (.rais c none)) := by
  obtain ⟨C, B, newId, initId, bmB, h1, h2, h3, h4, h5, h6, h7⟩ := M.ex
  refine (ps_raise hc tk (pmk_own h6 (hX.K ▸ h7) (by rw [hX.mg]; exact h2) (hX.K ▸ h3) (raises_own (hX.K ▸ h4) (hX.K ▸ h5)) hg hd)).weak fun Z σ H ⟨Γ, ρ, F, R, h⟩ => ?_
  unfold ex at h
  exact h F σ H (.ref C) none Sub.rfl R ⟨⟨C, h1, rfl⟩, trivial⟩
theorem ps_raisPD {c : Nat} {x : Str} {e : Expr} {ce : C} {p1 p3 pos : Pos} (hX : XW W k g X) (hc : X.calm = true) (tk : Takes X (fun cls d _ H => E cls d H)) (M : ExPay W c x) (hg : Gl X x) (hd : (x == ("__debug__" : Str)) = false) (hs : notStar e = true) (he : PE X e (rd W p E n ce)) :
    PS X (.Raise (some (.Call (.Name x p1) [e] [] p3)) none pos) (rdSt W p E (n + 1) (.rais c (some ce))) := by
  obtain ⟨C, fI, cda, cc, B, i, newId, bmB, h1, h2, PF⟩ := M.ex
  have mk : PMk X (.Call (.Name x p1) [e] [] p3) (fun σ H Q => rd W p E n ce σ H fun v H1 => ∀ d, H1 d = none → Q (.ref C) (some d) (upd H1 d (.xd [(W.fld c, v)]))) := by
    intro pins s σ H Q I h
    refine wpAny_Call_Name_kw (ld_glob I hg (by rw [hX.mg]; exact h2) ?_ hd)
    have ha : PA X [e] (tCons (rd W p E n ce) tNil) := pa_cons he pa_nil (star_cons [] _ hs)
    refine PySem.W.callWith_K (h₀ := X.base) I.ok.mod.kin (hX.K ▸ PF.kC) (thn (ha.run p3 pins s σ H (fun vs H1 => ∃ v, vs = [v] ∧ ∀ d, H1 d = none → Q (.ref C) (some d) (upd H1 d (.xd [(W.fld c, v)]))) I ?_) fun us s1 ⟨vs, H1, I1, r1, v, ev, q⟩ => ⟨I1.kIn, ?_⟩) (star_cons [] _ hs) rfl
    · obtain ⟨Γ, ρ, F, R, k⟩ := h
      exact ⟨Γ, ρ, F, R, k.imp fun r ρ1 F1 H1 s1 R1 k v hv => ⟨v, rfl, k v hv⟩⟩
    · subst ev
      obtain ⟨u, rfl, ru⟩ := vals1 r1
      refine made_pay (i := i) (B := B) (newId := newId) (bmB := bmB) (fI := fI) (cda := cda) (cc := cc) (fld := W.fld c) ?_ (by rw [hX.mg]; exact M.sup) (room_depth hX.room) I1 ru q
      rw [hX.K, hX.prog]; exact PF
  refine (ps_raise hc tk mk).weak fun Z σ H ⟨Γ, ρ, F, R, h⟩ => ?_
  unfold ex at h
  dsimp only at h
  have h2 : Ok W Γ E σ F ((hold (ev p n) ce ρ).bind fun d ρ1 => O.ok (d, ρ1) ρ1) fun t _ F1 _ => OkD W Γ E F1 (.exc c (some t.1) t.2) Z := by
    have := OkF.fl (σ := σ) h
    revert this
    cases hold (ev p n) ce ρ with
    | ok b ρ1 => exact fun k => k
    | exc c d ρ1 => exact fun k => k
    | bad => exact fun k => k
  obtain ⟨Γ', ρ', F', R', h'⟩ := rd_hold R h2
  refine ⟨Γ', ρ', F', R', h'.imp fun r ρ1 F1 H1 s1 R1 k v hv d hd => ?_⟩
  obtain ⟨dv, ρ2, F2, R2, s2, rv, k⟩ := k v hv
  have k := k.at R2
  exact k F2 σ _ (.ref C) (some d) Sub.rfl (R2.new hd) ⟨⟨C, h1, rfl⟩, d, _, v, rfl, upd_same, by show (match W.fld c == W.fld c with | true => some v | false => none) = some v; rw [beq_self_eq_true], rv⟩
end
end Pv
end PvN_
section PvO_
set_option maxRecDepth 100000
/-! PvO: repr; the defs that call what they got within a try. -/
namespace Pv
open PySem PySem.Spec PyProof.Rows L2
section
variable {W : Wd} {p : Pr} {E : XK} {n : Nat} {X : Cx} {Γ : Gm} {σ : L2.St} {F F' : Hp} {ρ ρ' : En} {H H' : Hp} {Q : VK}
theorem reprD_some {d : D} {x : Str} (h : reprD d = some x) : ∃ y, d.py = some y ∧ y.showable = true ∧ y.hasDict = false ∧ y.shown.length ≤ 100000 ∧ y.depth ≤ 60 ∧ x = y.shown := by
  unfold reprD at h
  cases e : d.py with
  | none => rw [e] at h; exact nomatch h
  | some y =>
    rw [e] at h
    dsimp only [Option.bind] at h
    cases c : (y.showable && !y.hasDict && decide (y.shown.length ≤ 100000) && decide (y.depth ≤ 60)) with
    | false => rw [c] at h; exact nomatch h
    | true =>
      rw [c] at h; injection h with h
      rw [Bool.and_eq_true, Bool.and_eq_true, Bool.and_eq_true, Bool.not_eq_true', decide_eq_true_eq, decide_eq_true_eq] at c
      exact ⟨y, rfl, c.1.1.1, c.1.1.2, c.1.2, c.2, h.symm⟩
theorem repr_run {pins : List (Addr × Obj)} {s : Shared} {v : V} {u : Value} {d : D} {x : Str} (hK : X.K = W.K) (hg : X.A.guards = some []) (hu : X.A.units + 64 < cLine) (I : L2.Inv X pins σ H s) (r : L2.RelV v u) {σ2 : L2.St} (R : Rel W Γ F ρ σ2 H) (hd : RdD W F H v d) (e : reprD d = some x) (q : Q (.str x) H) :
    wpAny (model X.prog X.w) X.A (call (.builtin "repr") [u]) (EP X pins σ Q) X.xe s := by
  obtain ⟨y, e1, e2, e3, e4, e5, rfl⟩ := reprD_some e
  have hz : y.shown.length ≤ sizeLine := Nat.le_trans e4 (Nat.le_trans (by decide) sizeL)
  have dp := rd_dp R hd e1
  obtain ⟨as, rr⟩ := Dp.reads I y v u (by rw [hK]; exact dp) r
  have fin : ∀ h' tk, (∀ b o, s.heap.get? b = some o → h'.get? b = some o) → ∀ t, EP X pins σ Q (.str y.shown t) { s with heap := h', toks := tk } := fun h' tk hk t => ⟨.str _, H, I.kept hk, ⟨_, rfl⟩, q⟩
  have fin0 : ∀ tk t, EP X pins σ Q (.str y.shown t) { s with toks := tk } := fun tk t => ⟨.str _, H, I.tok _, ⟨_, rfl⟩, q⟩
  cases rr with
  | none => exact PySem.P.repr_of_none (fin0 _ _)
  | bool b => exact PySem.P.repr_of_bool (fin0 _ _)
  | int i t => exact PySem.P.repr_of_int (by simpa [PyData.showable] using e2) (fin0 _ _)
  | str z t => exact PySem.P.repr_of_str (fin0 _ _) (hsz := hz)
  | list h1 h2 h3 h4 => exact repr_of_reads' (.list h1 h2 h3 h4) e2 (PyData.noDict_hsm e3) hg (by omega) (fun _ _ e => e) (fun h' u tk hk => fin _ _ hk _) hz
  | tuple h1 h2 h3 h4 => exact repr_of_reads' (.tuple h1 h2 h3 h4) e2 (PyData.noDict_hsm e3) hg (by omega) (fun _ _ e => e) (fun h' u tk hk => fin _ _ hk _) hz
  | dict h1 h2 h3 h4 h5 => exact repr_of_reads' (.dict h1 h2 h3 h4 h5) e2 (PyData.noDict_hsm e3) hg (by omega) (fun _ _ e => e) (fun h' u tk hk => fin _ _ hk _) hz
theorem blt_repr (hK : X.K = W.K) (hg : X.A.guards = some []) (hu : X.A.units + 64 < cLine) : CallR X (.builtin "repr") (RBl W E (bltD .repr)) := by
  intro pins s σ' H vs us Q I r ⟨Γ, ρ, F, σ, ds, R, hv, h⟩
  rcases ds with _ | ⟨d, _ | ⟨d2, ds⟩⟩
  · exact h.elim
  · obtain ⟨v, rfl, hd⟩ := rds1 hv
    obtain ⟨u, rfl, ru⟩ := vals1 r
    dsimp only [bltD] at h
    cases e : reprD d with
    | none => rw [e] at h; exact h.elim
    | some x =>
      rw [e] at h
      exact repr_run hK hg hu I ru R hd e (ans_str h R)
  · cases d <;> exact h.elim
end
end Pv
end PvO_
section PvQ_
set_option maxRecDepth 100000
/-! PvQ: a def that calls what it got within a try: what it answers. -/
namespace Pv
open PySem PySem.Spec PyProof.Rows L2
/-- the world's exception classes and their names -/
structure ClF (W : Wd) (cn : Nat → Str) : Prop where
  exm : ∀ c C c' C', W.clA c = some C → W.clA c' = some C' → PySem.W.exmOne W.K (.ref C') (.ref C) = some (c == c')
  mg : ∀ c C, W.clA c = some C → W.mg (cn c) = some (.ref C)
  fx : ∀ c C, W.clA c = some C → XfC W.K C ∧ PySem.W.findIn W.K (.ref C) (W.fld c) = some none
def rdPt (W : Wd) (PL : L2.St → Hp → Hp → Prop) (f : Option D) : TE := fun σ H Q => ∃ Γ ρ F σ0 x, Rel W Γ F ρ σ0 H ∧ PL σ H F ∧ f = some x ∧ ∀ v, Rep W F v x → Q v H
def rdPts (W : Wd) (PL : L2.St → Hp → Hp → Prop) (f : Option (List D)) : TA := fun σ H Q => ∃ Γ ρ F σ0 x, Rel W Γ F ρ σ0 H ∧ PL σ H F ∧ f = some x ∧ ∀ v, Reps W F v x → Q v H
def rdAn (W : Wd) (PL : L2.St → Hp → Hp → Prop) (f : Option D) : TE := fun σ H Q => ∃ Γ ρ F σ0 x, Rel W Γ F ρ σ0 H ∧ PL σ H F ∧ f = some x ∧ Ok W Γ NoX σ0 F (.ok (.dat x) ρ) (KR W Γ σ0 Q)
def fldB (fe : Option (Str × Str)) : Expr → Bool
  | .Attribute (.Name x _) f _ => match fe with
    | some (y, g) => decide (x = y) && decide (f = g)
    | none => false
  | _ => false
def ptB (rb : Bool) (fe : Option (Str × Str)) (e : Expr) (p : Pt) : Bool := match p with
  | .str y => (match e with | .Constant (.str x) _ _ => decide (x = y) | _ => false)
  | .non => (match e with | .Constant .none _ _ => true | _ => false)
  | .fld => fldB fe e
  | .rpr none => (match e with | .Call (.Name r _) [e] [] _ => decide (r = "repr") && (rb && fldB fe e) | _ => false)
  | .rpr (some y) => (match e with | .BinOp (.Constant (.str x) _ _) .Add (.Call (.Name r _) [e] [] _) _ => decide (x = y) && (decide (r = "repr") && (rb && fldB fe e)) | _ => false)
def ptsB (rb : Bool) (fe : Option (Str × Str)) : List Expr → List Pt → Bool
  | [], [] => true
  | e :: es, p :: ps => notStar e && (ptB rb fe e p && ptsB rb fe es ps)
  | _, _ => false
def anB (rb : Bool) (fe : Option (Str × Str)) (e : Expr) (a : An) : Bool := match a with
  | .tup ps => (match e with | .Tuple es _ _ => ptsB rb fe es ps | _ => false)
  | .one p => ptB rb fe e p
section
variable {W : Wd} {X : Cx} {PL : L2.St → Hp → Hp → Prop} {rb : Bool} {fe : Option (Str × Str)} {d : Option D} {Q : VK}
theorem rep_str {F : Hp} {x : Str} : Rep W F (.str x) (.str x) := by unfold Rep; rfl
theorem rep_non {F : Hp} : Rep W F .non .non := by unfold Rep; rfl
theorem fldB_star {e : Expr} (h : fldB fe e = true) : notStar e = true := by
  cases e <;> first | rfl | exact nomatch h
theorem pt_rprD {e : Expr} {p pos : Pos} (hK : X.K = W.K) (hg : X.A.guards = some []) (hu : X.A.units + 64 < cLine) (hgl : Gl X "repr") (hm : X.mg "repr" = none) (hs : notStar e = true) (he : PE X e (rdPt W PL d)) :
    PE X (.Call (.Name "repr" p) [e] [] pos) (fun σ H Q => ∃ Γ ρ F σ0 y x, Rel W Γ F ρ σ0 H ∧ PL σ H F ∧ d = some y ∧ reprD y = some x ∧ Q (.str x) H) := by
  have hc : CallR X (.builtin "repr") (fun vs H Q => ∃ Γ ρ F σ0 v y x, Rel W Γ F ρ σ0 H ∧ vs = [v] ∧ Rep W F v y ∧ reprD y = some x ∧ Q (.str x) H) := by
    intro pins s σ' H vs us Q I r ⟨Γ, ρ, F, σ0, v, y, x, R, e1, hv, e2, q⟩
    subst e1
    obtain ⟨u, rfl, ru⟩ := vals1 r
    exact repr_run hK hg hu I ru R (.inl hv) e2 q
  refine (pe_callB hc hgl hm (by rfl) (pa_cons he pa_nil (star_cons [] _ hs)) (he := star_cons [] _ hs) (hpl := rfl)).weak fun σ H Q h => ?_
  obtain ⟨Γ, ρ, F, σ0, y, x, R, pl, e1, e2, q⟩ := h
  exact ⟨Γ, ρ, F, σ0, y, R, pl, e1, fun v hv => ⟨Γ, ρ, F, σ0, v, y, x, R, rfl, hv, e2, q⟩⟩
theorem pt_ok (hK : X.K = W.K) (hg : X.A.guards = some []) (hu : X.A.units + 64 < cLine) (hgl : rb = true → Gl X "repr") (hm : X.mg "repr" = none) (hf : ∀ e, fldB fe e = true → PE X e (rdPt W PL d)) {e : Expr} {p : Pt} (h : ptB rb fe e p = true) : PE X e (rdPt W PL (ptD p d)) := by
  unfold ptB at h
  split at h
  · split at h
    · have := of_decide_eq_true h; subst this
      exact pe_str.weak fun σ H Q ⟨Γ, ρ, F, σ0, x, R, pl, e1, q⟩ => by injection e1 with e1; subst e1; exact q _ rep_str
    · exact nomatch h
  · split at h
    · exact pe_non.weak fun σ H Q ⟨Γ, ρ, F, σ0, x, R, pl, e1, q⟩ => by injection e1 with e1; subst e1; exact q _ rep_non
    · exact nomatch h
  · exact hf e h
  · split at h
    · rename_i r p1 e' pos
      rw [Bool.and_eq_true, Bool.and_eq_true] at h
      have := of_decide_eq_true h.1; subst this
      refine (pt_rprD hK hg hu (hgl h.2.1) hm (fldB_star h.2.2) (hf _ h.2.2)).weak fun σ H Q ⟨Γ, ρ, F, σ0, x, R, pl, e1, q⟩ => ?_
      cases ed : d with
      | none => rw [ed] at e1; exact nomatch e1
      | some y =>
        rw [ed] at e1
        have e1 : (reprD y).map D.str = some x := e1
        cases er : reprD y with
        | none => rw [er] at e1; exact nomatch e1
        | some z =>
          rw [er] at e1; injection e1 with e1; subst e1
          exact ⟨Γ, ρ, F, σ0, y, z, R, pl, rfl, er, q _ rep_str⟩
    · exact nomatch h
  · rename_i y
    split at h
    · rename_i x0 j0 p0 r p1 e' pos p2
      rw [Bool.and_eq_true, Bool.and_eq_true, Bool.and_eq_true] at h
      have := of_decide_eq_true h.2.1; subst this
      have := of_decide_eq_true h.1; subst this
      refine (pe_op op_add_str pe_str (pt_rprD hK hg hu (hgl h.2.2.1) hm (fldB_star h.2.2.2) (hf _ h.2.2.2))).weak fun σ H Q ⟨Γ, ρ, F, σ0, x, R, pl, e1, q⟩ => ?_
      cases ed : d with
      | none => rw [ed] at e1; exact nomatch e1
      | some y =>
        rw [ed] at e1
        have e1 : ((reprD y).bind fun z => if fits (x0.length + z.length) then some (D.str (x0 ++ z)) else none) = some x := e1
        cases er : reprD y with
        | none => rw [er] at e1; exact nomatch e1
        | some z =>
          rw [er] at e1
          have e1 : (if fits (x0.length + z.length) = true then some (D.str (x0 ++ z)) else none) = some x := e1
          cases ef : fits (x0.length + z.length) with
          | false => rw [ef] at e1; exact nomatch e1
          | true =>
            rw [ef] at e1; injection e1 with e1; subst e1
            exact ⟨Γ, ρ, F, σ0, y, z, R, pl, rfl, er, x0, z, rfl, rfl, fits_le ef, q _ rep_str⟩
    · exact nomatch h
theorem pts_ok (hK : X.K = W.K) (hg : X.A.guards = some []) (hu : X.A.units + 64 < cLine) (hgl : rb = true → Gl X "repr") (hm : X.mg "repr" = none) (hf : ∀ e, fldB fe e = true → PE X e (rdPt W PL d)) : ∀ {es : List Expr} {ps : List Pt}, ptsB rb fe es ps = true → PA X es (rdPts W PL (ptsD d ps))
  | [], [], h => pa_nil.weak fun σ H Q ⟨Γ, ρ, F, σ0, x, R, pl, e1, q⟩ => by injection e1 with e1; subst e1; exact q _ Reps.nil
  | [], _ :: _, h => nomatch h
  | _ :: _, [], h => nomatch h
  | e :: es, p :: ps, h => by
    have h : (notStar e && (ptB rb fe e p && ptsB rb fe es ps)) = true := h
    rw [Bool.and_eq_true, Bool.and_eq_true] at h
    refine (pa_cons (pt_ok hK hg hu hgl hm hf h.2.1) (pts_ok hK hg hu hgl hm hf h.2.2) (star_cons es _ h.1)).weak fun σ H Q ⟨Γ, ρ, F, σ0, x, R, pl, e1, q⟩ => ?_
    unfold ptsD at e1
    cases e2 : ptD p d with
    | none => rw [e2] at e1; exact nomatch e1
    | some y =>
      cases e3 : ptsD d ps with
      | none => rw [e2, e3] at e1; exact nomatch e1
      | some ys =>
        rw [e2, e3] at e1; injection e1 with e1; subst e1
        exact ⟨Γ, ρ, F, σ0, y, R, pl, rfl, fun v hv => ⟨Γ, ρ, F, σ0, ys, R, pl, rfl, fun vs hvs => q _ (Reps.cons hv hvs)⟩⟩
theorem an_ok (hK : X.K = W.K) (hg : X.A.guards = some []) (hu : X.A.units + 64 < cLine) (hgl : rb = true → Gl X "repr") (hm : X.mg "repr" = none) (hf : ∀ e, fldB fe e = true → PE X e (rdPt W PL d)) {e : Expr} {a : An} (h : anB rb fe e a = true) : PE X e (rdAn W PL (anD a d)) := by
  unfold anB at h
  split at h
  · rename_i ps
    split at h
    · rename_i es k pos
      refine (pe_tup (pts_ok hK hg hu hgl hm hf h)).weak fun σ H Q ⟨Γ, ρ, F, σ0, x, R, pl, e1, q⟩ => ?_
      have e1 : ((ptsD d ps).bind fun xs => if fits xs.length = true then some (D.tup xs) else none) = some x := e1
      cases e2 : ptsD d ps with
      | none => rw [e2] at e1; exact nomatch e1
      | some ys =>
        rw [e2] at e1
        have e1 : (if fits ys.length = true then some (D.tup ys) else none) = some x := e1
        cases ef : fits ys.length with
        | false => rw [ef] at e1; exact nomatch e1
        | true =>
          rw [ef] at e1; injection e1 with e1; subst e1
          refine ⟨Γ, ρ, F, σ0, ys, R, pl, rfl, fun vs hvs => ⟨by rw [hvs.length]; exact fits_le ef, fun a ha => ?_⟩⟩
          exact ans_tup (E := NoX) q R hvs ha
    · exact nomatch h
  · refine (pt_ok hK hg hu hgl hm hf h).weak fun σ H Q ⟨Γ, ρ, F, σ0, x, R, pl, e1, q⟩ => ⟨Γ, ρ, F, σ0, x, R, pl, e1, fun v hv => ans_dat (E := NoX) q R hv⟩
theorem pe_len {e : Expr} {t : TE} (h : PE X e t) : PE X e (fun σ H Q => σ.length = X.N.length → t σ H Q) := ⟨fun pins s σ H Q I q => h.run pins s σ H Q I (q I.len)⟩
end
end Pv
end PvQ_
section PvR_
set_option maxRecDepth 100000
/-! PvR: x(lambda: body), x a def that calls it within a try. -/
namespace Pv
open PySem PySem.Spec PyProof.Rows L2
def rpB (sg : Scope) : Bool := decide (sg.names.lookup ("repr" : Str) = some .globalImplicit)
theorem rpB_of {sg : Scope} (h : rpB sg = true) : sg.names.lookup ("repr" : Str) = some .globalImplicit := of_decide_eq_true h
theorem fldB_none {e : Expr} (h : fldB none e = true) : False := by
  unfold fldB at h
  split at h <;> exact nomatch h
def clV (W : Wd) (c : Nat) : Value := match W.clA c with
  | some C => .ref C
  | none => .none
/-- what a clause's suite knows -/
def plOf (W : Wd) (nm : Option Str) (c : Nat) (d : Option D) (a : Addr) (cls : Value) (dx : Option Addr) : L2.St → Hp → Hp → Prop := fun σ H F => match nm with
  | some _ => (1 < σ.length → σ[1]? = some (some (.ref a))) ∧ XRep W F H cls dx c d
  | none => True
def tsOf (W : Wd) (nm : Option Str) (h : Hd) : Addr → Value → Option Addr → TS := fun a cls dx Z σ H => ∃ d, rdAn W (plOf W nm h.cls d a cls dx) (anD h.ans d) σ H Z.rt
def nmOf : ExceptHandler → Option Str
  | .ExceptHandler _ nm _ _ => nm
def clL (W : Wd) : List ExceptHandler → List Hd → List Cl1
  | e :: es, h :: hs => (clV W h.cls, (nmOf e).map (fun _ => 1), tsOf W (nmOf e) h) :: clL W es hs
  | _, _ => []
def feOf (fld : Nat → Str) (nm : Option Str) (c : Nat) : Option (Str × Str) := nm.map fun n => (n, fld c)
def nmB (Ng : List Str) (sg : Scope) (nm : Option Str) : Bool := match nm with
  | none => true
  | some n => decide (Ng[1]? = some n) && decide (sg.names.lookup n = some .local) && !(n == ("__debug__" : Str)) && !(n == ("__classdict__" : Str))
def hdB (cn fld : Nat → Str) (Ng : List Str) (sg : Scope) (e : ExceptHandler) (h : Hd) : Bool := match e with
  | .ExceptHandler (some (.Name x _)) nm [.Return (some v) _] _ => decide (cn h.cls = x) && decide (sg.names.lookup x = some .globalImplicit) && !(x == ("__debug__" : Str)) && nmB Ng sg nm && anB (rpB sg) (feOf fld nm h.cls) v h.ans
  | _ => false
def hdsB (cn fld : Nat → Str) (Ng : List Str) (sg : Scope) : List ExceptHandler → List Hd → Bool
  | [], [] => true
  | e :: es, h :: hs => hdB cn fld Ng sg e h && hdsB cn fld Ng sg es hs
  | _, _ => false
/-- a catcher -/
def catB (cn fld : Nat → Str) (Ng : List Str) (sg : Scope) (a : Str) (bg : List Stmt) (ct : Cat) : Bool := match bg with
  | [.Try [.Expr (.Call (.Name y _) [] [] _) _] (e :: es) [] [] _, .Return (some v) _] => decide (y = a) && (hdsB cn fld Ng sg (e :: es) ct.hs && anB (rpB sg) none v ct.fin)
  | _ => false
def TTc (W : Wd) (ct : Cat) : (XK → Hp → VK → Prop) → Hp → VK → Prop := fun tl H Q =>
  tl (fun cls dx H' => ∃ c d Γ ρ F σ h x, Rel W Γ F ρ σ H' ∧ XRep W F H' cls dx c d ∧ clause c ct.hs = some h ∧ anD h.ans d = some x ∧ Ok W Γ NoX σ F (.ok (.dat x) ρ) (KR W Γ σ Q)) H
    (fun _ H' => rdAn W (fun _ _ _ => True) (anD ct.fin none) [] H' Q)
section
variable {W : Wd} {cn : Nat → Str} {Ng : List Str} {sg : Scope} {X : Cx}
theorem cls_mix (CF : ClF W cn) {D : Ends} {Q : VK} {c : Nat} {d : Option Pv.D} {cls : Value} {dx : Option Addr} {Γ : Gm} {ρ : En} {F H : Hp} {σ σ' : L2.St} {x : Pv.D} {Wo : WX} (hQ : D.rt = Q) (R : Rel W Γ F ρ σ H) (hx : XRep W F H cls dx c d) : ∀ {es : List ExceptHandler} {hs : List Hd} {h : Hd},
    hdsB cn W.fld Ng sg es hs = true → (∀ k ∈ hs, (W.clA k.cls).isSome = true) → clause c hs = some h → anD h.ans d = some x → Ok W Γ NoX σ F (.ok (.dat x) ρ) (KR W Γ σ Q) → wMix W.K Wo D (clL W es hs) cls dx σ' H
  | _, [], h, hb, hc, e, _, _ => nomatch e
  | [], k :: hs, h, hb, _, _, _, _ => nomatch hb
  | e :: es, k :: hs, h, hb, hc, e1, e2, q => by
    have hb : (hdB cn W.fld Ng sg e k && hdsB cn W.fld Ng sg es hs) = true := hb
    rw [Bool.and_eq_true] at hb
    obtain ⟨⟨C', hC', rfl⟩, hd⟩ := id hx
    have hk := hc k (List.mem_cons_self ..)
    cases eC : W.clA k.cls with
    | none => rw [eC] at hk; exact nomatch hk
    | some C =>
      have ev : clV W k.cls = .ref C := by unfold clV; rw [eC]
      show ∃ b, PySem.W.exmOne W.K (.ref C') (clV W k.cls) = some b ∧ _
      rw [ev]
      refine ⟨_, CF.exm _ _ _ _ eC hC', fun hb2 a ha => ?_, fun hb2 => ?_⟩
      · unfold clause at e1
        rw [if_pos hb2] at e1
        injection e1 with e1; subst e1
        have ec := beq_iff_eq.mp hb2
        refine ⟨d, Γ, ρ, F, σ, x, R, ?_, e2, ?_⟩
        · rw [ec]
          cases en : nmOf e with
          | none => trivial
          | some n =>
            refine ⟨fun hl => ?_, hx⟩
            have hl : 1 < (σ'.set 1 (some (V.ref a))).length := hl
            rw [List.length_set] at hl
            exact set_self hl
        · cases en : nmOf e <;> exact hQ ▸ q
      · unfold clause at e1
        rw [if_neg (by rw [hb2]; exact Bool.false_ne_true)] at e1
        exact cls_mix CF hQ R hx hb.2 (fun k' hk' => hc k' (List.mem_cons_of_mem _ hk')) e1 e2 q
theorem cls_ok (CF : ClF W cn) (hK : X.K = W.K) (hm : X.mg = W.mg) (hN : X.N = Ng) (hsc : X.env.scope = sg) (hkd : ∀ x k, sg.names.lookup x = some k → X.env.kindOf x = some k) (hg : X.A.guards = some []) (hu : X.A.units + 64 < cLine) (hgl : rpB sg = true → Gl X "repr") (hmr : W.mg "repr" = none) : ∀ {es : List ExceptHandler} {hs : List Hd},
    hdsB cn W.fld Ng sg es hs = true → (∀ k ∈ hs, (W.clA k.cls).isSome = true) → ClsOk X es (clL W es hs)
  | [], [], _, _ => .nil
  | [], _ :: _, h, _ => nomatch h
  | _ :: _, [], h, _ => nomatch h
  | e :: es, k :: hs, h, hc => by
    have h : (hdB cn W.fld Ng sg e k && hdsB cn W.fld Ng sg es hs) = true := h
    rw [Bool.and_eq_true] at h
    obtain ⟨h1, h2⟩ := h
    have ih := cls_ok CF hK hm hN hsc hkd hg hu hgl hmr h2 fun k' hk' => hc k' (List.mem_cons_of_mem _ hk')
    have hk := hc k (List.mem_cons_self ..)
    unfold hdB at h1
    split at h1
    · rename_i x np nm v rp pp
      simp only [Bool.and_eq_true] at h1
      obtain ⟨⟨⟨⟨a1, a2⟩, a3⟩, a4⟩, a5⟩ := h1
      have a1 := of_decide_eq_true a1
      have a2 := of_decide_eq_true a2
      rw [Bool.not_eq_true'] at a3
      cases eC : W.clA k.cls with
      | none => rw [eC] at hk; exact nomatch hk
      | some C =>
        have ev : clV W k.cls = .ref C := by unfold clV; rw [eC]
        have nmx : Names X x (clV W k.cls) := ⟨hkd _ _ a2, a3, .inl (by rw [hm, ev, ← a1]; exact CF.mg _ _ eC)⟩
        cases nm with
        | none =>
          refine .plain nmx (fun a oe cls dx pn _ _ => pss_one ?_) ih
          refine ⟨fun pins s σ H D I ⟨d, q⟩ => ?_⟩
          exact (ps_ret (an_ok (W := W) (PL := plOf W none k.cls d a cls dx) (X := X.suite a ((a, oe) :: pn)) (fe := none) (d := d) hK hg hu hgl (by show X.mg _ = _; rw [hm]; exact hmr) (fun e' he' => (fldB_none he').elim) a5)).run pins s σ H D I q
        | some n =>
          simp only [nmB, Bool.and_eq_true] at a4
          obtain ⟨⟨⟨b1, b2⟩, b3⟩, b4⟩ := a4
          have b1 := of_decide_eq_true b1
          have b2 := of_decide_eq_true b2
          rw [Bool.not_eq_true'] at b3 b4
          refine .named nmx (i := 1) (by rw [hN]; exact b1) (hkd _ _ b2) (fun a oe cls dx pn hz hfl => pss_one ?_) ih
          refine ⟨fun pins s σ H D I ⟨d, q⟩ => ?_⟩
          refine (ps_ret (an_ok (W := W) (PL := plOf W (some n) k.cls d a cls dx) (X := X.suite a ((a, oe) :: pn)) (fe := some (n, W.fld k.cls)) (d := d) hK hg hu hgl (by show X.mg _ = _; rw [hm]; exact hmr) (fun e' he' => ?_) a5)).run pins s σ H D I q
          cases e' with
          | Attribute o f ap =>
            cases o with
            | Name y yp =>
              have he' : (decide (y = n) && decide (f = W.fld k.cls)) = true := he'
              rw [Bool.and_eq_true] at he'
              have := of_decide_eq_true he'.1; subst this
              have := of_decide_eq_true he'.2; subst this
              obtain ⟨T, hno⟩ := CF.fx _ _ eC
              refine (pe_len (pe_xf (X := X) (C := C) (hK ▸ T) (hK ▸ hno) hz hfl (pe_var (X := X.suite a ((a, oe) :: pn)) (i := 1) (by show X.N[1]? = _; rw [hN]; exact b1) (.inl (by show X.env.scope.names.lookup _ = _; rw [hsc]; exact b2)) b3 b4))).weak fun σ H Q h hl => ?_
              obtain ⟨Γ, ρ, F, σ0, y', R, pl, e1, q⟩ := h
              obtain ⟨p1, ⟨C', c1, c2⟩, p2⟩ := pl
              rw [e1] at p2
              obtain ⟨dd, fs, vv, d1, d2, d3, d4⟩ := p2
              rw [eC] at c1; injection c1 with c1; subst c1
              have hl2 : 1 < σ.length := by
                have : σ.length = X.N.length := hl
                rw [this, hN]
                exact lt_of_get b1
              exact ⟨_, p1 hl2, rfl, c2, dd, fs, vv, d1, d2, d3, q _ d4⟩
            | _ => exact nomatch he'
          | _ => exact nomatch he'
    · exact nomatch h1
theorem mark_guards {A : Around} {v : Option Value} : (A.mark v).guards = A.guards := rfl
/-- a catcher keeps its promise -/
theorem gives_cat (CF : ClF W cn) {ct : Cat} {bg : List Stmt} {x a q : Str} {g : Addr} {cdg : Value} (hK : X.K = W.K) (hm : X.mg = W.mg) (hg : X.A.guards = some []) (hu : X.A.units + 100 < cLine) (hb : catB cn W.fld Ng sg a bg ct = true) (hc : ∀ k ∈ ct.hs, (W.clA k.cls).isSome = true)
    (hN : Ng.Nodup) (hmr : W.mg "repr" = none) (h0 : ∀ f : Addr, (L2.start Ng [V.ref f])[0]? = some (some (V.ref f))) :
    LamX.GivesTo X Ng x sg g cdg bg a q (TTc W ct) := by
  unfold catB at hb
  split at hb
  · rename_i y p1 p2 p3 e es p4 v p5
    rw [Bool.and_eq_true, Bool.and_eq_true] at hb
    obtain ⟨b1, b2, b3⟩ := hb
    have := of_decide_eq_true b1; subst this
    intro f c' s H Q tl act hco h
    have hu : (X.A.deeper (envOfC x sg s.heap.objs.size g cdg)).units + 64 < cLine := by show X.A.units + 3 + 64 < _; omega
    have cl : ClsOk (cxOf C8.CX0 X.prog X.w X.K X.mg X.base Ng x sg g cdg X.A X.stack s H C8.E0).nox (e :: es) (clL W (e :: es) ct.hs) :=
      cls_ok (X := (cxOf C8.CX0 X.prog X.w X.K X.mg X.base Ng x sg g cdg X.A X.stack s H C8.E0).nox) (Ng := Ng) (sg := sg) CF hK hm rfl rfl (fun x k e => e) hg hu (fun z => rpB_of (sg := sg) z) hmr b2 hc
    have fn : PE (cxOf C8.CX0 X.prog X.w X.K X.mg X.base Ng x sg g cdg X.A X.stack s H C8.E0).nox v (rdAn W (fun _ _ _ => True) (anD ct.fin none)) :=
      an_ok (X := (cxOf C8.CX0 X.prog X.w X.K X.mg X.base Ng x sg g cdg X.A X.stack s H C8.E0).nox) (W := W) (rb := rpB sg) (PL := fun _ _ _ => True) (fe := none) (d := none) hK hg hu (fun z => rpB_of (sg := sg) z) (by show X.mg _ = _; rw [hm]; exact hmr) (fun e' he' => (fldB_none he').elim) b3
    refine ⟨_, pss_cons (ps_try_mix (X := (cxOf C8.CX0 X.prog X.w X.K X.mg X.base Ng x sg g cdg X.A X.stack s H C8.E0).nox) (l := clL W (e :: es) ct.hs)
      (tb := fun Wb D σ H => ∃ Ech : XK, (∀ cls d σ' H', Ech cls d H' → Wb cls d σ' H') ∧ σ[0]? = some (some (.ref f)) ∧ H c' = some (LamX.CodeO c' q) ∧ tl Ech H (fun _ H' => D.nx σ H'))
      rfl rfl hN LamX.takes0 (fun Wb pn xe tk _ => ?_) cl) (pss_one (ps_ret fn)), ?_⟩
    · refine pss_one ⟨fun pins s' σ H' D I h' => ?_⟩
      obtain ⟨Ech, hW, h1, h2, h3⟩ := h'
      exact (ps_expr (pos := p3) (act Wb pn xe Ech p1 p2 tk hW) (swaps_no rfl _ _ _)).run pins s' σ H' D I ⟨h1, h2, h3⟩
    · exact ⟨_, fun cls d σ' H' ⟨c, d', Γ, ρ, F, σ0, h', x', R, hx, e1, e2, q⟩ => hK ▸ cls_mix CF (Q := Q) rfl R hx b2 hc e1 e2 q, h0 f, hco, h⟩
  · exact nomatch hb
theorem FnG.le {k k' : Nat} {gf : Bool} {a : Addr} {fd : FuncData} {ps : List Str} {sp : Sp} (h : FnG W k gf a fd ps sp) (hk : k ≤ k') : FnG W k' gf a fd ps sp := ⟨h.len, fun A outer s H args us vs Q E r => h.run A outer s H args us vs Q E (r.mono hk)⟩
theorem FnAt.le {p : Pr} {k k' f : Nat} {gf : Bool} {a : Addr} (h : FnAt W p k gf f a) (hk : k ≤ k') : FnAt W p k' gf f a := by
  obtain ⟨fd, ps, G, b⟩ := h.fn
  exact ⟨h.keep, fd, ps, G.le hk, b⟩
/-- a catcher of the program -/
structure CatAt (W : Wd) (cn : Nat → Str) (x : Str) (ct : Cat) : Prop where
  ex : ∃ (g : Addr) (a : Str) (pg : Arguments) (bg : List Stmt) (sg : Scope) (dV kV doc pm cdv ct' oc : Value) (an od : Option Addr) (osl : Array (Option Value)) (Ng : List Str),
    W.mg x = some (.ref g) ∧ PySem.W.keepIn W.K (.ref g) = true ∧ W.K.lookup g = some ⟨oc, od, .func (PySem.W.fnOf x x pg bg sg dV kV doc pm an cdv ct'), osl⟩ ∧ PySem.W.codeIn W.K cdv x = true ∧ L2.Binds W.K (PySem.W.fnOf x x pg bg sg dV kV doc pm an cdv ct') [a] [] ∧
    FnScope Ng [a] sg ∧ Ng[0]? = some a ∧ catB cn W.fld Ng sg a bg ct = true ∧ (a == ("__debug__" : Str)) = false ∧ (a == ("__classdict__" : Str)) = false
  cls : ∀ k ∈ ct.hs, (W.clA k.cls).isSome = true
  rp : W.mg "repr" = none
  db : (x == ("__debug__" : Str)) = false
/-- the making of lambdas in a def -/
structure LamAt (W : Wd) (X : Cx) : Prop where
  ex : ∃ c P : Addr, LamX.TabB X.base X.mg c P ∧ X.env.code = .ref c ∧ (P, X.env.qual ++ "<lambda>") ∈ W.T ∧ ∀ p ∈ W.T, p.1 = P → p.2 = X.env.qual ++ "<lambda>"
  fn : ∀ x, X.fn x = true
  cells : W.cl.cells = X.env.cells
  qual : W.cl.qual = X.env.qual ++ "<lambda>"
theorem ExtN.rel {Γ : Gm} {F H H1 : Hp} {ρ : En} {σ : L2.St} (R : Rel W Γ F ρ σ H) (e : LamX.ExtN H H1) (t : LamX.Tabs W.T H1) : Rel W Γ F ρ σ H1 := R.heapN (fun a o h n => e a o h n) t
/-- what a catcher makes of a lambda's reading -/
theorem cat_rd {p : Pr} {n gi : Nat} {ct : Cat} {cb : C} {σ : L2.St} {H : Hp} {Q : VK} (hct : p.cat gi = ct) (h : rd W p NoX (n + 1) (.cat gi cb) σ H Q) : TTc W ct (fun E H' Q' => rd W p E n cb σ H' Q') H Q := by
  obtain ⟨Γ, ρ, F, R, h⟩ := h
  unfold ev at h
  dsimp only at h
  rw [hct] at h
  refine ⟨Γ, ρ, F, R, ?_⟩
  cases eb : ev p n cb ρ with
  | bad => rw [eb] at h; exact h.elim
  | ok r ρ1 =>
    rw [eb] at h
    dsimp only at h
    intro F' H' s1 R1 v hv
    cases ea : anD ct.fin none with
    | none => rw [ea] at h; exact h.elim
    | some y =>
      rw [ea] at h
      exact ⟨Γ, ρ1, F', σ, y, R1, trivial, rfl, fun F2 H2 s2 R2 => h F2 H2 (s1.trans s2) R2⟩
  | exc cc d ρ1 =>
    rw [eb] at h
    dsimp only at h
    intro F' H' cls dx s1 R1 hx
    cases ec : clause cc ct.hs with
    | none => rw [ec] at h; exact h.elim
    | some hd =>
      rw [ec] at h
      dsimp only at h
      cases ea : anD hd.ans d with
      | none => rw [ea] at h; exact h.elim
      | some y =>
        rw [ea] at h
        exact ⟨cc, d, Γ, ρ1, F', σ, hd, y, R1, hx, ec, ea, fun F2 H2 s2 R2 => h F2 H2 (s1.trans s2) R2⟩
theorem pe_catD {p : Pr} {E : XK} {n k gi : Nat} {x : Str} {ct : Cat} {params : Arguments} {body : Expr} {scope : Scope} {cb : C} {p1 lpos pos : Pos} (CF : ClF W cn) (hX : XW W (k + 2) true X) (hgl : Gl X x) (CA : CatAt W cn x ct) (hct : p.cat gi = ct) (LA : LamAt W X) (L : LamX.LamS X.env.scope scope) (hdef : defaultsOf params X.env = ([], []))
    (hbind : ∀ (q : Str) (cl : List (Str × Addr)) (pm cv ctv : Value), bindArgs (PySem.W.kla_fn "<lambda>" q params body scope cl pm cv ctv) ⟨[], []⟩ = pure [])
    (hbody : ∀ (A : Around) (outer : List Env) (s : Shared) (H : Hp) (E : XK) (f c' : Addr), Room k (A.deeper (LamX.lamEnv X scope s.heap.objs.size f c')) → PE (LamX.lamCx X A outer s H E scope f c') body (rd W p E n cb)) :
    PE X (.Call (.Name x p1) [.Lambda params body scope lpos] [] pos) (rd W p E (n + 1) (.cat gi cb)) := by
  obtain ⟨g, a, pg, bg, sg, dV, kV, doc, pm, cdv, ct', oc, an, od, osl, Ng, h1, h2, h3, h4, h5, h6, h7, h8, h9, h10⟩ := CA.ex
  obtain ⟨c, P, t1, t2, t3, t4⟩ := LA.ex
  have hva : Vis sg a := by
    rcases h6.par a (List.mem_cons_self ..) with z | z
    · exact .inl z
    · exact .inr (.inl z)
  have h0 : ∀ f : Addr, (L2.start Ng [V.ref f])[0]? = some (some (V.ref f)) := fun f => start_get rfl
  have hG := gives_cat (X := X) (q := X.env.qual ++ "<lambda>") (x := x) (g := g) (cdg := cdv) CF hX.K hX.mg (hX.gd rfl) (by have := hX.room.un; omega) h8 CA.cls h6.nd CA.rp h0
  refine (LamX.pe_lamcall (T := W.T) (t := fun E => rd W p E n cb) hgl (by rw [hX.mg]; exact h1) (hX.K ▸ h2) (hX.K ▸ h3) (hX.K ▸ h4) (hX.K ▸ h5) h6 h7 hva hG t1 t2 t3 t4 hX.room L hdef hbind hbody CA.db h9 h10).weak fun σ H Q h => ?_
  obtain ⟨Γ, ρ, F, R, h⟩ := h
  refine ⟨R.tb, fun H1 e1 tb1 => ⟨Γ, ρ, F, ExtN.rel R e1 tb1, ?_⟩⟩
  unfold ev at h
  dsimp only at h
  rw [hct] at h
  cases eb : ev p n cb ρ with
  | bad => rw [eb] at h; exact h.elim
  | ok r ρ1 =>
    rw [eb] at h
    dsimp only at h
    intro F' H' s1 R1 v hv
    cases ea : anD ct.fin none with
    | none => rw [ea] at h; exact h.elim
    | some y =>
      rw [ea] at h
      exact ⟨Γ, ρ1, F', σ, y, R1, trivial, rfl, fun F2 H2 s2 R2 => h F2 H2 (s1.trans s2) R2⟩
  | exc cc d ρ1 =>
    rw [eb] at h
    dsimp only at h
    intro F' H' cls dx s1 R1 hx
    cases ec : clause cc ct.hs with
    | none => rw [ec] at h; exact h.elim
    | some hd =>
      rw [ec] at h
      dsimp only at h
      cases ea : anD hd.ans d with
      | none => rw [ea] at h; exact h.elim
      | some y =>
        rw [ea] at h
        exact ⟨cc, d, Γ, ρ1, F', σ, hd, y, R1, hx, ec, ea, fun F2 H2 s2 R2 => h F2 H2 (s1.trans s2) R2⟩
end
end Pv
end PvR_
section PvLb_
set_option maxRecDepth 100000
/-! PvLb: lambdas that are kept: a larger base, the making, the call. -/
namespace Pv
open PySem PySem.Spec PyProof.Rows L2
/-! ### a base that holds all that a callee cannot change -/
structure Up (P : Program) (w : World) (K : PySem.W.Frag) (mg : Str → Option Value) (base G : Heap) (outer : List Env) (H : Hp) (h : Heap) : Prop where
  inn : ∀ b o, G.get? b = some o → h.get? b = some o ∧ H b = none
  all : ∀ b o, h.get? b = some o → H b = none → b ∉ frs outer → G.get? b = some o
  low : ∀ b o, base.get? b = some o → G.get? b = some o
  bsz : base.objs.size ≤ G.objs.size
theorem funs_mono {h B G : Heap} (k : ∀ b o, B.get? b = some o → G.get? b = some o) : ∀ {l : List Env}, h.FunFrames G l → h.FunFrames B l
  | [], _ => trivial
  | e :: l, f => by
    obtain ⟨f1, ⟨L, o, f2, f3, f4, f5⟩, f6⟩ := f
    refine ⟨f1, ⟨L, o, f2, ?_, f4, f5⟩, funs_mono k f6⟩
    cases q : B.get? L with
    | none => rfl
    | some u => rw [k _ _ q] at f3; exact nomatch f3
theorem funs_up {h B G : Heap} : ∀ {l : List Env}, (∀ b ∈ frs l, G.get? b = none) → h.FunFrames B l → h.FunFrames G l
  | [], _, _ => trivial
  | e :: l, k, f => by
    obtain ⟨f1, ⟨L, o, f2, f3, f4, f5⟩, f6⟩ := f
    have ef : frs (e :: l) = L :: frs l := by unfold frs; rw [List.filterMap_cons, f2]
    rw [ef] at k
    exact ⟨f1, ⟨L, o, f2, k L (List.mem_cons_self ..), f4, f5⟩, funs_up (fun b hb => k b (List.mem_cons_of_mem _ hb)) f6⟩
section
variable {P : Program} {w : World} {K : PySem.W.Frag} {mg : Str → Option Value} {base G : Heap} {A : Around} {outer : List Env} {s : Shared} {H : Hp}
theorem up_ex (e : Env0 P w K mg base A outer s H) : ∃ G, Up P w K mg base G outer H s.heap ∧ Env0 P w K mg G A outer s H := by
  obtain ⟨l, hl⟩ : ∃ l, l = frs outer := ⟨_, rfl⟩
  have get : ∀ b o, s.heap.get? b = some o → H b = none → b ∉ frs outer → (PySem.W.hideAll (hidT s.heap H) l).get? b = some o := fun b o h1 h2 h3 =>
    PySem.W.hideAll_get _ (hidT_get h1 h2) (by rw [hl]; exact h3)
  have of : ∀ b o, (PySem.W.hideAll (hidT s.heap H) l).get? b = some o → (hidT s.heap H).get? b = some o := fun b o h => PySem.W.of_hideAll l h
  have bG : ∀ b o, base.get? b = some o → (PySem.W.hideAll (hidT s.heap H) l).get? b = some o := fun b o h => by
    obtain ⟨h1, h2⟩ := e.bs b o h
    refine get b o h1 h2 fun hb => ?_
    have := (e.funs.mem hb).1
    rw [h] at this; exact nomatch this
  have sz : (PySem.W.hideAll (hidT s.heap H) l).objs.size = s.heap.objs.size := by rw [PySem.W.hideAll_size, hidT_size]
  obtain ⟨G, hG⟩ : ∃ G, G = PySem.W.hideAll (hidT s.heap H) l := ⟨_, rfl⟩
  rw [← hG] at get of bG sz
  have U : Up P w K mg base G outer H s.heap := ⟨fun b o h => of_hidT (of b o h), get, bG, by rw [sz]; exact e.bsz⟩
  refine ⟨G, U, { frames := e.frames, mod := ?_, bs := fun b o h => U.inn b o h, bsz := Nat.le_of_eq sz, funs := funs_up (fun b hb => ?_) e.funs, frf := e.frf, hok := e.hok, bare := e.bare }⟩
  · obtain ⟨mb, b1, b2⟩ := e.mod.blt
    exact ⟨e.mod.kin.keeps bG, e.mod.glob.keeps bG, ⟨mb, b1.keeps bG, b2⟩, e.mod.nolimit.keeps bG⟩
  · rw [hG]; exact PySem.W.hideAll_none l (by rw [hl]; exact hb)
theorem Up.down (u : ∀ b o, base.get? b = some o → G.get? b = some o) (z : base.objs.size ≤ G.objs.size) (m : Mod K mg base) (e : Env0 P w K mg G A outer s H) : Env0 P w K mg base A outer s H :=
  { frames := e.frames, mod := m, bs := fun b o h => e.bs b o (u b o h), bsz := Nat.le_trans z e.bsz, funs := funs_mono u e.funs, frf := e.frf, hok := e.hok, bare := e.bare }
end
/-! ### a lambda called, far above its maker -/
section
variable {X : Cx} {pins : List (Addr × Obj)} {σ : L2.St} {H HZ : Hp} {s s1 : Shared}
theorem clo_in {cells : List (Str × Addr)} {names : List (Str × NameKind)} (hf : ∀ z ∈ names, z.2 = .free → ∃ c, cells.lookup z.1 = some c) {y : Str} {c : Addr} (h : (cloFrom cells names []).lookup y = some c) : cells.lookup y = some c := by
  rcases cloFrom_mem (PySem.mem_of_lookup h) with m | ⟨m, e⟩
  · exact absurd m (by simp)
  · obtain ⟨d, hd⟩ := hf _ m rfl
    have hd : cells.lookup y = some d := hd
    have : c = d := by
      rw [e, hd] <;> rfl
    rw [this]; exact hd
theorem clo_has {cells : List (Str × Addr)} {scope : Scope} {y : Str} (h : scope.names.lookup y = some .free) : ∃ c, (cloFrom cells scope.names []).lookup y = some c :=
  mem_lookup (cloFrom_has (cells := cells) (acc := []) (PySem.mem_of_lookup h))
theorem lam_startU {A : Around} {outer : List Env} {E : XK} {scope : Scope} {f c' : Addr} {h₁ : Heap} {tk : Nat} (I : L2.Inv X pins σ H s) (L : LamX.LamS X.env.scope scope) (e0 : Env0 X.prog X.w X.K X.mg X.base A outer s1 HZ) (hd : A.handled = none)
    (ck : ∀ y c, X.env.cells.lookup y = some c → HZ c = none ∧ ∀ v, s.heap.IsCell c v → h₁.IsCell c v) (hns : h₁.Ns s1.heap.objs.size fun y => ([] : List (Str × Value)).reverse.lookup y) (kp : ∀ b o, s1.heap.get? b = some o → h₁.get? b = some o) :
    L2.Inv (LamX.lamCx X A outer s1 HZ E scope f c') [] σ HZ { s1 with heap := h₁, toks := tk } := by
  have fr := L.has I.ok
  have cells : ∀ {y c}, (LamX.lamCx X A outer s1 HZ E scope f c').env.cells.lookup y = some c → X.env.cells.lookup y = some c := fun h => clo_in fr h
  have nex : ∀ b : Addr, b ∉ (LamX.lamCx X A outer s1 HZ E scope f c').ex := fun b z => by
    have z : b ∈ ([] : List Addr) := z
    exact absurd z (by simp)
  have noLoc : ∀ {y}, scope.names.lookup y = some .local → False := fun h => (L.own _ (PySem.mem_of_lookup h)).1 rfl
  have noCell : ∀ {y}, scope.names.lookup y = some .cell → False := fun h => (L.own _ (PySem.mem_of_lookup h)).2 rfl
  refine { ok := { mod := e0.mod, kind := L.kind, glob := rfl, blt := rfl, above := Nat.le_refl _, inj := fun y z c h1 h2 => I.ok.inj y z c (cells h1) (cells h2), has := ?has, cab := ?cab, hd := fun _ => hd, frames := Around.frames_deeper e0.frames, stk := .inr ⟨rfl, rfl⟩, exf := fun b z => absurd z (nex b), bs := e0.bs, bsz := e0.bsz, noex := fun b _ _ => nex b, exfs := fun b z => absurd z (nex b), funs := e0.funs, frf := e0.frf }, os := rfl, bare := e0.bare, base := Un.kept kp, loc := ⟨_, hns, ?loc⟩, cell := ?cell, free := e0.hok.fresh (Nat.le_refl _), freeC := fun y c h => (ck y c (cells h)).1, pin := fun q hq => ?pin, hok := e0.hok.kept kp, len := I.len }
  case has =>
    intro y hy
    have hy : scope.names.lookup y = some .cell ∨ scope.names.lookup y = some .free := hy
    rcases hy with hy | hy
    · exact (noCell hy).elim
    · exact clo_has hy
  case cab => exact fun y c z _ => nomatch (show false = true from z)
  case pin =>
    have hq : q ∈ ([] : List (Addr × Obj)) ++ [] := hq
    exact absurd hq (by simp)
  case cell =>
    intro y c h
    obtain ⟨v, hv⟩ := I.cell y c (cells h)
    exact ⟨v, (ck y c (cells h)).2 v hv⟩
  case loc =>
    intro i y v e1 e2 e3
    have e3 : Vis scope y := e3
    rcases e3 with k | k | k
    · exact (noLoc k).elim
    · exact (noCell k).elim
    · obtain ⟨m, _, hl⟩ := I.loc
      have kk := L.free _ (PySem.mem_of_lookup k) rfl
      have vis : Vis X.env.scope y := kk.elim (fun z => .inr (.inl z)) fun z => .inr (.inr z)
      obtain ⟨u, r, q⟩ := hl i y v e1 e2 vis
      obtain ⟨c2, h2⟩ := clo_has (cells := X.env.cells) k
      refine ⟨u, r, .inr ⟨.inr k, c2, h2, ?_⟩⟩
      rcases q with ⟨k', _⟩ | ⟨_, c3, h3, hc⟩
      · have k' : X.env.scope.names.lookup y = some .local := k'
        rcases kk with z | z
        · have z : X.env.scope.names.lookup y = some .cell := z
          rw [k'] at z; exact nomatch z
        · have z : X.env.scope.names.lookup y = some .free := z
          rw [k'] at z; exact nomatch z
      · have h3' := clo_in fr h2
        rw [h3] at h3'; injection h3' with h3'; subst h3'
        exact (ck y c3 h3).2 _ hc
abbrev noArgs : Arguments := ⟨[], [], none, [], [], none, []⟩
/-- x(), x a lambda of a frame that waits; Z: a def's context far above it -/
theorem act_up {G : Heap} {fr : Frm} {CXg : CXT} {Eg : XK} {Ng : List Str} {qg : Str} {sg : Scope} {g f c' : Addr} {cdg : Value} {body : Expr} {scope : Scope} {k i : Nat} {a : Str} {pn : List (Addr × Obj)} {xe : Value → Shared → Prop} {Wz : WX} {E : XK} {tb : TE} {p1 p2 : Pos} {Az : Around} {oz : List Env} {sz : Shared} {Hz : Hp}
    (I : L2.Inv X pins σ H s) (U : Up X.prog X.w X.K X.mg X.base G X.stack H s.heap) (hfn : ∀ x, X.fn x = true) (L : LamX.LamS X.env.scope scope) (hfc : fr.cells = X.env.cells) (hfq : fr.qual = X.env.qual ++ "<lambda>")
    (tk : Takes ((cxOf CXg X.prog X.w X.K X.mg G Ng qg sg g cdg Az oz sz Hz Eg).tr pn xe) Wz) (hW : ∀ cls d σ' H', E cls d H' → Wz cls d σ' H') (hr : Room (k + 1) (Az.deeper (envOfC qg sg sz.heap.objs.size g cdg)))
    (hbody : ∀ (A : Around) (outer : List Env) (s : Shared) (H : Hp), Room k (A.deeper (LamX.lamEnv X scope s.heap.objs.size f c')) → PE (LamX.lamCx X A outer s H E scope f c') body tb)
    (hN : Ng[i]? = some a) (hv : Vis sg a) (hd : (a == ("__debug__" : Str)) = false := by decide) (hcd : (a == ("__classdict__" : Str)) = false := by decide) :
    PE ((cxOf CXg X.prog X.w X.K X.mg G Ng qg sg g cdg Az oz sz Hz Eg).tr pn xe) (.Call (.Name a p1) [] [] p2)
      (fun σZ HZ Q => σZ[i]? = some (some (.ref f)) ∧ HZ f = some (CloO fr scope body f c') ∧ HZ c' = some (LamX.CodeO c' fr.qual) ∧ tb σ HZ Q) := by
  refine ⟨fun pinsZ sZ σZ HZ Q IZ ⟨hs, ho, hc, ht⟩ => ?_⟩
  refine wpAny_Call_Name_kw (thn ((pe_var (pos := p1) (i := i) hN hv hd hcd).run pinsZ sZ σZ HZ (fun v H1 => v = .ref f ∧ H1 = HZ) IZ ⟨.ref f, hs, rfl, rfl⟩) fun u s2 ⟨v, H1, I2, r2, e1, e2⟩ => ?_)
  subst e1; subst e2
  obtain rfl : u = Value.ref f := r2
  obtain ⟨⟨pm, ctv, hf⟩, _, _⟩ := I2.hok f _ ho
  obtain ⟨⟨oc, vs, t, hoc, hdc, hvc⟩, _, _⟩ := I2.hok c' _ hc
  rw [hfc, hfq] at hf
  rw [hfq] at hvc
  refine PySem.W.callWith_F0 ⟨_, _, _, _, hf⟩ ?_
  have env0 : Env0 X.prog X.w X.K X.mg G (Az.deeper (envOfC qg sg sz.heap.objs.size g cdg)) (envOfC qg sg sz.heap.objs.size g cdg :: oz) s2 H1 := I2.env0
  have room := hr
  have run : codeAny (model X.prog X.w) (Az.deeper (envOfC qg sg sz.heap.objs.size g cdg)) (.call (.ref f) ⟨[], []⟩) (CR (L2.CX X.prog X.w) (envOfC qg sg sz.heap.objs.size g cdg :: oz) X.prog X.w H1 s2 Q E) s2 := by
    refine PySem.W.kla_callFunE room.depth hf rfl L.co L.gen rfl ⟨c', oc, vs, t, rfl, hoc, hdc, hvc⟩ ?_
    show wpAny _ _ (bindArgs (PySem.W.kla_fn "<lambda>" (X.env.qual ++ "<lambda>") noArgs body scope (cloFrom X.env.cells scope.names []) pm (.ref c') ctv) ⟨[], []⟩ >>= _) _ _ _
    rw [show bindArgs (PySem.W.kla_fn "<lambda>" (X.env.qual ++ "<lambda>") noArgs body scope (cloFrom X.env.cells scope.names []) pm (.ref c') ctv) ⟨[], []⟩ = pure [] from rfl]
    refine wpAny_pure (wpAny_newFunctionEnv (fun y hy => (L.own y hy).2) (fun y hy => absurd hy (by simp)) (fun h₁ hns hsb => ⟨I2.nolimit.fresh _ hsb, ?_⟩) L.kind)
    show codeAny _ _ (.expr body (LamX.lamEnv X scope s2.heap.objs.size f c')) _ _
    have kp : ∀ b o, s2.heap.get? b = some o → h₁.get? b = some o := fun b o e => hsb.extBut b o (Nat.ne_of_lt (Heap.lt_size e)) (Heap.get?_push_of_some _ e)
    have ck : ∀ y c, X.env.cells.lookup y = some c → H1 c = none ∧ ∀ v, s.heap.IsCell c v → h₁.IsCell c v := fun y c hy => by
      have n1 : c ∉ frs X.stack := fun z => by
        rcases List.mem_cons.mp (I.stkSub c z) with z | z
        · exact I.cne y c hy z
        · obtain ⟨_, o, h3, _⟩ := I.ok.funs.mem z
          exact absurd (Nat.lt_of_lt_of_le (Heap.lt_size h3) (I.ok.cab y c (hfn y) hy)) (Nat.lt_irrefl _)
      have up : ∀ o, s.heap.get? c = some o → G.get? c = some o := fun o h3 => U.all c o h3 (I.freeC y c hy) n1
      refine ⟨?_, fun v ⟨o, h3, h4⟩ => ⟨o, kp _ _ (env0.bs c o (up o h3)).1, h4⟩⟩
      obtain ⟨v, o, h3, _⟩ := I.cell y c hy
      exact (env0.bs c o (up o h3)).2
    have J := lam_startU (E := E) (f := f) (c' := c') (tk := s2.toks + ([] : List (Str × Value)).length) I L (Up.down U.low U.bsz I.mod env0) room.hd ck hns kp
    refine PySem.W.kla_codeExpr (wpAny_mono ((hbody _ _ s2 H1 (room.deeper _)).run [] _ _ H1 Q J ht) (fun v s3 hq => ?_) fun e s3 hq => hq)
    obtain ⟨w3, H3, J3, rv, q⟩ := hq
    exact ⟨w3, H3, J3.os, J3.bare, J3.base, J3.hok, rv, q⟩
  have hx : Passes (L2.CX X.prog X.w) ((cxOf CXg X.prog X.w X.K X.mg G Ng qg sg g cdg Az oz sz Hz Eg).tr pn xe) E := passes_call tk hW
  refine wpAny_call (codeAny_mono run fun r s3 hq => ?_)
  cases r with
  | error e => exact hx pinsZ σZ _ s2 e s3 I2 hq
  | ok fl =>
    cases fl with
    | ret u => exact I2.after hq
    | next => exact False.elim hq
    | brk => exact False.elim hq
    | cont => exact False.elim hq
end
end Pv
end PvLb_
section PvLm_
set_option maxRecDepth 100000
/-! PvLm: the making of a lambda that is kept; lists of them. -/
namespace Pv
open PySem PySem.Spec PyProof.Rows L2
/-- a lambda's making, as a value: its function object is new and known from now on -/
def tLamN (W : Wd) (scope : Scope) (body : Expr) : TE := fun _ H Q => LamX.Tabs W.T H ∧ ∀ (f c' : Addr) (H1 : Hp), LamX.ExtN H H1 → LamX.Tabs W.T H1 → H f = none → H1 f = some (CloO W.cl scope body f c') → H1 c' = some (LamX.CodeO c' W.cl.qual) → Q (.ref f) H1
section
variable {W : Wd} {X : Cx}
theorem clo_ok {fr : Frm} {scope : Scope} {body : Expr} {f c' : Addr} {h : Heap} {H : Hp} {P : Program} {w : World} {pm ctv : Value} (e : h.get? f = some (PySem.W.kla_obj "<lambda>" fr.qual noArgs body scope (cloFrom fr.cells scope.names []) pm c' ctv)) : ObjOk P w H h f (CloO fr scope body f c') :=
  ⟨⟨pm, ctv, e⟩, ⟨_, e⟩, fun _ _ ⟨p1, p2, z⟩ st => ⟨p1, p2, st _ z⟩⟩
theorem pe_lamN {scope : Scope} {body : Expr} {pos : Pos} (LA : LamAt W X) (L : LamX.LamS X.env.scope scope) : PE X (.Lambda noArgs body scope pos) (tLamN W scope body) := by
  obtain ⟨c, P, TB, hcode, hm, hu⟩ := LA.ex
  refine ⟨fun pins s σ H Q I ⟨hT, h⟩ => ?_⟩
  obtain ⟨ps, hP, htr, ha⟩ := hT _ hm
  have tab : s.heap.get? P = some { cls := .none, data := .fields ps } := I.hok P _ hP
  have bP : s.heap.BuiltinsAt X.mg P := TB.bm.keeps I.bk
  -- a new function object behind any heap that keeps ours
  have put : ∀ {h' : Heap} {H1 : Hp} {tk : Nat} {c' : Addr} {pm ctv : Value}, L2.Inv X pins σ H1 { s with heap := h', toks := tk } → s.heap.objs.size ≤ h'.objs.size → LamX.ExtN H H1 → LamX.Tabs W.T H1 → H1 c' = some (LamX.CodeO c' W.cl.qual) →
      ∃ v H2, L2.Inv X pins σ H2 { s with heap := h'.push (PySem.W.kla_obj "<lambda>" (X.env.qual ++ "<lambda>") noArgs body scope (cloFrom X.env.cells scope.names []) pm c' ctv), toks := tk } ∧ RelV v (.ref h'.objs.size) ∧ Q v H2 := fun {h' H1 tk c' pm ctv} I1 sz eN T1 hc' => by
    have hf : H1 h'.objs.size = none := I1.hok.fresh (Nat.le_refl _)
    have e : (h'.push (PySem.W.kla_obj "<lambda>" (X.env.qual ++ "<lambda>") noArgs body scope (cloFrom X.env.cells scope.names []) pm c' ctv)).get? h'.objs.size = some (PySem.W.kla_obj "<lambda>" W.cl.qual noArgs body scope (cloFrom W.cl.cells scope.names []) pm c' ctv) := by
      rw [LA.cells, LA.qual]
      exact Heap.get?_push_size _ rfl
    refine ⟨.ref h'.objs.size, _, I1.laid (t' := tk) (o := CloO W.cl scope body h'.objs.size c') (fun b u q => Heap.get?_push_of_some _ q) (Nat.le_refl _) (clo_ok e), rfl, ?_⟩
    refine h _ c' _ (fun b o q n => ?_) (T1.ext fun b o q => ?_) (I.hok.fresh sz) upd_same ?_
    · have := eN b o q n
      rw [upd_ne (ne_of_none this hf)]; exact this
    · rw [upd_ne (ne_of_none q hf)]; exact q
    · rw [upd_ne (ne_of_none hc' hf)]; exact hc'
  refine PySem.W.kla_eval rfl ?_
  cases hc : codeAmong pos ps.toList with
  | some cv =>
    obtain ⟨c', e, hco⟩ := ha pos cv hc
    subst e
    refine PySem.W.kla_makeFunctionHit (mg := X.mg) (c := c) (P := P) (ps := ps) (closure_ok (L.has I.ok)) I.ok.glob (I.mod.glob.keeps I.bk) hcode (TB.code.keeps I.bk) tab htr hc bP fun ctv h' tk hx hsz => ?_
    obtain ⟨v, H2, I2, rv, q⟩ := put (pm := (X.mg "__name__").getD .none) (ctv := ctv) (c' := c') (I.kept (t' := tk) hx) hsz (LamX.ExtN.refl H) hT (by rw [LA.qual]; exact hco)
    exact ⟨v, H2, I2, rv, q⟩
  | none =>
    refine PySem.W.kla_makeFunction (mg := X.mg) (c := c) (P := P) (ps := ps) (closure_ok (L.has I.ok)) I.ok.glob (I.mod.glob.keeps I.bk) hcode (TB.code.keeps I.bk) tab htr hc TB.gP bP fun c' ctv h' tk hx hge hlt hrec htb => ?_
    obtain ⟨c2, oc, vs, t, e2, hoc, hd, hv⟩ := hrec
    injection e2 with e2; subst e2
    have nC : H c' = none := I.hok.fresh hge
    have I1 := LamX.inv_table (q := X.env.qual ++ "<lambda>") (t' := tk) (more := #[rawInt pos.line, rawInt pos.col, .ref c']) (h' := h') I hP (fun b o hb e => hx b o hb e) htb hge ⟨oc, vs, t, hoc, hd, hv⟩
    have eN : LamX.ExtN H (upd (upd H P (.tbl (ps ++ #[rawInt pos.line, rawInt pos.col, .ref c']))) c' (LamX.CodeO c' (X.env.qual ++ "<lambda>"))) := fun b o e n => by
      rw [upd_ne (ne_of_none e nC), upd_ne (fun z => by rw [z, hP] at e; injection e with e; exact n ps e.symm)]
      exact e
    have T1 : LamX.Tabs W.T (upd (upd H P (.tbl (ps ++ #[rawInt pos.line, rawInt pos.col, .ref c']))) c' (LamX.CodeO c' (X.env.qual ++ "<lambda>"))) := fun p hp => by
      by_cases hb : p.1 = P
      · rw [hu p hp hb, hb]
        refine ⟨ps ++ #[rawInt pos.line, rawInt pos.col, .ref c'], by rw [upd_ne (ne_of_none hP nC), upd_same], ?_, fun p' cv hcv => ?_⟩
        · rw [Array.toList_append]; exact PySem.TriplesOk_snoc _ _ _ _ htr
        · rw [Array.toList_append] at hcv
          rcases LamX.among_app _ htr hcv with z | z
          · obtain ⟨c0, e1, e2⟩ := ha p' cv z
            exact ⟨c0, e1, eN _ _ e2 LamX.codeO_ne⟩
          · exact ⟨c', z, upd_same⟩
      · obtain ⟨ps', a1, a2, a3⟩ := hT p hp
        refine ⟨ps', by rw [upd_ne (ne_of_none a1 nC), upd_ne hb]; exact a1, a2, fun p' cv hcv => ?_⟩
        obtain ⟨c0, e1, e2⟩ := a3 p' cv hcv
        exact ⟨c0, e1, eN _ _ e2 LamX.codeO_ne⟩
    obtain ⟨v, H2, I2, rv, q⟩ := put (pm := (X.mg "__name__").getD .none) (ctv := ctv) (c' := c') I1 (Nat.le_trans hge (Nat.le_of_lt hlt)) eN T1 (by rw [LA.qual]; exact upd_same)
    exact ⟨v, H2, I2, rv, q⟩
/-! ### calls = [lambda: ..], calls.append(lambda: ..) .. -/
/-- a lambda of the frame that stands for the body c -/
def LamE (W : Wd) (X : Cx) (e : Expr) (c : C) : Prop := ∃ scope body pos, e = .Lambda noArgs body scope pos ∧ LamX.LamS X.env.scope scope ∧ W.cl.sb scope body c
def AppS (W : Wd) (X : Cx) (x : Str) : List Stmt → List C → Prop
  | [], [] => True
  | st :: sts, c :: cs => (∃ ap e cpos epos px, st = .Expr (.Call (.Attribute (.Name x px) "append" ap) [e] [] cpos) epos ∧ (ap.endLine == cpos.line) = true ∧ LamE W X e c) ∧ AppS W X x sts cs
  | _, _ => False
/-- behind the first lambdas cs0 -/
def tApp (W : Wd) (p : Pr) (E : XK) (n : Nat) (ss : List S) (i : Nat) (cs : List C) : TS := fun Z σ H => ∃ Γ ρ F q vs cs0, Rel W Γ F ρ σ H ∧ i < ρ.length ∧ getS ρ i = .emp ∧ σ[i]? = some (some (.ref q)) ∧ H q = some (.lst vs) ∧ F q = none ∧ Γ.H0 q = none ∧ NoSlot ρ σ q ∧ Clos W H vs cs0 ∧ fits (cs0 ++ cs).length = true ∧
  OkD W Γ E F (exsL (ex p n) ss (ρ.set i (.cls (cs0 ++ cs)))) Z
variable {p : Pr} {E : XK} {n : Nat}
theorem Clos.snoc {H : Hp} {v : V} {c : C} (h : CloAt W H v c) : ∀ {vs : List V} {cs : List C}, Clos W H vs cs → Clos W H (vs ++ [v]) (cs ++ [c])
  | [], [], _ => ⟨h, trivial⟩
  | [], _ :: _, k => k.elim
  | _ :: _, [], k => k.elim
  | _ :: _, _ :: _, k => ⟨k.1, Clos.snoc h k.2⟩
theorem lamE_pe {e : Expr} {c : C} (LA : LamAt W X) (h : LamE W X e c) : ∃ scope body, W.cl.sb scope body c ∧ PE X e (tLamN W scope body) ∧ notStar e = true := by
  obtain ⟨scope, body, pos, rfl, h1, h2⟩ := h
  exact ⟨scope, body, h2, pe_lamN LA h1, rfl⟩
theorem clo_new {scope : Scope} {body : Expr} {c : C} {f c' : Addr} {H : Hp} (h0 : W.cl.sb scope body c) (h1 : H f = some (CloO W.cl scope body f c')) (h2 : H c' = some (LamX.CodeO c' W.cl.qual)) : CloAt W H (.ref f) c := ⟨f, scope, body, c', rfl, h0, h1, h2⟩
theorem ext_off {H : Hp} {q : Addr} {vs : List V} {o' : HO} (hq : H q = some (.lst vs)) : ∀ a o, H a = some o → (∃ φ, o = .ext φ) → upd H q o' a = some o := fun a o ha ⟨φ, hx⟩ => by
  rw [upd_ne]
  · exact ha
  · rintro rfl; rw [hq] at ha; injection ha with ha; rw [hx] at ha; exact nomatch ha
theorem pss_apps {rest : List Stmt} {ss : List S} {i : Nat} {x : Str} (hN : X.N[i]? = some x) (hv : Vis X.env.scope x) (hd : (x == ("__debug__" : Str)) = false) (hcd : (x == ("__classdict__" : Str)) = false) (LA : LamAt W X) (hr : PSs X rest (rdSs W p E n ss)) : ∀ {sts : List Stmt} {cs : List C}, AppS W X x sts cs → PSs X (sts ++ rest) (tApp W p E n ss i cs)
  | [], [], _ => hr.weak fun Z σ H ⟨Γ, ρ, F, q, vs, cs0, R, hi, hg, hσ, hH, hF, h0, ns, hc, hf, k⟩ => by
    rw [List.append_nil] at k
    have R1 := R.frz1 hF hH ⟨fun _ z => (nomatch z), fun _ z => (nomatch z)⟩ h0 ns
    have R2 := R1.storeX (x := .cls cs0) (y := some (.ref q)) hi (by rw [hg]; rfl) ⟨q, vs, set_self (R.len ▸ hi), upd_same, hc⟩ fun _ _ _ _ z => nomatch z
    have e : σ.set i (some (.ref q)) = σ := by
      apply List.ext_getElem?
      intro j
      rcases Nat.decEq i j with m | rfl
      · rw [set_ne m]
      · rw [set_self (R.len ▸ hi), hσ]
    rw [e] at R2
    exact ⟨Γ, _, _, R2, k.sub (Sub.upd hF)⟩
  | [], _ :: _, h => h.elim
  | _ :: _, [], h => h.elim
  | st :: sts, c :: cs, h => by
    obtain ⟨⟨ap, e, cpos, epos, px, rfl, hl, he⟩, h2⟩ := h
    obtain ⟨scope, body, hsb, pe, ns⟩ := lamE_pe LA he
    have ih := pss_apps hN hv hd hcd LA hr h2
    have call := pe_bm (X := X) (e := e) (es := []) (apos := ap) (cpos := cpos) F.plainAttrs_list F.slot_list_append F.type_list_append mt_append (pe_var (pos := px) hN hv hd hcd) (pa_cons pe pa_nil (star_cons [] _ ns)) (plainRecv_ok rfl) (few1 ns) hl (star_cons _ _ ns) rfl
    refine (pss_cons (ps_expr (pos := epos) call (swaps_no rfl _ _ _)) ih).weak fun Z σ H ⟨Γ, ρ, F, q, vs, cs0, R, hi, hg, hσ, hH, hF, h0, ns, hc, hf, k⟩ => ?_
    refine ⟨.ref q, hσ, .inl ⟨rfl, vs, .inl (.inl hH)⟩, R.tb, fun f c' H1 eN T1 hn h1 h2 => ?_⟩
    have hq1 : H1 q = some (.lst vs) := eN q _ hH fun _ z => nomatch z
    have R1 := ExtN.rel R eN T1
    have hlen := hc.length
    have hf2 := fits_le hf
    rw [List.length_append, List.length_cons] at hf2
    refine ⟨q, vs, .ref f, rfl, rfl, hq1, by rw [hlen]; unfold sizeLine at hf2 ⊢; omega, ?_⟩
    refine ⟨Γ, ρ, F, q, vs ++ [.ref f], cs0 ++ [c], R1.other hq1 hF h0 ns ⟨fun _ z => (nomatch z), fun _ z => (nomatch z)⟩, hi, hg, hσ, upd_same, hF, h0, ns, ?_, ?_, ?_⟩
    · refine Clos.mono (ext_off hq1) (Clos.snoc (clo_new hsb h1 h2) (hc.mono fun a o ha ⟨φ, hx⟩ => eN a o ha fun ps z => by rw [hx] at z; exact nomatch z))
    · rw [List.append_assoc]; exact hf
    · rw [List.append_assoc]; exact k
/-- the whole block -/
theorem pss_closD {rest sts : List Stmt} {ss : List S} {i : Nat} {x : Str} {e : Expr} {c : C} {cs : List C} {px pl pos : Pos} (nd : X.N.Nodup) (hN : X.N[i]? = some x) (hx : Loc X.env.scope x) (hfx : X.fn x = true ∨ X.env.scope.names.lookup x = some .local) (hd : (x == ("__debug__" : Str)) = false) (hcd : (x == ("__classdict__" : Str)) = false) (LA : LamAt W X)
    (he : LamE W X e c) (ha : AppS W X x sts cs) (hr : PSs X rest (rdSs W p E n ss)) : PSs X (.Assign [.Name x px] (.List [e] pl) pos :: (sts ++ rest)) (rdSs W p E n (.clos i (c :: cs) :: ss)) := by
  obtain ⟨scope, body, hsb, pe, ns⟩ := lamE_pe LA he
  have hv : Vis X.env.scope x := hx.elim .inl fun z => .inr (.inl z)
  have st := ps_set (X := X) (pos := pos) (pos' := px) nd hN hx (pe_lst (pos := pl) (pa_cons pe pa_nil (star_cons [] _ ns))) (swaps_no rfl _ _ _) hfx
  refine (pss_cons st (pss_apps hN hv hd hcd LA hr ha)).weak fun Z σ H ⟨Γ, ρ, F, R, k⟩ => ?_
  have k : OkD W Γ E F ((ex p n (.clos i (c :: cs)) ρ).then (exsL (ex p n) ss)) Z := k
  cases n with
  | zero => unfold ex at k; exact k.elim
  | succ n =>
    have ek : ex p (n + 1) (.clos i (c :: cs)) ρ = (if (decide (i < ρ.length) && freeS (getS ρ i) && fits (c :: cs).length) = true then .nx (ρ.set i (.cls (c :: cs))) else .bad) := by unfold ex; rfl
    rw [ek] at k
    by_cases cd : (decide (i < ρ.length) && freeS (getS ρ i) && fits (c :: cs).length) = true
    · rw [if_pos cd] at k
      rw [Bool.and_eq_true, Bool.and_eq_true, decide_eq_true_eq] at cd
      obtain ⟨⟨c1, c2⟩, c3⟩ := cd
      refine ⟨R.tb, fun f c' H1 eN T1 hn h1 h2 => ⟨(by decide : 1 ≤ sizeLine), fun q hq => ?_⟩⟩
      have R1 := ExtN.rel R eN T1
      have R2 := R1.new (o := .lst [.ref f]) hq
      have R3 := R2.storeX (x := .emp) (y := some (.ref q)) c1 c2 trivial fun _ _ _ _ z => nomatch z
      have nsl := R1.noSlot hq
      refine ⟨Γ, _, F, q, [.ref f], [c], R3, by rw [List.length_set]; exact c1, getS_of (set_self c1), set_self (R.len ▸ c1), upd_same, R1.fnone hq, R1.dom _ hq, fun j b l d z w => ?_, ⟨?_, trivial⟩, c3, ?_⟩
      · rcases set_get z with ⟨rfl, z, _⟩ | ⟨m, z⟩
        · exact nomatch z
        · rw [set_ne m] at w; exact nsl j b l d z w
      · have off : ∀ a o, H1 a = some o → upd H1 q (.lst [.ref f]) a = some o := upd_keep hq
        exact clo_new hsb (off _ _ h1) (off _ _ h2)
      · have e2 : (ρ.set i .emp).set i (.cls ([c] ++ cs)) = ρ.set i (.cls (c :: cs)) := by rw [List.set_set]; rfl
        rw [e2]; exact k
    · rw [if_neg cd] at k; exact k.elim
end
end Pv
end PvLm_
section PvLn_
set_option maxRecDepth 100000
/-! PvLn: a def that calls the lambdas it got, each through a catcher. -/
namespace Pv
open PySem PySem.Spec PyProof.Rows L2
theorem Clos.get {W : Wd} {H : Hp} : ∀ {vs : List V} {cs : List C} {j : Nat} {v : V} {c : C}, Clos W H vs cs → vs[j]? = some v → cs[j]? = some c → CloAt W H v c
  | [], [], _, _, _, _, e, _ => by simp at e
  | [], _ :: _, _, _, _, k, _, _ => k.elim
  | _ :: _, [], _, _, _, k, _, _ => k.elim
  | _ :: _, _ :: _, 0, _, _, k, e1, e2 => by
    rw [List.getElem?_cons_zero] at e1 e2; injection e1 with e1; injection e2 with e2; subst e1; subst e2
    exact k.1
  | _ :: _, _ :: _, j + 1, _, _, k, e1, e2 => by
    rw [List.getElem?_cons_succ] at e1 e2
    exact Clos.get k.2 e1 e2
/-- the bodies that stand for lambdas tell the truth -/
def SbOk (W : Wd) (p : Pr) (k : Nat) (X : Cx) : Prop := ∀ scope body cb, W.cl.sb scope body cb → LamX.LamS X.env.scope scope ∧
  ∀ (A : Around) (outer : List Env) (s : Shared) (H : Hp) (E : XK) (f c' : Addr), Room k (A.deeper (LamX.lamEnv X scope s.heap.objs.size f c')) → ∀ m, PE (LamX.lamCx X A outer s H E scope f c') body (rd W p E m cb)
/-- the reading of one call -/
def tM (W : Wd) (p : Pr) (n g : Nat) (σ : L2.St) (w : V) (H : Hp) (Q : VK) : Prop := ∃ f scope body c' cb, w = .ref f ∧ W.cl.sb scope body cb ∧ H f = some (CloO W.cl scope body f c') ∧ H c' = some (LamX.CodeO c' W.cl.qual) ∧ rd W p NoX (n + 1) (.cat g cb) σ H Q
section
variable {W : Wd} {cn : Nat → Str} {p : Pr} {n k g : Nat} {X : Cx} {pins : List (Addr × Obj)} {σ : L2.St} {H : Hp} {s : Shared}
/-- x(y) in a frame far above the maker: x a catcher, y holds a lambda -/
theorem pe_up {G : Heap} {ct : Cat} {x y : Str} {iy : Nat} {X2 : Cx} {px py pos : Pos} (CF : ClF W cn) (CA : CatAt W cn x ct) (hct : p.cat g = ct) (hX : XW W k true X) (LA : LamAt W X) (SB : SbOk W p k X) (I : L2.Inv X pins σ H s) (U : Up X.prog X.w X.K X.mg X.base G X.stack H s.heap)
    (e1 : X2.prog = X.prog) (e2 : X2.w = X.w) (e3 : X2.K = X.K) (e4 : X2.mg = X.mg) (e5 : X2.base = G) (hr : Room (k + 2) X2.A) (hgd : X2.A.guards = some []) (hgl : Gl X2 x) (hN : X2.N[iy]? = some y) (hv : Vis X2.env.scope y) (hd : (y == ("__debug__" : Str)) = false) (hcd : (y == ("__classdict__" : Str)) = false) :
    PE X2 (.Call (.Name x px) [.Name y py] [] pos) (fun σ2 H2 Q => ∃ w, σ2[iy]? = some (some w) ∧ tM W p n g σ w H2 Q) := by
  obtain ⟨prog, w, K, mg, base, A, N, s_0, H_0, env, outer, stack, ex, fn, calm, pn, xe⟩ := X2
  dsimp only at e1 e2 e3 e4 e5
  subst e1; subst e2; subst e3; subst e4; subst e5
  obtain ⟨gA, a, pg, bg, sg, dV, kV, doc, pm, cdv, ct', oc, an, od, osl, Ng, h1, h2, h3, h4, h5, h6, h7, h8, h9, h10⟩ := CA.ex
  have hva : Vis sg a := by
    rcases h6.par a (List.mem_cons_self ..) with z | z
    · exact .inl z
    · exact .inr (.inl z)
  have h0 : ∀ f : Addr, (L2.start Ng [V.ref f])[0]? = some (some (V.ref f)) := fun f => start_get rfl
  refine ⟨fun pins2 s2 σ2 H2 Q I2 ⟨w0, hw, f, scope, body, c', cb, ew, hsb, hf, hc', h⟩ => ?_⟩
  subst ew
  obtain ⟨L, hb⟩ := SB scope body cb hsb
  have hG := gives_cat (X := ⟨X.prog, X.w, X.K, X.mg, base, A, N, s_0, H_0, env, outer, stack, ex, fn, calm, pn, xe⟩) (q := W.cl.qual) (x := x) (g := gA) (cdg := cdv) CF hX.K hX.mg hgd (by have := hr.un; dsimp only at this ⊢; omega) h8 CA.cls h6.nd CA.rp h0
  refine wpAny_Call_Name_kw (ld_glob I2 hgl (by show X.mg x = _; rw [hX.mg]; exact h1) ?_ CA.db)
  have args := (pa_cons (es := []) (pe_var (X := ⟨X.prog, X.w, X.K, X.mg, base, A, N, s_0, H_0, env, outer, stack, ex, fn, calm, pn, xe⟩) (pos := py) hN hv hd hcd) pa_nil).run pos pins2 s2 σ2 H2 (fun vs H3 => vs = [.ref f] ∧ H3 = H2) I2 ⟨_, hw, rfl, rfl⟩
  refine PySem.W.callWith_K (h₀ := base) I2.ok.mod.kin (by rw [hX.K]; exact h2) (thn args fun us s3 ⟨vs, H3, I3, r, ev, eH⟩ => ⟨I3.kIn, ?_⟩) (by rfl) (by rfl)
  subst ev; subst eH
  obtain ⟨u, rfl, ru⟩ := vals1 r
  obtain rfl : u = Value.ref f := ru
  have tail := cat_rd hct h
  have run : codeAny (model X.prog X.w) A (.call (.ref gA) ⟨[.ref f], []⟩) (CR C8.CX0 stack X.prog X.w H3 s3 Q C8.E0) s3 := by
    refine LamX.run_ofS (N := Ng) (ps := [a]) (us := [.ref f]) (vs := [.ref f]) (by rw [hX.K]; exact h3) (by rw [hX.K]; exact h4) h6 (k := k + 1) hr I3.env0 ?_ (.cons rfl .nil) rfl fun hr' => ?_
    · have hb := h5
      rw [← hX.K] at hb
      exact hb s3 [.ref f] I3.kIn rfl
    · obtain ⟨t', ht', hq'⟩ := hG f c' s3 H3 Q (fun E H' Q' => H' f = some (CloO W.cl scope body f c') ∧ rd W p E n cb σ H' Q') (fun Wz pn xe E p1 p2 tk hW =>
        (act_up (E := E) (tb := rd W p E n cb) (i := 0) (p1 := p1) (p2 := p2) I U LA.fn L LA.cells LA.qual tk hW hr' (fun A' outer' s' H' hr2 => hb A' outer' s' H' E f c' hr2 n) h7 hva h9 h10).weak fun σZ HZ QZ ⟨q1, q2, q3, q4⟩ => ⟨q1, q3, q2, q4⟩) hc' ⟨hf, tail⟩
      exact ⟨t', ht'.nox, hq'⟩
  refine wpAny_call (codeAny_mono run fun r s4 hq => ?_)
  cases r with
  | error e => exact (show False from hq).elim
  | ok fl =>
    cases fl with
    | ret u => exact I3.after hq
    | next => exact False.elim hq
    | brk => exact False.elim hq
    | cont => exact False.elim hq
/-! ### the walk over the list -/
theorem itl_pi {X : Cx} {x : Str} {px : Pos} {tg : Expr} (hN : X.N[0]? = some x) (hv : Vis X.env.scope x) (hd : (x == ("__debug__" : Str)) = false) (hcd : (x == ("__classdict__" : Str)) = false) : PI X tg (.Name x px) (iList X.K (tVar 0)) := pi_list (pe_var hN hv hd hcd)
/-- what stands at a turn -/
def MSt (W : Wd) (p : Pr) (n g : Nat) (Γ : Gm) (F1 : Hp) (σ : L2.St) (i : Nat) (ms : List D) (ρe : En) (D : Addr) (j m : Nat) (H : Hp) : Prop :=
  ∃ ρ F accV accD rest, Sub F1 F ∧ H D = some (.lst accV) ∧ Reps W F accV accD ∧ F D = none ∧ NoSlot ρ σ D ∧ Rel W Γ F ρ σ H ∧ metL (fun c ρ => ev p (n + 1) (.cat g c) ρ) i m j ρ = .ok rest ρe ∧ accD ++ rest = ms
variable {Γ : Gm} {F : Hp} {ρ ρe : En}
theorem cls_at {i : Nat} {q : Addr} {ws : List V} {cs : List C} {F1 : Hp} (R : Rel W Γ F ρ σ H) (hσ : σ[i]? = some (some (.ref q))) (hq : F1 q = some (.lst ws)) (s1 : Sub F1 F) (e : getS ρ i = .cls cs) : Clos W H ws cs := by
  obtain ⟨q', ws', a1, a2, a3⟩ := R.sl i _ (getS_some e (fun z => nomatch z))
  have := ref_inj hσ a1; subst this
  rw [s1 _ _ hq] at a2; injection a2 with a2; injection a2 with a2; subst a2
  exact a3
theorem mets_lc {i q len iy : Nat} {ws : List V} {ms : List D} {σ1 : L2.St} {Q : VK} {K : PySem.W.Frag} (hK : K = W.K) (R : Rel W Γ F ρ σ H) (hσ : σ[i]? = some (some (.ref q))) (hq : F q = some (.lst ws)) (hms : ms.length ≤ sizeLine)
    (eM : metL (fun c ρ => ev p (n + 1) (.cat g c) ρ) i len 0 ρ = .ok ms ρe) (h0 : σ1[0]? = some (some (.ref q))) (hiy : iy < σ1.length)
    (hQ : ∀ D H' F' accV, Sub F F' → H' D = some (.lst accV) → Reps W F' accV ms → F' D = none → Γ.H0 D = none → NoSlot ρe σ D → Rel W Γ F' ρe σ H' → Q (.ref D) H') :
    tLc (iList K (tVar 0)) (gName iy) tYes (fun σ2 H2 Q => ∃ w, σ2[iy]? = some (some w) ∧ tM W p n g σ w H2 Q) [iy] σ1 H Q := by
  subst hK
  refine ⟨.ref q, h0, q, rfl, ⟨ws, sqL_inj (R.sub _ _ hq)⟩, fun D hD => ?_⟩
  have hD0 : Γ.H0 D = none := R.dom D hD
  refine ⟨fun j m H' => MSt W p n g Γ F σ i ms ρe D j m H', ⟨len, ρ, F, [], [], ms, Sub.rfl, upd_same, Reps.nil, R.fnone hD, R.noSlot hD, R.new hD, eM, rfl⟩, fun j m H' st => ?_⟩
  obtain ⟨ρ1, F1, accV, accD, rest, s1, hDl, ra, hF, ns, R1, em, ea⟩ := st
  have hq1 : H' q = some (.lst ws) := R1.sub _ _ (s1 _ _ hq)
  cases m with
  | zero =>
    unfold metL at em
    cases eg : getS ρ1 i with
    | emp => rw [eg] at em; exact nomatch em
    | dat _ => rw [eg] at em; exact nomatch em
    | own _ _ _ => rw [eg] at em; exact nomatch em
    | cls cs =>
      rw [eg] at em
      dsimp only at em
      by_cases c : cs.length = j
      · rw [if_pos c] at em
        injection em with e1 e2; subst e1; subst e2
        rw [List.append_nil] at ea; subst ea
        have k := cls_at R1 hσ hq s1 eg
        exact .inl ⟨⟨ws, sqL_inj hq1, by rw [k.length, c]; exact Nat.le_refl _⟩, hQ D H' F1 accV s1 hDl ra hF hD0 ns R1⟩
      · rw [if_neg c] at em; exact nomatch em
  | succ m =>
    unfold metL at em
    cases eg : getS ρ1 i with
    | emp => rw [eg] at em; exact nomatch em
    | dat _ => rw [eg] at em; exact nomatch em
    | own _ _ _ => rw [eg] at em; exact nomatch em
    | cls cs =>
      rw [eg] at em
      dsimp only at em
      cases ec : cs[j]? with
      | none => rw [ec] at em; exact nomatch em
      | some cb =>
        rw [ec] at em
        dsimp only at em
        cases ee : ev p (n + 1) (.cat g cb) ρ1 with
        | bad => rw [ee] at em; exact nomatch em
        | exc _ _ _ => rw [ee] at em; exact nomatch em
        | ok r ρ2 =>
          rw [ee] at em
          cases r with
          | own _ => exact nomatch em
          | ptr _ => exact nomatch em
          | dat d =>
            dsimp only at em
            cases er : metL (fun c ρ => ev p (n + 1) (.cat g c) ρ) i m (j + 1) ρ2 with
            | bad => rw [er] at em; exact nomatch em
            | exc _ _ _ => rw [er] at em; exact nomatch em
            | ok ds ρ3 =>
              rw [er] at em
              injection em with e1 e2; subst e1; subst e2
              have k := cls_at R1 hσ hq s1 eg
              have hj : j < ws.length := by rw [k.length]; exact lt_of_get ec
              have hw : ws[j]? = some ws[j] := List.getElem?_eq_getElem hj
              refine .inr ⟨⟨ws, _, sqL_inj hq1, hw⟩, fun H3 => MSt W p n g Γ F σ i ms ρ3 D (j + 1) m H3, fun H3 z => ⟨m, Nat.lt_succ_self _, z⟩, fun x H3 ⟨eH, hx⟩ => ?_⟩
              subst eH
              have hx := hx ws (sqL_inj hq1)
              have ew : L2.wipe ((L2.wipe σ1 [iy]).set iy (some x)) [iy] = L2.wipe σ1 [iy] := off_wipe (Off.set (List.mem_cons_self ..)) fun _ h => h
              refine ⟨ew, ?_⟩
              unfold tYes
              dsimp only
              rw [if_pos rfl]
              obtain ⟨f, scope, body, c', hv, hs, hf, hc'⟩ := k.get hx ec
              have nt : Nt (HO.lst accV) := ⟨fun _ z => (nomatch z), fun _ z => (nomatch z)⟩
              refine ⟨x, set_self (by rw [wipe_length]; exact hiy), f, scope, body, c', cb, hv, hs, hf, hc', Γ.add D (.lst accV), ρ1, F1, R1.addP hDl hF hD0 ns nt, ?_⟩
              rw [ee]
              intro F2 H2 s2 R2 v rv
              obtain ⟨q1, q2, q3⟩ := R2.addKept R1 hD0 hF nt
              have R3 := R2.unadd hD0 fun z => R1.oO D z hD0
              have rv : Rep W F2 v d := rv
              have hl : accV.length < sizeLine := by
                have : (accD ++ d :: ds).length = ms.length := by rw [ea]
                rw [List.length_append, List.length_cons] at this
                rw [ra.length]; omega
              refine ⟨accV, q1, hl, ρ2, F2, accV ++ [v], accD ++ [d], ds, s1.trans s2, upd_same, (ra.mono s2 _).append (Reps.nil.cons rv), q2, q3, R3.other q1 q2 hD0 q3 ⟨fun _ z => (nomatch z), fun _ z => (nomatch z)⟩, er, ?_⟩
              rw [List.append_assoc]; exact ea
end
/-! ### what follows the walk -/
section
variable {W : Wd} {p : Pr} {F F' H H' : Hp} {v1 v2 : V} {d1 d2 : D} {Q : VK} {E : XK} {σ1 : L2.St} {m : Nat}
/-- slots 1 and 2 hold data -/
theorem rel2 (c : CallOk W F H [v1, v2] [.dat d1, .dat d2]) (hl : σ1.length = m + 3) (h1 : σ1[1]? = some (some v1)) (h2 : σ1[2]? = some (some v2)) :
    Rel W (gm0 F H [v1, v2] [.dat d1, .dat d2]) F (.emp :: .dat d1 :: .dat d2 :: List.replicate m .emp) σ1 H := by
  have ow : ownL [v1, v2] [.dat d1, .dat d2] = [] := by cases v1 <;> cases v2 <;> rfl
  have fx : fxL 0 [v1, v2] [.dat d1, .dat d2] = [] := by cases v1 <;> cases v2 <;> rfl
  have nown : ∀ (i : Nat) b l d, (Sl.emp :: Sl.dat d1 :: Sl.dat d2 :: List.replicate m Sl.emp)[i]? ≠ some (.own b l d) := fun i b l d e => by
    match i, e with
    | 0, e => exact nomatch e
    | 1, e => exact nomatch e
    | 2, e => exact nomatch e
    | i + 3, e =>
      have e : (List.replicate m Sl.emp)[i]? = some (.own b l d) := e
      rw [List.getElem?_replicate] at e
      split at e
      · injection e with e; exact nomatch e
      · exact nomatch e
  refine { len := by rw [hl]; simp, f0 := Sub.rfl, fh := c.fh, fnew := fun a o h => .inl h, kp := fun a o h _ _ => (strip_inv h).1, dmn := fun a h => strip_nx h, tb := c.tb, oO := fun a ha => ?_, sl := fun i x e => ?_, dis := fun i j b l d b' l' d' q e1 => (nown _ _ _ _ e1).elim, fx := fun e he => ?_ }
  · have ha : a ∈ ownL [v1, v2] [.dat d1, .dat d2] := ha
    rw [ow] at ha; exact absurd ha (by simp)
  · match i, e with
    | 0, e => injection e with e; subst e; trivial
    | 1, e => injection e with e; subst e; exact ⟨v1, h1, c.ar 0 _ _ rfl rfl⟩
    | 2, e => injection e with e; subst e; exact ⟨v2, h2, c.ar 1 _ _ rfl rfl⟩
    | i + 3, e =>
      have e : (List.replicate m Sl.emp)[i]? = some x := e
      rw [List.getElem?_replicate] at e
      split at e
      · injection e with e; subst e; trivial
      · exact nomatch e
  · have he : e ∈ fxL 0 [v1, v2] [.dat d1, .dat d2] := he
    rw [fx] at he; exact absurd he (by simp)
/-- the body's outcome from what is promised -/
theorem lbody_ok {n : Nat} {f : Fn} (c : CallOk W F H [v1, v2] [.dat d1, .dat d2]) (h : EndOk W F H [v1, v2] [.dat d1, .dat d2] Q E (runL p n f [.dat d1, .dat d2])) (hl : σ1.length = f.slots) (h3 : 3 ≤ f.slots) (h1 : σ1[1]? = some (some v1)) (h2 : σ1[2]? = some (some v2)) :
    rdSs W p E n f.body { nx := fun _ H' => Q .non H', rt := Q } σ1 H := by
  have R := rel2 (m := f.slots - 3) c (by rw [hl]; omega) h1 h2
  refine ⟨_, _, F, R, ?_⟩
  have h : EndOk W F H [v1, v2] [.dat d1, .dat d2] Q E (match exsL (ex p n) f.body (.emp :: .dat d1 :: .dat d2 :: List.replicate (f.slots - 3) .emp) with
    | .nx _ => .ret (.dat .non) [none, none]
    | .rt r _ => .ret r [none, none]
    | .exc c d _ => .exc c d [none, none]
    | _ => .bad) := h
  revert h
  have aft : ∀ {ρ : En} {F' H' : Hp} {σ' : L2.St}, Rel W (gm0 F H [v1, v2] [.dat d1, .dat d2]) F' ρ σ' H' → After W F H [v1, v2] [.dat d1, .dat d2] F' H' [none, none] := fun {ρ F' H' σ'} R' => by
    have A := After.of c R'
    exact ⟨A.sub, A.fh, A.fnew, A.kp, A.dmn, A.tb, fun j l d e => by
      match j, e with
      | 0, e => injection e with e; exact nomatch e
      | 1, e => injection e with e; exact nomatch e
      | j + 2, e => exact nomatch e⟩
  cases exsL (ex p n) f.body (.emp :: .dat d1 :: .dat d2 :: List.replicate (f.slots - 3) .emp) with
  | nx ρ => exact fun h F' σ' H' s R => h F' H' .non (aft R) (by show Rep W F' _ _; unfold Rep; rfl)
  | bk ρ => exact fun h => h.elim
  | ct ρ => exact fun h => h.elim
  | bad => exact fun h => h.elim
  | exc cc d ρ => exact fun h F' σ' H' cls dx s R k => h F' H' cls dx (aft R) k
  | rt r ρ =>
    intro h F' σ' H' v s R k
    refine h F' H' v (aft R) ?_
    cases r with
    | dat d => exact k
    | ptr i => exact k.elim
    | own d =>
      obtain ⟨q, o, a1, a2, a3, a4, a5⟩ := k
      exact ⟨q, o, a1, a2, a3, a4, strip_none a5⟩
end
/-- a def that calls the lambdas it got -/
structure LcAt (W : Wd) (cn : Nat → Str) (p : Pr) (k f g : Nat) (x : Str) : Prop where
  ex : ∃ (a : Addr) (params : Arguments) (rest : List Stmt) (scope scope2 : Scope) (dV kV doc pm cdv ct oc : Value) (an od : Option Addr) (osl : Array (Option Value)) (N : List Str) (pc pd m y xg : Str) (iy : Nat) (pm1 plc spos pe pg py py2 pcp : Pos) (ctc : Cat),
    W.mg x = some (.ref a) ∧ PySem.W.keepIn W.K (.ref a) = true ∧ W.K.lookup a = some ⟨oc, od, .func (PySem.W.fnOf x x params (.Assign [.Name m pm1] (.ListComp (.Call (.Name xg pg) [.Name y py] [] pe) [⟨.Name y py2, .Name pc pcp, [], 0⟩] scope2 plc) spos :: rest) scope dV kV doc pm an cdv ct), osl⟩ ∧
    PySem.W.codeIn W.K cdv x = true ∧ L2.Binds W.K (PySem.W.fnOf x x params (.Assign [.Name m pm1] (.ListComp (.Call (.Name xg pg) [.Name y py] [] pe) [⟨.Name y py2, .Name pc pcp, [], 0⟩] scope2 plc) spos :: rest) scope dV kV doc pm an cdv ct) [pc, pd] [] ∧ FnScope N [pc, pd] scope ∧
    (N[0]? = some pc ∧ N[2]? = some m ∧ N[iy]? = some y ∧ 2 < iy) ∧ scope.names.lookup m = some .local ∧ (pm1.line == plc.line) = true ∧ (scope2.names.any fun (n, k) => n == m && (k == .local || k == .cell)) = false ∧ BlkOk N scope scope2 [(y, iy)] ∧
    (relS scope2 scope).names.lookup y = some .local ∧ (relS scope2 scope).names.lookup xg = some .globalImplicit ∧ ((pc == ("__debug__" : Str)) = false ∧ (pc == ("__classdict__" : Str)) = false) ∧ ((y == ("__debug__" : Str)) = false ∧ (y == ("__classdict__" : Str)) = false) ∧ CatAt W cn xg ctc ∧ p.cat g = ctc ∧
    ((∀ as, p.cal f as = .bad) ∨ ∃ (p0 : Pr) (n0 : Nat) (fn : Fn), (∀ as, p.cal f as = runL p0 n0 fn as) ∧ fn.slots = N.length ∧
      ∀ (G : Heap) (X : Cx) (sb : Scope → Expr → C → Prop), XOk (W.up G (frOf X sb)) N scope scope k true X → XBody (W.up G (frOf X sb)) NoX X → PSs X rest (rdSs (W.up G (frOf X sb)) p0 NoX n0 fn.body))
end Pv
end PvLn_
section PvLo_
set_option maxRecDepth 100000
/-! PvLo: x(calls, due), x a def that calls the lambdas it got. -/
namespace Pv
open PySem PySem.Spec PyProof.Rows L2
theorem metL_noexc {e : C → En → O R} {i : Nat} : ∀ (m j : Nat) (ρ : En) (c : Nat) (d : Option D) (ρ' : En), metL e i m j ρ ≠ .exc c d ρ'
  | 0, j, ρ, c, d, ρ', h => by
    unfold metL at h
    split at h
    · split at h <;> exact nomatch h
    · exact nomatch h
  | m + 1, j, ρ, c, d, ρ', h => by
    unfold metL at h
    split at h
    · split at h
      · split at h
        · split at h <;> exact nomatch h
        · exact nomatch h
      · exact nomatch h
    · exact nomatch h
theorem putOut_dat {a b : D} {os : List (Option D)} {ρ : En} : putOut [.dat a, .dat b] os ρ = ρ := by
  have hl : ∀ j, lookOut j [.dat a, .dat b] os = none := fun j => by
    match os with
    | [] => rfl
    | [_] => rfl
    | _ :: _ :: _ => rfl
  apply List.ext_getElem?
  intro j
  unfold putOut
  rw [List.getElem?_mapIdx]
  cases ρ[j]? with
  | none => rfl
  | some x =>
    show some (putS _ _ j x) = some x
    cases x with
    | own b' l d =>
      show some (Sl.own b' l ((lookOut j _ os).getD d)) = _
      rw [hl]; rfl
    | _ => rfl
theorem noOwn2 {a b : D} (i : Nat) (l : Bool) (d : D) (e : ([.dat a, .dat b] : List Ar)[i]? = some (.own l d)) : False := by
  match i, e with
  | 0, e => injection e with e; exact nomatch e
  | 1, e => injection e with e; exact nomatch e
  | i + 2, e => exact nomatch e
section
variable {W : Wd} {cn : Nat → Str} {p : Pr} {E : XK} {n k f g i : Nat} {X : Cx}
theorem pe_metsD {x nc : Str} {ed : Expr} {due : C} {p1 p2 pos : Pos} (CF : ClF W cn) (hX : XW W (k + 3) true X) (hgl : Gl X x) (LA : LamAt W X) (SB : SbOk W p k X) (LC : LcAt W cn p k f g x) (hN : X.N[i]? = some nc) (hv : Vis X.env.scope nc) (hd : (nc == ("__debug__" : Str)) = false) (hcd : (nc == ("__classdict__" : Str)) = false)
    (hdx : (x == ("__debug__" : Str)) = false) (hs : notStar ed = true) (hed : PE X ed (rd W p E (n + 1) due)) : PE X (.Call (.Name x p1) [.Name nc p2, ed] [] pos) (rd W p E (n + 2) (.mets f g i due)) := by
  obtain ⟨a, params, rest, scope, scope2, dV, kV, doc, pm, cdv, ct, oc, an, od, osl, N, pc, pd, m, y, xg, iy, pm1, plc, spos, pe, pg, py, py2, pcp, ctc, h1, h2, h3, h4, h5, h6, ⟨h7, h8, h9, h10⟩, h11, h12, h13, h14, h15, h16, h17, h18, CA, hct, hrun⟩ := LC.ex
  refine ⟨fun pins s σ H Q I ⟨Γ, ρ, F, R, h⟩ => ?_⟩
  have h : Ok W Γ E σ F (match getS ρ i with
    | .cls cs => (hold (ev p (n + 1)) due ρ).bind fun dd ρ1 => (metL (fun c ρ => ev p (n + 1) (.cat g c) ρ) i cs.length 0 ρ1).bind fun ms ρ2 => metO p f dd ms ρ2
    | _ => .bad) (KR W Γ σ Q) := by unfold ev at h; exact h
  cases eg : getS ρ i with
  | emp => rw [eg] at h; exact h.elim
  | dat _ => rw [eg] at h; exact h.elim
  | own _ _ _ => rw [eg] at h; exact h.elim
  | cls cs =>
    rw [eg] at h
    dsimp only at h
    obtain ⟨q, ws, hσ, hq, _⟩ := R.sl i _ (getS_some eg (fun z => nomatch z))
    refine wpAny_Call_Name_kw (ld_glob I hgl (by rw [hX.mg]; exact h1) ?_ hdx)
    have args := (pa_cons (pe_var (X := X) (pos := p2) hN hv hd hcd) (pa_cons hed pa_nil (star_cons [] _ hs)) (star_cons [ed] _ rfl)).run pos pins s σ H
      (fun vs H1 => ∃ dv dd ρ1 F1, vs = [.ref q, dv] ∧ Sub F F1 ∧ Rel W Γ F1 ρ1 σ H1 ∧ Rep W F1 dv dd ∧ Ok W Γ E σ F1 ((metL (fun c ρ => ev p (n + 1) (.cat g c) ρ) i cs.length 0 ρ1).bind fun ms ρ2 => metO p f dd ms ρ2) (KR W Γ σ Q)) I
      ⟨_, hσ, Γ, ρ, F, R, by
        have h' := h.bind
        unfold hold at h'
        have h' := h'.bind
        cases e0 : ev p (n + 1) due ρ with
        | bad => rw [e0] at h'; exact h'.elim
        | exc c d ρ' => rw [e0] at h'; exact h'
        | ok r ρ1 =>
          rw [e0] at h'
          intro F1 H1 s1 R1 v rv
          have k := h' F1 H1 s1 R1
          dsimp only at k
          cases e1 : frz r ρ1 with
          | none => rw [e1] at k; exact k.elim
          | some t =>
            rw [e1] at k
            obtain ⟨F2, s2, R2, rp, _⟩ := rv.frz R1 e1
            exact ⟨v, t.1, t.2, F2, rfl, s1.trans s2, R2, rp, k F2 H1 s2 R2⟩⟩
    refine PySem.W.callWith_K (h₀ := X.base) I.ok.mod.kin (hX.K ▸ h2) (thn args fun us s1 ⟨vs, H1, I1, r, q1⟩ => ⟨I1.kIn, ?_⟩) (star_cons [ed] _ rfl) (star_none (by rw [List.all_cons, hs]; rfl))
    obtain ⟨dv, dd, ρ1, F1, rfl, s01, R1, rdv, hm⟩ := q1
    have run : codeAny (model X.prog X.w) X.A (.call (.ref a) ⟨us, []⟩) (CR (L2.CX X.prog X.w) X.stack X.prog X.w H1 s1 Q NoX) s1 := by
      cases eM : metL (fun c ρ => ev p (n + 1) (.cat g c) ρ) i cs.length 0 ρ1 with
      | bad => rw [eM] at hm; exact hm.elim
      | exc c d ρ' => exact absurd eM (metL_noexc _ _ _ _ _ _)
      | ok ms ρe =>
        rw [eM] at hm
        have hm : Ok W Γ E σ F1 (metO p f dd ms ρe) (KR W Γ σ Q) := hm
        unfold metO at hm
        cases ef : fits ms.length with
        | false => rw [ef] at hm; exact hm.elim
        | true =>
          rw [ef] at hm
          dsimp only at hm
          cases ec : p.cal f [.dat dd, .dat (.lst ms)] with
          | bad => rw [ec] at hm; exact hm.elim
          | exc _ _ _ => rw [ec] at hm; exact hm.elim
          | ret r0 out =>
            rw [ec] at hm
            cases r0 with
            | own _ => exact hm.elim
            | ptr _ => exact hm.elim
            | dat d =>
              dsimp only at hm
              rcases hrun with hbad | ⟨p0, n0, fn, hcal, hsl, hrest⟩
              · rw [hbad] at ec; exact nomatch ec
              · obtain ⟨G, U, e0⟩ := up_ex I1.env0
                have hbd := h5 s1 us (hX.K ▸ I1.kIn) (by rw [List.append_nil, ← r.length]; rfl)
                rw [List.append_nil] at hbd
                refine LamX.run_ofS (base := G) (N := N) (ps := [pc, pd]) (us := us) (vs := [.ref q, dv]) (E := NoX) (Q := Q) (by rw [hX.K]; exact h3) (by rw [hX.K]; exact h4) h6 (k := k + 2) hX.room e0 hbd r rfl fun hr' => ?_
                have lenN : N.length = (L2.start N [V.ref q, dv]).length := by
                  have := h6.pre
                  have h2 : 2 ≤ N.length := by
                    have := congrArg List.length this
                    rw [List.length_take] at this
                    simp at this; omega
                  unfold L2.start
                  rw [List.length_append, List.length_map, List.length_replicate]; simp; omega
                obtain ⟨X1, eX1⟩ : ∃ X1, X1 = cxOf (L2.CX X.prog X.w) X.prog X.w X.K X.mg G N x scope a cdv X.A X.stack s1 H1 NoX := ⟨_, rfl⟩
                have tk := takes_of (X := cxOf (L2.CX X.prog X.w) X.prog X.w X.K X.mg G N x scope a cdv X.A X.stack s1 H1 NoX) (E := NoX) rfl rfl rfl rfl
                have xo : XOk (W.up G (frOf (cxOf (L2.CX X.prog X.w) X.prog X.w X.K X.mg G N x scope a cdv X.A X.stack s1 H1 NoX) fun _ _ _ => False)) N scope scope k true (cxOf (L2.CX X.prog X.w) X.prog X.w X.K X.mg G N x scope a cdv X.A X.stack s1 H1 NoX) :=
                  { prog := hX.prog, w := hX.w, K := hX.K, mg := hX.mg, base := rfl, room := hr'.mono (by omega), gd := fun _ => hX.gd rfl, nN := rfl, sc := rfl, nd := h6.nd, calm := rfl, fn := fun _ _ => rfl }
                have xb : XBody (W.up G (frOf (cxOf (L2.CX X.prog X.w) X.prog X.w X.K X.mg G N x scope a cdv X.A X.stack s1 H1 NoX) fun _ _ _ => False)) NoX (cxOf (L2.CX X.prog X.w) X.prog X.w X.K X.mg G N x scope a cdv X.A X.stack s1 H1 NoX) :=
                  ⟨tk, passes_of rfl, by
                    show Passes (L2.CX W.prog W.w) _ _
                    rw [← hX.prog, ← hX.w]
                    exact passes_call tk fun _ _ _ _ z => z⟩
                have st1 := ps_setLc (X := cxOf (L2.CX X.prog X.w) X.prog X.w X.K X.mg G N x scope a cdv X.A X.stack s1 H1 NoX) (i := 2) (y := m) (py := pm1) (pos := plc) (spos := spos) (own := [(y, iy)]) (te := fun σ2 H2 Q => ∃ w, σ2[iy]? = some (some w) ∧ tM W p n g σ w H2 Q) rfl h6.nd h8 h11
                  (sw_true h6.kind h11 h12 h13) (itl_pi (x := pc) (px := pcp) (tg := .Name y py2) h7 (by rcases h6.par pc (List.mem_cons_self ..) with z | z; exact .inl z; exact .inr (.inl z)) h17.1 h17.2) h14
                  (fun s H C cl fp => pg_name h6.nd h9 (.inl h15) (.inr h15)) (fun s H C cl fp => pts_nil)
                  (fun s' H' C cl fp => pe_up (px := pg) (py := py) (pos := pe) (k := k) CF CA hct { prog := hX.prog, w := hX.w, K := hX.K, mg := hX.mg, base := hX.base, room := hX.room.mono (by omega), gd := hX.gd } LA SB I1 U rfl rfl rfl rfl rfl hr' (hX.gd rfl) h16 h9 (.inl h15) h18.1 h18.2)
                refine ⟨_, pss_cons st1 (hrest G _ _ xo xb), ?_⟩
                unfold tSeq tAsg gName
                refine mets_lc (W := W) (ρe := ρe) (ms := ms) hX.K R1 hσ (s01 _ _ hq) (fits_le ef) eM (start_get rfl) (by rw [← lenN]; exact lt_of_get h9) fun D H' F' accV sF hD ra hF hD0 ns R' => ?_
                have nt : Nt (HO.lst accV) := ⟨fun _ z => (nomatch z), fun _ z => (nomatch z)⟩
                have R2 := R'.frz1 hF hD nt hD0 ns
                have sU : Sub F' (upd F' D (.lst accV)) := Sub.upd hF
                have rD : Rep W (upd F' D (.lst accV)) (.ref D) (.lst ms) := by
                  unfold Rep
                  exact ⟨D, accV, rfl, upd_same, ra.mono sU _⟩
                have rv : Rep W (upd F' D (.lst accV)) dv dd := (rdv.mono sF _).mono sU _
                have c : CallOk W (upd F' D (.lst accV)) H' [dv, .ref D] [.dat dd, .dat (.lst ms)] := ⟨rfl, R2.fh, R2.tb, fun j a v e1 e2 => by
                    match j, e1, e2 with
                    | 0, e1, e2 => injection e1 with e1; injection e2 with e2; subst e1; subst e2; exact rv
                    | 1, e1, e2 => injection e1 with e1; injection e2 with e2; subst e1; subst e2; exact rD
                    | j + 2, e1, e2 => exact (nomatch e1), fun i j l d l' d' q e1 => (noOwn2 i l d e1).elim⟩
                have eo : EndOk W (upd F' D (.lst accV)) H' [dv, .ref D] [.dat dd, .dat (.lst ms)] Q NoX (runL p0 n0 fn [.dat dd, .dat (.lst ms)]) := by
                  rw [← hcal, ec]
                  intro F3 H3 v A hr
                  have RR : RepRs W Γ (upd F' D (.lst accV)) ρe σ H' [dv, .ref D] [.dat dd, .dat (.lst ms)] := ⟨rv, ⟨rD, trivial, fun ⟨_, z⟩ => nomatch z⟩, fun ⟨_, z⟩ => nomatch z⟩
                  have R3 := R2.called (as := [.dat dd, .dat (.lst ms)]) RR rfl A
                  rw [putOut_dat] at R3
                  exact hm F3 H3 ((sF.trans sU).trans A.sub) R3 v hr
                have three : 3 ≤ fn.slots := by rw [hsl]; have := lt_of_get h9; omega
                exact lbody_ok (W := W.up G _) (CallOk.to c) (EndOk.to eo) (by rw [List.length_set, ← lenN]; exact hsl.symm) three (by rw [set_ne (by decide)]; exact start_get rfl) (set_self (by rw [← lenN]; exact lt_of_get h8))
    refine wpAny_call (codeAny_mono run fun r s2 hq => ?_)
    cases r with
    | error e =>
      obtain ⟨_, _, _, _, _, _, _, _, _, _, _, _, z⟩ := (show L2.CX X.prog X.w X.stack H1 s1 NoX e s2 from hq)
      exact z.elim
    | ok fl =>
      cases fl with
      | ret u => exact I1.after hq
      | next => exact False.elim hq
      | brk => exact False.elim hq
      | cont => exact False.elim hq
theorem pe_mets1 {e : Expr} {due : C} : PE X e (rd W p E 1 (.mets f g i due)) := ⟨fun pins s σ H Q I ⟨Γ, ρ, F, R, h⟩ => by
  have h : Ok W Γ E σ F (match getS ρ i with
    | .cls cs => (hold (ev p 0) due ρ).bind fun dd ρ1 => (metL (fun c ρ => ev p 0 (.cat g c) ρ) i cs.length 0 ρ1).bind fun ms ρ2 => metO p f dd ms ρ2
    | _ => .bad) (KR W Γ σ Q) := by unfold ev at h; exact h
  have h0 : hold (ev p 0) due ρ = .bad := by unfold hold; rw [show ev p 0 due ρ = .bad from by unfold ev; rfl]; rfl
  rw [h0] at h
  cases eg : getS ρ i <;> rw [eg] at h <;> exact h.elim⟩
end
end Pv
end PvLo_
section PvZ_
set_option maxRecDepth 100000
/-! PvZ: list(zip(range(0), x(..))), x a generator def: nothing is walked. -/
namespace Pv
open PySem PySem.Spec PyProof.Rows L2 GenW
abbrev zr1 (h : Heap) : Heap := h.push { cls := .type "range_iterator", data := .fields #[rawInt 0, rawInt (Builtin.Range.rangeSize 0 0 1), rawInt 1] }
abbrev zr2 (h : Heap) (a : Addr) : Heap := (zr1 h).push { cls := .type "tuple", data := .seq #[.ref h.objs.size, .ref a] }
abbrev zr3 (h : Heap) (a : Addr) : Heap := (zr2 h a).push { cls := .type "tuple", data := .seq #[.none, .none] }
abbrev zr4 (h : Heap) (a : Addr) : Heap := (zr3 h a).push { cls := .type "zip", data := .fields #[.none, .bool false, .bool false, .ref (zr1 h).objs.size, .ref (zr2 h a).objs.size] }
theorem zr_new (r a : Addr) (g : Nat) (t u v : Tok) : Meets (Builtin.«zip.__new__» ⟨[.type "zip", .ref r, .ref a], []⟩) (fun _ R s => IsRange s.heap r 0 0 1 t u v ∧ s.heap.IsGen a g ∧ R (.ok (.ret (.ref (zr3 s.heap a).objs.size))) { s with heap := zr4 s.heap a }) :=
  .of_wp fun prog w A R s h => by
    obtain ⟨hp, gg, d, tk, os⟩ := s
    obtain ⟨hr, hg, h⟩ := h
    have hsub := sub_zip
    have hsm : Builtin.Range.small 0 0 1 = true := by decide
    have hR : IsRange (Shared.heap ⟨hp, gg, d, tk, os⟩) r 0 0 1 t u v := hr
    have hG : Heap.IsGen (Shared.heap ⟨zr1 hp, gg, d, tk, os⟩) a g := hg.keeps fun b o e => Heap.get?_push_of_some _ e
    wp_walk using wpAny_pyIter_range hR hsm, wpAny_pyIter_gen hG
    exact ⟨_, rfl, h⟩
section
variable {prog : Program} {w : World} {A : Around} {E : Value → Shared → Prop} {s : Shared}
theorem range_stop {it : Addr} {x step : Int} {Q : Value → Shared → Prop} (hh : A.handled = none) (hit : IsRangeIter s.heap it x 0 step) (hE : ∀ h' e, Heap.ExtBut it s.heap h' → (∃ o, h'.get? e = some o ∧ o.cls = .type "StopIteration") → E (.ref e) { s with heap := h' }) :
    wpAny (model prog w) A (Builtin.SmallTypes.nextOf (.ref it)) Q E s := by
  have ty : s.TypeIs (.ref it) "range_iterator" := ⟨_, hit, rfl⟩
  unfold Builtin.SmallTypes.nextOf
  refine wpAny_bind (wpAny_callSpecial?_slot (name := Str.ofString "__next__") ty F.slot_range_iterator_next (wpAny_call_entry F.slot_range_iterator_next ty F.entry_range_iterator_next ?_ (F.args_range_iterator_next_1 _)))
  show wpAny _ _ (field (.ref it) 0 >>= _) _ _ s
  refine wpAny_bind (wpAny_field hit rfl (x := rawInt x) rfl ?_)
  show wpAny _ _ (field (.ref it) 1 >>= _) _ _ s
  refine wpAny_bind (wpAny_field hit rfl (x := rawInt 0) rfl ?_)
  show wpAny _ _ (field (.ref it) 2 >>= _) _ _ s
  refine wpAny_bind (wpAny_field hit rfl (x := rawInt step) rfl ?_)
  show wpAny _ _ (if (0 : Int) ≤ 0 then _ else _) _ _ s
  rw [if_pos (Int.le_refl 0)]
  refine wpAny_bind (wpAny_rule (wpAny_bind ?_))
  show wpAny _ _ (newExc (.type "StopIteration") [] >>= _) _ _ s
  refine wpAny_bind ?_
  simp only [newExc, newTuple]
  refine wpAny_bind (wpAny_newObj_type (wpAny_bind (m := firstArgMember _ _) (wpAny_of_eq (a := Value.none) (by first | rfl | (simp only [firstArgMember]; rfl)) (wpAny_newObj_type ?_ (by size_fits)))) (by size_fits))
  simp only [raiseNew]
  refine wpAny_bind (wpAny_handled ?_)
  first | rw [show A.in1.handled = none from hh] | rw [hh]
  refine wpAny_bind (wpAny_pure (wpAny_throw ?_))
  exact hE _ _ (((Heap.ExtBut.refl it s.heap).push _).push _) ⟨_, Heap.get?_push_size _ rfl, rfl⟩
/-- a zip whose first iterator is spent -/
theorem zr_end {z TI TO it b : Addr} {x step : Int} {Q : Option Value → Shared → Prop} (hh : A.handled = none) (hz : IsZip s.heap z TI TO .none) (hTI : IsPair s.heap TI (.ref it) (.ref b)) (hit : IsRangeIter s.heap it x 0 step) (hzi : z ≠ it)
    (hQ : ∀ h', (∀ c o, c ≠ z → c ≠ it → s.heap.get? c = some o → h'.get? c = some o) → Q none { s with heap := h' }) : wpAny (model prog w) A (pyNext (.ref z)) Q E s := by
  have ty : s.TypeIs (.ref z) "zip" := ⟨_, hz, rfl⟩
  unfold pyNext
  refine wpAny_bind (wpAny_attempt (wpAny_callSpecial?_slot (name := Str.ofString "__next__") ty F.slot_zip_next (wpAny_call_entry F.slot_zip_next ty F.entry_zip_next ?_ (F.args_zip_next_1 _))))
  show wpAny _ _ (field (.ref z) 2 >>= _) _ _ s
  refine wpAny_bind (wpAny_field hz rfl (x := .bool false) rfl ?_)
  show wpAny _ _ (field (.ref z) 3 >>= _) _ _ s
  refine wpAny_bind (wpAny_field hz rfl (x := .ref TI) rfl (wpAny_bind (wpAny_seqItems hTI rfl ?_)))
  show wpAny _ _ (Builtin.SmallTypes.ownedTupleIsFree (.ref z) >>= _) _ _ s
  unfold Builtin.SmallTypes.ownedTupleIsFree
  refine wpAny_bind (wpAny_bind (wpAny_field hz rfl (x := .none) rfl (wpAny_pure ?_)))
  simp only [if_true]
  refine wpAny_bind (wpAny_rule (wpAny_bind (wpAny_field hz rfl (x := .ref TO) rfl (wpAny_bind (wpAny_setField_rec hz (by simp) fun h₁ hz₁ hs₁ => ?_)))))
  replace hz₁ : IsZip h₁ z TI TO .ellipsis := hz₁
  refine wpAny_bind ?_
  simp only [List.zipIdx_cons, List.zipIdx_nil, List.forIn_cons, List.forIn_nil]
  refine wpAny_bind (wpAny_bind (wpAny_onRaise ?_))
  show wpAny _ _ (Builtin.SmallTypes.nextOf (.ref it) >>= _) _ _ _
  refine wpAny_bind (range_stop hh (x := x) (step := step) (hs₁.extBut _ _ (Ne.symm hzi) hit) fun h₂ e hs₂ he => ?_)
  obtain ⟨oe, hoe, hce⟩ := he
  have hz₂ : IsZip h₂ z TI TO .ellipsis := hs₂ _ _ hzi hz₁
  have hez : e ≠ z := fun q => by
    subst q
    rw [hz₂] at hoe
    cases hoe
    simp at hce
  refine wpAny_setField_rec hz₂ (by simp) fun h₃ _ hs₃ => ?_
  refine wpAny_bind (wpAny_isInstance (T := "StopIteration") (b := true) ⟨oe, hs₃.extBut _ _ hez hoe, hce⟩ isSubtype_stop (wpAny_pure (hQ h₃ fun c o c1 c2 q => ?_)))
  exact hs₃.extBut _ _ c1 (hs₂ _ _ c2 (hs₁.extBut _ _ c1 q))
theorem zip_no_len : typeLookup (.type "zip") "__len__" = pure none := by rw [typeLookup_type, builtinLookup_eq_fast]; kernel_rfl
theorem zip_no_hint : typeLookup (.type "zip") "__length_hint__" = pure none := by rw [typeLookup_type, builtinLookup_eq_fast]; kernel_rfl
/-- list() of it -/
theorem zr_list {z TI TO it b : Addr} {x step : Int} {Q : Value → Shared → Prop} (hh : A.handled = none) (hz : IsZip s.heap z TI TO .none) (hTI : IsPair s.heap TI (.ref it) (.ref b)) (hit : IsRangeIter s.heap it x 0 step) (hzi : z ≠ it)
    (hQ : ∀ h' c, h'.get? s.heap.objs.size = some (lstObj #[] c) → (∀ b o, b ≠ z → b ≠ it → s.heap.get? b = some o → h'.get? b = some o) → Q (.ref s.heap.objs.size) { s with heap := h' }) :
    wpAny (model prog w) A (call (.type "list") [.ref z]) Q E s := by
  have hSz : s.heap.objs.size ≠ z := Nat.ne_of_gt (Heap.lt_size hz)
  refine callType_codes (Q₁ := fun obj s₁ => obj = .ref s.heap.objs.size ∧ s₁ = { s with heap := s.heap.push { cls := .type "list", data := .seq #[] } }) F.called_list (F.typeCall_list_1 _) F.entry_list_init
    (code_list_new _ ⟨rfl, rfl⟩) fun obj s₁ ⟨e1, e2⟩ => ?_
  subst e1; subst e2
  have l0 : (s.heap.push { cls := .type "list", data := .seq #[] }).get? s.heap.objs.size = some { cls := .type "list", data := .seq #[] } := Heap.get?_push_size _ rfl
  refine ⟨⟨_, l0, rfl⟩, F.args_list_init_2 _ _, ?_⟩
  show wpAny _ A.in1.in1 (do let old ← Builtin.List.listItems (.ref s.heap.objs.size); Builtin.List.listUpdate (.ref s.heap.objs.size) (fun _ => #[]); letGo old.toList.reverse; Builtin.List.listExtendWith (.ref s.heap.objs.size) (.ref z) .none) _ _ _
  unfold Builtin.List.listItems
  refine wpAny_bind (wpAny_bind (wpAny_seqItems l0 rfl (wpAny_pure ?_)))
  show wpAny _ A.in1.in1 (updateSeq s.heap.objs.size (fun _ => #[]) >>= fun _ => letGo (#[] : Array Value).toList.reverse >>= fun _ => Builtin.List.listExtendWith (.ref s.heap.objs.size) (.ref z) .none) _ _ _
  refine wpAny_bind (wpAny_updateSeq l0 rfl (wpAny_bind (wpAny_letGo ?_)))
  have l1 := Heap.get?_update_self (Obj.mapSeq (fun _ => (#[] : Array Value))) l0 rfl
  have off : ∀ (h : Heap) (f : Obj → Obj), (∀ b o, s.heap.get? b = some o → h.get? b = some o) → ∀ b o, s.heap.get? b = some o → (h.update s.heap.objs.size f).get? b = some o := fun h f q b o e =>
    (Heap.get?_update_other _ _ (Nat.ne_of_gt (Heap.lt_size e))).trans (q b o e)
  have k1 := off _ (Obj.mapSeq (fun _ => (#[] : Array Value))) (fun b o e => Heap.get?_push_of_some { cls := .type "list", data := .seq #[] } e)
  unfold Builtin.List.listExtendWith
  refine wpAny_bind (wpAny_typeOf (T := "zip") ⟨_, k1 _ _ hz, rfl⟩ ?_)
  have b1 : Builtin.List.listSameRef (.ref s.heap.objs.size) (.ref z) = false := by simp [Builtin.List.listSameRef, hSz]
  have b2 : (Value.type "zip" == Value.type "list") = false := by decide
  have b3 : (Value.type "zip" == Value.type "tuple") = false := by decide
  simp only [b1, b2, b3, Bool.or_false, Bool.false_eq_true, if_false]
  refine wpAny_bind (wpAny_pyIter_zip (k1 _ _ hz) (wpAny_bind (wpAny_holding ?_)))
  unfold Builtin.List.listLengthHint
  refine wpAny_bind (wpAny_specialOf (T := "zip") ⟨_, k1 _ _ hz, rfl⟩ zip_no_len ?_)
  show wpAny _ A.in1.in1 (specialOf (Value.ref z) (Str.ofString "__length_hint__") >>= _) _ _ _
  refine wpAny_bind (wpAny_specialOf (T := "zip") ⟨_, k1 _ _ hz, rfl⟩ zip_no_hint (wpAny_pure ?_))
  show wpAny _ A.in1.in1 (rule "list.extend.makes-room" >>= fun _ => Builtin.List.listTouch (.ref s.heap.objs.size) >>= fun _ => again (.builtin "list.extend.loop" ⟨[.ref s.heap.objs.size, .ref z, .none], []⟩)) _ _ _
  refine wpAny_bind (wpAny_rule (wpAny_bind ?_))
  show wpAny _ A.in1.in1 (updateSeq s.heap.objs.size (·.push .none) >>= fun _ => updateSeq s.heap.objs.size (·.pop)) _ _ _
  refine wpAny_bind (wpAny_updateSeq l1 rfl ?_)
  have l2 := Heap.get?_update_self (Obj.mapSeq (·.push Value.none)) l1 rfl
  refine wpAny_updateSeq (hz := by seq_fits) l2 rfl ?_
  have l3 := Heap.get?_update_self (Obj.mapSeq (·.pop)) l2 rfl
  have k3 := off _ (Obj.mapSeq (·.pop)) (off _ (Obj.mapSeq (·.push Value.none)) k1)
  refine wpAny_pure ⟨plainId_quiet F.plain_extend_loop _, codeAny_builtin F.entry_extend_loop ?_⟩
  rw [Around.under_plainId F.plain_extend_loop _]
  show wpAny _ A.in1.in1 (pyNext (.ref z) >>= _) _ _ _
  refine wpAny_bind (zr_end hh (k3 _ _ hz) (k3 _ _ hTI) (k3 _ _ hit) hzi fun h' hk => wpAny_pure ?_)
  have nit : s.heap.objs.size ≠ it := Nat.ne_of_gt (Heap.lt_size hit)
  exact ⟨rfl, hQ h' _ (hk _ _ hSz nit l3) fun b o c1 c2 e => hk b o c1 c2 (k3 b o e)⟩
end
end Pv
end PvZ_
section PvZe_
set_option maxRecDepth 100000
/-! PvZe: list(zip(range(0), x(..))) by the evaluator. -/
namespace Pv
open PySem PySem.Spec PyProof.Rows L2 GenW
section
variable {W : Wd} {p : Pr} {E : XK} {n k f : Nat} {gd : Bool} {X : Cx} {a : Addr}
theorem zr_call {prog : Program} {w : World} {A : Around} {E : Value → Shared → Prop} {s : Shared} {r a : Addr} {g : Nat} {t u v : Tok} {Q : Value → Shared → Prop} (hr : IsRange s.heap r 0 0 1 t u v) (hg : s.heap.IsGen a g)
    (h : Q (.ref (zr3 s.heap a).objs.size) { s with heap := zr4 s.heap a }) : wpAny (model prog w) A (call (.type "zip") [.ref r, .ref a]) Q E s :=
  callType_new F.called_zip (by decide) (F.typeCall_zip_2 _ _) (F.newCall_zip_2 _ _) (fun obj => F.args_object_init_3 obj _ _) F.entry_zip_new (zr_new r a g t u v) ⟨hr, hg, ⟨_, Heap.get?_push_size _ rfl, rfl⟩, h⟩
theorem gn_sp (G : GnAt W p k f a) {Γ : Gm} {F H : Hp} {ρ : En} {σ : L2.St} {vs : List V} {ds : List D} (R : Rel W Γ F ρ σ H) (r : Reps W F vs ds) (hb : p.cal f (ds.map Ar.dat) ≠ .bad) : spGn W p f vs H (fun _ _ => True) (fun _ _ _ => True) := by
  refine ⟨F, ds.map Ar.dat, ⟨by rw [r.length, List.length_map], R.fh, R.tb, fun j a v e1 e2 => ?_, fun i j l d l' d' q e1 => ?_⟩, ?_⟩
  · rw [List.getElem?_map] at e1
    cases e : ds[j]? with
    | none => rw [e] at e1; exact nomatch e1
    | some d =>
      rw [e] at e1; injection e1 with e1; subst e1
      obtain ⟨v', ev, rv⟩ := r.get e
      rw [e2] at ev; injection ev with ev; subst ev; exact rv
  · rw [List.getElem?_map] at e1
    cases e : ds[i]? with
    | none => rw [e] at e1; exact nomatch e1
    | some d0 => rw [e] at e1; injection e1 with e1; exact nomatch e1
  · rcases G.out (ds.map Ar.dat) with e | ⟨acc, out, e⟩ | ⟨cc, d, out, e⟩
    · exact absurd e hb
    · rw [e]; exact fun _ _ _ _ _ => trivial
    · rw [e]; exact fun _ _ _ _ _ _ => trivial
theorem zip0_rd {cs : List C} {σ : L2.St} {H : Hp} {Q : VK} (h : rd W p E (n + 1) (.zip0 f cs) σ H Q) : rdA W p E n cs σ H fun vs H1 => ∃ Γ F ρ ds, Rel W Γ F ρ σ H1 ∧ Reps W F vs ds ∧ p.cal f (ds.map Ar.dat) ≠ .bad ∧ Ok W Γ E σ F (.ok (.own (.lst [])) ρ) (KR W Γ σ Q) := by
  obtain ⟨Γ, ρ, F, R, h⟩ := h
  unfold ev at h
  refine ⟨Γ, ρ, F, R, h.bind.imp fun rs ρ1 F1 H1 s1 R1 h1 vs hvs => ?_⟩
  cases e1 : frzs rs ρ1 with
  | none => rw [e1] at h1; exact h1.elim
  | some q =>
    rw [e1] at h1
    obtain ⟨ds, ρ2⟩ := q
    dsimp only at h1
    obtain ⟨F2, s2, R2, rp, _⟩ := RepRs.frzs R1 hvs e1
    cases e2 : p.cal f (ds.map Ar.dat) with
    | bad => rw [e2] at h1; exact h1.elim
    | ret r out => rw [e2] at h1; exact ⟨Γ, F2, ρ2, ds, R2, rp, by rw [e2]; exact fun z => (nomatch z), h1.sub s2⟩
    | exc c d out => rw [e2] at h1; exact ⟨Γ, F2, ρ2, ds, R2, rp, by rw [e2]; exact fun z => (nomatch z), h1.sub s2⟩
theorem pe_zip0D {x : Str} {e0 : Expr} {es : List Expr} {cs : List C} {p1 p2 p3 p4 p5 q1 q2 q3 pos : Pos} {j : Nat} (hX : XW W (k + 3) gd X) (hc : X.calm = true) (Gn : GnAt W p k f a) (hgl : Gl X x) (hm : W.mg x = some (.ref a)) (hd : (x == ("__debug__" : Str)) = false) (hs : (e0 :: es).all notStar = true) (ha : PA X (e0 :: es) (rdA W p E n cs))
    (gl : Gl X "list") (ml : W.mg "list" = none) (gz : Gl X "zip") (mz : W.mg "zip" = none) (gr : Gl X "range") (mr : W.mg "range" = none) :
    PE X (.Call (.Name "list" p2) [.Call (.Name "zip" p3) [.Call (.Name "range" p4) [.Constant (.int 0) j p5] [] q1, .Call (.Name x p1) (e0 :: es) [] q2] [] q3] [] pos) (rd W p E (n + 1) (.zip0 f cs)) := by
  obtain ⟨fd, ps, G, hb⟩ := Gn.fn
  rw [List.all_cons, Bool.and_eq_true] at hs
  have ml : X.mg "list" = none := by rw [hX.mg]; exact ml
  have mz : X.mg "zip" = none := by rw [hX.mg]; exact mz
  have mr : X.mg "range" = none := by rw [hX.mg]; exact mr
  refine ⟨fun pins s σ H Q I h => ?_⟩
  have h := zip0_rd h
  -- the pair of values that zip gets
  have pair : wpAny (model X.prog X.w) X.A (spliced (backTo q3 (starEach [.Call (.Name "range" p4) [.Constant (.int 0) j p5] [] q1, .Call (.Name x p1) (e0 :: es) [] q2] X.env)))
      (fun us s' => ∃ r b g t u v H1, us = [.ref r, .ref b] ∧ L2.Inv X pins σ H1 s' ∧ IsRange s'.heap r 0 0 1 t u v ∧ s'.heap.IsGen b g ∧ ∀ S, H1 S = none → Q (.ref S) (upd H1 S (.lst []))) X.xe s := by
    refine Calls.spliced_cons ?_
    refine Call_ (ld_blt I gr mr boot_range (PyProof.Rows.callWith_type1 (thn ((pa_cons (X := X) (pe_int (pos := p5)) pa_nil).run q1 pins s σ H (fun vs H1 => vs = [.int 0] ∧ H1 = H) I ⟨rfl, rfl⟩) fun us s1 ⟨vs, H1, I1, r1, e1, e2⟩ => ?_) rfl rfl))
    subst e1; subst e2
    obtain ⟨u, rfl, ru⟩ := vals1 r1
    obtain ⟨t, rfl⟩ := ru
    refine call_range_1 ?_
    have I2 : L2.Inv X pins σ H1 { s1 with heap := s1.heap.push { cls := .type "range", data := .fields #[.int 0 s1.toks, .int 0 t, .int 1 (s1.toks + 1)] }, toks := s1.toks + 1 + 1 } := I1.kept fun b o e => Heap.get?_push_of_some _ e
    have hr0 : H1 s1.heap.objs.size = none := I1.hok.fresh (Nat.le_refl _)
    have fp : FpOk X pins H1 s1.heap.objs.size := I1.fpOk (Nat.le_refl _) hr0
    have I3 : L2.Inv X ((s1.heap.objs.size, { cls := .type "range", data := .fields #[.int 0 s1.toks, .int 0 t, .int 1 (s1.toks + 1)] }) :: pins) σ H1 { s1 with heap := s1.heap.push { cls := .type "range", data := .fields #[.int 0 s1.toks, .int 0 t, .int 1 (s1.toks + 1)] }, toks := s1.toks + 1 + 1 } :=
      I2.pins_of fun q hq => by
        rcases List.mem_cons.mp hq with rfl | hq
        · exact ⟨Heap.get?_push_size _ rfl, hr0, fp.2.1, fp.2.2.1, fun v z => nomatch z⟩
        · exact I2.pin q (List.mem_append_right _ hq)
    refine Calls.spliced_cons ?_
    refine wpAny_Call_Name_kw (ld_glob I3 hgl (by rw [hX.mg]; exact hm) ?_ hd)
    refine PySem.W.callWith_K (h₀ := X.base) I.ok.mod.kin (hX.K ▸ Gn.keep) (thn (ha.run q2 _ _ σ H1 _ I3 h) fun us2 s2 ⟨vs2, H2, I4, r2, Γ, F, ρ, ds, R, rp, nb, ok⟩ => ⟨I4.kIn, ?_⟩) (star_cons es _ hs.1) (star_none hs.2)
    have e0 : Env0 W.prog W.w W.K W.mg W.base X.A X.stack s2 H2 := by
      have := I4.env0
      rw [hX.prog, hX.w, hX.K, hX.mg, hX.base] at this; exact this
    have hsp := gn_sp Gn R rp nb
    have hl2 : us2.length = ps.length := by rw [← r2.length]; exact G.len _ _ _ _ hsp
    have hbd := hb s2 us2 (hX.K ▸ I4.kIn) (by rw [List.append_nil]; exact hl2)
    rw [List.append_nil] at hbd
    rw [hX.prog, hX.w]
    refine wpAny_call (codeAny_mono (G.run X.A X.stack s2 H2 ⟨us2, []⟩ us2 vs2 _ _ (hX.room.mono (by omega)) e0 hbd r2 hsp) fun r s3 hq => ?_)
    cases r with
    | error e => exact hq.elim
    | ok fl =>
      cases fl with
      | next => exact hq.elim
      | brk => exact hq.elim
      | cont => exact hq.elim
      | ret u3 =>
        obtain ⟨b, g, c, eu, b1, b2, hg, hgs, hos, hbare, hnl, hkp, _⟩ := (show GMade W.prog W.w k X.stack H2 s2 [] _ _ u3 s3 from hq)
        subst eu
        refine Calls.spliced_nil ?_
        have I5 : EP X _ σ (fun _ H' => H' = H2) (.ref b) s3 := I4.after (Q := fun _ H' => H' = H2) ⟨.ref b, H2, hos, hbare, Un.kept hkp, I4.hok.kept hkp, rfl, rfl⟩
        obtain ⟨x3, H3, I6, _, e3⟩ := I5
        subst e3
        have hp := I6.pin (s1.heap.objs.size, { cls := .type "range", data := .fields #[.int 0 s1.toks, .int 0 t, .int 1 (s1.toks + 1)] }) (List.mem_append_right _ (List.mem_cons_self ..))
        exact ⟨s1.heap.objs.size, b, g, _, _, _, H3, rfl, I6.pins_of fun q hq => I6.pin q (List.mem_append_right _ (List.mem_cons_of_mem _ ((List.mem_append.mp (List.mem_append_right X.pn hq)).elim (fun z => hq) fun z => z))), hp.1, hg, fun S hS => ans_lst ok R Reps.nil hS⟩
  refine Call_ (ld_blt I gl ml (by rfl) (PyProof.Rows.callWith_type1 ?_ rfl rfl) (by decide) (by decide))
  refine Calls.spliced_cons ?_
  refine Call_ (ld_blt I gz mz PyProof.Rows.boot_zip (PyProof.Rows.callWith_type1 (thn pair fun us s1 ⟨r, b, g, t, u, v, H1, eu, I1, hr, hg, q⟩ => ?_) rfl (by rw [show starEach [.Call (.Name x p1) (e0 :: es) [] q2] X.env = (false, eval (.Call (.Name x p1) (e0 :: es) [] q2) X.env) :: starEach [] X.env from rfl]; rfl)))
  subst eu
  refine zr_call hr hg ?_
  refine Calls.spliced_nil ?_
  have z1 : (zr1 s1.heap).objs.size = s1.heap.objs.size + 1 := Heap.size_push ..
  have z2 : (zr2 s1.heap b).objs.size = s1.heap.objs.size + 2 := by rw [Heap.size_push, z1]
  have z3 : (zr3 s1.heap b).objs.size = s1.heap.objs.size + 3 := by rw [Heap.size_push, z2]
  have z4 : (zr4 s1.heap b).objs.size = s1.heap.objs.size + 4 := by rw [Heap.size_push, z3]
  have g4 : (zr4 s1.heap b).get? (zr3 s1.heap b).objs.size = some _ := Heap.get?_push_size _ rfl
  have g2 : (zr4 s1.heap b).get? (zr1 s1.heap).objs.size = some _ := Heap.get?_push_of_some _ (Heap.get?_push_of_some _ (Heap.get?_push_size _ rfl))
  have g1 : (zr4 s1.heap b).get? s1.heap.objs.size = some _ := Heap.get?_push_of_some _ (Heap.get?_push_of_some _ (Heap.get?_push_of_some _ (Heap.get?_push_size _ rfl)))
  have kk : ∀ b' o, s1.heap.get? b' = some o → (zr4 s1.heap b).get? b' = some o := fun b' o e => Heap.get?_push_of_some _ (Heap.get?_push_of_some _ (Heap.get?_push_of_some _ (Heap.get?_push_of_some _ e)))
  refine zr_list (TI := (zr1 s1.heap).objs.size) (TO := (zr2 s1.heap b).objs.size) (it := s1.heap.objs.size) (b := b) (x := 0) (step := 1) (I1.ok.hd hc) g4 g2 g1 (Nat.ne_of_gt (by rw [z3]; exact Nat.lt_add_of_pos_right (by decide))) fun h' c hl hk => ?_
  have hS : s1.heap.objs.size ≤ (zr4 s1.heap b).objs.size := by rw [z4]; omega
  refine ⟨.ref (zr4 s1.heap b).objs.size, _, I1.laid (t' := s1.toks) (o := .lst []) (fun b' o e => ?_) hS ⟨Nat.zero_le _, [], c, .nil, hl⟩, rfl, q _ (I1.hok.fresh hS)⟩
  have lt := Heap.lt_size e
  exact hk b' o (Nat.ne_of_lt (Nat.lt_of_lt_of_le lt (by rw [z3]; exact Nat.le_add_right _ _))) (Nat.ne_of_lt lt) (kk b' o e)
end
end Pv
end PvZe_
section PvL_
set_option maxRecDepth 100000
/-! PvL: the checker: which core term reads which expression. -/
namespace Pv
open PySem PySem.Spec PyProof.Rows L2
/-- the names of a program -/
structure Tb where
  fns : List (Str × Nat × Bool)
  cats : List (Str × Nat)
  msgs : List (Str × Nat)
  pays : List (Str × Nat)
  cons : List (Str × D)
  bl : List Str
  fvs : List Str := []
  gcds : List Str := []
  gens : List (Str × Nat) := []
  lcs : List (Str × (Nat × Nat)) := []
/-- where an expression stands: the slots, the scope that runs, the one that is written; guards known empty; lambdas made -/
structure Sd where
  N : List Str
  sc : Scope
  os : Scope
  gd : Bool
  lam : Bool
structure TbOk (W : Wd) (cn : Nat → Str) (p : Pr) (k : Nat) (T : Tb) : Prop where
  fn : ∀ x f gf, T.fns.lookup x = some (f, gf) → ∃ a, W.mg x = some (.ref a) ∧ FnAt W p k gf f a
  cat : ∀ x g, T.cats.lookup x = some g → CatAt W cn x (p.cat g)
  msg : ∀ x c, T.msgs.lookup x = some c → ExMsg W c x
  pay : ∀ x c, T.pays.lookup x = some c → ExPay W c x
  con : ∀ x d, T.cons.lookup x = some d → ∃ v u, W.mg x = some u ∧ L2.RelV v u ∧ ∀ F, Rep W F v d
  bl : ∀ x, x ∈ T.bl → W.mg x = none
  CF : ClF W cn
  fv : ∀ x, x ∈ T.fvs → ∃ f a, T.fns.lookup x = some (f, false) ∧ W.mg x = some (.ref a) ∧ W.fnA f = some a
  fa : T.fvs.isEmpty = false → ∀ f a, W.fnA f = some a → ∃ x, T.fns.lookup x = some (f, false) ∧ W.mg x = some (.ref a)
  gcd : ∀ x, x ∈ T.gcds → W.mg x = some (.builtin "math.gcd")
  gn : ∀ x f, T.gens.lookup x = some f → ∃ a kg, W.mg x = some (.ref a) ∧ kg + 3 ≤ k ∧ GnAt W p kg f a ∧ NoSt W
  lc : ∀ x f g, T.lcs.lookup x = some (f, g) → LcAt W cn p k f g x
/-- a context of that place -/
structure XS (W : Wd) (S : Sd) (k : Nat) (E : XK) (X : Cx) : Prop extends XOk W S.N S.sc S.os k S.gd X where
  ps : Passes (L2.CX W.prog W.w) X E
  la : S.lam = true → LamAt W X
def nodb (x : Str) : Bool := !(x == ("__debug__" : Str)) && !(x == ("__classdict__" : Str))
def visB (sc : Scope) (x : Str) : Bool := match sc.names.lookup x with
  | some .local => true
  | some .cell => true
  | some .free => true
  | _ => false
def namB (S : Sd) (i : Nat) (x : Str) : Bool := decide (S.N[i]? = some x) && (visB S.sc x && nodb x)
def glB (S : Sd) (x : Str) : Bool := decide (S.sc.names.lookup x = some .globalImplicit) && !(x == ("__debug__" : Str))
def bltB (T : Tb) (S : Sd) (x : Str) : Bool := glB S x && T.bl.contains x
mutual
def D.same : D → D → Bool
  | .non, .non => true
  | .bl a, .bl b => a == b
  | .int a, .int b => decide (a = b)
  | .str a, .str b => decide (a = b)
  | .tup a, .tup b => D.sames a b
  | .lst a, .lst b => D.sames a b
  | _, _ => false
def D.sames : List D → List D → Bool
  | [], [] => true
  | a :: as, b :: bs => D.same a b && D.sames as bs
  | _, _ => false
end
mutual
theorem same_eq : ∀ {a b : D}, D.same a b = true → a = b
  | .non, b, h => by cases b <;> first | rfl | (unfold D.same at h; exact nomatch h)
  | .bl a, b, h => by
    cases b <;> try (unfold D.same at h; exact (Bool.false_ne_true h).elim)
    unfold D.same at h; rw [beq_iff_eq.mp h]
  | .int a, b, h => by
    cases b <;> try (unfold D.same at h; exact (Bool.false_ne_true h).elim)
    unfold D.same at h; rw [of_decide_eq_true h]
  | .str a, b, h => by
    cases b <;> try (unfold D.same at h; exact (Bool.false_ne_true h).elim)
    unfold D.same at h; rw [of_decide_eq_true h]
  | .tup a, b, h => by
    cases b <;> try (unfold D.same at h; exact (Bool.false_ne_true h).elim)
    unfold D.same at h; rw [sames_eq h]
  | .lst a, b, h => by
    cases b <;> try (unfold D.same at h; exact (Bool.false_ne_true h).elim)
    unfold D.same at h; rw [sames_eq h]
  | .scr _, b, h => by cases b <;> (unfold D.same at h; exact nomatch h)
  | .fn _, b, h => by cases b <;> (unfold D.same at h; exact nomatch h)
  | .dct _ _, b, h => by cases b <;> (unfold D.same at h; exact nomatch h)
  | .obj _ _, b, h => by cases b <;> (unfold D.same at h; exact nomatch h)
theorem sames_eq : ∀ {a b : List D}, D.sames a b = true → a = b
  | [], [], h => rfl
  | [], _ :: _, h => by unfold D.sames at h; exact nomatch h
  | _ :: _, [], h => by unfold D.sames at h; exact nomatch h
  | a :: as, b :: bs, h => by
    unfold D.sames at h
    rw [Bool.and_eq_true] at h
    rw [same_eq h.1, sames_eq h.2]
end
/-! ### checks of one node, f the check of what is beneath -/
abbrev FE := Expr → C → Bool
abbrev FT := Expr → T → Bool
def kName (T : Tb) (S : Sd) (x : Str) (c : C) : Bool := match c with
  | .var i => namB S i x
  | .lit d => glB S x && (match T.cons.lookup x with
    | some d' => D.same d' d
    | none => (match d with
      | .fn f => T.fvs.contains x && (match T.fns.lookup x with
        | some fg => decide (fg.1 = f)
        | none => false)
      | _ => false))
  | _ => false
def kConst (k : Const) (c : C) : Bool := match c with
  | .lit d => (match k, d with
    | .int i, .int j => decide (i = j)
    | .bool i, .bl j => i == j
    | .str i, .str j => decide (i = j)
    | .none, .non => true
    | _, _ => false)
  | _ => false
def kBin (f : FE) (o : Operator) (a b : Expr) (c : C) : Bool := match c with
  | .bin o' ca cb => decide (o = o') && (f a ca && f b cb)
  | _ => false
def kUn (f : FE) (o : UnaryOp) (a : Expr) (c : C) : Bool := match c with
  | .neg ca => decide (o = .USub) && f a ca
  | .notv ca => decide (o = .Not) && f a ca
  | _ => false
def kCmp (f : FE) (a : Expr) (os : List CmpOp) (bs : List Expr) (c : C) : Bool := match c with
  | .cmp o ca cb => (match os, bs with
    | [o'], [b] => decide (o' = o) && (!behindInMarks o' b && (f a ca && f b cb))
    | _, _ => false)
  | .chn o1 o2 ca cb cc => (match os, bs with
    | [p1, p2], [b, d] => decide (p1 = o1) && (decide (p2 = o2) && (!lastMarks [p1, p2] [b, d] && (f a ca && (f b cb && f d cc))))
    | _, _ => false)
  | _ => false
def kBool (f : FE) (o : PySem.BoolOp) (vs : List Expr) (pos : Pos) (c : C) : Bool := match vs with
  | [a] => f a c
  | a :: b :: rest => (match c with
    | .andv ca cb => decide (o = .And) && (f a ca && f (.BoolOp .And (b :: rest) pos) cb)
    | .orv ca cb => decide (o = .Or) && (f a ca && f (.BoolOp .Or (b :: rest) pos) cb)
    | _ => false)
  | [] => false
def esB (f : FE) : List Expr → List C → Bool
  | [], [] => true
  | e :: es, c :: cs => notStar e && (f e c && esB f es cs)
  | _, _ => false
def dsB (f : FE) : List Expr → List C → Bool
  | [], [] => true
  | e :: es, c :: cs => (match c with
    | .star c' => (match e with
      | .Starred e' _ => f e' c'
      | _ => false)
    | c => notStar e && f e c) && dsB f es cs
  | _, _ => false
def kSeq (f : FE) (tup : Bool) (es : List Expr) (c : C) : Bool := match c with
  | .tup cs => tup && dsB f es cs
  | .lst cs => !tup && dsB f es cs
  | _ => false
def oB (f : FE) : Option Expr → Option C → Bool
  | none, none => true
  | some e, some c => f e c
  | _, _ => false
def isNeg1 : Expr → Bool
  | .UnaryOp .USub (.Constant (.int 1) _ _) _ => true
  | _ => false
def kSub (f : FE) (a i : Expr) (c : C) : Bool := match c with
  | .idx ca ci => plainIx i && (f a ca && f i ci)
  | .slc ca cl ch => (match i with
    | .Slice lo hi none _ => f a ca && (oB f lo cl && oB f hi ch)
    | _ => false)
  | .rev ca => (match i with
    | .Slice none none (some s) _ => isNeg1 s && f a ca
    | _ => false)
  | _ => false
section
variable {W : Wd} {cn : Nat → Str} {p : Pr} {k k' : Nat} {T : Tb} {S : Sd} {E : XK} {X : Cx} {f : FE}
/-- the check of what is beneath tells the truth -/
def Snd (W : Wd) (p : Pr) (E : XK) (X : Cx) (f : FE) : Prop := ∀ e c, f e c = true → ∀ m, PE X e (rd W p E m c)
theorem nodb_1 {x : Str} (h : nodb x = true) : (x == ("__debug__" : Str)) = false ∧ (x == ("__classdict__" : Str)) = false := by
  unfold nodb at h
  rw [Bool.and_eq_true, Bool.not_eq_true', Bool.not_eq_true'] at h
  exact h
theorem visB_ok {sc : Scope} {x : Str} (h : visB sc x = true) : Vis sc x := by
  unfold visB at h
  split at h
  · rename_i e; exact .inl e
  · rename_i e; exact .inr (.inl e)
  · rename_i e; exact .inr (.inr e)
  · exact nomatch h
theorem XS.gl (hX : XS W S k E X) {x : Str} (h : glB S x = true) : Gl X x ∧ (x == ("__debug__" : Str)) = false := by
  unfold glB at h
  rw [Bool.and_eq_true, Bool.not_eq_true'] at h
  refine ⟨?_, h.2⟩
  have := of_decide_eq_true h.1
  rw [← hX.sc] at this
  exact this
theorem pe_any {e : Expr} {c : C} (h : ∀ m, PE X e (rd W p E (m + 1) c)) : ∀ m, PE X e (rd W p E m c)
  | 0 => pe_zero
  | m + 1 => h m
theorem sn_name (hX : XS W S k E X) (hT : TbOk W cn p k' T) {x : Str} {pos : Pos} {c : C} (h : kName T S x c = true) : ∀ m, PE X (.Name x pos) (rd W p E m c) := pe_any fun m => by
  unfold kName at h
  split at h
  · rename_i i
    unfold namB at h
    rw [Bool.and_eq_true, Bool.and_eq_true] at h
    exact pe_varD (by rw [hX.nN]; exact of_decide_eq_true h.1) (by rw [hX.sc]; exact visB_ok h.2.1) (nodb_1 h.2.2).1 (nodb_1 h.2.2).2
  · rename_i d
    rw [Bool.and_eq_true] at h
    obtain ⟨g1, g2⟩ := hX.gl h.1
    have h2 := h.2
    cases e : T.cons.lookup x with
    | none =>
      rw [e] at h2
      dsimp only at h2
      split at h2
      · rename_i f
        rw [Bool.and_eq_true] at h2
        obtain ⟨f0, a, e1, e2, e3⟩ := hT.fv x (List.contains_iff_mem.mp h2.1)
        have h3 := h2.2
        rw [e1] at h3
        have := of_decide_eq_true h3
        have : f0 = f := this
        subst this
        exact pe_litD (pe_glob g1 (by rw [hX.mg]; exact e2) (v := .ref a) rfl g2) fun F => by unfold Rep; exact ⟨a, rfl, e3⟩
      · exact nomatch h2
    | some d' =>
      rw [e] at h2
      have := same_eq h2; subst this
      obtain ⟨v, u, a1, a2, a3⟩ := hT.con x d' e
      exact pe_litD (pe_glob g1 (by rw [hX.mg]; exact a1) a2 g2) a3
  · exact nomatch h
theorem sn_const {kk : Const} {j : Nat} {pos : Pos} {c : C} (h : kConst kk c = true) : ∀ m, PE X (.Constant kk j pos) (rd W p E m c) := pe_any fun m => by
  unfold kConst at h
  split at h
  · split at h
    · have := of_decide_eq_true h; subst this; exact pe_litD pe_int fun F => by unfold Rep; rfl
    · have := beq_iff_eq.mp h; subst this; exact pe_litD pe_bl fun F => by unfold Rep; rfl
    · have := of_decide_eq_true h; subst this; exact pe_litD pe_str fun F => by unfold Rep; rfl
    · exact pe_litD pe_non fun F => by unfold Rep; rfl
    · exact nomatch h
  · exact nomatch h
theorem sn_bin (hX : XS W S k E X) (hf : Snd W p E X f) {o : Operator} {a b : Expr} {pos : Pos} {c : C} (h : kBin f o a b c = true) : ∀ m, PE X (.BinOp a o b pos) (rd W p E m c) := pe_any fun m => by
  unfold kBin at h
  split at h
  · rw [Bool.and_eq_true, Bool.and_eq_true] at h
    have := of_decide_eq_true h.1; subst this
    exact pe_binD hX.K (hf _ _ h.2.1 m) (hf _ _ h.2.2 m)
  · exact nomatch h
theorem sn_un (hf : Snd W p E X f) {o : UnaryOp} {a : Expr} {pos : Pos} {c : C} (h : kUn f o a c = true) : ∀ m, PE X (.UnaryOp o a pos) (rd W p E m c) := pe_any fun m => by
  unfold kUn at h
  split at h
  · rw [Bool.and_eq_true] at h
    have := of_decide_eq_true h.1; subst this
    exact pe_negD (hf _ _ h.2 m)
  · rw [Bool.and_eq_true] at h
    have := of_decide_eq_true h.1; subst this
    exact pe_notD (hf _ _ h.2 m)
  · exact nomatch h
theorem sn_cmp (hX : XS W S k E X) (hf : Snd W p E X f) {os : List CmpOp} {a : Expr} {bs : List Expr} {pos : Pos} {c : C} (h : kCmp f a os bs c = true) : ∀ m, PE X (.Compare a os bs pos) (rd W p E m c) := pe_any fun m => by
  unfold kCmp at h
  split at h
  · split at h
    · rw [Bool.and_eq_true, Bool.and_eq_true, Bool.and_eq_true, Bool.not_eq_true'] at h
      have := of_decide_eq_true h.1; subst this
      exact pe_cmpD hX.K hX.room.units h.2.1 (hf _ _ h.2.2.1 m) (hf _ _ h.2.2.2 m)
    · exact nomatch h
  · split at h
    · rw [Bool.and_eq_true, Bool.and_eq_true, Bool.and_eq_true, Bool.and_eq_true, Bool.and_eq_true, Bool.not_eq_true'] at h
      have := of_decide_eq_true h.1; subst this
      have := of_decide_eq_true h.2.1; subst this
      exact pe_chnD hX.K hX.room.units h.2.2.1 (hf _ _ h.2.2.2.1 m) (hf _ _ h.2.2.2.2.1 m) (hf _ _ h.2.2.2.2.2 m)
    · exact nomatch h
  · exact nomatch h
theorem sn_bool (hf : Snd W p E X f) {o : PySem.BoolOp} {vs : List Expr} {pos : Pos} {c : C} (h : kBool f o vs pos c = true) : ∀ m, PE X (.BoolOp o vs pos) (rd W p E m c) := by
  unfold kBool at h
  split at h
  · exact fun m => pe_one (hf _ _ h m)
  · refine pe_any fun m => ?_
    split at h
    · rw [Bool.and_eq_true, Bool.and_eq_true] at h
      have := of_decide_eq_true h.1; subst this
      exact pe_andD (hf _ _ h.2.1 m) (hf _ _ h.2.2 m)
    · rw [Bool.and_eq_true, Bool.and_eq_true] at h
      have := of_decide_eq_true h.1; subst this
      exact pe_orD (hf _ _ h.2.1 m) (hf _ _ h.2.2 m)
    · exact nomatch h
  · exact nomatch h
theorem sn_es (hf : Snd W p E X f) (m : Nat) : ∀ {es : List Expr} {cs : List C}, esB f es cs = true → PA X es (rdA W p E m cs)
  | [], [], h => pa_nilD
  | [], _ :: _, h => nomatch h
  | _ :: _, [], h => nomatch h
  | e :: es, c :: cs, h => by
    have h : (notStar e && (f e c && esB f es cs)) = true := h
    rw [Bool.and_eq_true, Bool.and_eq_true] at h
    exact pa_consD h.1 (hf _ _ h.2.1 m) (sn_es hf m h.2.2)
theorem esB_all : ∀ {es : List Expr} {cs : List C}, esB f es cs = true → es.all notStar = true ∧ (es = [] → cs = [])
  | [], [], h => ⟨rfl, fun _ => rfl⟩
  | [], _ :: _, h => nomatch h
  | _ :: _, [], h => nomatch h
  | e :: es, c :: cs, h => by
    have h : (notStar e && (f e c && esB f es cs)) = true := h
    rw [Bool.and_eq_true, Bool.and_eq_true] at h
    exact ⟨by rw [List.all_cons, h.1, (esB_all h.2.2).1]; rfl, fun z => nomatch z⟩
theorem sn_ds (hX : XS W S k E X) (hf : Snd W p E X f) (m : Nat) : ∀ {es : List Expr} {cs : List C}, dsB f es cs = true → PA X es (rdDs W p E m cs)
  | [], [], h => pd_nilD
  | [], _ :: _, h => nomatch h
  | _ :: _, [], h => nomatch h
  | e :: es, c :: cs, h => by
    unfold dsB at h
    rw [Bool.and_eq_true] at h
    have ih := sn_ds hX hf m h.2
    have h1 := h.1
    split at h1
    · split at h1
      · exact pd_starD hX.K (hf _ _ h1 m) ih
      · exact nomatch h1
    · rename_i hn
      rw [Bool.and_eq_true] at h1
      refine pd_consD h1.1 ?_ (hf _ _ h1.2 m) ih
      cases c <;> first | rfl | exact (hn _ rfl).elim
theorem sn_tup (hX : XS W S k E X) (hf : Snd W p E X f) {es : List Expr} {kk : Nat} {pos : Pos} {c : C} (h : kSeq f true es c = true) : ∀ m, PE X (.Tuple es kk pos) (rd W p E m c) := pe_any fun m => by
  unfold kSeq at h
  split at h
  · rw [Bool.and_eq_true] at h; exact pe_tupD (sn_ds hX hf m h.2)
  · exact nomatch h
  · exact nomatch h
theorem sn_lst (hX : XS W S k E X) (hf : Snd W p E X f) {es : List Expr} {pos : Pos} {c : C} (h : kSeq f false es c = true) : ∀ m, PE X (.List es pos) (rd W p E m c) := pe_any fun m => by
  unfold kSeq at h
  split at h
  · exact nomatch h
  · rw [Bool.and_eq_true] at h; exact pe_lstD (sn_ds hX hf m h.2)
  · exact nomatch h
theorem sn_o (hf : Snd W p E X f) (m : Nat) {e : Option Expr} {c : Option C} (h : oB f e c = true) : PO X e (rdO W p E m c) := by
  unfold oB at h
  split at h
  · exact po_noneD
  · exact po_someD (hf _ _ h m)
  · exact nomatch h
theorem sn_sub (hX : XS W S k E X) (hf : Snd W p E X f) {a i : Expr} {pos : Pos} {c : C} (h : kSub f a i c = true) : ∀ m, PE X (.Subscript a i pos) (rd W p E m c) := pe_any fun m => by
  unfold kSub at h
  split at h
  · rw [Bool.and_eq_true, Bool.and_eq_true] at h
    exact pe_idxD hX.K h.1 (hf _ _ h.2.1 m) (hf _ _ h.2.2 m)
  · split at h
    · rw [Bool.and_eq_true, Bool.and_eq_true] at h
      exact pe_slcD hX.K (hf _ _ h.1 m) (sn_o hf m h.2.1) (sn_o hf m h.2.2)
    · exact nomatch h
  · split at h
    · rw [Bool.and_eq_true] at h
      obtain ⟨h1, h2⟩ := h
      unfold isNeg1 at h1
      split at h1
      · exact pe_revD hX.K (hf _ _ h2 m)
      · exact nomatch h1
    · exact nomatch h
  · exact nomatch h
theorem pe_empD {pos : Pos} {m : Nat} : PE X (.Dict [] [] pos) (rd W p E (m + 1) .emp) := pe_dnewK.weak fun σ H Q ⟨Γ, ρ, F, R, h⟩ => by
  unfold ev at h
  exact fun a ha => ans_own h R (o := .dK []) ⟨rfl, rfl, rfl⟩ ha
end
end Pv
end PvL_
section PvS_
set_option maxRecDepth 100000
/-! PvS: the checker: calls, tests, targets, walks, comprehensions. -/
namespace Pv
open PySem PySem.Spec PyProof.Rows L2
def Bf.nm : Bf → String
  | .len => "len" | .abs => "abs" | .int => "int" | .str => "str" | .repr => "repr" | .tuple => "tuple" | .list => "list" | .sum => "sum" | .all => "all" | .any => "any" | .max => "max" | .min => "min" | .max2 => "max" | .min2 => "min"
  | .sorted => "sorted" | .gcd => "" | .lrng1 => "" | .lrng2 => ""
def Bf.known : Bf → Bool → Bool
  | .gcd, _ => false
  | .lrng1, _ => false
  | .lrng2, _ => false
  | .repr, g => g
  | _, _ => true
/-- a method's name -/
def Mt.nm : Mt → String
  | .append => "append" | .extend => "extend" | .pop => "pop" | .popAt => "pop" | .count => "count" | .index => "index"
def kMth (f : FE) (m : Mt) (o : Expr) (nm : Str) (ap pos : Pos) (es : List Expr) (co : C) (cs : List C) : Bool :=
  (ap.endLine == pos.line) && (plainRecv o && (f o co && (decide (nm = Str.ofString m.nm) && (match m, es, cs with
    | .append, [e], [ce] => notStar e && f e ce
    | .extend, [e], [ce] => notStar e && f e ce
    | .popAt, [e], [ce] => notStar e && f e ce
    | .count, [e], [ce] => notStar e && f e ce
    | .index, [e], [ce] => notStar e && f e ce
    | .pop, [], [] => true
    | _, _, _ => false))))
def noPar : Arguments → Bool
  | ⟨[], [], none, [], [], none, []⟩ => true
  | _ => false
/-- behind a lambda -/
def Sd.lamS (S : Sd) (scope : Scope) : Sd := ⟨S.N, scope, scope, false, false⟩
/-- in a block -/
def Sd.blkS (S : Sd) (scope : Scope) : Sd := ⟨S.N, relS scope S.sc, scope, S.gd, false⟩
def kFn (f : FE) (T : Tb) (S : Sd) (fe : Expr) (es : List Expr) (k : Nat) (cs : List C) : Bool := match fe with
  | .Name x _ => glB S x && ((match T.fns.lookup x with
    | some (k', gf) => decide (k' = k) && (!gf || S.gd)
    | none => false) && esB f es cs)
  | _ => false
def kGen (f : FE) (T : Tb) (S : Sd) (fe : Expr) (es : List Expr) (k : Nat) (cs : List C) : Bool := match fe, es with
  | .Name x _, [.Call (.Name y _) (e0 :: es0) [] _] => bltB T S x && (decide (x = ("list" : Str)) && (glB S y && ((match T.gens.lookup y with
    | some k' => decide (k' = k)
    | none => false) && esB f (e0 :: es0) cs)))
  | _, _ => false
def kCall (fl : Sd → FE) (f : FE) (T : Tb) (S : Sd) (fe : Expr) (es : List Expr) (pos : Pos) (c : C) : Bool := match c with
  | .call k cs => kFn f T S fe es k cs || kGen f T S fe es k cs
  | .callv i cs => (match fe with
    | .Name x _ => !T.fvs.isEmpty && (namB S i x && esB f es cs)
    | _ => false)
  | .mets k g i cd => (match fe, es with
    | .Name x _, [.Name y _, ed] => glB S x && ((match T.lcs.lookup x with
      | some fg => decide (fg = (k, g))
      | none => false) && (namB S i y && (S.gd && (S.lam && (notStar ed && f ed cd)))))
    | _, _ => false)
  | .zip0 k cs => (match fe, es with
    | .Name x _, [.Call (.Name z _) [.Call (.Name r _) [.Constant (.int 0) _ _] [] _, .Call (.Name y _) (e0 :: es0) [] _] [] _] => (bltB T S x && decide (x = ("list" : Str))) && ((bltB T S z && decide (z = ("zip" : Str))) && ((bltB T S r && decide (r = ("range" : Str))) && (glB S y && ((match T.gens.lookup y with
      | some k' => decide (k' = k)
      | none => false) && esB f (e0 :: es0) cs))))
    | _, _ => false)
  | .blt .gcd cs => (match fe, es with
    | .Name x _, e :: es => glB S x && (T.gcds.contains x && esB f (e :: es) cs)
    | _, _ => false)
  | .blt .lrng1 cs => (match fe, es, cs with
    | .Name x _, [.Call (.Name y _) [a] [] _], [ca] => bltB T S x && (decide (x = ("list" : Str)) && (bltB T S y && (decide (y = ("range" : Str)) && (notStar a && f a ca))))
    | _, _, _ => false)
  | .blt .lrng2 cs => (match fe, es, cs with
    | .Name x _, [.Call (.Name y _) [a, b] [] _], [ca, cb] => bltB T S x && (decide (x = ("list" : Str)) && (bltB T S y && (decide (y = ("range" : Str)) && (notStar a && (notStar b && (f a ca && f b cb))))))
    | _, _, _ => false)
  | .blt b cs => (match fe, es with
    | .Name x _, e :: es => bltB T S x && (decide (x = Str.ofString b.nm) && (b.known S.gd && esB f (e :: es) cs))
    | _, _ => false)
  | .isi ca t => (match fe, es with
    | .Name x _, [a, .Name y _] => bltB T S x && (decide (x = ("isinstance" : Str)) && (bltB T S y && (decide (y = Str.ofString t.nm) && (notStar a && f a ca))))
    | _, _ => false)
  | .mth m co cs => (match fe with
    | .Attribute o nm ap => kMth f m o nm ap pos es co cs
    | _ => false)
  | .cat g cb => (match fe, es with
    | .Name x _, [.Lambda params body scope _] => glB S x && ((match T.cats.lookup x with
      | some g' => decide (g' = g)
      | none => false) && (S.gd && (S.lam && (LamX.lamSB S.sc scope && (noPar params && fl (S.lamS scope) body cb)))))
    | _, _ => false)
  | _ => false
section
variable {W : Wd} {cn : Nat → Str} {p : Pr} {k k' : Nat} {T : Tb} {S : Sd} {E : XK} {X : Cx} {f : FE}
theorem bltB_1 (hT : TbOk W cn p k' T) (hX : XS W S k E X) {x : Str} (h : bltB T S x = true) : Gl X x ∧ (x == ("__debug__" : Str)) = false ∧ X.mg x = none := by
  unfold bltB at h
  rw [Bool.and_eq_true] at h
  obtain ⟨h1, h2⟩ := hX.gl h.1
  exact ⟨h1, h2, by rw [hX.mg]; exact hT.bl x (List.contains_iff_mem.mp h.2)⟩
theorem blt_fn {b : Bf} {id : String} {x : Str} {e : Expr} {es : List Expr} {cs : List C} {p1 pos : Pos} {m : Nat} (hc : CallR X (.builtin id) (RBl W E (bltD b))) (hv : bootBuiltins x = some (.builtin id)) (hn : x ≠ "__name__") (hf : Snd W p E X f) (h1 : Gl X x) (h2 : (x == ("__debug__" : Str)) = false) (h3 : X.mg x = none) (he : esB f (e :: es) cs = true) :
    PE X (.Call (.Name x p1) (e :: es) [] pos) (rd W p E (m + 1) (.blt b cs)) := by
  have hs := (esB_all he).1
  rw [List.all_cons, Bool.and_eq_true] at hs
  exact (pe_callB hc h1 h3 hv (sn_es hf m he) hn h2 (star_cons es _ hs.1) (star_none hs.2)).weak fun σ H Q h => rd_blt h
theorem blt_ty {b : Bf} {id : String} {x : Str} {e : Expr} {es : List Expr} {cs : List C} {p1 pos : Pos} {m : Nat} (hc : CallR X (.type id) (RBl W E (bltD b))) (hv : bootBuiltins x = some (.type id)) (hn : x ≠ "__name__") (hf : Snd W p E X f) (h1 : Gl X x) (h2 : (x == ("__debug__" : Str)) = false) (h3 : X.mg x = none) (he : esB f (e :: es) cs = true) :
    PE X (.Call (.Name x p1) (e :: es) [] pos) (rd W p E (m + 1) (.blt b cs)) := by
  have hs := (esB_all he).1
  rw [List.all_cons, Bool.and_eq_true] at hs
  exact (pe_callTy hc h1 h3 hv (sn_es hf m he) hn h2 (star_cons es _ hs.1) (star_none hs.2)).weak fun σ H Q h => rd_blt h
theorem sn_blt (hX : XS W S k E X) (hf : Snd W p E X f) {b : Bf} {e : Expr} {es : List Expr} {cs : List C} {p1 pos : Pos} {m : Nat} (h1 : Gl X (Str.ofString b.nm)) (h2 : (Str.ofString b.nm == ("__debug__" : Str)) = false) (h3 : X.mg (Str.ofString b.nm) = none) (hk : b.known S.gd = true) (he : esB f (e :: es) cs = true) :
    PE X (.Call (.Name (Str.ofString b.nm) p1) (e :: es) [] pos) (rd W p E (m + 1) (.blt b cs)) := by
  cases b with
  | gcd => exact nomatch hk
  | lrng1 => exact nomatch hk
  | lrng2 => exact nomatch hk
  | sorted => exact blt_fn (blt_sorted hX.K hX.room.units) (by rfl) (by decide) hf h1 h2 h3 he
  | repr => exact blt_fn (blt_repr hX.K (hX.gd hk) hX.room.units) (by rfl) (by decide) hf h1 h2 h3 he
  | len => exact blt_fn (blt_len hX.K) (by rfl) (by decide) hf h1 h2 h3 he
  | abs => exact blt_fn blt_abs (by rfl) (by decide) hf h1 h2 h3 he
  | int => exact blt_ty blt_int (by rfl) (by decide) hf h1 h2 h3 he
  | str => exact blt_ty blt_str (by rfl) (by decide) hf h1 h2 h3 he
  | tuple => exact blt_ty (blt_tuple hX.K) (by rfl) (by decide) hf h1 h2 h3 he
  | list => exact blt_ty (blt_list hX.K) (by rfl) (by decide) hf h1 h2 h3 he
  | sum => exact blt_fn (blt_sum hX.K hX.calm) (by rfl) (by decide) hf h1 h2 h3 he
  | all => exact blt_fn (blt_all hX.calm) (by rfl) (by decide) hf h1 h2 h3 he
  | any => exact blt_fn (blt_any hX.calm) (by rfl) (by decide) hf h1 h2 h3 he
  | max => exact blt_fn (blt_max hX.calm) (by rfl) (by decide) hf h1 h2 h3 he
  | min => exact blt_fn (blt_min hX.calm) (by rfl) (by decide) hf h1 h2 h3 he
  | max2 => exact blt_fn (blt_max2 hX.calm) (by rfl) (by decide) hf h1 h2 h3 he
  | min2 => exact blt_fn (blt_min2 hX.calm) (by rfl) (by decide) hf h1 h2 h3 he
theorem sn_mth (hX : XS W S k E X) (hf : Snd W p E X f) {mt : Mt} {o : Expr} {nm : Str} {ap pos : Pos} {es : List Expr} {co : C} {cs : List C} {m : Nat} (h : kMth f mt o nm ap pos es co cs = true) : PE X (.Call (.Attribute o nm ap) es [] pos) (rd W p E (m + 1) (.mth mt co cs)) := by
  unfold kMth at h
  rw [Bool.and_eq_true, Bool.and_eq_true, Bool.and_eq_true, Bool.and_eq_true] at h
  obtain ⟨h1, h2, h3, h4, h5⟩ := h
  have := of_decide_eq_true h4; subst this
  split at h5
  · rw [Bool.and_eq_true] at h5
    exact pe_mth1 hX.K F.slot_list_append F.type_list_append mt_appendD h1 h2 h5.1 (hf _ _ h3 m) (hf _ _ h5.2 m)
  · rw [Bool.and_eq_true] at h5
    exact pe_mth1 hX.K F.slot_list_extend F.type_list_extend mt_extendD h1 h2 h5.1 (hf _ _ h3 m) (hf _ _ h5.2 m)
  · rw [Bool.and_eq_true] at h5
    exact pe_mth1 hX.K F.slot_list_pop F.type_list_pop mt_popAtD h1 h2 h5.1 (hf _ _ h3 m) (hf _ _ h5.2 m)
  · rw [Bool.and_eq_true] at h5
    exact pe_mth1 hX.K F.slot_list_count F.type_list_count (mt_countD hX.K) h1 h2 h5.1 (hf _ _ h3 m) (hf _ _ h5.2 m)
  · rw [Bool.and_eq_true] at h5
    exact pe_mth1 hX.K F.slot_list_index F.type_list_index (mt_indexD hX.K) h1 h2 h5.1 (hf _ _ h3 m) (hf _ _ h5.2 m)
  · exact pe_mth0 hX.K F.slot_list_pop F.type_list_pop mt_popD h1 h2 (hf _ _ h3 m)
  · exact nomatch h5
theorem boot_ty (t : Ty) : bootBuiltins (Str.ofString t.nm) = some (.type t.nm) := by cases t <;> rfl
theorem ty_ne (t : Ty) : Str.ofString t.nm ≠ "__name__" := by cases t <;> decide
theorem noPar_1 {a : Arguments} (h : noPar a = true) : a = ⟨[], [], none, [], [], none, []⟩ := by
  unfold noPar at h
  split at h
  · rfl
  · exact nomatch h
/-- the context of a lambda's body -/
theorem XS.lamX (hX : XS W S k E X) {scope : Scope} {j : Nat} {A : Around} {outer : List Env} {s : Shared} {H : Hp} {E' : XK} {fa c' : Addr} (L : LamX.LamS S.sc scope) (hr : Room j (A.deeper (LamX.lamEnv X scope s.heap.objs.size fa c'))) :
    XS W (S.lamS scope) j E' (LamX.lamCx X A outer s H E' scope fa c') := by
  have tk : Takes (LamX.lamCx X A outer s H E' scope fa c') (fun cls d _ H => E' cls d H) := takes_of (E := E') rfl rfl rfl rfl
  refine { prog := hX.prog, w := hX.w, K := hX.K, mg := hX.mg, base := hX.base, room := hr, gd := fun z => (nomatch z), nN := hX.nN, sc := rfl, nd := hX.nd, calm := rfl, fn := fun x z => ?_, ps := ?_, la := fun z => (nomatch z) }
  · exact absurd rfl (L.own _ (PySem.mem_of_lookup z)).2
  · rw [← hX.prog, ← hX.w]
    exact passes_call tk fun _ _ _ _ z => z
theorem sn_call (hl : S.lam = true → k' + 3 ≤ k ∧ SbOk W p k' X) (hk : k' ≤ k) (hT : TbOk W cn p k' T) (hX : XS W S k E X) {fl : Sd → FE} (hf : Snd W p E X f) (hfl : ∀ S' j E' X', k' ≤ j → XS W S' j E' X' → S'.lam = false → S'.gd = false → Snd W p E' X' (fl S')) {fe : Expr} {es : List Expr} {pos : Pos} {c : C} (h : kCall fl f T S fe es pos c = true) : ∀ m, PE X (.Call fe es [] pos) (rd W p E m c) := pe_any fun m => by
  unfold kCall at h
  split at h
  · rw [Bool.or_eq_true] at h
    rcases h with h | h
    · unfold kFn at h
      split at h
      · rename_i x _
        rw [Bool.and_eq_true, Bool.and_eq_true] at h
        obtain ⟨h1, h2, h3⟩ := h
        obtain ⟨g1, g2⟩ := hX.gl h1
        cases e : T.fns.lookup x with
        | none => rw [e] at h2; exact nomatch h2
        | some kg =>
          obtain ⟨k2, gf⟩ := kg
          rw [e] at h2
          dsimp only at h2
          rw [Bool.and_eq_true, Bool.or_eq_true, Bool.not_eq_true'] at h2
          have := of_decide_eq_true h2.1; subst this
          obtain ⟨a, m1, m2⟩ := hT.fn x _ _ e
          refine pe_callD hX.toXOk.toXW (fun z => ?_) (m2.le (by omega)) g1 m1 hX.ps g2 (esB_all h3).1 (esB_all h3).2 (sn_es hf m h3)
          rcases h2.2 with w | w
          · rw [z] at w; exact nomatch w
          · exact w
      · exact nomatch h
    · unfold kGen at h
      split at h
      · rename_i x _ y _ e0 es0 _
        simp only [Bool.and_eq_true] at h
        obtain ⟨h1, h2, h3, h4, h5⟩ := h
        have := of_decide_eq_true h2; subst this
        obtain ⟨b1, b2, b3⟩ := bltB_1 hT hX h1
        obtain ⟨g1, g2⟩ := hX.gl h3
        cases e : T.gens.lookup y with
        | none => rw [e] at h4; exact nomatch h4
        | some k2 =>
          rw [e] at h4
          have := of_decide_eq_true h4
          have : k2 = _ := this
          subst this
          obtain ⟨a, kg, m1, m2, m3, m4⟩ := hT.gn y _ e
          have hW := hX.toXOk.toXW
          exact pe_glD m4 { prog := hW.prog, w := hW.w, K := hW.K, mg := hW.mg, base := hW.base, room := hW.room.mono (by omega), gd := hW.gd } m3 g1 m1 hX.ps g2 (esB_all h5).1 (sn_es hf m h5) b1 (by rw [← hX.mg]; exact b3) (by rfl) (by decide) (by decide)
      · exact nomatch h
  · split at h
    · rename_i i cs x _
      unfold namB at h
      rw [Bool.and_eq_true, Bool.and_eq_true, Bool.and_eq_true, Bool.and_eq_true, Bool.not_eq_true'] at h
      obtain ⟨h0, ⟨h1, h2, h3⟩, h4⟩ := h
      exact pe_callvD hX.toXOk.toXW (fun f' a' e' => by
        obtain ⟨x', m0, m1⟩ := hT.fa h0 f' a' e'
        obtain ⟨a2, m2, m3⟩ := hT.fn x' _ _ m0
        rw [m1] at m2
        injection m2 with m2
        injection m2 with m2
        subst m2
        exact m3.le (by omega)) (by rw [hX.nN]; exact of_decide_eq_true h1) (by rw [hX.sc]; exact visB_ok h2) hX.ps (nodb_1 h3).1 (nodb_1 h3).2 (esB_all h4).1 (esB_all h4).2 (sn_es hf m h4)
    · exact nomatch h
  · split at h
    · rename_i k0 g0 i0 cd x _ y _ ed
      simp only [Bool.and_eq_true] at h
      obtain ⟨h1, h2, h3, h4, h5, h6, h7⟩ := h
      obtain ⟨g1, g2⟩ := hX.gl h1
      unfold namB at h3
      rw [Bool.and_eq_true, Bool.and_eq_true] at h3
      cases e : T.lcs.lookup x with
      | none => rw [e] at h2; exact nomatch h2
      | some fg =>
        rw [e] at h2
        have := of_decide_eq_true h2
        subst this
        cases m with
        | zero => exact pe_mets1
        | succ m =>
          obtain ⟨l1, l2⟩ := hl h5
          exact pe_metsD hT.CF { prog := hX.prog, w := hX.w, K := hX.K, mg := hX.mg, base := hX.base, room := hX.room.mono l1, gd := fun _ => hX.gd h4 } g1 (hX.la h5) l2 (hT.lc x _ _ e) (by rw [hX.nN]; exact of_decide_eq_true h3.1) (by rw [hX.sc]; exact visB_ok h3.2.1) (nodb_1 h3.2.2).1 (nodb_1 h3.2.2).2 g2 h6 (hf _ _ h7 (m + 1))
    · exact nomatch h
  · split at h
    · simp only [Bool.and_eq_true] at h
      obtain ⟨⟨h1, h2⟩, ⟨h3, h4⟩, ⟨h5, h6⟩, h7, h8, h9⟩ := h
      have := of_decide_eq_true h2; subst this
      have := of_decide_eq_true h4; subst this
      have := of_decide_eq_true h6; subst this
      obtain ⟨b1, b2, b3⟩ := bltB_1 hT hX h1
      obtain ⟨c1, c2, c3⟩ := bltB_1 hT hX h3
      obtain ⟨d1, d2, d3⟩ := bltB_1 hT hX h5
      obtain ⟨g1, g2⟩ := hX.gl h7
      split at h8
      · rename_i k2 e
        have := of_decide_eq_true h8
        subst this
        obtain ⟨a, kg, m1, m2, m3, m4⟩ := hT.gn _ _ e
        have hW := hX.toXOk.toXW
        exact pe_zip0D { prog := hW.prog, w := hW.w, K := hW.K, mg := hW.mg, base := hW.base, room := hW.room.mono (by omega), gd := hW.gd } hX.calm m3 g1 m1 g2 (esB_all h9).1 (sn_es hf m h9) b1 (by rw [← hX.mg]; exact b3) c1 (by rw [← hX.mg]; exact c3) d1 (by rw [← hX.mg]; exact d3)
      · exact nomatch h8
    · exact nomatch h
  · split at h
    · rename_i cs x _ e0 es0
      rw [Bool.and_eq_true, Bool.and_eq_true] at h
      obtain ⟨h1, h2, h3⟩ := h
      obtain ⟨g1, g2⟩ := hX.gl h1
      have hs := (esB_all h3).1
      rw [List.all_cons, Bool.and_eq_true] at hs
      exact (pe_callBfun blt_gcd g1 (by rw [hX.mg]; exact hT.gcd x (List.contains_iff_mem.mp h2)) (sn_es hf m h3) g2 (star_cons es0 _ hs.1) (star_none hs.2)).weak fun σ H Q h => rd_blt h
    · exact nomatch h
  · split at h
    · simp only [Bool.and_eq_true] at h
      obtain ⟨h1, h2, h3, h4, h5, h6⟩ := h
      have := of_decide_eq_true h2; subst this
      have := of_decide_eq_true h4; subst this
      obtain ⟨b1, b2, b3⟩ := bltB_1 hT hX h1
      obtain ⟨c1, c2, c3⟩ := bltB_1 hT hX h3
      exact pe_lrng1D hX.calm b1 b3 c1 c3 h5 (hf _ _ h6 m)
    · exact nomatch h
  · split at h
    · simp only [Bool.and_eq_true] at h
      obtain ⟨h1, h2, h3, h4, h5, h6, h7, h8⟩ := h
      have := of_decide_eq_true h2; subst this
      have := of_decide_eq_true h4; subst this
      obtain ⟨b1, b2, b3⟩ := bltB_1 hT hX h1
      obtain ⟨c1, c2, c3⟩ := bltB_1 hT hX h3
      exact pe_lrng2D hX.calm b1 b3 c1 c3 h5 h6 (hf _ _ h7 m) (hf _ _ h8 m)
    · exact nomatch h
  · split at h
    · rw [Bool.and_eq_true, Bool.and_eq_true, Bool.and_eq_true] at h
      obtain ⟨h1, h2, h3, h4⟩ := h
      have := of_decide_eq_true h2; subst this
      obtain ⟨b1, b2, b3⟩ := bltB_1 hT hX h1
      exact sn_blt hX hf b1 b2 b3 h3 h4
    · exact nomatch h
  · split at h
    · rw [Bool.and_eq_true, Bool.and_eq_true, Bool.and_eq_true, Bool.and_eq_true, Bool.and_eq_true] at h
      obtain ⟨h1, h2, h3, h4, h5, h6⟩ := h
      have := of_decide_eq_true h2; subst this
      have := of_decide_eq_true h4; subst this
      obtain ⟨b1, b2, b3⟩ := bltB_1 hT hX h1
      obtain ⟨c1, c2, c3⟩ := bltB_1 hT hX h3
      exact pe_isiD hX.K b1 b3 h5 c1 c3 (boot_ty _) (ty_ne _) c2 (hf _ _ h6 m)
    · exact nomatch h
  · split at h
    · exact sn_mth hX hf h
    · exact nomatch h
  · split at h
    · rename_i g cb x _ params body scope _
      rw [Bool.and_eq_true, Bool.and_eq_true, Bool.and_eq_true, Bool.and_eq_true, Bool.and_eq_true, Bool.and_eq_true] at h
      obtain ⟨h1, h2, h3, h4, h5, h6, h7⟩ := h
      obtain ⟨g1, g2⟩ := hX.gl h1
      have := noPar_1 h6; subst this
      cases e : T.cats.lookup x with
      | none => rw [e] at h2; exact nomatch h2
      | some g' =>
        rw [e] at h2
        have := of_decide_eq_true h2; subst this
        have L : LamX.LamS S.sc scope := LamX.lamS_by h5
        have hX2 : XW W (k' + 2) true X := { prog := hX.prog, w := hX.w, K := hX.K, mg := hX.mg, base := hX.base, room := hX.room.mono (Nat.le_trans (by omega) (hl h4).1), gd := fun _ => hX.gd h3 }
        refine pe_catD hT.CF hX2 g1 (hT.cat x _ e) rfl (hX.la h4) (by rw [hX.sc]; exact L) rfl (fun _ _ _ _ _ => rfl) fun A outer s H E' fa c' hr => ?_
        exact hfl _ _ _ _ (Nat.le_refl _) (hX.lamX L hr) rfl rfl _ _ h7 m
    · exact nomatch h
  · exact nomatch h
end
end Pv
end PvS_
section PvT_
set_option maxRecDepth 100000
/-! PvT: the checker: tests, f-strings, targets, walks, comprehensions; expressions whole. -/
namespace Pv
open PySem PySem.Spec PyProof.Rows L2
def wB (t : FT) (o : PySem.BoolOp) : List Expr → T → Bool
  | [], _ => false
  | a :: rest, c => match rest with
    | [] => t a c
    | _ :: _ => (match c with
      | .and x y => decide (o = .And) && (t a x && wB t o rest y)
      | .or x y => decide (o = .Or) && (t a x && wB t o rest y)
      | _ => false)
def kT (f : FE) (t : FT) (e : Expr) (c : T) : Bool := match c with
  | .not ct => (match e with
    | .UnaryOp .Not a _ => t a ct
    | _ => false)
  | .val ce => (match e with
    | .Compare a os bs _ => kCmp f a os bs ce
    | e => plainTest e && f e ce)
  | c => (match e with
    | .BoolOp o vs _ => wB t o vs c
    | _ => false)
def jB (f : FE) : List Expr → List C → Bool
  | [], [] => true
  | e :: es, c :: cs => (match e with
    | .FormattedValue v (-1) none _ => f v c
    | .Constant (.str x) _ _ => (match c with
      | .lit (.str y) => decide (x = y)
      | _ => false)
    | _ => false) && jB f es cs
  | _, _ => false
def kFst (f : FE) (vs : List Expr) (c : C) : Bool := match c, vs with
  | .fst cs, v1 :: v2 :: rest => jB f (v1 :: v2 :: rest) cs
  | .fst [c], [.FormattedValue v (-1) none _] => f v c
  | _, _ => false
/-- a name that may be written -/
def wrB (S : Sd) (x : Str) : Bool := match S.sc.names.lookup x with
  | some .local => true
  | some .cell => decide (S.os.names.lookup x = some .cell)
  | _ => false
def nmsB (S : Sd) : List Expr → List Nat → Bool
  | [], [] => true
  | .Name x _ :: es, i :: is => decide (S.N[i]? = some x) && (wrB S x && nmsB S es is)
  | _, _ => false
def kG (f : FE) (S : Sd) (e : Expr) (g : G) : Bool := match g with
  | .nm i => (match e with
    | .Name x _ => decide (S.N[i]? = some x) && wrB S x
    | _ => false)
  | .tup is => (match e with
    | .Tuple es _ _ => nmsB S es is
    | _ => false)
  | .sub o i => (match e with
    | .Subscript a b _ => plainIx b && (f a o && f b i)
    | _ => false)
  | .subs _ => false
def isTup : Expr → Bool
  | .Tuple _ _ _ => true
  | _ => false
def notSet : Expr → Bool
  | .Set _ _ _ => false
  | _ => true
def kI (f : FE) (T : Tb) (S : Sd) (tg e : Expr) (it : I) : Bool := match it with
  | .seq c => f e c
  | .rng1 c => (match e with
    | .Call (.Name x _) [a] [] _ => decide (x = ("range" : Str)) && (bltB T S x && (notStar a && f a c))
    | _ => false)
  | .rng2 c c2 => (match e with
    | .Call (.Name x _) [a, b] [] _ => decide (x = ("range" : Str)) && (bltB T S x && (notStar a && (notStar b && (f a c && f b c2))))
    | _ => false)
  | .enum c => (match e with
    | .Call (.Name x _) [a] [] _ => isTup tg && (decide (x = ("enumerate" : Str)) && (bltB T S x && (notStar a && f a c)))
    | _ => false)
  | .zip c c2 => (match e with
    | .Call (.Name x _) [a, b] [] _ => isTup tg && (decide (x = ("zip" : Str)) && (bltB T S x && (notStar a && (notStar b && (f a c && f b c2)))))
    | _ => false)
def ownOf (N : List Str) (is : List Nat) : List (Str × Nat) := is.map fun i => ((N[i]?).getD Str.empty, i)
theorem own_snd (N : List Str) (is : List Nat) : (ownOf N is).map (·.2) = is := by
  unfold ownOf
  rw [List.map_map]
  exact List.map_id'' (fun _ => rfl) is
def ifB (t : FT) : List Expr → Option T → Bool
  | [], none => true
  | [c], some ct => t c ct
  | _, _ => false
def kComp (f fi : FE) (ti : FT) (T : Tb) (S : Sd) (elt : Expr) (gens : List Comprehension) (scope : Scope) (c : C) : Bool := match c with
  | .comp ce g it cond own => (match gens with
    | [⟨tg, iter, ifs, 0⟩] => (gslots g).all own.contains && (blkC S.N S.sc scope (ownOf S.N own) && (notSet iter && (kI f T S tg iter it && (kG fi (S.blkS scope) tg g && (ifB ti ifs cond && fi elt ce)))))
    | _ => false)
  | _ => false
section
variable {W : Wd} {cn : Nat → Str} {p : Pr} {k k' : Nat} {T : Tb} {S : Sd} {E : XK} {X : Cx} {f : FE} {t : FT}
def SndT (W : Wd) (p : Pr) (E : XK) (X : Cx) (t : FT) : Prop := ∀ e c, t e c = true → ∀ m, PT X e (rdT W p E m c)
theorem pw_zero {e : Expr} {c : Pv.T} : PW X e (rdT W p E 0 c) := ⟨fun wh pins s σ H Q I ⟨_, _, _, _, k⟩ => by unfold evT at k; exact k.elim⟩
theorem sn_w (ht : SndT W p E X t) {o : PySem.BoolOp} {pos : Pos} : ∀ {vs : List Expr} {c : Pv.T}, wB t o vs c = true → ∀ m, PW X (.BoolOp o vs pos) (rdT W p E m c)
  | [], c, h, m => nomatch h
  | [a], c, h, m => by
    have h : t a c = true := h
    cases o with
    | And => exact pw_and1 (ht _ _ h m)
    | Or => exact pw_or1 (ht _ _ h m)
  | a :: b :: rest, c, h, m => by
    cases m with
    | zero => exact pw_zero
    | succ m =>
      unfold wB at h
      dsimp only at h
      split at h
      · rw [Bool.and_eq_true, Bool.and_eq_true] at h
        have := of_decide_eq_true h.1; subst this
        exact pw_andD (ht _ _ h.2.1 m) (sn_w ht h.2.2 m)
      · rw [Bool.and_eq_true, Bool.and_eq_true] at h
        have := of_decide_eq_true h.1; subst this
        exact pw_orD (ht _ _ h.2.1 m) (sn_w ht h.2.2 m)
      · exact nomatch h
theorem rd_0 {c : C} {σ : L2.St} {H : Hp} {Q : VK} (h : rd W p E 0 c σ H Q) : False := by
  obtain ⟨_, _, _, _, k⟩ := h
  unfold ev at k; exact k.elim
theorem sn_cmpT (hX : XS W S k E X) (hf : Snd W p E X f) {os : List CmpOp} {a : Expr} {bs : List Expr} {pos : Pos} {c : C} (h : kCmp f a os bs c = true) : ∀ m, PT X (.Compare a os bs pos) (rdT W p E (m + 1) (.val c)) := fun m => by
  unfold kCmp at h
  split at h
  · split at h
    · rw [Bool.and_eq_true, Bool.and_eq_true, Bool.and_eq_true, Bool.not_eq_true'] at h
      have := of_decide_eq_true h.1; subst this
      refine pt_boolD (t := tOp (RCD W E _) (rd W p E (m - 1) _) (rd W p E (m - 1) _)) (fun n ρ => cmp_isB) (pt_cmpR (op_cmpD hX.K hX.room.units _) (hf _ _ h.2.2.1 (m - 1)) (hf _ _ h.2.2.2 (m - 1)) h.2.1) fun σ H Q h => ?_
      cases m with
      | zero => exact (rd_0 h).elim
      | succ m =>
        obtain ⟨Γ, ρ, F, R, h⟩ := h
        unfold ev at h
        exact rd_two R h
    · exact nomatch h
  · split at h
    · rw [Bool.and_eq_true, Bool.and_eq_true, Bool.and_eq_true, Bool.and_eq_true, Bool.and_eq_true, Bool.not_eq_true'] at h
      have := of_decide_eq_true h.1; subst this
      have := of_decide_eq_true h.2.1; subst this
      refine pt_boolD (t := tChain (RCD W E _) (RCD W E _) (rd W p E (m - 1) _) (rd W p E (m - 1) _) (rd W p E (m - 1) _)) (fun n ρ => chn_isB) (pt_chain (op_cmpD hX.K hX.room.units _) (op_cmpD hX.K hX.room.units _) (hf _ _ h.2.2.2.1 (m - 1)) (hf _ _ h.2.2.2.2.1 (m - 1)) (hf _ _ h.2.2.2.2.2 (m - 1)) h.2.2.1) fun σ H Q h => ?_
      cases m with
      | zero => exact (rd_0 h).elim
      | succ m => exact chn_rd h
    · exact nomatch h
  · exact nomatch h
theorem sn_t (hX : XS W S k E X) (hf : Snd W p E X f) (ht : SndT W p E X t) : SndT W p E X (kT f t) := fun e c h m => by
  cases m with
  | zero => exact pt_zero
  | succ m =>
    unfold kT at h
    split at h
    · split at h
      · exact pt_notD (ht _ _ h m)
      · exact nomatch h
    · split at h
      · exact sn_cmpT hX hf h m
      · rw [Bool.and_eq_true] at h
        exact pt_valD hX.K h.1 (hf _ _ h.2 m)
    · split at h
      · exact (sn_w ht h (m + 1)).pt
      · exact nomatch h
theorem pe_rdF0 {e : Expr} {c : C} : PE X e (rdF W p E 0 c) := ⟨fun pins s σ H Q I ⟨_, _, _, _, k⟩ => by
  unfold partS peek at k
  unfold ev at k
  exact k.elim⟩
theorem sn_j (hf : Snd W p E X f) (m : Nat) : ∀ {es : List Expr} {cs : List C}, jB f es cs = true → PJ X es (cs.map (rdF W p E m))
  | [], [], h => .nil
  | [], _ :: _, h => nomatch h
  | _ :: _, [], h => nomatch h
  | e :: es, c :: cs, h => by
    unfold jB at h
    rw [Bool.and_eq_true] at h
    have ih := sn_j hf m h.2
    have h1 := h.1
    split at h1
    · exact .cons (pe_fmtD (hf _ _ h1 m)) ih
    · split at h1
      · have := of_decide_eq_true h1; subst this
        cases m with
        | zero => exact .cons pe_rdF0 ih
        | succ m => exact .cons pe_fconD ih
      · exact nomatch h1
    · exact nomatch h1
theorem sn_fst (hf : Snd W p E X f) {vs : List Expr} {pos : Pos} {c : C} (h : kFst f vs c = true) : ∀ m, PE X (.JoinedStr vs pos) (rd W p E m c) := pe_any fun m => by
  unfold kFst at h
  split at h
  · exact pe_fstD (sn_j hf m h)
  · exact pe_fst1D (pe_fmtD (hf _ _ h m))
  · exact nomatch h
theorem wrB_1 (hX : XS W S k E X) {x : Str} (h : wrB S x = true) : Loc X.env.scope x ∧ (X.fn x = true ∨ X.env.scope.names.lookup x = some .local) := by
  unfold wrB at h
  rw [hX.sc]
  split at h
  · rename_i e; exact ⟨.inl e, .inr e⟩
  · rename_i e; exact ⟨.inr e, .inl (hX.fn _ (of_decide_eq_true h))⟩
  · exact nomatch h
theorem sn_nms (hX : XS W S k E X) : ∀ {es : List Expr} {is : List Nat}, nmsB S es is = true → nmsOk X es is
  | [], [], h => trivial
  | [], _ :: _, h => nomatch h
  | e :: _, [], h => by cases e <;> exact nomatch h
  | e :: es, i :: is, h => by
    cases e <;> try (exact (Bool.false_ne_true h).elim)
    case Name x pos =>
      have h : (decide (S.N[i]? = some x) && (wrB S x && nmsB S es is)) = true := h
      rw [Bool.and_eq_true, Bool.and_eq_true] at h
      obtain ⟨w1, w2⟩ := wrB_1 hX h.2.1
      exact ⟨by rw [hX.nN]; exact of_decide_eq_true h.1, w1, w2, sn_nms hX h.2.2⟩
theorem sn_g (hX : XS W S k E X) (hf : Snd W p E X f) {e : Expr} {g : G} (h : kG f S e g = true) (m : Nat) : PG X e (rdG W p E m g) := by
  have nd : X.N.Nodup := by rw [hX.nN]; exact hX.nd
  unfold kG at h
  split at h
  · split at h
    · rw [Bool.and_eq_true] at h
      obtain ⟨w1, w2⟩ := wrB_1 hX h.2
      exact pg_nmD nd (by rw [hX.nN]; exact of_decide_eq_true h.1) w1 w2
    · exact nomatch h
  · split at h
    · exact pg_tupD hX.K hX.calm nd (sn_nms hX h)
    · exact nomatch h
  · split at h
    · rw [Bool.and_eq_true, Bool.and_eq_true] at h
      exact pg_subD h.1 (hf _ _ h.2.1 m) (hf _ _ h.2.2 m)
    · exact nomatch h
  · exact nomatch h
theorem sn_i (hT : TbOk W cn p k' T) (hX : XS W S k E X) (hf : Snd W p E X f) {tg e : Expr} {it : I} (h : kI f T S tg e it = true) (m : Nat) : PI X tg e (rdI W p E m it) := by
  unfold kI at h
  split at h
  · exact pi_seqD hX.K (hf _ _ h m)
  · split at h
    · simp only [Bool.and_eq_true] at h
      obtain ⟨h1, h2, h3, h4⟩ := h
      have := of_decide_eq_true h1; subst this
      obtain ⟨b1, b2, b3⟩ := bltB_1 hT hX h2
      exact pi_rng1D b1 b3 h3 (hf _ _ h4 m)
    · exact nomatch h
  · split at h
    · simp only [Bool.and_eq_true] at h
      obtain ⟨h1, h2, h3, h4, h5, h6⟩ := h
      have := of_decide_eq_true h1; subst this
      obtain ⟨b1, b2, b3⟩ := bltB_1 hT hX h2
      exact pi_rng2D b1 b3 h3 h4 (hf _ _ h5 m) (hf _ _ h6 m)
    · exact nomatch h
  · split at h
    · simp only [Bool.and_eq_true] at h
      obtain ⟨h0, h1, h2, h3, h4⟩ := h
      have := of_decide_eq_true h1; subst this
      obtain ⟨b1, b2, b3⟩ := bltB_1 hT hX h2
      unfold isTup at h0
      split at h0
      · exact pi_enumD hX.K b1 b3 h3 (hf _ _ h4 m)
      · exact nomatch h0
    · exact nomatch h
  · split at h
    · simp only [Bool.and_eq_true] at h
      obtain ⟨h0, h1, h2, h3, h4, h5, h6⟩ := h
      have := of_decide_eq_true h1; subst this
      obtain ⟨b1, b2, b3⟩ := bltB_1 hT hX h2
      unfold isTup at h0
      split at h0
      · exact pi_zipD hX.K b1 b3 h3 h4 (hf _ _ h5 m) (hf _ _ h6 m)
      · exact nomatch h0
    · exact nomatch h
/-- the context of a block -/
theorem XS.blkX (hX : XS W S k E X) {scope : Scope} {s : Shared} {H : Hp} {C : Addr} {cl : List (Str × Addr)} {fp : List Addr} : XS W (S.blkS scope) k NoX (X.blk s H scope (compEnvC scope cl C X.env) fp) := by
  refine { prog := hX.prog, w := hX.w, K := hX.K, mg := hX.mg, base := hX.base, room := hX.room, gd := hX.gd, nN := hX.nN, sc := ?_, nd := hX.nd, calm := hX.calm, fn := fun x z => ?_, ps := ?_, la := fun z => (nomatch z) }
  · show relS scope X.env.scope = relS scope S.sc
    rw [hX.sc]
  · show (scope.names.lookup x == some .cell) = true
    rw [show scope.names.lookup x = some .cell from z]; rfl
  · rw [← hX.prog, ← hX.w]
    exact passes_call LamX.takes0 fun _ _ _ _ z => z
theorem sn_comp (hT : TbOk W cn p k' T) (hX : XS W S k E X) {fi : FE} {ti : FT} (hf : Snd W p E X f) {scope : Scope} (hi : ∀ X', XS W (S.blkS scope) k NoX X' → Snd W p NoX X' fi) (hti : ∀ X', XS W (S.blkS scope) k NoX X' → SndT W p NoX X' ti) {elt : Expr} {gens : List Comprehension} {pos : Pos} {c : C} (h : kComp f fi ti T S elt gens scope c = true) :
    ∀ m, PE X (.ListComp elt gens scope pos) (rd W p E m c) := pe_any fun m => by
  unfold kComp at h
  split at h
  · rename_i ce g it cond own
    split at h
    · rename_i tg iter ifs
      simp only [Bool.and_eq_true] at h
      obtain ⟨h1, h2, h3, h4, h5, h6, h7⟩ := h
      have key := pe_compD (X := X) (W := W) (p := p) (E := E) (n := m) (own := ownOf S.N own) (g := g) (it := it) (cond := cond) (ce := ce) (elt := elt) (tg := tg) (iter := iter) (ifs := ifs) (scope := scope) (pos := pos) hX.calm (by rw [hX.nN]; exact hX.nd)
        (by rw [own_snd]; exact fun j hj => List.contains_iff_mem.mp (List.all_eq_true.mp h1 j hj)) (by rw [hX.nN, hX.sc]; exact blkOk_by h2) h3 (sn_i hT hX hf h4 m)
        (fun s H C cl fp => sn_g hX.blkX (hi _ hX.blkX) h5 m)
        (fun s H C cl fp => by
          unfold ifB at h6
          split at h6
          · exact pts_nil
          · exact pts_one (hti _ hX.blkX _ _ h6 m)
          · exact nomatch h6)
        (fun s H C cl fp => hi _ hX.blkX _ _ h7 m)
      rw [own_snd] at key
      exact key
    · exact nomatch h
  · exact nomatch h
end
/-! ### expressions whole -/
mutual
def ckE (T : Tb) : Nat → Sd → Expr → C → Bool
  | 0, _, _, _ => false
  | n + 1, S, e, c => match e with
    | .Name x _ => kName T S x c
    | .Constant k _ _ => kConst k c
    | .BinOp a o b _ => kBin (ckE T n S) o a b c
    | .UnaryOp o a _ => kUn (ckE T n S) o a c
    | .Compare a os bs _ => kCmp (ckE T n S) a os bs c
    | .BoolOp o vs pos => kBool (ckE T n S) o vs pos c
    | .IfExp t a b _ => (match c with
      | .ite ct ca cb => ckT T n S t ct && (ckE T n S a ca && ckE T n S b cb)
      | _ => false)
    | .Tuple es _ _ => kSeq (ckE T n S) true es c
    | .List es _ => kSeq (ckE T n S) false es c
    | .Dict [] [] _ => (match c with
      | .emp => true
      | _ => false)
    | .Subscript a i _ => kSub (ckE T n S) a i c
    | .JoinedStr vs _ => kFst (ckE T n S) vs c
    | .Call fe es [] pos => kCall (fun S' => ckE T n S') (ckE T n S) T S fe es pos c
    | .ListComp elt gens scope _ => kComp (ckE T n S) (ckE T n (S.blkS scope)) (ckT T n (S.blkS scope)) T S elt gens scope c
    | _ => false
def ckT (T : Tb) : Nat → Sd → Expr → Pv.T → Bool
  | 0, _, _, _ => false
  | n + 1, S, e, c => kT (ckE T n S) (ckT T n S) e c
end
theorem ck_ok {W : Wd} {cn : Nat → Str} {p : Pr} {k' : Nat} {T : Tb} (hT : TbOk W cn p k' T) : ∀ n, (∀ S k E X, (S.lam = true → k' + 3 ≤ k ∧ SbOk W p k' X) → k' ≤ k → XS W S k E X → Snd W p E X (ckE T n S)) ∧ ∀ S k E X, (S.lam = true → k' + 3 ≤ k ∧ SbOk W p k' X) → k' ≤ k → XS W S k E X → SndT W p E X (ckT T n S)
  | 0 => ⟨fun S k E X _ _ hX e c h => by (unfold ckE at h; exact nomatch h), fun S k E X _ _ hX e c h => by (unfold ckT at h; exact nomatch h)⟩
  | n + 1 => by
    obtain ⟨ihE, ihT⟩ := ck_ok hT n
    refine ⟨fun S k E X hl hk hX e c h => ?_, fun S k E X hl hk hX => sn_t hX (ihE S k E X hl hk hX) (ihT S k E X hl hk hX)⟩
    have hf := ihE S k E X hl hk hX
    have ht := ihT S k E X hl hk hX
    unfold ckE at h
    split at h
    · exact sn_name hX hT h
    · exact sn_const h
    · exact sn_bin hX hf h
    · exact sn_un hf h
    · exact sn_cmp hX hf h
    · exact sn_bool hf h
    · split at h
      · rw [Bool.and_eq_true, Bool.and_eq_true] at h
        exact pe_any fun m => pe_iteD (ht _ _ h.1 m) (hf _ _ h.2.1 m) (hf _ _ h.2.2 m)
      · exact nomatch h
    · exact sn_tup hX hf h
    · exact sn_lst hX hf h
    · split at h
      · exact pe_any fun m => pe_empD
      · exact nomatch h
    · exact sn_sub hX hf h
    · exact sn_fst hf h
    · exact sn_call hl hk hT hX hf (fun S' j E' X' hj hX' e1 e2 => ihE S' j E' X' (fun z => by rw [e1] at z; exact nomatch z) hj hX') h
    · exact sn_comp hT hX hf (fun X' hX' => ihE _ k NoX X' (fun z => (Bool.false_ne_true z).elim) hk hX') (fun X' hX' => ihT _ k NoX X' (fun z => (Bool.false_ne_true z).elim) hk hX') h
    · exact nomatch h
end Pv
end PvT_
section PvU_
set_option maxRecDepth 100000
/-! PvU: the checker: statements. -/
namespace Pv
open PySem PySem.Spec PyProof.Rows L2
def bkOf (sc : Scope) : ScopeKind := if sc.kind.isAnnotationScope then .function else sc.kind
/-- whether a comprehension's value goes straight to the name t -/
def swB (sc scope : Scope) (t : Str) (tl vl : Nat) : Bool := bkOf sc == .function && sc.names.lookup t == some .local && tl == vl && !(scope.names.any fun (n, k) => n == t && (k == .local || k == .cell))
theorem sw_lc {elt : Expr} {gens : List Comprehension} {scope : Scope} {pos py : Pos} {t : Str} {line : Nat} {env : Env} : swapsWith (.ListComp elt gens scope pos) (some (.Name t py)) line env = pure (swB env.scope scope t py.line pos.line) := rfl
def isStarred : Expr → Bool
  | .Starred _ _ => true
  | _ => false
def swNames (sc : Scope) (ts : List Expr) : List Str := ts.filterMap fun
    | .Name id pos => if sc.names.lookup id == some .local && pos.line == (ts.head?.map (·.pos.line)).getD 0 then some id else none
    | _ => none
def swK (sc : Scope) (ts vs : List Expr) : Option (Option (List Str)) :=
  if !(ts.length == 2 || ts.length == 3) || vs.length != ts.length || bkOf sc != .function then some none else
  if vs.any isStarred then some none else
  if (swNames sc ts).length != ts.length || (swNames sc ts).eraseDups.length != (swNames sc ts).length then some none else
  if vs.all (foldedForSure 8) then some none else
  if vs.all (constantsAlone 8) then none else some (some (swNames sc ts))
theorem sw_eq {ts vs : List Expr} {k k2 : Nat} {p1 p2 : Pos} {env : Env} {r : Option (List Str)} (h : swK env.scope ts vs = some r) : swappedStores [.Tuple ts k p1] (.Tuple vs k2 p2) env = pure r := by
  have e : swappedStores [.Tuple ts k p1] (.Tuple vs k2 p2) env = (do
      if !(ts.length == 2 || ts.length == 3) || vs.length != ts.length || bkOf env.scope != .function then return none
      if vs.any isStarred then return none
      if (swNames env.scope ts).length != ts.length || (swNames env.scope ts).eraseDups.length != (swNames env.scope ts).length then return none
      if vs.all (foldedForSure 8) then return none
      if vs.all (constantsAlone 8) then unsupported "assign.tuple-of-constant-expressions:order-of-the-stores"
      return some (swNames env.scope ts) : Sem (Option (List Str))) := rfl
  rw [e]
  unfold swK at h
  split at h
  · rename_i c; rw [if_pos c]; injection h with h; subst h; rfl
  rename_i c1; rw [if_neg c1]
  split at h
  · rename_i c; rw [if_pos c]; injection h with h; subst h; rfl
  rename_i c2; rw [if_neg c2]
  split at h
  · rename_i c; rw [if_pos c]; injection h with h; subst h; rfl
  rename_i c3; rw [if_neg c3]
  split at h
  · rename_i c; rw [if_pos c]; injection h with h; subst h; rfl
  rename_i c4; rw [if_neg c4]
  split at h
  · exact nomatch h
  · rename_i c; rw [if_neg c]; injection h with h; subst h; rfl
def swNo (sc : Scope) (tg e : Expr) : Bool := match tg with
  | .Subscript _ _ _ => true
  | .Tuple ts _ _ => (match e with
    | .Tuple vs _ _ => decide (swK sc ts vs = some none)
    | _ => true)
  | _ => false
theorem swNo_1 {tg e : Expr} {env : Env} (h : swNo env.scope tg e = true) : swappedStores [tg] e env = pure none := by
  unfold swNo at h
  split at h
  · rfl
  · split at h
    · exact sw_eq (of_decide_eq_true h)
    · rename_i hn
      cases e <;> first | rfl | exact (hn _ _ _ rfl).elim
  · exact nomatch h
abbrev FS := Stmt → S → Bool
/-- a lambda that stands for the body c -/
def lamB (fl : Sd → FE) (S : Sd) (e : Expr) (c : C) : Bool := match e with
  | .Lambda params body scope _ => noPar params && (LamX.lamSB S.sc scope && fl (S.lamS scope) body c)
  | _ => false
/-- x.append(lambda: ..) for each of cs; what is left -/
def takeA (lm : FE) (x : Str) : List C → List Stmt → Option (List Stmt)
  | [], r => some r
  | c :: cs, st :: r => (match st with
    | .Expr (.Call (.Attribute (.Name y _) nm ap) [e] [] cp) _ => (match decide (y = x) && (decide (nm = ("append" : Str)) && ((ap.endLine == cp.line) && lm e c)) with
      | true => takeA lm x cs r
      | false => none)
    | _ => none)
  | _ :: _, [] => none
/-- calls = [lambda: ..] and what is appended to it -/
def closB (lm : FE) (S : Sd) (i : Nat) (cs : List C) (sts : List Stmt) : Option (List Stmt) := match cs, sts with
  | c :: cs, .Assign [.Name x _] (.List [e] _) _ :: r => (match S.lam && (decide (S.N[i]? = some x) && (wrB S x && (nodb x && lm e c))) with
    | true => takeA lm x cs r
    | false => none)
  | _, _ => none
def ssB (sd : Sd) (lm : FE) (g : FS) : List S → List Stmt → Bool
  | [], sts => sts.isEmpty
  | s :: q, sts => match s with
    | .clos i cs => (match closB lm sd i cs sts with
      | some r => ssB sd lm g q r
      | none => false)
    | s => (match sts with
      | st :: r => g st s && ssB sd lm g q r
      | [] => false)
def subsB (f : FE) : List Expr → List (C × C) → Bool
  | [], [] => true
  | .Subscript a i _ :: es, (o, j) :: gs => plainIx i && (f a o && (f i j && subsB f es gs))
  | _, _ => false
/-- a target that takes a result, no name -/
def kGR (f : FE) (S : Sd) (tg : Expr) (g : G) : Bool := match g with
  | .nm _ => false
  | .tup is => (match tg with
    | .Tuple es _ _ => nmsB S es is
    | _ => false)
  | .sub o i => (match tg with
    | .Subscript a b _ => plainIx b && (f a o && f b i)
    | _ => false)
  | .subs gs => (match tg with
    | .Tuple es _ _ => subsB f es gs
    | _ => false)
/-- what follows a name's = -/
def kSet (f fi : Scope → FE) (ti : Scope → FT) (fo : FE) (T : Tb) (S : Sd) (x : Str) (tl : Nat) (e : Expr) (c : C) : Bool := match e with
  | .ListComp elt gens scope lp => (match swB S.sc scope x tl lp.line with
    | true => decide (S.sc.names.lookup x = some .local) && kComp fo (fi scope) (ti scope) T S elt gens scope c
    | false => fo e c)
  | e => !isComp e && fo e c
def kPar (f : FE) (S : Sd) (ts vs : List Expr) (is : List Nat) (cs : List C) : Bool := match ts, vs, is, cs with
  | [.Name x _, .Name y _], [a, b], [i, j], [ca, cb] => decide (i ≠ j) && (decide (S.N[i]? = some x) && (decide (S.N[j]? = some y) && (decide (S.sc.names.lookup x = some .local) && (decide (S.sc.names.lookup y = some .local) && (decide (swK S.sc ts vs = some (some [x, y])) && esB f [a, b] [ca, cb])))))
  | [.Name x _, .Name y _, .Name z _], [a, b, c], [i, j, l], [ca, cb, cc] => decide (i ≠ j) && (decide (i ≠ l) && (decide (j ≠ l) && (decide (S.N[i]? = some x) && (decide (S.N[j]? = some y) && (decide (S.N[l]? = some z) && (decide (S.sc.names.lookup x = some .local) && (decide (S.sc.names.lookup y = some .local) && (decide (S.sc.names.lookup z = some .local) && (decide (swK S.sc ts vs = some (some [x, y, z])) && esB f [a, b, c] [ca, cb, cc])))))))))
  | _, _, _, _ => false
def kAsg (fi : Scope → FE) (ti : Scope → FT) (f : FE) (T : Tb) (S : Sd) (tgs : List Expr) (e : Expr) (s : Pv.S) : Bool := match s with
  | .asg g c => (match tgs with
    | [.Name x py] => (match g with
      | .nm i => decide (S.N[i]? = some x) && (wrB S x && kSet fi fi ti f T S x py.line e c)
      | _ => false)
    | [tg] => notStar tg && (notName tg && (swNo S.sc tg e && (f e c && kGR f S tg g)))
    | _ => false)
  | .par is cs => (match tgs, e with
    | [.Tuple ts _ _], .Tuple vs _ _ => kPar f S ts vs is cs
    | _, _ => false)
  | _ => false
def kRais (f : FE) (T : Tb) (S : Sd) (x : Str) (a : Expr) (c : Nat) (ce : Option C) : Bool := glB S x && (match ce with
  | none => (match a with
    | .Constant (.str _) _ _ => decide (T.msgs.lookup x = some c)
    | _ => false)
  | some ce => decide (T.pays.lookup x = some c) && (notStar a && f a ce))
/-- a def's context -/
structure XT (W : Wd) (S : Sd) (k : Nat) (E : XK) (X : Cx) : Prop extends XS W S k E X where
  tk : Takes X (fun cls d _ H => E cls d H)
  po : PassesOwn (model X.prog X.w) X.A X.env X.xe
section
variable {W : Wd} {cn : Nat → Str} {p : Pr} {k k' : Nat} {T : Tb} {S : Sd} {E : XK} {X : Cx} {f : FE} {t : FT}
def SndS (W : Wd) (p : Pr) (E : XK) (X : Cx) (g : FS) : Prop := ∀ st s, g st s = true → ∀ m, PS X st (rdSt W p E m s)
/-- what a lambda is known as -/
def SbIn (W : Wd) (S : Sd) (lm : FE) : Prop := ∀ e c, lm e c = true → ∃ scope body pos, e = .Lambda noArgs body scope pos ∧ LamX.LamS S.sc scope ∧ W.cl.sb scope body c
theorem takeA_ok {lm : FE} {x : Str} (hX : XS W S k E X) (hs : SbIn W S lm) : ∀ {cs : List C} {sts r : List Stmt}, takeA lm x cs sts = some r → ∃ as, sts = as ++ r ∧ AppS W X x as cs
  | [], sts, r, h => by injection h with h; subst h; exact ⟨[], rfl, trivial⟩
  | _ :: _, [], r, h => nomatch h
  | c :: cs, st :: sts, r, h => by
    unfold takeA at h
    split at h
    · rename_i y py nm ap e cp ep
      split at h
      · rename_i hb
        simp only [Bool.and_eq_true] at hb
        obtain ⟨h1, h2, h3, h4⟩ := hb
        have := of_decide_eq_true h1; subst this
        have := of_decide_eq_true h2; subst this
        obtain ⟨as, ea, ha⟩ := takeA_ok hX hs h
        obtain ⟨scope, body, pos, e1, e2, e3⟩ := hs e c h4
        exact ⟨_ :: as, by rw [ea]; rfl, ⟨ap, e, cp, ep, py, rfl, h3, scope, body, pos, e1, by rw [hX.sc]; exact e2, e3⟩, ha⟩
      · exact nomatch h
    · exact nomatch h
theorem sn_ss {lm : FE} {g : FS} (hX : XS W S k E X) (hs : S.lam = true → SbIn W S lm) (hg : SndS W p E X g) (m : Nat) : ∀ {s : List Pv.S} {st : List Stmt}, ssB S lm g s st = true → PSs X st (rdSs W p E m s)
  | [], st, h => by
    have : st = [] := List.isEmpty_iff.mp h
    subst this
    exact pss_nilD
  | s :: q, st, h => by
    have plain : ∀ {st0 : Stmt} {r : List Stmt}, (g st0 s && ssB S lm g q r) = true → PSs X (st0 :: r) (rdSs W p E m (s :: q)) := fun {st0 r} h => by
      rw [Bool.and_eq_true] at h
      exact pss_consD (hg _ _ h.1 m) (sn_ss hX hs hg m h.2)
    unfold ssB at h
    split at h
    · rename_i i cs
      split at h
      · rename_i r hc
        unfold closB at hc
        split at hc
        · rename_i c cs' x px e pl pos r0
          split at hc
          · rename_i hb
            simp only [Bool.and_eq_true] at hb
            obtain ⟨b0, b1, b2, b3, b4⟩ := hb
            obtain ⟨as, ea, ha⟩ := takeA_ok hX (hs b0) hc
            subst ea
            obtain ⟨w1, w2⟩ := wrB_1 hX b2
            obtain ⟨scope, body, lp, e1, e2, e3⟩ := hs b0 e c b4
            exact pss_closD (by rw [hX.nN]; exact hX.nd) (by rw [hX.nN]; exact of_decide_eq_true b1) w1 w2 (nodb_1 b3).1 (nodb_1 b3).2 (hX.la b0) ⟨scope, body, lp, e1, by rw [hX.sc]; exact e2, e3⟩ ha (sn_ss hX hs hg m h)
          · exact nomatch hc
        · exact nomatch hc
      · exact nomatch h
    · split at h
      · exact plain h
      · exact nomatch h
theorem ps_any {st : Stmt} {s : Pv.S} (h : ∀ m, PS X st (rdSt W p E (m + 1) s)) : ∀ m, PS X st (rdSt W p E m s)
  | 0 => ps_zero
  | m + 1 => h m
theorem rd_mono {c : C} {n : Nat} {σ : L2.St} {H : Hp} {Q Q' : VK} (h : rd W p E n c σ H Q) (w : ∀ v H', Q v H' → Q' v H') : rd W p E n c σ H Q' := by
  obtain ⟨Γ, ρ, F, R, h⟩ := h
  exact ⟨Γ, ρ, F, R, h.imp fun r ρ1 F1 H1 s1 R1 q v hv => w _ _ (q v hv)⟩
theorem sn_setLc (hT : TbOk W cn p k' T) (hX : XS W S k E X) {fi : FE} {ti : FT} (hf : Snd W p E X f) {scope : Scope} (hi : ∀ X', XS W (S.blkS scope) k NoX X' → Snd W p NoX X' fi) (hti : ∀ X', XS W (S.blkS scope) k NoX X' → SndT W p NoX X' ti) {x : Str} {i : Nat} {py spos : Pos} {elt : Expr} {gens : List Comprehension} {pos : Pos} {c : C}
    (hN : S.N[i]? = some x) (hl : S.sc.names.lookup x = some .local) (hsw : swB S.sc scope x py.line pos.line = true) (h : kComp f fi ti T S elt gens scope c = true) : ∀ m, PS X (.Assign [.Name x py] (.ListComp elt gens scope pos) spos) (rdSt W p E (m + 1) (.asg (.nm i) c)) := fun m => by
  unfold kComp at h
  split at h
  · rename_i ce g it cond own
    split at h
    · rename_i tg iter ifs
      simp only [Bool.and_eq_true] at h
      obtain ⟨h1, h2, h3, h4, h5, h6, h7⟩ := h
      have key := ps_setLc (X := X) (i := i) (y := x) (py := py) (spos := spos) (elt := elt) (tg := tg) (iter := iter) (ifs := ifs) (scope := scope) (own := ownOf S.N own) (pos := pos) hX.calm (by rw [hX.nN]; exact hX.nd) (by rw [hX.nN]; exact hN) (by rw [hX.sc]; exact hl)
        (by rw [sw_lc, hX.sc, hsw]) (sn_i hT hX hf h4 (m - 1)) (by rw [hX.nN, hX.sc]; exact blkOk_by h2)
        (fun s H C cl fp => sn_g hX.blkX (hi _ hX.blkX) h5 (m - 1))
        (fun s H C cl fp => (show PTs _ ifs (rdC W p (m - 1) cond) by
          unfold ifB at h6
          split at h6
          · exact pts_nil
          · exact pts_one (hti _ hX.blkX _ _ h6 (m - 1))
          · exact nomatch h6))
        (fun s H C cl fp => hi _ hX.blkX _ _ h7 (m - 1)) (iter_plain h3)
      rw [own_snd] at key
      refine key.weak fun Z σ H h => ?_
      have h := asg_rd h
      cases m with
      | zero => exact (rd_0 h).elim
      | succ m => exact comp_rd (fun j hj => List.contains_iff_mem.mp (List.all_eq_true.mp h1 j hj)) (rd_mono h fun v H' q => gr_nm q)
    · exact nomatch h
  · exact nomatch h
theorem sn_subs (hf : Snd W p E X f) (m : Nat) : ∀ {es : List Expr} {gs : List (C × C)}, subsB f es gs = true → SubsOk X W p E m es gs
  | [], [], h => .nil
  | [], _ :: _, h => nomatch h
  | e :: _, [], h => by cases e <;> exact (Bool.false_ne_true h).elim
  | e :: es, (o, j) :: gs, h => by
    cases e <;> try (exact (Bool.false_ne_true h).elim)
    case Subscript a i pos =>
      have h : (plainIx i && (f a o && (f i j && subsB f es gs))) = true := h
      rw [Bool.and_eq_true, Bool.and_eq_true, Bool.and_eq_true] at h
      exact .cons h.1 (hf _ _ h.2.1 m) (hf _ _ h.2.2.1 m) (sn_subs hf m h.2.2.2)
theorem sn_gr (hX : XS W S k E X) (hf : Snd W p E X f) {tg : Expr} {g : G} (h : kGR f S tg g = true) (m : Nat) : PG X tg (rdGR W p E m g) := by
  have nd : X.N.Nodup := by rw [hX.nN]; exact hX.nd
  unfold kGR at h
  split at h
  · exact nomatch h
  · split at h
    · exact pg_tupR hX.K hX.calm nd (sn_nms hX h)
    · exact nomatch h
  · split at h
    · rw [Bool.and_eq_true, Bool.and_eq_true] at h
      exact pg_subR h.1 (hf _ _ h.2.1 m) (hf _ _ h.2.2 m)
    · exact nomatch h
  · split at h
    · exact pg_subsR hX.K hX.calm (sn_subs hf m h)
    · exact nomatch h
theorem sn_par (hX : XS W S k E X) (hf : Snd W p E X f) {ts vs : List Expr} {is : List Nat} {cs : List C} {k1 k2 : Nat} {p1 p2 pos : Pos} (h : kPar f S ts vs is cs = true) : ∀ m, PS X (.Assign [.Tuple ts k1 p1] (.Tuple vs k2 p2) pos) (rdSt W p E (m + 1) (.par is cs)) := fun m => by
  have nd : X.N.Nodup := by rw [hX.nN]; exact hX.nd
  unfold kPar at h
  split at h
  · simp only [Bool.and_eq_true] at h
    obtain ⟨h1, h2, h3, h4, h5, h6, h7⟩ := h
    exact ps_par2D hX.calm nd (by rw [hX.nN]; exact of_decide_eq_true h2) (by rw [hX.nN]; exact of_decide_eq_true h3) (of_decide_eq_true h1) (by rw [hX.sc]; exact of_decide_eq_true h4) (by rw [hX.sc]; exact of_decide_eq_true h5) (sw_eq (by rw [hX.sc]; exact of_decide_eq_true h6)) (sn_es hf m h7)
  · simp only [Bool.and_eq_true] at h
    obtain ⟨h1, h2, h3, h4, h5, h6, h7, h8, h9, h10, h11⟩ := h
    exact ps_par3D hX.calm nd (by rw [hX.nN]; exact of_decide_eq_true h4) (by rw [hX.nN]; exact of_decide_eq_true h5) (by rw [hX.nN]; exact of_decide_eq_true h6) (of_decide_eq_true h1) (of_decide_eq_true h2) (of_decide_eq_true h3) (by rw [hX.sc]; exact of_decide_eq_true h7) (by rw [hX.sc]; exact of_decide_eq_true h8) (by rw [hX.sc]; exact of_decide_eq_true h9) (sw_eq (by rw [hX.sc]; exact of_decide_eq_true h10)) (sn_es hf m h11)
  · exact nomatch h
theorem sn_asg (hT : TbOk W cn p k' T) (hX : XS W S k E X) {fi : Scope → FE} {ti : Scope → FT} (hf : Snd W p E X f) (hi : ∀ scope X', XS W (S.blkS scope) k NoX X' → Snd W p NoX X' (fi scope)) (hti : ∀ scope X', XS W (S.blkS scope) k NoX X' → SndT W p NoX X' (ti scope)) {tgs : List Expr} {e : Expr} {s : Pv.S} {pos : Pos} (h : kAsg fi ti f T S tgs e s = true) :
    ∀ m, PS X (.Assign tgs e pos) (rdSt W p E m s) := ps_any fun m => by
  have nd : X.N.Nodup := by rw [hX.nN]; exact hX.nd
  unfold kAsg at h
  split at h
  · split at h
    · split at h
      · rename_i c x py i
        rw [Bool.and_eq_true, Bool.and_eq_true] at h
        obtain ⟨h1, h2, h3⟩ := h
        obtain ⟨w1, w2⟩ := wrB_1 hX h2
        have h1 := of_decide_eq_true h1
        unfold kSet at h3
        split at h3
        · rename_i elt gens scope lp
          split at h3
          · rename_i hsw
            rw [Bool.and_eq_true] at h3
            exact sn_setLc hT hX hf (hi scope) (hti scope) h1 (of_decide_eq_true h3.1) hsw h3.2 m
          · rename_i hsw
            exact ps_setD nd (by rw [hX.nN]; exact h1) w1 w2 (by rw [sw_lc, hX.sc, hsw]) (hf _ _ h3 m)
        · rw [Bool.and_eq_true, Bool.not_eq_true'] at h3
          exact ps_setD nd (by rw [hX.nN]; exact h1) w1 w2 (swaps_no h3.1 _ _ _) (hf _ _ h3.2 m)
      · exact nomatch h
    · simp only [Bool.and_eq_true] at h
      obtain ⟨h1, h2, h3, h4, h5⟩ := h
      exact ps_asgD h2 h1 (swNo_1 (by rw [hX.sc]; exact h3)) (hf _ _ h4 m) (sn_gr hX hf h5 m)
    · exact nomatch h
  · split at h
    · exact sn_par hX hf h m
    · exact nomatch h
  · exact nomatch h
theorem sn_rais (hT : TbOk W cn p k' T) (hX : XT W S k E X) (hf : Snd W p E X f) {x : Str} {a : Expr} {c : Nat} {ce : Option C} {p1 p3 pos : Pos} (h : kRais f T S x a c ce = true) : ∀ m, PS X (.Raise (some (.Call (.Name x p1) [a] [] p3)) none pos) (rdSt W p E (m + 1) (.rais c ce)) := fun m => by
  unfold kRais at h
  rw [Bool.and_eq_true] at h
  obtain ⟨h1, h2⟩ := h
  obtain ⟨g1, g2⟩ := hX.gl h1
  split at h2
  · split at h2
    · exact ps_raisMD hX.toXOk.toXW hX.calm hX.tk (hT.msg _ _ (of_decide_eq_true h2)) g1 g2
    · exact nomatch h2
  · rw [Bool.and_eq_true, Bool.and_eq_true] at h2
    exact ps_raisPD hX.toXOk.toXW hX.calm hX.tk (hT.pay _ _ (of_decide_eq_true h2.1)) g1 g2 h2.2.1 (hf _ _ h2.2.2 m)
end
def isStrC : Expr → Bool
  | .Constant (.str _) _ _ => true
  | _ => false
def isNev : Pv.S → Bool
  | .nev => true
  | _ => false
def ckS (T : Tb) : Nat → Sd → Stmt → Pv.S → Bool
  | 0, _, _, s => isNev s
  | n + 1, S, st, s => isNev s || match st with
    | .Pass _ => (match s with | .pass => true | _ => false)
    | .Break _ => (match s with | .brk => true | _ => false)
    | .Continue _ => (match s with | .cont => true | _ => false)
    | .Expr e _ => (match s with
      | .pass => isStrC e
      | .exp c => !isComp e && ckE T n S e c
      | _ => false)
    | .Return none _ => (match s with | .retn => true | _ => false)
    | .Return (some e) _ => (match s with | .ret c => ckE T n S e c | _ => false)
    | .If t a b _ => (match s with
      | .cond ct ca cb => ckT T n S t ct && (ssB S (lamB (fun S' => ckE T n S') S) (ckS T n S) ca a && ssB S (lamB (fun S' => ckE T n S') S) (ckS T n S) cb b)
      | _ => false)
    | .Assign tgs e _ => kAsg (fun sc => ckE T n (S.blkS sc)) (fun sc => ckT T n (S.blkS sc)) (ckE T n S) T S tgs e s
    | .AugAssign (.Name x _) op e _ => (match s with
      | .aug i op' c => decide (op = op') && (decide (S.N[i]? = some x) && (wrB S x && ckE T n S e c))
      | _ => false)
    | .For tg iter body [] _ => (match s with
      | .loop g it b => notSet iter && (kI (ckE T n S) T S tg iter it && (kG (ckE T n S) S tg g && ssB S (lamB (fun S' => ckE T n S') S) (ckS T n S) b body))
      | _ => false)
    | .While t body [] _ => (match s with
      | .whl ct b => ckT T n S t ct && ssB S (lamB (fun S' => ckE T n S') S) (ckS T n S) b body
      | _ => false)
    | .Raise (some (.Call (.Name x _) [a] [] _)) none _ => (match s with
      | .rais c ce => kRais (ckE T n S) T S x a c ce
      | _ => false)
    | _ => false
theorem ps_nev {W : Wd} {p : Pr} {E : XK} {X : Cx} {st : Stmt} {s : Pv.S} (h : isNev s = true) : ∀ m, PS X st (rdSt W p E m s) := ps_any fun m => by
  cases s <;> try (exact (Bool.false_ne_true h).elim)
  exact ⟨fun pins s σ H Z I ⟨_, _, _, _, k⟩ => by unfold ex at k; exact k.elim⟩
theorem ckS_ok {W : Wd} {cn : Nat → Str} {p : Pr} {k k' : Nat} {T : Tb} {S : Sd} {E : XK} {X : Cx} (hT : TbOk W cn p k' T) (hsb : S.lam = true → ∀ n, SbIn W S (lamB (fun S' => ckE T n S') S)) (hl : S.lam = true → k' + 3 ≤ k ∧ SbOk W p k' X) (hk : k' ≤ k) (hX : XT W S k E X) : ∀ n, SndS W p E X (ckS T n S)
  | 0 => fun st s h => by
    unfold ckS at h
    exact ps_nev h
  | n + 1 => fun st s h => by
    have ih := ckS_ok hT hsb hl hk hX n
    have hf := (ck_ok hT n).1 S k E X hl hk hX.toXS
    have ht := (ck_ok hT n).2 S k E X hl hk hX.toXS
    have hi : ∀ scope X', XS W (S.blkS scope) k NoX X' → Snd W p NoX X' (ckE T n (S.blkS scope)) := fun scope X' hX' => (ck_ok hT n).1 _ k NoX X' (fun z => (Bool.false_ne_true z).elim) hk hX'
    have hti : ∀ scope X', XS W (S.blkS scope) k NoX X' → SndT W p NoX X' (ckT T n (S.blkS scope)) := fun scope X' hX' => (ck_ok hT n).2 _ k NoX X' (fun z => (Bool.false_ne_true z).elim) hk hX'
    refine ps_any fun m => ?_
    unfold ckS at h
    rw [Bool.or_eq_true] at h
    rcases h with h | h
    · exact ps_nev h (m + 1)
    split at h
    · split at h
      · exact ps_passD
      · exact nomatch h
    · split at h
      · exact ps_brkD
      · exact nomatch h
    · split at h
      · exact ps_contD
      · exact nomatch h
    · split at h
      · unfold isStrC at h
        split at h
        · exact ps_docD
        · exact nomatch h
      · rw [Bool.and_eq_true, Bool.not_eq_true'] at h
        exact ps_expD h.1 (hf _ _ h.2 m)
      · exact nomatch h
    · split at h
      · exact ps_retnD
      · exact nomatch h
    · split at h
      · exact ps_retD (hf _ _ h m)
      · exact nomatch h
    · split at h
      · rw [Bool.and_eq_true, Bool.and_eq_true] at h
        exact ps_condD (ht _ _ h.1 m) (sn_ss hX.toXS (fun z => hsb z n) ih m h.2.1) (sn_ss hX.toXS (fun z => hsb z n) ih m h.2.2)
      · exact nomatch h
    · exact sn_asg hT hX.toXS hf hi hti h (m + 1)
    · split at h
      · simp only [Bool.and_eq_true] at h
        obtain ⟨h1, h2, h3, h4⟩ := h
        have := of_decide_eq_true h1; subst this
        obtain ⟨w1, w2⟩ := wrB_1 hX.toXS h3
        exact ps_augD (by rw [hX.nN]; exact hX.nd) (by rw [hX.nN]; exact of_decide_eq_true h2) w1 w2 (hf _ _ h4 m)
      · exact nomatch h
    · split at h
      · simp only [Bool.and_eq_true] at h
        obtain ⟨h1, h2, h3, h4⟩ := h
        exact ps_loopD hX.po hX.calm h1 (sn_i hT hX.toXS hf h2 m) (sn_g hX.toXS hf h3 m) (sn_ss hX.toXS (fun z => hsb z n) ih m h4)
      · exact nomatch h
    · split at h
      · rw [Bool.and_eq_true] at h
        exact ps_whlD hX.po (ht _ _ h.1 m) (sn_ss hX.toXS (fun z => hsb z n) ih m h.2)
      · exact nomatch h
    · split at h
      · exact sn_rais hT hX hf h m
      · exact nomatch h
    · exact nomatch h
/-! ### generators -/
def gsB (g : Stmt → Gs → Bool) : List Stmt → List Gs → Bool
  | [], [] => true
  | st :: r, s :: q => g st s && gsB g r q
  | _, _ => false
def ckG (T : Tb) : Nat → Sd → Stmt → Gs → Bool
  | 0, _, _, _ => false
  | n + 1, S, st, g => match g with
    | .nev => true
    | .pl s => ckS T n S st s
    | .yld c => (match st with
      | .Expr (.Yield (some e) _) _ => ckE T n S e c
      | _ => false)
    | .cond t a b => (match st with
      | .If t' a' b' _ => ckT T n S t' t && (gsB (ckG T n S) a' a && gsB (ckG T n S) b' b)
      | _ => false)
    | .whl t b => (match st with
      | .While t' b' [] _ => ckT T n S t' t && gsB (ckG T n S) b' b
      | _ => false)
def SndG (W : Wd) (p : Pr) (E : XK) (X : Cx) (g : Stmt → Gs → Bool) : Prop := ∀ st s, g st s = true → ∀ m, GS X st (rdGn W p E m s)
theorem sn_gss {W : Wd} {p : Pr} {E : XK} {X : Cx} {g : Stmt → Gs → Bool} (hg : SndG W p E X g) (m : Nat) : ∀ {st : List Stmt} {s : List Gs}, gsB g st s = true → GSs X st (rdGns W p E m s)
  | [], [], h => gss_nilD
  | [], _ :: _, h => nomatch h
  | _ :: _, [], h => nomatch h
  | st :: r, s :: q, h => by
    have h : (g st s && gsB g r q) = true := h
    rw [Bool.and_eq_true] at h
    exact gss_consD (hg _ _ h.1 m) (sn_gss hg m h.2)
theorem gs_any {W : Wd} {p : Pr} {E : XK} {X : Cx} {st : Stmt} {s : Gs} (h : ∀ m, GS X st (rdGn W p E (m + 1) s)) : ∀ m, GS X st (rdGn W p E m s)
  | 0 => gs_zero
  | m + 1 => h m
theorem ckG_ok {W : Wd} {cn : Nat → Str} {p : Pr} {k k' : Nat} {T : Tb} {S : Sd} {E : XK} {X : Cx} (hT : TbOk W cn p k' T) (hsb : S.lam = true → ∀ n, SbIn W S (lamB (fun S' => ckE T n S') S)) (hl : S.lam = true → k' + 3 ≤ k ∧ SbOk W p k' X) (hk : k' ≤ k) (hX : XT W S k E X) (hco : X.env.scope.isCoroutine = false) (hi : interactive X.env = false) : ∀ n, SndG W p E X (ckG T n S)
  | 0 => fun st s h => by (unfold ckG at h; exact nomatch h)
  | n + 1 => fun st s h => by
    have ih := ckG_ok hT hsb hl hk hX hco hi n
    have hs := ckS_ok hT hsb hl hk hX n
    have hf := (ck_ok hT n).1 S k E X hl hk hX.toXS
    have ht := (ck_ok hT n).2 S k E X hl hk hX.toXS
    refine gs_any fun m => ?_
    unfold ckG at h
    split at h
    · exact gs_nev
    · exact gs_plD (hs _ _ h m)
    · split at h
      · exact gs_yldD (hf _ _ h m) hco hi
      · exact nomatch h
    · split at h
      · rw [Bool.and_eq_true, Bool.and_eq_true] at h
        exact gs_condD (ht _ _ h.1 m) (sn_gss ih m h.2.1) (sn_gss ih m h.2.2)
      · exact nomatch h
    · split at h
      · rw [Bool.and_eq_true] at h
        exact gs_whlD hX.po (ht _ _ h.1 m) (sn_gss ih m h.2)
      · exact nomatch h
end Pv
end PvU_
section PvV_
set_option maxRecDepth 100000
/-! PvV: the defs of a program keep their promises, level by level. -/
namespace Pv
open PySem PySem.Spec PyProof.Rows L2
/-- the check of a def's body -/
def bodyB (T : Tb) (n : Nat) (S : Sd) (b : List Pv.S) (body : List Stmt) : Bool := ssB S (lamB (fun S' => ckE T n S') S) (ckS T n S) b body
/-- which body stands for which lambda of a def -/
def sbOf (T : Tb) (S : Sd) : Scope → Expr → C → Prop := fun scope body c => ∃ n, LamX.lamSB S.sc scope = true ∧ ckE T n (S.lamS scope) body c = true
/-- the names that what follows in a list catcher may use -/
def restT (T : Tb) : Tb := { fns := [], cats := [], msgs := [], pays := [], cons := T.cons, bl := T.bl, fvs := [], gcds := T.gcds, gens := [], lcs := [] }
/-- what stands of the def f (g: it wants no guards about; lm: it makes lambdas) -/
structure FnRec (W : Wd) (P : Prg) (T : Tb) (x : Str) (f : Nat) (g : Bool) : Prop where
  ex : ∃ (a : Addr) (fn : Fn) (name qual : Str) (params : Arguments) (body : List Stmt) (scope : Scope) (dV kV doc pm cdv ct oc : Value) (an od : Option Addr) (osl : Array (Option Value)) (N ps : List Str) (lm : Bool) (n : Nat),
    W.mg x = some (.ref a) ∧ PySem.W.keepIn W.K (.ref a) = true ∧ P.fns[f]? = some fn ∧ W.K.lookup a = some ⟨oc, od, .func (PySem.W.fnOf name qual params body scope dV kV doc pm an cdv ct), osl⟩ ∧ PySem.W.codeIn W.K cdv qual = true ∧
    L2.Binds W.K (PySem.W.fnOf name qual params body scope dV kV doc pm an cdv ct) ps [] ∧ FnScope N ps scope ∧ N.length = fn.slots ∧ ps.length = fn.args ∧ fn.args ≤ fn.slots ∧
    (lm = true → ∃ c Pa : Addr, cdv = .ref c ∧ LamX.TabB W.base W.mg c Pa ∧ (Pa, (envOfC qual scope 0 a cdv).qual ++ "<lambda>") ∈ W.T ∧ ∀ q ∈ W.T, q.1 = Pa → q.2 = (envOfC qual scope 0 a cdv).qual ++ "<lambda>") ∧
    bodyB T n ⟨N, scope, scope, g, lm⟩ fn.body body = true
/-- what stands of a def that calls the lambdas it got -/
structure LcRec (W : Wd) (cn : Nat → Str) (P : Prg) (T : Tb) (x : Str) (f g : Nat) : Prop where
  ex : ∃ (a : Addr) (params : Arguments) (rest : List Stmt) (scope scope2 : Scope) (dV kV doc pm cdv ct oc : Value) (an od : Option Addr) (osl : Array (Option Value)) (N : List Str) (pc pd m y xg : Str) (iy n : Nat) (pm1 plc spos pe pg py py2 pcp : Pos) (ctc : Cat) (fn : Fn),
    W.mg x = some (.ref a) ∧ PySem.W.keepIn W.K (.ref a) = true ∧ W.K.lookup a = some ⟨oc, od, .func (PySem.W.fnOf x x params (.Assign [.Name m pm1] (.ListComp (.Call (.Name xg pg) [.Name y py] [] pe) [⟨.Name y py2, .Name pc pcp, [], 0⟩] scope2 plc) spos :: rest) scope dV kV doc pm an cdv ct), osl⟩ ∧
    PySem.W.codeIn W.K cdv x = true ∧ L2.Binds W.K (PySem.W.fnOf x x params (.Assign [.Name m pm1] (.ListComp (.Call (.Name xg pg) [.Name y py] [] pe) [⟨.Name y py2, .Name pc pcp, [], 0⟩] scope2 plc) spos :: rest) scope dV kV doc pm an cdv ct) [pc, pd] [] ∧ FnScope N [pc, pd] scope ∧
    (N[0]? = some pc ∧ N[2]? = some m ∧ N[iy]? = some y ∧ 2 < iy) ∧ scope.names.lookup m = some .local ∧ (pm1.line == plc.line) = true ∧ (scope2.names.any fun (n, k) => n == m && (k == .local || k == .cell)) = false ∧ BlkOk N scope scope2 [(y, iy)] ∧
    (relS scope2 scope).names.lookup y = some .local ∧ (relS scope2 scope).names.lookup xg = some .globalImplicit ∧ ((pc == ("__debug__" : Str)) = false ∧ (pc == ("__classdict__" : Str)) = false) ∧ ((y == ("__debug__" : Str)) = false ∧ (y == ("__classdict__" : Str)) = false) ∧ CatAt W cn xg ctc ∧ P.cats[g]? = some ctc ∧
    P.fns[f]? = none ∧ P.gens[f - P.fns.length]? = none ∧ P.lcs[f - P.fns.length - P.gens.length]? = some fn ∧ fn.slots = N.length ∧ bodyB (restT T) n ⟨N, scope, scope, true, false⟩ fn.body rest = true
/-- what stands of the generator def f -/
structure GnRec (W : Wd) (P : Prg) (T : Tb) (x : Str) (f : Nat) : Prop where
  ex : ∃ (a : Addr) (gn : Gn) (name qual : Str) (params : Arguments) (body : List Stmt) (scope : Scope) (dV kV doc pm cdv ct oc : Value) (an od : Option Addr) (osl : Array (Option Value)) (N ps : List Str) (n : Nat),
    W.mg x = some (.ref a) ∧ PySem.W.keepIn W.K (.ref a) = true ∧ P.fns[f]? = none ∧ P.gens[f - P.fns.length]? = some gn ∧ W.K.lookup a = some ⟨oc, od, .func (PySem.W.fnOf name qual params body scope dV kV doc pm an cdv ct), osl⟩ ∧ PySem.W.codeIn W.K cdv qual = true ∧
    L2.Binds W.K (PySem.W.fnOf name qual params body scope dV kV doc pm an cdv ct) ps [] ∧ GScope N ps scope ∧ N.length = gn.slots ∧ ps.length = gn.args ∧ gn.args ≤ gn.slots ∧
    gsB (ckG T n ⟨N, scope, scope, false, false⟩) body gn.body = true
/-- the names of a program, by its table -/
structure TbRec (W : Wd) (cn : Nat → Str) (P : Prg) (T : Tb) : Prop where
  fn : ∀ x f gf, T.fns.lookup x = some (f, gf) → FnRec W P T x f gf
  cat : ∀ x g, T.cats.lookup x = some g → ∃ ct, P.cats[g]? = some ct ∧ CatAt W cn x ct
  msg : ∀ x c, T.msgs.lookup x = some c → ExMsg W c x
  pay : ∀ x c, T.pays.lookup x = some c → ExPay W c x
  con : ∀ x d, T.cons.lookup x = some d → ∃ v u, W.mg x = some u ∧ L2.RelV v u ∧ ∀ F, Rep W F v d
  bl : ∀ x, x ∈ T.bl → W.mg x = none
  CF : ClF W cn
  fv : ∀ x, x ∈ T.fvs → ∃ f a, T.fns.lookup x = some (f, false) ∧ W.mg x = some (.ref a) ∧ W.fnA f = some a
  fa : ∀ f a, W.fnA f = some a → ∃ x, T.fns.lookup x = some (f, false) ∧ W.mg x = some (.ref a)
  gcd : ∀ x, x ∈ T.gcds → W.mg x = some (.builtin "math.gcd")
  gn : ∀ x f, T.gens.lookup x = some f → GnRec W P T x f ∧ NoSt W
  lc : ∀ x f g, T.lcs.lookup x = some (f, g) → LcRec W cn P T x f g
section
variable {W : Wd} {cn : Nat → Str} {P : Prg} {T : Tb}
theorem TbRec.at0 (R : TbRec W cn P T) {l k : Nat} (h : ∀ x f gf, T.fns.lookup x = some (f, gf) → ∃ a, W.mg x = some (.ref a) ∧ FnAt W (P.pr (P.cal l)) k gf f a) (h2 : ∀ x f, T.gens.lookup x = some f → ∃ a kg, W.mg x = some (.ref a) ∧ kg + 3 ≤ k ∧ GnAt W (P.pr (P.cal l)) kg f a ∧ NoSt W) (h3 : ∀ x f g, T.lcs.lookup x = some (f, g) → LcAt W cn (P.pr (P.cal l)) k f g x) : TbOk W cn (P.pr (P.cal l)) k T where
  fn := h
  cat := fun x g e => by
    obtain ⟨ct, e1, h1⟩ := R.cat x g e
    have : (P.pr (P.cal l)).cat g = ct := by
      show (P.cats[g]?).getD _ = ct
      rw [e1]; rfl
    rw [this]; exact h1
  msg := R.msg
  pay := R.pay
  con := R.con
  bl := R.bl
  CF := R.CF
  fv := R.fv
  fa := fun _ => R.fa
  gcd := R.gcd
  gn := h2
  lc := h3
theorem sp_zero {f : Nat} {vs : List V} {H : Hp} {Q : VK} {E : XK} (h : spOf W (P.pr (P.cal 0)) f vs H Q E) : False := by
  obtain ⟨F, as, _, h⟩ := h
  exact h
theorem spG_zero {f : Nat} {vs : List V} {H : Hp} {Q : List V → Hp → Prop} {E : XK} (h : spGn W (P.pr (P.cal 0)) f vs H Q E) : False := by
  obtain ⟨F, as, _, h⟩ := h
  exact h
theorem gn_out {f l : Nat} {gn : Gn} (hf : P.fns[f]? = none) (hg : P.gens[f - P.fns.length]? = some gn) : ∀ as, (P.pr (P.cal l)).cal f as = .bad ∨ (∃ acc out, (P.pr (P.cal l)).cal f as = .ret (.own (.lst acc)) out) ∨ ∃ c d out, (P.pr (P.cal l)).cal f as = .exc c d out := fun as => by
  cases l with
  | zero => exact .inl rfl
  | succ l =>
    rw [cal_gen hf hg]
    unfold runG
    by_cases c : as.length = gn.args
    · rw [if_pos c]
      generalize genL (exG (P.pr (P.cal l)) fuel) gn.body (as.map arS ++ List.replicate (gn.slots - gn.args) .emp) [] = r
      obtain ⟨x, acc⟩ := r
      cases x with
      | nx ρ => exact .inr (.inl ⟨_, _, rfl⟩)
      | exc cc d ρ => exact .inr (.inr ⟨_, _, _, rfl⟩)
      | _ => exact .inl rfl
    · exact .inl (if_neg c)
theorem TbRec.rest (R : TbRec W cn P T) {G : Heap} {c : Frm} {p : Pr} {k : Nat} : TbOk (W.up G c) cn p k (restT T) where
  fn := fun x f gf h => nomatch h
  cat := fun x g h => nomatch h
  msg := fun x c h => nomatch h
  pay := fun x c h => nomatch h
  con := fun x d h => by
    obtain ⟨v, u, h1, h2, h3⟩ := R.con x d h
    exact ⟨v, u, h1, h2, fun F => by rw [rep_up]; exact h3 F⟩
  bl := R.bl
  CF := ⟨R.CF.exm, R.CF.mg, R.CF.fx⟩
  fv := fun x h => absurd h (by simp [restT])
  fa := fun h => nomatch h
  gcd := R.gcd
  gn := fun x f h => nomatch h
  lc := fun x f g h => nomatch h
theorem sbIn_of {S : Sd} {X : Cx} {W0 : Wd} (n : Nat) : SbIn (W0.at (frOf X (sbOf T S))) S (lamB (fun S' => ckE T n S') S) := fun e c h => by
  unfold lamB at h
  split at h
  · rename_i params body scope pos
    rw [Bool.and_eq_true, Bool.and_eq_true] at h
    have := noPar_1 h.1; subst this
    exact ⟨scope, body, pos, rfl, LamX.lamS_by h.2.1, n, h.2.1, h.2.2⟩
  · exact nomatch h
theorem sbOk_of {S : Sd} {k k' : Nat} {E : XK} {X : Cx} {p : Pr} {W0 : Wd} (hT : TbOk (W0.at (frOf X (sbOf T S))) cn p k' T) (hX : XS (W0.at (frOf X (sbOf T S))) S k E X) : SbOk (W0.at (frOf X (sbOf T S))) p k' X := fun scope body cb ⟨n, h1, h2⟩ => by
  have L := LamX.lamS_by h1
  refine ⟨by rw [hX.sc]; exact L, fun A outer s H E' f c' hr m => ?_⟩
  exact (ck_ok hT n).1 (S.lamS scope) k' E' _ (fun z => (Bool.false_ne_true z).elim) (Nat.le_refl _) (hX.lamX L hr) _ _ h2 m
theorem cal_lc {f l : Nat} {fn : Fn} (h1 : P.fns[f]? = none) (h2 : P.gens[f - P.fns.length]? = none) (h3 : P.lcs[f - P.fns.length - P.gens.length]? = some fn) (as : List Ar) : (P.pr (P.cal (l + 1))).cal f as = runL (P.pr (P.cal l)) fuel fn as := by
  show P.cal (l + 1) f as = _
  unfold Prg.cal
  rw [h1]
  show genC P.gens P.lcs _ _ as = _
  unfold genC
  rw [h2]
  show lcC P.lcs _ _ as = _
  unfold lcC
  rw [h3]
theorem LcRec.at (R : TbRec W cn P T) {x : Str} {f g l k : Nat} (h : LcRec W cn P T x f g) : LcAt W cn (P.pr (P.cal l)) k f g x := by
  obtain ⟨a, params, rest, scope, scope2, dV, kV, doc, pm, cdv, ct, oc, an, od, osl, N, pc, pd, m, y, xg, iy, n, pm1, plc, spos, pe, pg, py, py2, pcp, ctc, fn, h1, h2, h3, h4, h5, h6, h7, h8, h9, h10, h11, h12, h13, h14, h15, h16, h17, h18, h19, h20, h21, h22⟩ := h.ex
  refine ⟨a, params, rest, scope, scope2, dV, kV, doc, pm, cdv, ct, oc, an, od, osl, N, pc, pd, m, y, xg, iy, pm1, plc, spos, pe, pg, py, py2, pcp, ctc, h1, h2, h3, h4, h5, h6, h7, h8, h9, h10, h11, h12, h13, h14, h15, h16, ?_, ?_⟩
  · show (P.cats[g]?).getD _ = ctc
    rw [h17]; rfl
  · cases l with
    | zero => exact .inl fun as => rfl
    | succ l =>
      refine .inr ⟨P.pr (P.cal l), fuel, fn, cal_lc h18 h19 h20, h21, fun G X sb xo xb => ?_⟩
      have hXT : XT (W.up G (frOf X sb)) ⟨N, scope, scope, true, false⟩ k NoX X := { toXOk := xo, ps := xb.ps, la := fun z => (Bool.false_ne_true z).elim, tk := xb.tk, po := xb.po }
      exact sn_ss hXT.toXS (fun z => (Bool.false_ne_true z).elim) (ckS_ok (k' := 0) R.rest (fun z => (Bool.false_ne_true z).elim) (fun z => (Bool.false_ne_true z).elim) (Nat.zero_le _) hXT n) fuel h22
/-- all defs, at every level -/
theorem TbRec.all (R : ∀ cl, TbRec (W.at cl) cn P T) : ∀ l cl, TbOk (W.at cl) cn (P.pr (P.cal l)) (4 * l + 3) T
  | 0, cl => (R cl).at0 (fun x f gf e => by
      obtain ⟨a, fn, name, qual, params, body, scope, dV, kV, doc, pm, cdv, ct, oc, an, od, osl, N, ps, lm, n, h1, h2, h3, h4, h5, h6, h7, h8, h9, h10, h11, h12⟩ := ((R cl).fn x f gf e).ex
      exact ⟨a, h1, h2, _, ps, ⟨fun vs H Q E h => (sp_zero h).elim, fun A outer s H args us vs Q E _ _ _ _ _ h => (sp_zero h).elim⟩, h6⟩)
    (fun x f e => by
      obtain ⟨⟨a, gn, name, qual, params, body, scope, dV, kV, doc, pm, cdv, ct, oc, an, od, osl, N, ps, n, h1, h2, h3, h3', h4, h5, h6, h7, h8, h9, h10, h12⟩, hn⟩ := ((R cl).gn x f e).imp GnRec.ex id
      exact ⟨a, 0, h1, by omega, ⟨h2, ⟨_, ps, ⟨fun vs H Q E h => (spG_zero h).elim, fun A outer s H args us vs Q E _ _ _ _ h => (spG_zero h).elim⟩, h6⟩, gn_out h3 h3'⟩, hn⟩)
    fun x f g e => LcRec.at (R cl) ((R cl).lc x f g e)
  | l + 1, cl => by
    have ih := TbRec.all R l
    refine (R cl).at0 (fun x f gf e => ?_) (fun x f e => ?_) fun x f g e => LcRec.at (R cl) ((R cl).lc x f g e)
    · obtain ⟨a, fn, name, qual, params, body, scope, dV, kV, doc, pm, cdv, ct, oc, an, od, osl, N, ps, lm, n, h1, h2, h3, h4, h5, h6, h7, h8, h9, h10, h11, h12⟩ := ((R cl).fn x f gf e).ex
      refine ⟨a, h1, h2, _, ps, fn_G (k := 4 * l + 6) (sb := sbOf T ⟨N, scope, scope, gf, lm⟩) h3 h4 h5 h7 h8 h9 h10 fun X E hX hB hfn hq hc => ?_, h6⟩
      have hXT : XT (W.at (frOf X (sbOf T ⟨N, scope, scope, gf, lm⟩))) ⟨N, scope, scope, gf, lm⟩ (4 * l + 6) E X :=
        { toXOk := { prog := hX.prog, w := hX.w, K := hX.K, mg := hX.mg, base := hX.base, room := hX.room, gd := hX.gd, nN := hX.nN, sc := hX.sc, nd := hX.nd, calm := hX.calm, fn := hX.fn }, ps := hB.ps, la := fun z => by
            obtain ⟨c, Pa, t1, t2, t3, t4⟩ := h11 z
            exact ⟨⟨c, Pa, by rw [hX.base, hX.mg]; exact t2, by rw [hc]; exact t1, by rw [hq]; exact t3, by rw [hq]; exact t4⟩, hfn, rfl, rfl⟩
          tk := hB.tk, po := hB.po }
      exact sn_ss hXT.toXS (fun _ => sbIn_of n) (ckS_ok (ih _) (fun _ n => sbIn_of n) (fun _ => ⟨by omega, sbOk_of (ih _) hXT.toXS⟩) (by omega) hXT n) fuel h12
    · obtain ⟨⟨a, gn, name, qual, params, body, scope, dV, kV, doc, pm, cdv, ct, oc, an, od, osl, N, ps, n, h1, h2, h3, h3', h4, h5, h6, h7, h8, h9, h10, h12⟩, hn⟩ := ((R cl).gn x f e).imp GnRec.ex id
      refine ⟨a, 4 * l + 4, h1, by omega, ⟨h2, ⟨_, ps, gen_G (k := 4 * l + 3) (sb := fun _ _ _ => False) h3 h3' h4 h5 h7 h8 h9 h10 fun X E hX hB hi => ?_, h6⟩, gn_out h3 h3'⟩, hn⟩
      have hXT : XT (W.at (frOf X fun _ _ _ => False)) ⟨N, scope, scope, false, false⟩ (4 * l + 3) E X :=
        { toXOk := { prog := hX.prog, w := hX.w, K := hX.K, mg := hX.mg, base := hX.base, room := hX.room, gd := hX.gd, nN := hX.nN, sc := hX.sc, nd := hX.nd, calm := hX.calm, fn := hX.fn }, ps := hB.ps, la := fun z => (Bool.false_ne_true z).elim, tk := hB.tk, po := hB.po }
      exact sn_gss (ckG_ok (ih _) (fun z => (Bool.false_ne_true z).elim) (fun z => (Bool.false_ne_true z).elim) (by omega) hXT (by rw [hX.sc]; exact h7.co) hi n) fuel h12
end
end Pv
end PvV_
section PvEnd_
set_option maxRecDepth 100000
/-! PvEnd: the law's call, from the promise of its def. -/
namespace Pv
open PySem PySem.Spec PyProof.Rows L2
/-- what is tracked at the law's call: the empty tables, the script -/
def capH (tabs : List Addr) (a : Addr) (sc : Bool) (x : HO) : Hp := fun b => match tabs.contains b with
  | true => some (.tbl #[])
  | false => match sc && (b == a) with
    | true => some x
    | false => none
section
variable {tabs : List Addr} {a b : Addr} {sc : Bool} {x : HO}
theorem cap_tab (h : b ∈ tabs) : capH tabs a sc x b = some (.tbl #[]) := by
  unfold capH
  rw [List.contains_iff_mem.mpr h]
theorem cap_cases (tabs : List Addr) (a : Addr) (sc : Bool) (x : HO) (b : Addr) : (b ∈ tabs ∧ capH tabs a sc x b = some (.tbl #[])) ∨ (b ∉ tabs ∧ sc = true ∧ b = a ∧ capH tabs a sc x b = some x) ∨ (b ∉ tabs ∧ (sc = true → b ≠ a) ∧ capH tabs a sc x b = none) := by
  cases h : tabs.contains b with
  | true => exact .inl ⟨List.contains_iff_mem.mp h, cap_tab (List.contains_iff_mem.mp h)⟩
  | false =>
    have hb : b ∉ tabs := fun z => Bool.false_ne_true (h.symm.trans (List.contains_iff_mem.mpr z))
    cases h2 : sc && (b == a) with
    | true =>
      rw [Bool.and_eq_true] at h2
      refine .inr (.inl ⟨hb, h2.1, beq_iff_eq.mp h2.2, ?_⟩)
      unfold capH; rw [h, Bool.and_eq_true_iff.mpr h2]
    | false =>
      refine .inr (.inr ⟨hb, fun s z => ?_, ?_⟩)
      · rw [s, z, beq_self_eq_true] at h2; exact nomatch h2
      · unfold capH; rw [h, h2]
end
def TabO : Obj := { cls := .none, data := .fields #[] }
def ScrO (vs : List Value) : Obj := { cls := .type "list", data := .seq vs.toArray }
/-- the caller's call of the law: from its def's promise, what is known of the heap, and the evaluator's answer -/
theorem law_callG {prog : Program} {w : World} {K : PySem.W.Frag} {mg mb : Str → Option Value} {fnA clA : Nat → Option Addr} {fld : Nat → Str} {T : List (Addr × Str)} {P : Prg} {k l i : Nat} {gf : Bool} {fa a : Addr} {cs : List (Addr × Addr)} {s : Shared} {vs : List Value} {ns : List Int}
    (hK : K.In s.heap) (hG : s.heap.Ns mainGlobals mg) (hB : s.heap.Ns builtinsNs mb) (hBB : ∀ x : Str, x ≠ "__name__" → mb x = bootBuiltins x) (hL : s.heap.NoLimit) (hg : s.gens = #[])
    (hT : ∀ p ∈ cs, s.heap.get? p.2 = some TabO) (hN : ∀ p ∈ cs, K.lookup p.2 = none) (hC : ∀ p ∈ cs, PySem.W.CodeHd s.heap p.1 p.2)
    (hM : ∃ (bm : Addr) (ob : Obj), mg "__builtins__" = some (.ref bm) ∧ bm ≠ builtinsNs ∧ s.heap.get? bm = some ob ∧ ob.cls = .type "module" ∧ ob.dict = some builtinsNs ∧ ob.data = .plain)
    (ha : s.heap.get? a = some (ScrO vs)) (hi : IntsAre vs ns) (hl : ns.length ≤ sizeLine) (hr : Room k callerA) (hTT : ∀ q ∈ T, ∃ p ∈ cs, p.2 = q.1)
    (hF : ∀ base : Heap, K.In base → base.Ns mainGlobals mg → (∀ p ∈ cs, LamX.TabB base mg p.1 p.2) → FnAt ⟨prog, w, K, mg, base, fnA, clA, fld, T, frm0⟩ (P.pr (P.cal l)) k gf i fa)
    (hE : ∃ out, P.cal l i [.dat (.scr ns)] = .ret (.dat (.bl true)) out) :
    codeAny (model prog w) callerA (.call (.ref fa) ⟨[.ref a], []⟩) (fun r s' => r = .ok (.ret (.bool true)) ∧ OldK s.heap s'.heap ∧ s'.os = s.os ∧ AllBare s'.gens) s := by
  have rv := vals_ints hi
  have tabAt : ∀ {b : Addr}, b ∈ cs.map (·.2) → s.heap.get? b = some TabO := fun {b} hb => by
    obtain ⟨p, hp, rfl⟩ := List.mem_map.mp hb
    exact hT p hp
  have tabK : ∀ {b : Addr}, b ∈ cs.map (·.2) → K.lookup b = none := fun {b} hb => by
    obtain ⟨p, hp, rfl⟩ := List.mem_map.mp hb
    exact hN p hp
  have aT : a ∉ cs.map (·.2) := fun z => by
    have q := tabAt z
    rw [ha] at q
    have q := congrArg Obj.data (Option.some.inj q)
    exact nomatch (show Data.seq vs.toArray _ = Data.fields #[] from q)
  let x : HO := .frz (ScrO vs) (.lst (ns.map V.int))
  let sc : Bool := (K.lookup a).isNone
  let H : Hp := capH (cs.map (·.2)) a sc x
  have cc := cap_cases (cs.map (·.2)) a sc x
  have hok : HOk prog w H s.heap := fun b o e => by
    rcases cc b with ⟨h1, h2⟩ | ⟨h1, h2, h3, h4⟩ | ⟨h1, h2, h3⟩
    · have e := h2.symm.trans e
      injection e with e; subst e
      exact tabAt h1
    · have e := h4.symm.trans e
      injection e with e; subst e; subst h3
      exact ⟨ha, by rw [List.length_map]; exact hl, vs, _, rv, ha⟩
    · exact nomatch h3.symm.trans e
  -- what is neither a table nor the script is not tracked
  have free : ∀ {b : Addr} {o : Obj}, s.heap.get? b = some o → o ≠ TabO → o ≠ ScrO vs → H b = none := fun {b o} e n1 n2 => by
    rcases cc b with ⟨h1, h2⟩ | ⟨h1, h2, h3, h4⟩ | ⟨h1, h2, h3⟩
    · exact absurd (Option.some.inj (e.symm.trans (tabAt h1))) n1
    · subst h3
      exact absurd (Option.some.inj (e.symm.trans ha)) n2
    · exact h3
  have freeD : ∀ {b : Addr} {o : Obj}, s.heap.get? b = some o → (∀ z, o.data ≠ .fields z) ∨ (∃ z, o.data = .fields z ∧ z ≠ #[]) → (∀ z m, o.data ≠ .seq z m) → (hidT s.heap H).get? b = some o := fun {b o} e n1 n2 => by
    refine hidT_get e (free e (fun z => ?_) fun z => ?_)
    · subst z
      rcases n1 with n | ⟨y, n, n3⟩
      · exact n #[] rfl
      · have n : Data.fields #[] = Data.fields y := n
        injection n with n
        exact n3 n.symm
    · subst z
      exact n2 _ _ rfl
  have nsB : ∀ {b : Addr} {m : Str → Option Value}, s.heap.Ns b m → (hidT s.heap H).Ns b m := fun {b m} ⟨o, es, ep, e, d, r⟩ => ⟨o, es, ep, freeD e (.inl fun z q => nomatch d.symm.trans q) (fun z m q => nomatch d.symm.trans q), d, r⟩
  have hKb : K.In (hidT s.heap H) := fun b o e => by
    refine hidT_get (hK b o e) ?_
    rcases cc b with ⟨h1, h2⟩ | ⟨h1, h2, h3, h4⟩ | ⟨h1, h2, h3⟩
    · exact nomatch (tabK h1).symm.trans e
    · subst h3
      have h2 : (K.lookup b).isNone = true := h2
      rw [e] at h2
      exact nomatch h2
    · exact h3
  have hMod : L2.Mod K mg (hidT s.heap H) := ⟨hKb, nsB hG, ⟨mb, nsB hB, hBB⟩, let ⟨mc, h1, h2⟩ := hL; ⟨mc, nsB h1, h2⟩⟩
  have TB : ∀ p ∈ cs, LamX.TabB (hidT s.heap H) mg p.1 p.2 := fun p hp => by
    have hTp := hT p hp
    refine ⟨?_, ?_, fun z => ?_⟩
    · obtain ⟨o, us, file, tf, flags, tg, inF, text, tt, e1, r1, r2, r3, r⟩ := hC p hp
      refine ⟨o, us, file, tf, flags, tg, inF, text, tt, freeD e1 (.inr ⟨us, r2, fun z => ?_⟩) (fun z m q => nomatch r2.symm.trans q), r1, r2, r3, r⟩
      subst z
      simp at r3
    · obtain ⟨bm, ob, b1, b2, b3, b4, b5, b6⟩ := hM
      have nG : bm ≠ mainGlobals := fun q => by
        obtain ⟨o, es, ep, e, hd, _⟩ := hG
        subst q
        rw [b3] at e
        injection e with e; subst e
        exact nomatch b6.symm.trans hd
      have nP : bm ≠ p.2 := fun q => by
        subst q
        rw [hTp] at b3
        injection b3 with b3; subst b3
        exact nomatch b6
      exact ⟨bm, ob, b1, b2, nG, nP, freeD b3 (.inl fun z q => nomatch b6.symm.trans q) (fun z m q => nomatch b6.symm.trans q), b4, b5, b6⟩
    · obtain ⟨o, es, ep, e, hd, _⟩ := hG
      rw [z, hTp] at e
      injection e with e; subst e
      exact nomatch hd
  have e0 : Env0 prog w K mg (hidT s.heap H) callerA [] s H := ⟨rfl, hMod, fun b o e => of_hidT e, Nat.le_of_eq (hidT_size _ _), trivial, fun b hb => absurd (show b ∈ ([] : List Addr) from hb) (List.not_mem_nil), hok, .of_eq hg⟩
  obtain ⟨fd, ps, G, bd⟩ := (hF _ hKb (nsB hG) TB).fn
  -- the promise's premises
  let F0 : Hp := fun b => if b ∈ cs.map (·.2) then none else H b
  have tbs : LamX.Tabs T H := fun q hq => by
    obtain ⟨p, hp, ep⟩ := hTT q hq
    exact ⟨#[], by rw [← ep]; exact cap_tab (List.mem_map.mpr ⟨p, hp, rfl⟩), trivial, fun pos cv e => nomatch e⟩
  have sql : SqL K F0 a (ns.map V.int) := by
    cases e : K.lookup a with
    | some o =>
      have e1 := hK a o e
      rw [ha] at e1
      injection e1 with e1; subst e1
      exact .inr ⟨_, vs.toArray, _, e, rfl, rfl, rfl, by rw [List.size_toArray, hi.length]; exact hl, by simpa using rv⟩
    | none =>
      have hs : sc = true := by show (K.lookup a).isNone = true; rw [e]; rfl
      rcases cc a with ⟨h1, h2⟩ | ⟨h1, h2, h3, h4⟩ | ⟨h1, h2, h3⟩
      · exact absurd h1 aT
      · exact .inl (.inr ⟨ScrO vs, (if_neg aT).trans h4⟩)
      · exact absurd rfl (h2 hs)
  have cok : CallOk ⟨prog, w, K, mg, hidT s.heap H, fnA, clA, fld, T, frm0⟩ F0 H [.ref a] [.dat (.scr ns)] := by
    refine ⟨rfl, fun b o e => ?_, tbs, fun j y v e1 e2 => ?_, fun i j l d l' d' p e1 e2 _ _ => ?_⟩
    · by_cases hb : b ∈ cs.map (·.2)
      · exact nomatch (if_pos hb).symm.trans e
      · have e : H b = some o := (if_neg hb).symm.trans e
        refine ⟨e, ?_⟩
        rcases cc b with ⟨h1, h2⟩ | ⟨h1, h2, h3, h4⟩ | ⟨h1, h2, h3⟩
        · exact absurd h1 hb
        · have e := h4.symm.trans e
          injection e with e; subst e
          exact ⟨fun ps z => (nomatch (show HO.frz (ScrO vs) (.lst (ns.map V.int)) = HO.tbl ps from z)), fun φ z => nomatch (show HO.frz (ScrO vs) (.lst (ns.map V.int)) = HO.ext φ from z)⟩
        · exact nomatch h3.symm.trans e
    · cases j with
      | zero =>
        injection e1 with e1; subst e1
        injection e2 with e2; subst e2
        show Rep ⟨prog, w, K, mg, hidT s.heap H, fnA, clA, fld, T, frm0⟩ F0 (.ref a) (.scr ns)
        unfold Rep
        exact ⟨a, rfl, sql⟩
      | succ j => exact nomatch e1
    · cases i with
      | zero => injection e1 with e1; exact nomatch e1
      | succ i => exact nomatch e1
  obtain ⟨out, hE⟩ := hE
  have spL : spOf ⟨prog, w, K, mg, hidT s.heap H, fnA, clA, fld, T, frm0⟩ (P.pr (P.cal l)) i [.ref a] H (fun v _ => v = .bl true) (fun _ _ _ => False) := by
    refine ⟨F0, _, cok, ?_⟩
    show EndOk _ _ _ _ _ _ _ (P.cal l i [.dat (.scr ns)])
    rw [hE]
    intro F' H' v _ hv
    have hv : Rep ⟨prog, w, K, mg, hidT s.heap H, fnA, clA, fld, T, frm0⟩ F' v (.bl true) := hv
    unfold Rep at hv
    exact hv
  have lp : ps.length = 1 := (G.len _ _ _ _ spL).symm
  obtain ⟨px, hpx⟩ : ∃ px, ps = [px] := by
    match ps, lp with
    | [px], _ => exact ⟨px, rfl⟩
  subst hpx
  refine codeAny_mono (G.run callerA [] s H ⟨[.ref a], []⟩ [.ref a] [.ref a] _ _ hr (fun _ => rfl) e0 (bd s [.ref a] hK rfl) (.cons rfl .nil) spL) fun r s' h => ?_
  cases r with
  | error e =>
    obtain ⟨_, _, _, _, _, _, _, _, _, _, _, _, q⟩ := h
    exact q.elim
  | ok fl =>
    cases fl with
    | next => exact False.elim h
    | brk => exact False.elim h
    | cont => exact False.elim h
    | ret u =>
      obtain ⟨v, H', os, bare, un, hok', r', q⟩ := h
      have q : v = .bl true := q
      subst q
      obtain rfl : u = Value.bool true := r'
      have same : ∀ b o, b ∉ cs.map (·.2) → s.heap.get? b = some o → s'.heap.get? b = some o := fun b o nb e => by
        rcases cc b with ⟨h1, h2⟩ | ⟨h1, h2, h3, h4⟩ | ⟨h1, h2, h3⟩
        · exact absurd h1 nb
        · have e2 := hok' b _ (un.frzs b _ _ h4)
          have e1 := hok b _ h4
          obtain ⟨e1, _⟩ := e1
          obtain ⟨e2, _⟩ := e2
          rw [e] at e1
          injection e1 with e1; subst e1
          exact e2
        · exact un.keep b o e h3 (fun z => absurd (show b ∈ ([] : List Addr) from z) List.not_mem_nil) List.not_mem_nil
      have tabbed : ∀ {b : Addr}, b ∈ cs.map (·.2) → ∃ more : Array Value, s'.heap.get? b = some { cls := .none, data := .fields (#[] ++ more) } := fun {b} hb => by
        obtain ⟨more, z⟩ := un.tbls b #[] (cap_tab hb)
        exact ⟨more, hok' b _ z⟩
      refine ⟨rfl, ⟨fun b o e => ?_, fun b o e => ?_⟩, os, bare⟩
      · by_cases hb : b ∈ cs.map (·.2)
        · obtain ⟨more, hm⟩ := tabbed hb
          rw [tabAt hb] at e
          injection e with e; subst e
          obtain ⟨p, hp, ep⟩ := List.mem_map.mp hb
          refine .inr (.inl ⟨?_, rfl, #[], more, rfl, hm⟩)
          rw [← ep]
          exact ((hC p hp).tab (hT p hp)).isCodeTable
        · exact .inl (same b o hb e)
      · by_cases hb : b ∈ cs.map (·.2)
        · obtain ⟨more, hm⟩ := tabbed hb
          exact ⟨_, hm⟩
        · exact ⟨o, same b o hb e⟩
end Pv
end PvEnd_
section PvHook_
set_option maxRecDepth 100000
/-! PvHook: what the head tells of a program's names: defs, catchers, exceptions, tables. -/
namespace Pv
open PySem PySem.Spec PyProof.Rows L2 He
/-! ### the Hook -/
def asY (g : Addr → Option Obj) (n : Nat) : List Addr := PySem.cStatics :: asD g n
structure SaysY (fa : List Fa) (fn : List DefD) (tf : List Defn) (ex : PySem.W.Frag → Bool) (h : Heap) (K : PySem.W.Frag) : Prop where
  d : SaysD fa fn K
  more : ex K = true
  hd : ∀ p ∈ tf, PySem.W.codeHdIn K (cT K p).1 (cT K p).2 = true
  out : ∀ p ∈ tf, K.lookup (cT K p).2 = none
  empty : ∀ p ∈ tf, h.get? (cT K p).2 = some TabO
abbrev AlY : Type := AlD × Bool
def obsY (n : Nat) (fa : List Fa) (fn : List DefD) (tf : List Defn) (ex : PySem.W.Frag → Bool) (g : Addr → Option Obj) : AlY := (obsD fa fn (frT g (asY g n)), ex (frT g (asY g n)) && tabsB g tf (frT g (asY g n)))
def valY (fn : List DefD) : AlY := (valD fn, true)
theorem saysY_of {n : Nat} {fa : List Fa} {fn : List DefD} {tf : List Defn} {ex : PySem.W.Frag → Bool} {h : Heap} (e : obsY n fa fn tf ex h.get? = valY fn) : SaysY fa fn tf ex h (frT h.get? (asY h.get? n)) := by
  obtain ⟨h1, h2⟩ := ba (congrArg (fun z : AlY => z.2) e)
  have tb : ∀ p ∈ tf, PySem.W.codeHdIn (frT h.get? (asY h.get? n)) (cT (frT h.get? (asY h.get? n)) p).1 (cT (frT h.get? (asY h.get? n)) p).2 = true ∧ ∃ o, h.get? (cT (frT h.get? (asY h.get? n)) p).2 = some o ∧ emptyTab o = true := fun p hp => by
    have z := List.all_eq_true.mp h2 p hp
    rw [Bool.and_eq_true] at z
    refine ⟨z.1, ?_⟩
    have z2 := z.2
    split at z2
    · rename_i o q
      exact ⟨o, q, z2⟩
    · exact nomatch z2
  refine ⟨congrArg (fun z : AlY => z.1) e, h1, fun p hp => (tb p hp).1, fun p hp => ?_, fun p hp => ?_⟩
  · obtain ⟨_, o, q, z⟩ := tb p hp
    exact frT_none q z
  · obtain ⟨_, o, q, z⟩ := tb p hp
    rw [q, emptyTab_eq z]; rfl
def hookY (n : Nat) (fa : List Fa) (fn : List DefD) (tf : List Defn) (ex : PySem.W.Frag → Bool) : PySem.W.Hook where
  α := AlY
  obs := fun s => obsY n fa fn tf ex s.heap.get?
  val := fun _ => valY fn
  says := fun _ h => ∃ K : PySem.W.Frag, K.In h ∧ SaysY fa fn tf ex h K
  of := fun _ _ e => ⟨_, frT_in, saysY_of e⟩
  keeps := fun _ _ _ ⟨K, hK, c⟩ k => ⟨K, PySem.W.Frag.In.keeps hK k, ⟨c.d, c.more, c.hd, c.out, fun p hp => k _ _ (c.empty p hp)⟩⟩
theorem obsY_eq {n : Nat} {fa : List Fa} {fn : List DefD} {tf : List Defn} {ex : PySem.W.Frag → Bool} {g : Addr → Option Obj} {s : Shared} (h : ∀ a, g a = s.heap.get? a) : obsY n fa fn tf ex g = (hookY n fa fn tf ex).obs s := by
  have e : g = s.heap.get? := funext h
  rw [e] <;> rfl
/-! ### exceptions -/
structure XB where
  B : String
  newId : String
  initId : String
  bm : List Value
structure XBOk (b : XB) : Prop where
  FB : ExcBaseFacts b.B b.newId b.initId b.bm
  SF : StoreFacts b.B b.bm "object.__setattr__" "object"
  KF : PySem.W.KxsFacts b.B b.initId
/-- an own exception of a base; fld: what its __init__ keeps -/
structure XSp where
  name : Str
  b : XB
  fld : Option Str
def fldOf (x : XSp) : Str := x.fld.getD "given"
def msgB (K : PySem.W.Frag) (b : XB) (C : Addr) : Bool := PySem.W.keepIn K (.ref C) && (decide (PySem.W.subIn K (.ref C) (.type "BaseException") = some true) && (decide (PySem.W.typeIn K (.ref C) = some (.type "type")) && PySem.W.excIn K C b.bm b.newId))
/-- such an __init__ -/
def iniB (fld : Str) (fd : FuncData) : Bool := match fd.body, fd.params, fd.closure, fd.defaults with
  | .stmts [.Expr (.Call (.Attribute (.Call (.Name s p1) [] [] p2) i p3) [.Constant (.str msg) j p4] [] p5) p6, .Assign [.Attribute (.Name sn p7) f p8] (.Name gn p9) p10], ⟨[], [a1, a2], none, [], [], none, []⟩, [(y, cc)], .none =>
    decide (fd.name = "__init__") && decide (s = "super") && decide (i = "__init__") && decide (f = fld) && decide (a1.arg = sn) && decide (a2.arg = gn) && (decide (sn = "self") && (decide (gn = "given") || (decide (gn = "limit") || (decide (gn = "name") || (decide (gn = "reason") || (decide (gn = "spot") || decide (gn = "times"))))))) && decide (y = "__class__") && decide (fd.globals = mainGlobals) && decide (fd.builtins = builtinsNs) &&
      decide (fd.scope.kind = .function) && !fd.scope.isCoroutine && !fd.scope.isGenerator && fd.scope.names.all (fun q => !decide (q.2 = .cell)) && decide (fd.scope.names.lookup sn = some .local) && decide (fd.scope.names.lookup gn = some .local) &&
      decide (fd.scope.names.lookup ("super" : Str) = some .globalImplicit) && decide (fd.scope.names.lookup ("__class__" : Str) = some .free) && !decide (sn = gn) && !(sn == ("__debug__" : Str)) && !(gn == ("__debug__" : Str)) && (p3.endLine == p5.line)
  | _, _, _, _ => false
def cellB (K : PySem.W.Frag) (C cc : Addr) : Bool := match K.lookup cc with
  | some ⟨_, _, .cell (some (.ref C')), _⟩ => decide (C' = C)
  | _ => false
def fileB (K : PySem.W.Frag) (file : Str) (c : Addr) : Bool := match K.lookup c with
  | some ⟨_, _, .fields vs, _⟩ => (match vs[2]? with
    | some (Value.str f _) => (file == f)
    | _ => false)
  | _ => false
def payB (K : PySem.W.Frag) (file : Str) (b : XB) (fld : Str) (C : Addr) : Bool := match PySem.W.findIn K (.ref C) "__init__" with
  | some (some (.ref fI)) => (match K.lookup fI with
    | some ⟨_, _, .func fd, _⟩ => (match fd.code, fd.closure with
      | .ref cda, [(_, cc)] => iniB fld fd && PySem.W.codeIn K (.ref cda) fd.qualname && fileB K file cda && cellB K C cc && PySem.W.isFn K (.ref fI) && PySem.W.keepIn K (.ref C) && PySem.W.excInitIn K C b.bm b.newId && eqO (PySem.W.nsIn K PySem.cStatics "thirdparty.any") (some none) &&
          eqO (PySem.W.ks_superIn K C C "__init__") (some (some (.builtin b.initId))) && decide (PySem.W.subIn K (.ref C) (.type b.B) = some true) && decide (PySem.W.mroIn K C (.ref C) = some true) && eqO (PySem.W.findIn K (.ref C) "__setattr__") (some (some (.builtin "object.__setattr__"))) && PySem.W.excOver K C b.bm &&
          eqO (PySem.W.takerIn K C fld) (some none) && PySem.W.hasDictIn K C && decide (PySem.W.subIn K (.ref C) (.type "BaseException") = some true) && decide (PySem.W.typeIn K (.ref C) = some (.type "type"))
      | _, _ => false)
    | _ => false)
  | _ => false
def xsB (K : PySem.W.Frag) (file : Str) (x : XSp) : Bool := (match x.fld with
  | none => msgB K x.b (ga K x.name)
  | some f => payB K file x.b f (ga K x.name)) && (eqO (PySem.W.nsIn K mainGlobals x.name) (some (some (.ref (ga K x.name)))) && (xfB K (ga K x.name) && eqO (PySem.W.findIn K (.ref (ga K x.name)) (fldOf x)) (some none)))
/-- which clause takes which -/
def exmB (K : PySem.W.Frag) (xs : List XSp) : Bool := xs.all fun x => xs.all fun y => decide (PySem.W.exmOne K (.ref (ga K y.name)) (.ref (ga K x.name)) = some (decide (x.name = y.name)))
def exB (file : Str) (xs : List XSp) (more : PySem.W.Frag → Bool) (K : PySem.W.Frag) : Bool := xs.all (xsB K file) && (exmB K xs && more K)
/-! ### the world of a program -/
/-- the names of its exceptions, by number -/
def clN (xs : List XSp) (c : Nat) : Str := match xs[c]? with
  | some x => x.name
  | none => Str.empty
def tabT (K : PySem.W.Frag) (ts : List (Defn × Str)) : List (Addr × Str) := ts.map fun t => ((cT K t.1).2, t.2)
def wdOf (prog : Program) (w : World) (K : PySem.W.Frag) (mg : Str → Option Value) (base : Heap) (xs : List XSp) (ts : List (Defn × Str)) (fv : List (Nat × Str)) (cl : Frm) : Wd :=
  ⟨prog, w, K, mg, base, fun f => (fv.lookup f).map (ga K), fun c => (xs[c]?).map fun x => ga K x.name, fun c => match xs[c]? with | some x => fldOf x | none => Str.empty, tabT K ts, cl⟩
end Pv
end PvHook_
section PvTb_
set_option maxRecDepth 100000
/-! PvTb: from what the head tells to the table of a program's names. -/
namespace Pv
open PySem PySem.Spec PyProof.Rows L2 He
theorem mg_ga {K : PySem.W.Frag} {h : Heap} {mg : Str → Option Value} {x : Str} (X : K.In h) (G : h.Ns mainGlobals mg) (e : eqO (PySem.W.nsIn K mainGlobals x) (some (some (.ref (ga K x)))) = true) : mg x = some (.ref (ga K x)) := PySem.W.mg_of X G (eqO_ok e)
section
variable {cl : Frm} {prog : Program} {w : World} {K : PySem.W.Frag} {mg : Str → Option Value} {base h : Heap} {xs : List XSp} {ts : List (Defn × Str)} {fv : List (Nat × Str)} {file : Str}
theorem clA_at {c : Nat} {x : XSp} (h : xs[c]? = some x) : (wdOf prog w K mg base xs ts fv cl).clA c = some (ga K x.name) := by
  show (xs[c]?).map _ = _
  rw [h]; rfl
theorem fld_at {c : Nat} {x : XSp} (h : xs[c]? = some x) : (wdOf prog w K mg base xs ts fv cl).fld c = fldOf x := by
  show (match xs[c]? with | some x => fldOf x | none => Str.empty) = _
  rw [h]
theorem clN_at {c : Nat} {x : XSp} (h : xs[c]? = some x) : clN xs c = x.name := by
  unfold clN
  rw [h]
theorem xs_mem {x : XSp} {c : Nat} (e : xs.all (xsB K file) = true) (h : xs[c]? = some x) : xsB K file x = true := List.all_eq_true.mp e x (List.mem_of_getElem? h)
theorem xs_mg {x : XSp} (X : K.In h) (G : h.Ns mainGlobals mg) (e : xsB K file x = true) : mg x.name = some (.ref (ga K x.name)) := by
  unfold xsB at e
  rw [Bool.and_eq_true, Bool.and_eq_true] at e
  exact mg_ga X G e.2.1
theorem msg_of {x : XSp} {c : Nat} (X : K.In h) (G : h.Ns mainGlobals mg) (e : xsB K file x = true) (hc : xs[c]? = some x) (hn : x.fld = none) (ok : XBOk x.b) : ExMsg (wdOf prog w K mg base xs ts fv cl) c x.name := by
  have hm := xs_mg X G e
  unfold xsB at e
  rw [Bool.and_eq_true, hn] at e
  have e1 : msgB K x.b (ga K x.name) = true := e.1
  unfold msgB at e1
  rw [Bool.and_eq_true, Bool.and_eq_true, Bool.and_eq_true] at e1
  exact ⟨ga K x.name, x.b.B, x.b.newId, x.b.initId, x.b.bm, clA_at hc, hm, e1.1, of_decide_eq_true e1.2.1, of_decide_eq_true e1.2.2.1, ok.FB, e1.2.2.2⟩
theorem clf_of (X : K.In h) (G : h.Ns mainGlobals mg) (e : xs.all (xsB K file) = true) (ee : exmB K xs = true) (nd : (xs.map (·.name)).Nodup) : ClF (wdOf prog w K mg base xs ts fv cl) (clN xs) := by
  have at_ : ∀ {c : Nat} {C : Addr}, (wdOf prog w K mg base xs ts fv cl).clA c = some C → ∃ x, xs[c]? = some x ∧ C = ga K x.name := fun {c C} hc => by
    have hc : (xs[c]?).map (fun x => ga K x.name) = some C := hc
    obtain ⟨x, h1, h2⟩ := Option.map_eq_some_iff.mp hc
    exact ⟨x, h1, h2.symm⟩
  refine ⟨fun c C c' C' hc hc' => ?_, fun c C hc => ?_, fun c C hc => ?_⟩
  · obtain ⟨x, h1, rfl⟩ := at_ hc
    obtain ⟨y, h2, rfl⟩ := at_ hc'
    have z := List.all_eq_true.mp (List.all_eq_true.mp ee x (List.mem_of_getElem? h1)) y (List.mem_of_getElem? h2)
    rw [show (wdOf prog w K mg base xs ts fv cl).K = K from rfl, of_decide_eq_true z]
    congr 1
    by_cases q : c = c'
    · subst q
      rw [h1] at h2; injection h2 with h2; subst h2
      rw [decide_eq_true rfl, beq_self_eq_true]
    · rw [beq_eq_false_iff_ne.mpr q, decide_eq_false]
      intro en
      refine q ?_
      have l1 : c < (xs.map (·.name)).length := by rw [List.length_map]; exact (List.getElem?_eq_some_iff.mp h1).1
      have g1 : (xs.map (·.name))[c]? = some x.name := by rw [List.getElem?_map, h1]; rfl
      have g2 : (xs.map (·.name))[c']? = some x.name := by rw [List.getElem?_map, h2, en]; rfl
      exact (List.getElem?_inj l1 nd).mp (g1.trans g2.symm)
  · obtain ⟨x, h1, rfl⟩ := at_ hc
    rw [clN_at h1]
    exact xs_mg X G (xs_mem e h1)
  · obtain ⟨x, h1, rfl⟩ := at_ hc
    have z := xs_mem e h1
    unfold xsB at z
    rw [Bool.and_eq_true, Bool.and_eq_true, Bool.and_eq_true] at z
    exact ⟨xfB_ok z.2.2.1, by rw [fld_at h1]; exact eqO_ok z.2.2.2⟩
theorem cell_of {C cc : Addr} (e : cellB K C cc = true) : ∃ (cl : Value) (cd : Option Addr) (csl : Array (Option Value)), K.lookup cc = some ⟨cl, cd, .cell (some (.ref C)), csl⟩ := by
  unfold cellB at e
  split at e
  · rename_i cl cd C' csl q
    have := of_decide_eq_true e; subst this
    exact ⟨cl, cd, csl, q⟩
  · exact nomatch e
theorem file_of {c : Addr} (e : fileB K file c = true) : ∃ (cl : Value) (cd : Option Addr) (vs : Array Value) (csl : Array (Option Value)) (f : Str) (tf : Tok), K.lookup c = some ⟨cl, cd, .fields vs, csl⟩ ∧ vs[2]? = some (.str f tf) ∧ (file == f) = true := by
  unfold fileB at e
  split at e
  · rename_i cl cd vs csl q
    split at e
    · rename_i f tf q2
      exact ⟨cl, cd, vs, csl, f, tf, q, q2, e⟩
    · exact nomatch e
  · exact nomatch e
theorem pay_of {x : XSp} {c : Nat} {f : Str} (X : K.In h) (G : h.Ns mainGlobals mg) (e : xsB K prog.main.file x = true) (hc : xs[c]? = some x) (hn : x.fld = some f) (ok : XBOk x.b) (hs : mg "super" = none) (ht : (prog.main.scope.names.lookup ("super" : Str)).isSome = false) : ExPay (wdOf prog w K mg base xs ts fv cl) c x.name := by
  have hm := xs_mg X G e
  have hf : fldOf x = f := by unfold fldOf; rw [hn]; rfl
  unfold xsB at e
  rw [Bool.and_eq_true, hn] at e
  have e1 : payB K prog.main.file x.b f (ga K x.name) = true := e.1
  unfold payB at e1
  split at e1
  · rename_i fI q1
    split at e1
    · rename_i oc od fd osl q2
      split at e1
      · rename_i cda y cc qc ql
        simp only [Bool.and_eq_true] at e1
        obtain ⟨⟨⟨⟨⟨⟨⟨⟨⟨⟨⟨⟨⟨⟨⟨⟨a1, a2⟩, a3⟩, a4⟩, a5⟩, a6⟩, a7⟩, a8⟩, a9⟩, a10⟩, a11⟩, a12⟩, a13⟩, a14⟩, a15⟩, a16⟩, a17⟩ := e1
        refine ⟨⟨ga K x.name, fI, cda, cc, x.b.B, x.b.initId, x.b.newId, x.b.bm, clA_at hc, hm, ?_⟩, hs⟩
        rw [fld_at hc, hf]
        refine ⟨ok.FB, ok.SF, ok.KF, a7, q1, a5, a6, ?_, ?_, ht, cell_of a4, eqO_ok a8, eqO_ok a9, of_decide_eq_true a10, of_decide_eq_true a11, eqO_ok a12, a13, eqO_ok a14, a15, of_decide_eq_true a16, of_decide_eq_true a17⟩
        · obtain ⟨n1, n2, n3, n4, n5, n6, n7, n8, n9, n10, n11, n12, n13, n14, n15⟩ := fd
          have qc : n13 = .ref cda := qc
          have ql : n7 = [(y, cc)] := ql
          subst qc ql
          unfold iniB at a1
          split at a1
          · rename_i s p1 p2 i p3 msg j p4 p5 p6 sn p7 f' p8 gn p9 p10 a1' a2' y' cc' z1 z2 z3 z4
            have z1 : n4 = _ := z1
            have z2 : n3 = _ := z2
            have z3 : [(y, cc)] = [(y', cc')] := z3
            have z4 : n8 = .none := z4
            subst z1 z2 z4
            injection z3 with z3 _
            injection z3 with z3 z5
            subst z3 z5
            simp only [Bool.and_eq_true, Bool.not_eq_true', decide_eq_true_eq, decide_eq_false_iff_not] at a1
            obtain ⟨⟨⟨⟨⟨⟨⟨⟨⟨⟨⟨⟨⟨⟨⟨⟨⟨⟨⟨⟨⟨b1, b2⟩, b3⟩, b4⟩, b5⟩, b6⟩, b0⟩, b7⟩, b8⟩, b9⟩, b10⟩, b11⟩, b12⟩, b13⟩, b14⟩, b15⟩, b16⟩, b17⟩, b18⟩, b19⟩, b20⟩, b21⟩ := a1
            subst b1 b2 b3 b4 b7 b8 b9
            refine ⟨oc, od, osl, n2, sn, gn, msg, _, n5, .none, n9, n10, n11, n14, n12, j, p1, p2, p3, p4, p5, p6, p7, p8, p9, p10, a1', q2, a2, fun a b => ?_, b10, b11, b12, fun q hq => ?_, b14, b15, b16, b17, rfl, b5, b18, b19, b20, b21⟩
            · obtain ⟨c1, c2⟩ := b0
              subst c1
              obtain ⟨n1, an1, ps1⟩ := a1'
              obtain ⟨n2, an2, ps2⟩ := a2'
              have b5 : n1 = _ := b5
              have b6 : n2 = _ := b6
              simp only [Bool.or_eq_true, decide_eq_true_eq] at c2
              rcases c2 with c2 | c2 | c2 | c2 | c2 | c2 <;> (subst c2; subst b5 b6; rfl)
            · have z := List.all_eq_true.mp b13 q hq
              rw [Bool.not_eq_true'] at z
              exact of_decide_eq_false z
          · exact nomatch a1
        · exact file_of a3
      · exact nomatch e1
    · exact nomatch e1
  · exact nomatch e1
end
end Pv
namespace Pv
open PySem PySem.Spec PyProof.Rows L2 He
/-- tables of two names are two -/
def tabU (K : PySem.W.Frag) (ts : List (Defn × Str)) : Bool := ts.all fun a => ts.all fun b => !decide ((cT K a.1).2 = (cT K b.1).2) || decide (a.2 = b.2)
def lamQ (qual : Str) (scope : Scope) : Str := (envOfC qual scope 0 0 .none).qual ++ "<lambda>"
section
variable {cl : Frm} {prog : Program} {w : World} {K : PySem.W.Frag} {mg : Str → Option Value} {base h : Heap} {xs : List XSp} {ts : List (Defn × Str)} {fv : List (Nat × Str)} {file : Str} {fa : List Fa} {fns : List DefD} {tf : List Defn} {ex : PySem.W.Frag → Bool}
theorem fnRec_of {P : Prg} {T : Tb} {x : Str} {f n : Nat} {g lm : Bool} {d : DefD} {N ps : List Str} {fn : Fn} (X : K.In h) (G : h.Ns mainGlobals mg) (c : SaysD fa fns K) (hd : d ∈ fns) (hx : d.at_ = (x, none)) (hf : d.dfl = []) (hk : d.kwd = []) (hg : Fa.glo x ∈ fa) (hfn : P.fns[f]? = some fn)
    (hsc : FnScope N ps d.scope) (hN : N.length = fn.slots) (hps : ps.length = fn.args) (hle : fn.args ≤ fn.slots)
    (hb : ∀ (kV doc pm : Value) (an : Option Addr) (cdv ct : Value) (us : List Value), us.length = ps.length → bindArgs (PySem.W.fnOf d.name d.qual d.params d.body d.scope .none kV doc pm an cdv ct) ⟨us, []⟩ = pure (ps.zip us))
    (hl : lm = true → (d.at_, lamQ d.qual d.scope) ∈ ts) (TB : ∀ t ∈ ts, LamX.TabB base mg (cT K t.1).1 (cT K t.1).2) (hu : tabU K ts = true)
    (hck : bodyB T n ⟨N, d.scope, d.scope, g, lm⟩ fn.body d.body = true) : FnRec (wdOf prog w K mg base xs ts fv cl) P T x f g := by
  obtain ⟨fd, F⟩ := c.defs hd
  have e1 : d.dvs K = [] := by unfold DefD.dvs; rw [hf]; rfl
  have e2 : d.kws K = [] := by unfold DefD.kws; rw [hk]; rfl
  rw [e1, e2] at F
  have ea : fAd K d.at_ = ga K x := by rw [hx]; rfl
  have bd : Binds K fd ps [] := F.bindsN hb
  obtain ⟨oc, od, dV, kV, doc, pm, an, cdv, ct, osl, rfl, lk, hcd, _, _⟩ := F.ex
  have lk0 := lk
  rw [ea] at lk
  have kp := F.kp
  rw [ea] at kp
  refine ⟨ga K x, fn, d.name, d.qual, d.params, d.body, d.scope, dV, kV, doc, pm, cdv, ct, oc, an, od, osl, N, ps, lm, n, glo_ok X G (c.facts hg), kp, hfn, lk, hcd, bd, hsc, hN, hps, hle, fun hlm => ?_, hck⟩
  obtain ⟨cc, rfl⟩ := codeIn_ref hcd
  have ec : codeOf K d.at_ = cc := codeOf_eq lk0 rfl
  have hm := hl hlm
  have tb := TB _ hm
  have e3 : (cT K d.at_).1 = cc := ec
  rw [e3] at tb
  refine ⟨cc, (cT K d.at_).2, rfl, tb, List.mem_map.mpr ⟨_, hm, rfl⟩, fun q hq eq => ?_⟩
  obtain ⟨t, ht, rfl⟩ := List.mem_map.mp hq
  have z := List.all_eq_true.mp (List.all_eq_true.mp hu t ht) _ hm
  have eq : (cT K t.1).2 = (cT K d.at_).2 := eq
  rw [decide_eq_true eq] at z
  exact of_decide_eq_true z
theorem gnRec_of {P : Prg} {T : Tb} {x : Str} {f n : Nat} {d : DefD} {N ps : List Str} {gn : Gn} (X : K.In h) (G : h.Ns mainGlobals mg) (c : SaysD fa fns K) (hd : d ∈ fns) (hx : d.at_ = (x, none)) (hf : d.dfl = []) (hk : d.kwd = []) (hg : Fa.glo x ∈ fa) (hfn : P.fns[f]? = none) (hgn : P.gens[f - P.fns.length]? = some gn)
    (hsc : GScope N ps d.scope) (hN : N.length = gn.slots) (hps : ps.length = gn.args) (hle : gn.args ≤ gn.slots)
    (hb : ∀ (kV doc pm : Value) (an : Option Addr) (cdv ct : Value) (us : List Value), us.length = ps.length → bindArgs (PySem.W.fnOf d.name d.qual d.params d.body d.scope .none kV doc pm an cdv ct) ⟨us, []⟩ = pure (ps.zip us))
    (hck : gsB (ckG T n ⟨N, d.scope, d.scope, false, false⟩) d.body gn.body = true) : GnRec (wdOf prog w K mg base xs ts fv cl) P T x f := by
  obtain ⟨fd, F⟩ := c.defs hd
  have e1 : d.dvs K = [] := by unfold DefD.dvs; rw [hf]; rfl
  have e2 : d.kws K = [] := by unfold DefD.kws; rw [hk]; rfl
  rw [e1, e2] at F
  have ea : fAd K d.at_ = ga K x := by rw [hx]; rfl
  have bd : Binds K fd ps [] := F.bindsN hb
  obtain ⟨oc, od, dV, kV, doc, pm, an, cdv, ct, osl, rfl, lk, hcd, _, _⟩ := F.ex
  rw [ea] at lk
  have kp := F.kp
  rw [ea] at kp
  exact ⟨ga K x, gn, d.name, d.qual, d.params, d.body, d.scope, dV, kV, doc, pm, cdv, ct, oc, an, od, osl, N, ps, n, glo_ok X G (c.facts hg), kp, hfn, hgn, lk, hcd, bd, hsc, hN, hps, hle, hck⟩
/-- the shape of a def that calls the lambdas it got -/
def lcB (T : Tb) (n : Nat) (N : List Str) (sc : Scope) (pc xg : Str) (iy : Nat) (b : List Pv.S) : List Stmt → Bool
  | .Assign [.Name m pm1] (.ListComp (.Call (.Name xg' _) [.Name y _] [] _) [⟨.Name y' _, .Name pc' _, [], 0⟩] scope2 plc) _ :: rest =>
    decide (xg' = xg) && (decide (y' = y) && (decide (pc' = pc) && (decide (N[0]? = some pc) && (decide (N[2]? = some m) && (decide (N[iy]? = some y) && (decide (2 < iy) && (decide (sc.names.lookup m = some .local) && ((pm1.line == plc.line) && (!(scope2.names.any fun (n, k) => n == m && (k == .local || k == .cell)) && (blkC N sc scope2 [(y, iy)] &&
      (decide ((relS scope2 sc).names.lookup y = some .local) && (decide ((relS scope2 sc).names.lookup xg = some .globalImplicit) && (nodb pc && (nodb y && bodyB (restT T) n ⟨N, sc, sc, true, false⟩ b rest))))))))))))))
  | _ => false
theorem lcRec_of {P : Prg} {T : Tb} {x pc pd xg : Str} {f g n iy : Nat} {d : DefD} {N : List Str} {fn : Fn} {ctc : Cat} (X : K.In h) (G : h.Ns mainGlobals mg) (c : SaysD fa fns K) (hd : d ∈ fns) (hx : d.at_ = (x, none)) (hnm : d.name = x) (hq : d.qual = x) (hf : d.dfl = []) (hk : d.kwd = []) (hg : Fa.glo x ∈ fa)
    (h1 : P.fns[f]? = none) (h2 : P.gens[f - P.fns.length]? = none) (h3 : P.lcs[f - P.fns.length - P.gens.length]? = some fn) (hsc : FnScope N [pc, pd] d.scope) (hN : fn.slots = N.length)
    (hb : ∀ (kV doc pm : Value) (an : Option Addr) (cdv ct : Value) (us : List Value), us.length = 2 → bindArgs (PySem.W.fnOf d.name d.qual d.params d.body d.scope .none kV doc pm an cdv ct) ⟨us, []⟩ = pure ([pc, pd].zip us))
    (hct : P.cats[g]? = some ctc) (CA : CatAt (wdOf prog w K mg base xs ts fv cl) (clN xs) xg ctc) (hl : lcB T n N d.scope pc xg iy fn.body d.body = true) : LcRec (wdOf prog w K mg base xs ts fv cl) (clN xs) P T x f g := by
  obtain ⟨fd, F⟩ := c.defs hd
  have e1 : d.dvs K = [] := by unfold DefD.dvs; rw [hf]; rfl
  have e2 : d.kws K = [] := by unfold DefD.kws; rw [hk]; rfl
  rw [e1, e2] at F
  have ea : fAd K d.at_ = ga K x := by rw [hx]; rfl
  have bd : Binds K fd [pc, pd] [] := F.bindsN hb
  obtain ⟨oc, od, dV, kV, doc, pm, an, cdv, ct, osl, rfl, lk, hcd, _, _⟩ := F.ex
  rw [ea] at lk
  have kp := F.kp
  rw [ea] at kp
  rw [hnm, hq] at lk bd
  rw [hq] at hcd
  unfold lcB at hl
  split at hl
  · rename_i m pm1 xg' pg y py pe y' py2 pc' pcp scope2 plc spos rest eb
    simp only [Bool.and_eq_true, Bool.not_eq_true'] at hl
    obtain ⟨a1, a2, a3, a4, a5, a6, a7, a8, a9, a10, a11, a12, a13, a14, a15, a16⟩ := hl
    have := of_decide_eq_true a1; subst this
    have := of_decide_eq_true a2; subst this
    have := of_decide_eq_true a3; subst this
    rw [eb] at lk bd
    exact ⟨ga K x, d.params, rest, d.scope, scope2, dV, kV, doc, pm, cdv, ct, oc, an, od, osl, N, _, pd, m, _, _, iy, n, pm1, plc, spos, pe, pg, py, py2, pcp, ctc, fn, glo_ok X G (c.facts hg), kp, lk, hcd, bd, hsc, ⟨of_decide_eq_true a4, of_decide_eq_true a5, of_decide_eq_true a6, of_decide_eq_true a7⟩, of_decide_eq_true a8, a9, a10, blkOk_by a11, of_decide_eq_true a12, of_decide_eq_true a13, nodb_1 a14, nodb_1 a15, CA, hct, h1, h2, h3, hN, a16⟩
  · exact nomatch hl
/-- no own exception ends an iterator -/
def nostB (xs : List XSp) (K : PySem.W.Frag) : Bool := xs.all fun x => decide (PySem.W.subIn K (.ref (ga K x.name)) (.type "StopIteration") = some false)
theorem noSt_of (e : nostB xs K = true) : NoSt (wdOf prog w K mg base xs ts fv cl) := fun c C h => by
  have h : (xs[c]?).map (fun x => ga K x.name) = some C := h
  cases e2 : xs[c]? with
  | none => rw [e2] at h; exact nomatch h
  | some x =>
    rw [e2] at h
    injection h with h
    subst h
    exact of_decide_eq_true (List.all_eq_true.mp e x (List.mem_of_getElem? e2))
theorem catAt_of {x a : Str} {d : DefD} {N : List Str} {ct : Cat} (X : K.In h) (G : h.Ns mainGlobals mg) (c : SaysD fa fns K) (hd : d ∈ fns) (hx : d.at_ = (x, none)) (hnm : d.name = x) (hq : d.qual = x) (hf : d.dfl = []) (hk : d.kwd = []) (hg : Fa.glo x ∈ fa) (hr : Fa.free "repr" ∈ fa)
    (hsc : FnScope N [a] d.scope) (hN : N[0]? = some a) (hb : ∀ (kV doc pm : Value) (an : Option Addr) (cdv ct : Value) (us : List Value), us.length = 1 → bindArgs (PySem.W.fnOf d.name d.qual d.params d.body d.scope .none kV doc pm an cdv ct) ⟨us, []⟩ = pure ([a].zip us))
    (hcb : catB (clN xs) (wdOf prog w [] mg base xs [] [] frm0).fld N d.scope a d.body ct = true) (hcl : ct.hs.all (fun k => (xs[k.cls]?).isSome) = true) (ha : (a == ("__debug__" : Str)) = false) (ha2 : (a == ("__classdict__" : Str)) = false) (hx2 : (x == ("__debug__" : Str)) = false) : CatAt (wdOf prog w K mg base xs ts fv cl) (clN xs) x ct := by
  obtain ⟨fd, F⟩ := c.defs hd
  have e1 : d.dvs K = [] := by unfold DefD.dvs; rw [hf]; rfl
  have e2 : d.kws K = [] := by unfold DefD.kws; rw [hk]; rfl
  rw [e1, e2] at F
  have ea : fAd K d.at_ = ga K x := by rw [hx]; rfl
  have bd : Binds K fd [a] [] := F.bindsN hb
  obtain ⟨oc, od, dV, kV, doc, pm, an, cdv, ct', osl, rfl, lk, hcd, _, _⟩ := F.ex
  have kp := F.kp
  rw [ea] at kp lk
  rw [hnm, hq] at lk bd
  rw [hq] at hcd
  refine ⟨⟨ga K x, a, d.params, d.body, d.scope, dV, kV, doc, pm, cdv, ct', oc, an, od, osl, N, glo_ok X G (c.facts hg), kp, lk, hcd, bd, hsc, hN, hcb, ha, ha2⟩, fun k hk => ?_, free_ok X G (c.facts hr), hx2⟩
  have z := List.all_eq_true.mp hcl k hk
  show ((xs[k.cls]?).map _).isSome = true
  rw [Option.isSome_map]; exact z
theorem con_int {x : Str} {i : Int} (X : K.In h) (G : h.Ns mainGlobals mg) (c : SaysD fa fns K) (hg : Fa.int x i ∈ fa) : ∃ v u, (wdOf prog w K mg base xs ts fv cl).mg x = some u ∧ L2.RelV v u ∧ ∀ F, Rep (wdOf prog w K mg base xs ts fv cl) F v (.int i) := by
  obtain ⟨t, e⟩ := int_ok X G (c.facts hg)
  exact ⟨.int i, _, e, ⟨t, rfl⟩, fun F => by unfold Rep; rfl⟩
theorem con_str {x z : Str} (X : K.In h) (G : h.Ns mainGlobals mg) (c : SaysD fa fns K) (hg : Fa.str x z ∈ fa) : ∃ v u, (wdOf prog w K mg base xs ts fv cl).mg x = some u ∧ L2.RelV v u ∧ ∀ F, Rep (wdOf prog w K mg base xs ts fv cl) F v (.str z) := by
  obtain ⟨t, e⟩ := str_ok X G (c.facts hg)
  exact ⟨.str z, _, e, ⟨t, rfl⟩, fun F => by unfold Rep; rfl⟩
end
/-- all rows of a table -/
def AllT {α : Type} (p : Str → α → Prop) : List (Str × α) → Prop
  | [] => True
  | q :: r => p q.1 q.2 ∧ AllT p r
theorem AllT.get {α : Type} {p : Str → α → Prop} : ∀ {l : List (Str × α)}, AllT p l → ∀ x a, l.lookup x = some a → p x a
  | [], _, x, a, e => nomatch e
  | (y, b) :: r, h, x, a, e => by
    have e : (match x == y with | true => some b | false => r.lookup x) = some a := e
    cases q : x == y with
    | true =>
      rw [q] at e
      injection e with e; subst e
      rw [beq_iff_eq.mp q]
      exact h.1
    | false =>
      rw [q] at e
      exact AllT.get h.2 x a e
end Pv
namespace Pv
open PySem PySem.Spec PyProof.Rows L2 He
/-- the law's walk, from the table of names and the evaluator's answer -/
theorem walk_pv {l : PySem.W.OpenLaw} {n m L i : Nat} {gf : Bool} {q : Program} {loose : List Str} {XP : (Str → Option Value) → Heap → Prop} {d : DefRec} {P : Prg} {T : Tb} {xs : List XSp} {ts : List (Defn × Str)} {fv : List (Nat × Str)} {fa : List Fa} {fns : List DefD} {tf : List Defn} {ex : PySem.W.Frag → Bool}
    (hn : l.most = some n) (hn2 : n ≤ sizeLine) (hdf : d.params.defaults = []) (hnm : d.name = "law") (hr : Room (4 * L + 3) callerA) (hi : T.fns.lookup ("law" : Str) = some (i, gf)) (hts : ts.map (·.1) = tf)
    (hR : ∀ (w : World) (K : PySem.W.Frag) (base : Heap) (mg : Str → Option Value), K.In base → base.Ns mainGlobals mg → SaysD fa fns K → ex K = true → (∀ t ∈ ts, LamX.TabB base mg (cT K t.1).1 (cT K t.1).2) → ∀ cl, TbRec (wdOf l.prog w K mg base xs ts fv cl) (clN xs) P T)
    (hE : ∀ ns : List Int, ns.length ≤ n → ∃ out, P.cal L i [.dat (.scr ns)] = .ret (.dat (.bl true)) out) :
    PySem.W.WalkO q loose XP (hookY m fa fns tf ex).says l.row.toRowW d [] (fun f vs => PySem.call f vs) := by
  refine Att.attach_callB hn hdf fun w s₀ s mg mb fL o pm cd doc a vs ns G Y ho hd hcd hmg hobj hints hlen hbits hg => ?_
  obtain ⟨K, hK, c⟩ := Y
  rw [hnm] at hmg
  have mem : ∀ p ∈ tf.map (cT K), ∃ t ∈ tf, cT K t = p := fun p hp => by
    obtain ⟨t, h1, h2⟩ := List.mem_map.mp hp
    exact ⟨t, h1, h2⟩
  refine law_callG (cs := tf.map (cT K)) (T := tabT K ts) (fnA := fun f => (fv.lookup f).map (ga K)) (clA := fun c => (xs[c]?).map fun x => ga K x.name) (fld := fun c => match xs[c]? with | some x => fldOf x | none => Str.empty) (P := P) (l := L) (i := i) (gf := gf) hK G.T.g G.T.b G.T.builtins G.T.nolimit hg (fun p hp => ?_) (fun p hp => ?_) (fun p hp => ?_) G.T.bmain hobj hints (Nat.le_trans hlen hn2) hr (fun z hz => ?_) (fun base hb hG TB => ?_) (hE ns hlen)
  · obtain ⟨t, h1, rfl⟩ := mem p hp
    exact c.empty t h1
  · obtain ⟨t, h1, rfl⟩ := mem p hp
    exact c.out t h1
  · obtain ⟨t, h1, rfl⟩ := mem p hp
    exact PySem.W.codeHd_of_K hK (c.hd t h1)
  · obtain ⟨t, h1, rfl⟩ := List.mem_map.mp hz
    exact ⟨cT K t.1, List.mem_map.mpr ⟨t.1, by rw [← hts]; exact List.mem_map.mpr ⟨t, h1, rfl⟩, rfl⟩, rfl⟩
  · have R := hR w K base mg hb hG c.d c.more fun t ht => TB _ (List.mem_map.mpr ⟨t.1, by rw [← hts]; exact List.mem_map.mpr ⟨t, ht, rfl⟩, rfl⟩)
    obtain ⟨a', h1, h2⟩ := (TbRec.all (W := wdOf l.prog w K mg base xs ts fv frm0) R L frm0).fn "law" i gf hi
    have h1 : mg "law" = some (.ref a') := h1
    rw [hmg] at h1
    injection h1 with h1
    injection h1 with h1
    subst h1
    exact h2
end Pv
namespace Pv
open PySem
def AllL {α : Type} (p : α → Prop) : List α → Prop
  | [] => True
  | q :: r => p q ∧ AllL p r
theorem AllL.get {α : Type} {p : α → Prop} : ∀ {l : List α}, AllL p l → ∀ x, x ∈ l → p x
  | q :: r, h, x, e => by
    rcases List.mem_cons.mp e with z | z
    · rw [z]; exact h.1
    · exact AllL.get h.2 x z
theorem exs_of {K : PySem.W.Frag} {file : Str} {xs : List XSp} {more : PySem.W.Frag → Bool} (e : exB file xs more K = true) : xs.all (xsB K file) = true := (Bool.and_eq_true_iff.mp e).1
theorem exm_of {K : PySem.W.Frag} {file : Str} {xs : List XSp} {more : PySem.W.Frag → Bool} (e : exB file xs more K = true) : exmB K xs = true := (Bool.and_eq_true_iff.mp (Bool.and_eq_true_iff.mp e).2).1
def gcdB (K : PySem.W.Frag) (gs : List Str) : Bool := gs.all fun x => He.eqO (PySem.W.nsIn K mainGlobals x) (some (some (.builtin "math.gcd")))
theorem gcd_of {K : PySem.W.Frag} {h : Heap} {mg : Str → Option Value} {gs : List Str} (X : K.In h) (G : h.Ns mainGlobals mg) (e : gcdB K gs = true) : ∀ x, x ∈ gs → mg x = some (.builtin "math.gcd") := fun x hx => PySem.W.mg_of X G (He.eqO_ok (List.all_eq_true.mp e x hx))
/-- names of defs that are used as values -/
def FvOk (T : Tb) (mg : Str → Option Value) (K : PySem.W.Frag) (fv : List (Nat × Str)) : Prop := AllL (fun q : Nat × Str => fv.lookup q.1 = some q.2 ∧ T.fns.lookup q.2 = some (q.1, false) ∧ mg q.2 = some (.ref (He.ga K q.2))) fv
theorem fv_of {T : Tb} {mg : Str → Option Value} {K : PySem.W.Frag} {fv : List (Nat × Str)} (h : FvOk T mg K fv) : ∀ x, x ∈ fv.map (·.2) → ∃ f a, T.fns.lookup x = some (f, false) ∧ mg x = some (.ref a) ∧ (fv.lookup f).map (He.ga K) = some a := fun x hx => by
  obtain ⟨q, hq, rfl⟩ := List.mem_map.mp hx
  obtain ⟨h1, h2, h3⟩ := h.get q hq
  exact ⟨q.1, _, h2, h3, by rw [h1]; rfl⟩
theorem fa_of {T : Tb} {mg : Str → Option Value} {K : PySem.W.Frag} {fv : List (Nat × Str)} (h : FvOk T mg K fv) : ∀ f a, (fv.lookup f).map (He.ga K) = some a → ∃ x, T.fns.lookup x = some (f, false) ∧ mg x = some (.ref a) := fun f a e => by
  obtain ⟨x, h1, rfl⟩ := Option.map_eq_some_iff.mp e
  have hm : (f, x) ∈ fv := by
    clear h e
    induction fv with
    | nil => exact nomatch h1
    | cons q r ih =>
      obtain ⟨k, y⟩ := q
      have h1 : (match f == k with | true => some y | false => r.lookup f) = some x := h1
      cases z : f == k with
      | true =>
        rw [z] at h1
        injection h1 with h1
        rw [beq_iff_eq.mp z, ← h1]
        exact List.mem_cons_self
      | false =>
        rw [z] at h1
        exact List.mem_cons_of_mem _ (ih h1)
  obtain ⟨_, h2, h3⟩ := h.get (f, x) hm
  exact ⟨x, h2, h3⟩
theorem tabs_of {K : PySem.W.Frag} {file : Str} {xs : List XSp} {ts : List (He.Defn × Str)} {gs : List Str} (e : exB file xs (fun K => tabU K ts && (gcdB K gs && nostB xs K)) K = true) : tabU K ts = true := (Bool.and_eq_true_iff.mp (Bool.and_eq_true_iff.mp (Bool.and_eq_true_iff.mp e).2).2).1
theorem gcds_of {K : PySem.W.Frag} {file : Str} {xs : List XSp} {ts : List (He.Defn × Str)} {gs : List Str} (e : exB file xs (fun K => tabU K ts && (gcdB K gs && nostB xs K)) K = true) : gcdB K gs = true := (Bool.and_eq_true_iff.mp (Bool.and_eq_true_iff.mp (Bool.and_eq_true_iff.mp (Bool.and_eq_true_iff.mp e).2).2).2).1
theorem nost_of {K : PySem.W.Frag} {file : Str} {xs : List XSp} {ts : List (He.Defn × Str)} {gs : List Str} (e : exB file xs (fun K => tabU K ts && (gcdB K gs && nostB xs K)) K = true) : nostB xs K = true := (Bool.and_eq_true_iff.mp (Bool.and_eq_true_iff.mp (Bool.and_eq_true_iff.mp (Bool.and_eq_true_iff.mp e).2).2).2).2
end Pv
end PvTb_
section Hd05_
set_option maxRecDepth 100000
set_option maxHeartbeats 0
namespace Pv.K05
open Pv PySem PySem.Spec PyProof.Rows L2
def topS (i : Nat) : Stmt := PySem.Challenge.pw_stepletters_k05_errors_of_words.main.body.getD i (.Pass ⟨0, 0, 0, 0⟩)
def dd (x : Str) (i : Nat) : He.DefD := ⟨(x, none), x, x, defArgs (topS i), defBody (topS i), defScope (topS i), [], []⟩
def fn : List He.DefD := [dd "is_whole" 9, dd "is_short" 10, dd "is_from" 11, dd "require_from" 12, dd "odd_indices" 20, dd "degree_in" 21, dd "one_word" 22, dd "letter_word" 23, dd "product_in" 24, dd "counts_in" 25, dd "count_in" 26, dd "longer_words" 27, dd "words_in" 29, dd "is_letters" 30, dd "require_letters" 31, dd "is_word_in" 32, dd "require_word" 33, dd "is_word" 34, dd "word_degree" 35, dd "word_length" 36, dd "word_product" 37, dd "words_of" 38, dd "word_count" 39, dd "even_letters" 40, dd "odd_letters" 41, dd "top_word" 42, dd "sorted_word" 43, dd "_law_dice" 46, dd "_law_roll" 47, dd "_law_pick" 48, dd "_law_words_right" 51, dd "_law_others_right" 52, dd "law" 53, dd "_law_met" 49, dd "each_in" 28, dd "each_word" 44, dd "_law_are_met" 50]
def xb_IndexError : XB := ⟨"IndexError", "IndexError.__new__", "IndexError.__init__", [.type "IndexError", .type "LookupError", .type "Exception", .type "BaseException", .type "object"]⟩
theorem xb_IndexError_ok : XBOk xb_IndexError := ⟨PySem.F.excBase_IndexError, PySem.F.store_IndexError, PySem.W.kxs_IndexError⟩
def xb_OverflowError : XB := ⟨"OverflowError", "OverflowError.__new__", "OverflowError.__init__", [.type "OverflowError", .type "ArithmeticError", .type "Exception", .type "BaseException", .type "object"]⟩
theorem xb_OverflowError_ok : XBOk xb_OverflowError := ⟨PySem.F.excBase_OverflowError, PySem.F.store_OverflowError, PySem.W.kxs_OverflowError⟩
def xb_ValueError : XB := ⟨"ValueError", "ValueError.__new__", "ValueError.__init__", [.type "ValueError", .type "Exception", .type "BaseException", .type "object"]⟩
theorem xb_ValueError_ok : XBOk xb_ValueError := ⟨PySem.F.excBase_ValueError, PySem.F.store_ValueError, PySem.W.kxs_ValueError⟩
def xs : List XSp := [⟨"InvalidLetters", xb_ValueError, none⟩, ⟨"InvalidWord", xb_ValueError, none⟩, ⟨"InvalidOperation", xb_ValueError, none⟩, ⟨"InvalidNumber", xb_IndexError, some "given"⟩, ⟨"TooMany", xb_OverflowError, some "limit"⟩]
def tf : List He.Defn := [("_law_words_right", none), ("_law_others_right", none)]
def ts : List (He.Defn × Str) := [((("_law_words_right" : Str), (none : Option Str)), lamQ "_law_words_right" (defScope (topS 51))), ((("_law_others_right" : Str), (none : Option Str)), lamQ "_law_others_right" (defScope (topS 52)))]
def fa : List He.Fa := [.glo "is_whole", .glo "is_short", .glo "is_from", .glo "require_from", .glo "odd_indices", .glo "degree_in", .glo "one_word", .glo "letter_word", .glo "product_in", .glo "counts_in", .glo "count_in", .glo "longer_words", .glo "words_in", .glo "is_letters", .glo "require_letters", .glo "is_word_in", .glo "require_word", .glo "is_word", .glo "word_degree", .glo "word_length", .glo "word_product", .glo "words_of", .glo "word_count", .glo "even_letters", .glo "odd_letters", .glo "top_word", .glo "sorted_word", .glo "_law_dice", .glo "_law_roll", .glo "_law_pick", .glo "_law_words_right", .glo "_law_others_right", .glo "law", .glo "_law_met", .glo "each_in", .glo "each_word", .glo "_law_are_met", .free "len", .free "abs", .free "int", .free "repr", .free "tuple", .free "list", .free "sum", .free "all", .free "any", .free "max", .free "min", .free "range", .free "enumerate", .free "zip", .free "isinstance", .free "bool", .free "super", .int "GREATEST" (1000000000000000000000000000000000000000000000000000000000000), .int "MAX_LETTERS" (24), .int "MAX_LETTER" (40), .int "MAX_DEGREE" (80), .int "MAX_WORDS" (400), .int "MOST_PASSED" (400), .int "MOST_SORTED" (40)]
def fnsT0 : List (Str × Nat × Bool) := [("is_whole", 0, false), ("is_short", 1, false), ("is_from", 2, false), ("require_from", 3, false), ("odd_indices", 4, false), ("degree_in", 5, false), ("one_word", 6, false), ("letter_word", 7, false), ("product_in", 8, false), ("counts_in", 9, false), ("count_in", 10, false), ("longer_words", 11, false), ("words_in", 12, false), ("is_letters", 13, false), ("require_letters", 14, false), ("is_word_in", 15, false), ("require_word", 16, false), ("is_word", 17, false), ("word_degree", 18, false), ("word_length", 19, false)]
def fnsT1 : List (Str × Nat × Bool) := [("word_product", 20, false), ("words_of", 21, false), ("word_count", 22, false), ("even_letters", 23, false), ("odd_letters", 24, false), ("top_word", 25, false), ("sorted_word", 26, false), ("_law_dice", 27, false), ("_law_roll", 28, false), ("_law_pick", 29, false), ("_law_words_right", 30, true), ("_law_others_right", 31, true), ("law", 32, true)]
def T : Tb where
  fns := fnsT0 ++ fnsT1
  cats := [("_law_met", 0)]
  msgs := [("InvalidLetters", 0), ("InvalidWord", 1), ("InvalidOperation", 2)]
  pays := [("InvalidNumber", 3), ("TooMany", 4)]
  cons := [("GREATEST", .int (1000000000000000000000000000000000000000000000000000000000000)), ("MAX_LETTERS", .int (24)), ("MAX_LETTER", .int (40)), ("MAX_DEGREE", .int (80)), ("MAX_WORDS", .int (400)), ("MOST_PASSED", .int (400)), ("MOST_SORTED", .int (40))]
  bl := ["len", "abs", "int", "repr", "tuple", "list", "sum", "all", "any", "max", "min", "range", "enumerate", "zip", "isinstance", "bool"]
  fvs := ["even_letters", "odd_letters", "top_word", "word_degree", "word_length"]
  gcds := []
  gens := [("each_in", 33), ("each_word", 34)]
  lcs := [("_law_are_met", (35, 0))]
def fv : List (Nat × Str) := [(23, "even_letters"), (24, "odd_letters"), (25, "top_word"), (18, "word_degree"), (19, "word_length")]
abbrev exK (K : PySem.W.Frag) : Bool := exB PySem.Challenge.pw_stepletters_k05_errors_of_words.main.file xs (fun K => tabU K ts && (gcdB K T.gcds && nostB xs K)) K
def loose0 : List PySem.Str := ["StepError", "InvalidLetters", "InvalidWord", "InvalidOperation", "InvalidNumber", "TooMany", "GREATEST", "is_whole", "is_short", "is_from", "require_from", "MAX_LETTERS", "MAX_LETTER", "MAX_DEGREE", "MAX_WORDS", "MOST_PASSED", "MOST_SORTED", "odd_indices", "degree_in", "one_word", "letter_word", "product_in", "counts_in", "count_in", "longer_words", "each_in", "words_in", "is_letters", "require_letters", "is_word_in"]
def loose1 : List PySem.Str := ["require_word", "is_word", "word_degree", "word_length", "word_product", "words_of", "word_count", "even_letters", "odd_letters", "top_word", "sorted_word", "each_word", "_law_dice", "_law_roll", "_law_pick", "_law_met", "_law_are_met", "_law_words_right", "_law_others_right"]
def loose : List PySem.Str := loose0 ++ loose1
abbrev R : PySem.W.OpenRow := PySem.W.OpenLaw.row PySem.Challenge.rw_stepletters_k05_errors_of_words
abbrev hk : PySem.W.Hook := hookY 4 fa fn tf exK
def ob (s : PySem.W.SharedT) : AlY := obsY 4 fa fn tf exK (HandSHeadRun.getT s)
theorem ob_eq (s : PySem.W.SharedT) : ob s = hk.obs s.abs := obsY_eq (HandSHeadRun.getT_eq s)
theorem run (w : World) : HandSHeadRun.RunEq R (PySem.W.view R.prog [53]) hk ob 60000 loose w := by
  intro os
  kernel_rfl
theorem ck_is_whole : bodyB T 60 ⟨["value"], defScope (topS 9), defScope (topS 9), false, false⟩ f_is_whole.body (defBody (topS 9)) = true := by kernel_rfl
theorem sc_is_whole : FnScope ["value"] ["value"] (defScope (topS 9)) := ⟨by kernel_rfl, by kernel_rfl, by kernel_rfl, by decide +kernel, rfl, by decide +kernel, by decide +kernel⟩
theorem ck_is_short : bodyB T 60 ⟨["value"], defScope (topS 10), defScope (topS 10), false, false⟩ f_is_short.body (defBody (topS 10)) = true := by kernel_rfl
theorem sc_is_short : FnScope ["value"] ["value"] (defScope (topS 10)) := ⟨by kernel_rfl, by kernel_rfl, by kernel_rfl, by decide +kernel, rfl, by decide +kernel, by decide +kernel⟩
theorem ck_is_from : bodyB T 60 ⟨["value", "least", "most"], defScope (topS 11), defScope (topS 11), false, false⟩ f_is_from.body (defBody (topS 11)) = true := by kernel_rfl
theorem sc_is_from : FnScope ["value", "least", "most"] ["value", "least", "most"] (defScope (topS 11)) := ⟨by kernel_rfl, by kernel_rfl, by kernel_rfl, by decide +kernel, rfl, by decide +kernel, by decide +kernel⟩
theorem ck_require_from : bodyB T 60 ⟨["value", "least", "most"], defScope (topS 12), defScope (topS 12), false, false⟩ f_require_from.body (defBody (topS 12)) = true := by kernel_rfl
theorem sc_require_from : FnScope ["value", "least", "most"] ["value", "least", "most"] (defScope (topS 12)) := ⟨by kernel_rfl, by kernel_rfl, by kernel_rfl, by decide +kernel, rfl, by decide +kernel, by decide +kernel⟩
theorem ck_odd_indices : bodyB T 60 ⟨["letters", "index", "degree"], defScope (topS 20), defScope (topS 20), false, false⟩ f_odd_indices.body (defBody (topS 20)) = true := by kernel_rfl
theorem sc_odd_indices : FnScope ["letters", "index", "degree"] ["letters"] (defScope (topS 20)) := ⟨by kernel_rfl, by kernel_rfl, by kernel_rfl, by decide +kernel, rfl, by decide +kernel, by decide +kernel⟩
theorem ck_degree_in : bodyB T 60 ⟨["letters", "word", "degree", "many"], defScope (topS 21), defScope (topS 21), false, false⟩ f_degree_in.body (defBody (topS 21)) = true := by kernel_rfl
theorem sc_degree_in : FnScope ["letters", "word", "degree", "many"] ["letters", "word"] (defScope (topS 21)) := ⟨by kernel_rfl, by kernel_rfl, by kernel_rfl, by decide +kernel, rfl, by decide +kernel, by decide +kernel⟩
theorem ck_one_word : bodyB T 60 ⟨["letters"], defScope (topS 22), defScope (topS 22), false, false⟩ f_one_word.body (defBody (topS 22)) = true := by kernel_rfl
theorem sc_one_word : FnScope ["letters"] ["letters"] (defScope (topS 22)) := ⟨by kernel_rfl, by kernel_rfl, by kernel_rfl, by decide +kernel, rfl, by decide +kernel, by decide +kernel⟩
theorem ck_letter_word : bodyB T 60 ⟨["letters", "index", "place"], defScope (topS 23), defScope (topS 23), false, false⟩ f_letter_word.body (defBody (topS 23)) = true := by kernel_rfl
theorem sc_letter_word : FnScope ["letters", "index", "place"] ["letters", "index"] (defScope (topS 23)) := ⟨by kernel_rfl, by kernel_rfl, by kernel_rfl, by decide +kernel, rfl, by decide +kernel, by decide +kernel⟩
theorem ck_product_in : bodyB T 60 ⟨["letters", "one", "other", "odds", "index", "sign", "behind", "first", "second"], defScope (topS 24), defScope (topS 24), false, false⟩ f_product_in.body (defBody (topS 24)) = true := by kernel_rfl
theorem sc_product_in : FnScope ["letters", "one", "other", "odds", "index", "sign", "behind", "first", "second"] ["letters", "one", "other"] (defScope (topS 24)) := ⟨by kernel_rfl, by kernel_rfl, by kernel_rfl, by decide +kernel, rfl, by decide +kernel, by decide +kernel⟩
theorem ck_counts_in : bodyB T 60 ⟨["letters", "most", "found", "here", "degree", "many"], defScope (topS 25), defScope (topS 25), false, false⟩ f_counts_in.body (defBody (topS 25)) = true := by kernel_rfl
theorem sc_counts_in : FnScope ["letters", "most", "found", "here", "degree", "many"] ["letters", "most"] (defScope (topS 25)) := ⟨by kernel_rfl, by kernel_rfl, by kernel_rfl, by decide +kernel, rfl, by decide +kernel, by decide +kernel⟩
theorem ck_count_in : bodyB T 60 ⟨["letters", "degree"], defScope (topS 26), defScope (topS 26), false, false⟩ f_count_in.body (defBody (topS 26)) = true := by kernel_rfl
theorem sc_count_in : FnScope ["letters", "degree"] ["letters", "degree"] (defScope (topS 26)) := ⟨by kernel_rfl, by kernel_rfl, by kernel_rfl, by decide +kernel, rfl, by decide +kernel, by decide +kernel⟩
theorem ck_longer_words : bodyB T 60 ⟨["letters", "counts", "begun", "left", "here", "found", "most", "many", "rest"], defScope (topS 27), defScope (topS 27), false, false⟩ f_longer_words.body (defBody (topS 27)) = true := by kernel_rfl
theorem sc_longer_words : FnScope ["letters", "counts", "begun", "left", "here", "found", "most", "many", "rest"] ["letters", "counts", "begun", "left"] (defScope (topS 27)) := ⟨by kernel_rfl, by kernel_rfl, by kernel_rfl, by decide +kernel, rfl, by decide +kernel, by decide +kernel⟩
theorem ck_words_in : bodyB T 60 ⟨["letters", "degree"], defScope (topS 29), defScope (topS 29), false, false⟩ f_words_in.body (defBody (topS 29)) = true := by kernel_rfl
theorem sc_words_in : FnScope ["letters", "degree"] ["letters", "degree"] (defScope (topS 29)) := ⟨by kernel_rfl, by kernel_rfl, by kernel_rfl, by decide +kernel, rfl, by decide +kernel, by decide +kernel⟩
theorem ck_is_letters : bodyB T 60 ⟨["value", "one"], defScope (topS 30), defScope (topS 30), false, false⟩ f_is_letters.body (defBody (topS 30)) = true := by kernel_rfl
theorem sc_is_letters : FnScope ["value", "one"] ["value"] (defScope (topS 30)) := ⟨by kernel_rfl, by kernel_rfl, by kernel_rfl, by decide +kernel, rfl, by decide +kernel, by decide +kernel⟩
theorem ck_require_letters : bodyB T 60 ⟨["value"], defScope (topS 31), defScope (topS 31), false, false⟩ f_require_letters.body (defBody (topS 31)) = true := by kernel_rfl
theorem sc_require_letters : FnScope ["value"] ["value"] (defScope (topS 31)) := ⟨by kernel_rfl, by kernel_rfl, by kernel_rfl, by decide +kernel, rfl, by decide +kernel, by decide +kernel⟩
theorem ck_is_word_in : bodyB T 60 ⟨["letters", "value", "many", "index"], defScope (topS 32), defScope (topS 32), false, false⟩ f_is_word_in.body (defBody (topS 32)) = true := by kernel_rfl
theorem sc_is_word_in : FnScope ["letters", "value", "many", "index"] ["letters", "value"] (defScope (topS 32)) := ⟨by kernel_rfl, by kernel_rfl, by kernel_rfl, by decide +kernel, rfl, by decide +kernel, by decide +kernel⟩
theorem ck_require_word : bodyB T 60 ⟨["letters", "value"], defScope (topS 33), defScope (topS 33), false, false⟩ f_require_word.body (defBody (topS 33)) = true := by kernel_rfl
theorem sc_require_word : FnScope ["letters", "value"] ["letters", "value"] (defScope (topS 33)) := ⟨by kernel_rfl, by kernel_rfl, by kernel_rfl, by decide +kernel, rfl, by decide +kernel, by decide +kernel⟩
theorem ck_is_word : bodyB T 60 ⟨["letters", "value"], defScope (topS 34), defScope (topS 34), false, false⟩ f_is_word.body (defBody (topS 34)) = true := by kernel_rfl
theorem sc_is_word : FnScope ["letters", "value"] ["letters", "value"] (defScope (topS 34)) := ⟨by kernel_rfl, by kernel_rfl, by kernel_rfl, by decide +kernel, rfl, by decide +kernel, by decide +kernel⟩
theorem ck_word_degree : bodyB T 60 ⟨["letters", "word"], defScope (topS 35), defScope (topS 35), false, false⟩ f_word_degree.body (defBody (topS 35)) = true := by kernel_rfl
theorem sc_word_degree : FnScope ["letters", "word"] ["letters", "word"] (defScope (topS 35)) := ⟨by kernel_rfl, by kernel_rfl, by kernel_rfl, by decide +kernel, rfl, by decide +kernel, by decide +kernel⟩
theorem ck_word_length : bodyB T 60 ⟨["letters", "word"], defScope (topS 36), defScope (topS 36), false, false⟩ f_word_length.body (defBody (topS 36)) = true := by kernel_rfl
theorem sc_word_length : FnScope ["letters", "word"] ["letters", "word"] (defScope (topS 36)) := ⟨by kernel_rfl, by kernel_rfl, by kernel_rfl, by decide +kernel, rfl, by decide +kernel, by decide +kernel⟩
theorem ck_word_product : bodyB T 60 ⟨["letters", "one", "other"], defScope (topS 37), defScope (topS 37), false, false⟩ f_word_product.body (defBody (topS 37)) = true := by kernel_rfl
theorem sc_word_product : FnScope ["letters", "one", "other"] ["letters", "one", "other"] (defScope (topS 37)) := ⟨by kernel_rfl, by kernel_rfl, by kernel_rfl, by decide +kernel, rfl, by decide +kernel, by decide +kernel⟩
theorem ck_words_of : bodyB T 60 ⟨["letters", "degree"], defScope (topS 38), defScope (topS 38), false, false⟩ f_words_of.body (defBody (topS 38)) = true := by kernel_rfl
theorem sc_words_of : FnScope ["letters", "degree"] ["letters", "degree"] (defScope (topS 38)) := ⟨by kernel_rfl, by kernel_rfl, by kernel_rfl, by decide +kernel, rfl, by decide +kernel, by decide +kernel⟩
theorem ck_word_count : bodyB T 60 ⟨["letters", "degree"], defScope (topS 39), defScope (topS 39), false, false⟩ f_word_count.body (defBody (topS 39)) = true := by kernel_rfl
theorem sc_word_count : FnScope ["letters", "degree"] ["letters", "degree"] (defScope (topS 39)) := ⟨by kernel_rfl, by kernel_rfl, by kernel_rfl, by decide +kernel, rfl, by decide +kernel, by decide +kernel⟩
theorem ck_even_letters : bodyB T 60 ⟨["letters", "index", "degree"], defScope (topS 40), defScope (topS 40), false, false⟩ f_even_letters.body (defBody (topS 40)) = true := by kernel_rfl
theorem sc_even_letters : FnScope ["letters", "index", "degree"] ["letters"] (defScope (topS 40)) := ⟨by kernel_rfl, by kernel_rfl, by kernel_rfl, by decide +kernel, rfl, by decide +kernel, by decide +kernel⟩
theorem ck_odd_letters : bodyB T 60 ⟨["letters"], defScope (topS 41), defScope (topS 41), false, false⟩ f_odd_letters.body (defBody (topS 41)) = true := by kernel_rfl
theorem sc_odd_letters : FnScope ["letters"] ["letters"] (defScope (topS 41)) := ⟨by kernel_rfl, by kernel_rfl, by kernel_rfl, by decide +kernel, rfl, by decide +kernel, by decide +kernel⟩
theorem ck_top_word : bodyB T 60 ⟨["letters"], defScope (topS 42), defScope (topS 42), false, false⟩ f_top_word.body (defBody (topS 42)) = true := by kernel_rfl
theorem sc_top_word : FnScope ["letters"] ["letters"] (defScope (topS 42)) := ⟨by kernel_rfl, by kernel_rfl, by kernel_rfl, by decide +kernel, rfl, by decide +kernel, by decide +kernel⟩
theorem ck_sorted_word : bodyB T 60 ⟨["letters", "indices", "index", "sign", "word", "told"], defScope (topS 43), defScope (topS 43), false, false⟩ f_sorted_word.body (defBody (topS 43)) = true := by kernel_rfl
theorem sc_sorted_word : FnScope ["letters", "indices", "index", "sign", "word", "told"] ["letters", "indices"] (defScope (topS 43)) := ⟨by kernel_rfl, by kernel_rfl, by kernel_rfl, by decide +kernel, rfl, by decide +kernel, by decide +kernel⟩
theorem ck__law_dice : bodyB T 60 ⟨["script", "spot", "cell", "left"], defScope (topS 46), defScope (topS 46), false, false⟩ f__law_dice.body (defBody (topS 46)) = true := by kernel_rfl
theorem sc__law_dice : FnScope ["script", "spot", "cell", "left"] ["script", "spot"] (defScope (topS 46)) := ⟨by kernel_rfl, by kernel_rfl, by kernel_rfl, by decide +kernel, rfl, by decide +kernel, by decide +kernel⟩
theorem ck__law_roll : bodyB T 60 ⟨["dice", "total", "found", "one", "two"], defScope (topS 47), defScope (topS 47), false, false⟩ f__law_roll.body (defBody (topS 47)) = true := by kernel_rfl
theorem sc__law_roll : FnScope ["dice", "total", "found", "one", "two"] ["dice", "total"] (defScope (topS 47)) := ⟨by kernel_rfl, by kernel_rfl, by kernel_rfl, by decide +kernel, rfl, by decide +kernel, by decide +kernel⟩
theorem ck__law_pick : bodyB T 60 ⟨["dice", "items"], defScope (topS 48), defScope (topS 48), false, false⟩ f__law_pick.body (defBody (topS 48)) = true := by kernel_rfl
theorem sc__law_pick : FnScope ["dice", "items"] ["dice", "items"] (defScope (topS 48)) := ⟨by kernel_rfl, by kernel_rfl, by kernel_rfl, by decide +kernel, rfl, by decide +kernel, by decide +kernel⟩
theorem ck__law_words_right : bodyB T 60 ⟨["dice", "none", "bad", "three", "call", "told", "calls"], defScope (topS 51), defScope (topS 51), true, true⟩ f__law_words_right.body (defBody (topS 51)) = true := by kernel_rfl
theorem sc__law_words_right : FnScope ["dice", "none", "bad", "three", "call", "told", "calls"] ["dice"] (defScope (topS 51)) := ⟨by kernel_rfl, by kernel_rfl, by kernel_rfl, by decide +kernel, rfl, by decide +kernel, by decide +kernel⟩
theorem ck__law_others_right : bodyB T 60 ⟨["dice", "none", "degree", "some", "three", "calls", "number", "due"], defScope (topS 52), defScope (topS 52), true, true⟩ f__law_others_right.body (defBody (topS 52)) = true := by kernel_rfl
theorem sc__law_others_right : FnScope ["dice", "none", "degree", "some", "three", "calls", "number", "due"] ["dice"] (defScope (topS 52)) := ⟨by kernel_rfl, by kernel_rfl, by kernel_rfl, by decide +kernel, rfl, by decide +kernel, by decide +kernel⟩
theorem ck_law : bodyB T 60 ⟨["script", "spot", "dice"], defScope (topS 53), defScope (topS 53), true, false⟩ f_law.body (defBody (topS 53)) = true := by kernel_rfl
theorem sc_law : FnScope ["script", "spot", "dice"] ["script"] (defScope (topS 53)) := ⟨by kernel_rfl, by kernel_rfl, by kernel_rfl, by decide +kernel, rfl, by decide +kernel, by decide +kernel⟩
theorem ck_each_in : gsB (ckG T 60 ⟨["letters", "degree", "counts", "at", "waiting", "begun", "left"], defScope (topS 28), defScope (topS 28), false, false⟩) (defBody (topS 28)) g_each_in.body = true := by kernel_rfl
theorem sc_each_in : GScope ["letters", "degree", "counts", "at", "waiting", "begun", "left"] ["letters", "degree"] (defScope (topS 28)) := ⟨by kernel_rfl, by kernel_rfl, by kernel_rfl, by decide +kernel, rfl, by decide +kernel, by decide +kernel⟩
theorem ck_each_word : gsB (ckG T 60 ⟨["letters", "most", "degree", "word"], defScope (topS 44), defScope (topS 44), false, false⟩) (defBody (topS 44)) g_each_word.body = true := by kernel_rfl
theorem sc_each_word : GScope ["letters", "most", "degree", "word"] ["letters", "most"] (defScope (topS 44)) := ⟨by kernel_rfl, by kernel_rfl, by kernel_rfl, by decide +kernel, rfl, by decide +kernel, by decide +kernel⟩
theorem ck__law_are_met : lcB T 60 ["calls", "due", "met", "call", "word"] (defScope (topS 50)) "calls" "_law_met" 3 l__law_are_met.body (defBody (topS 50)) = true := by kernel_rfl
theorem sc__law_are_met : FnScope ["calls", "due", "met", "call", "word"] ["calls", "due"] (defScope (topS 50)) := ⟨by kernel_rfl, by kernel_rfl, by kernel_rfl, by decide +kernel, rfl, by decide +kernel, by decide +kernel⟩
theorem sc__law_met : FnScope ["call", "error"] ["call"] (defScope (topS 49)) := ⟨by kernel_rfl, by kernel_rfl, by kernel_rfl, by decide +kernel, rfl, by decide +kernel, by decide +kernel⟩
section
variable {cl : Frm} {w : World} {K : PySem.W.Frag} {base : Heap} {mg : Str → Option Value}
theorem rec_is_whole (X : K.In base) (G : base.Ns mainGlobals mg) (c : He.SaysD fa fn K) (e : exK K = true) (TB : ∀ t ∈ ts, LamX.TabB base mg (He.cT K t.1).1 (He.cT K t.1).2) : FnRec (wdOf R.prog w K mg base xs ts fv cl) P T "is_whole" 0 false :=
  fnRec_of (lm := false) (d := dd "is_whole" 9) X G c (List.mem_of_getElem? (i := 0) rfl) rfl rfl rfl (List.mem_of_getElem? (i := 0) rfl) rfl sc_is_whole rfl rfl (by decide) (fun kV doc pm an cdv ct us hl => match us, hl with | [_], _ => rfl) (fun z => (Bool.false_ne_true z).elim) TB (tabs_of e) ck_is_whole
theorem rec_is_short (X : K.In base) (G : base.Ns mainGlobals mg) (c : He.SaysD fa fn K) (e : exK K = true) (TB : ∀ t ∈ ts, LamX.TabB base mg (He.cT K t.1).1 (He.cT K t.1).2) : FnRec (wdOf R.prog w K mg base xs ts fv cl) P T "is_short" 1 false :=
  fnRec_of (lm := false) (d := dd "is_short" 10) X G c (List.mem_of_getElem? (i := 1) rfl) rfl rfl rfl (List.mem_of_getElem? (i := 1) rfl) rfl sc_is_short rfl rfl (by decide) (fun kV doc pm an cdv ct us hl => match us, hl with | [_], _ => rfl) (fun z => (Bool.false_ne_true z).elim) TB (tabs_of e) ck_is_short
theorem rec_is_from (X : K.In base) (G : base.Ns mainGlobals mg) (c : He.SaysD fa fn K) (e : exK K = true) (TB : ∀ t ∈ ts, LamX.TabB base mg (He.cT K t.1).1 (He.cT K t.1).2) : FnRec (wdOf R.prog w K mg base xs ts fv cl) P T "is_from" 2 false :=
  fnRec_of (lm := false) (d := dd "is_from" 11) X G c (List.mem_of_getElem? (i := 2) rfl) rfl rfl rfl (List.mem_of_getElem? (i := 2) rfl) rfl sc_is_from rfl rfl (by decide) (fun kV doc pm an cdv ct us hl => match us, hl with | [_, _, _], _ => rfl) (fun z => (Bool.false_ne_true z).elim) TB (tabs_of e) ck_is_from
theorem rec_require_from (X : K.In base) (G : base.Ns mainGlobals mg) (c : He.SaysD fa fn K) (e : exK K = true) (TB : ∀ t ∈ ts, LamX.TabB base mg (He.cT K t.1).1 (He.cT K t.1).2) : FnRec (wdOf R.prog w K mg base xs ts fv cl) P T "require_from" 3 false :=
  fnRec_of (lm := false) (d := dd "require_from" 12) X G c (List.mem_of_getElem? (i := 3) rfl) rfl rfl rfl (List.mem_of_getElem? (i := 3) rfl) rfl sc_require_from rfl rfl (by decide) (fun kV doc pm an cdv ct us hl => match us, hl with | [_, _, _], _ => rfl) (fun z => (Bool.false_ne_true z).elim) TB (tabs_of e) ck_require_from
theorem rec_odd_indices (X : K.In base) (G : base.Ns mainGlobals mg) (c : He.SaysD fa fn K) (e : exK K = true) (TB : ∀ t ∈ ts, LamX.TabB base mg (He.cT K t.1).1 (He.cT K t.1).2) : FnRec (wdOf R.prog w K mg base xs ts fv cl) P T "odd_indices" 4 false :=
  fnRec_of (lm := false) (d := dd "odd_indices" 20) X G c (List.mem_of_getElem? (i := 4) rfl) rfl rfl rfl (List.mem_of_getElem? (i := 4) rfl) rfl sc_odd_indices rfl rfl (by decide) (fun kV doc pm an cdv ct us hl => match us, hl with | [_], _ => rfl) (fun z => (Bool.false_ne_true z).elim) TB (tabs_of e) ck_odd_indices
theorem rec_degree_in (X : K.In base) (G : base.Ns mainGlobals mg) (c : He.SaysD fa fn K) (e : exK K = true) (TB : ∀ t ∈ ts, LamX.TabB base mg (He.cT K t.1).1 (He.cT K t.1).2) : FnRec (wdOf R.prog w K mg base xs ts fv cl) P T "degree_in" 5 false :=
  fnRec_of (lm := false) (d := dd "degree_in" 21) X G c (List.mem_of_getElem? (i := 5) rfl) rfl rfl rfl (List.mem_of_getElem? (i := 5) rfl) rfl sc_degree_in rfl rfl (by decide) (fun kV doc pm an cdv ct us hl => match us, hl with | [_, _], _ => rfl) (fun z => (Bool.false_ne_true z).elim) TB (tabs_of e) ck_degree_in
theorem rec_one_word (X : K.In base) (G : base.Ns mainGlobals mg) (c : He.SaysD fa fn K) (e : exK K = true) (TB : ∀ t ∈ ts, LamX.TabB base mg (He.cT K t.1).1 (He.cT K t.1).2) : FnRec (wdOf R.prog w K mg base xs ts fv cl) P T "one_word" 6 false :=
  fnRec_of (lm := false) (d := dd "one_word" 22) X G c (List.mem_of_getElem? (i := 6) rfl) rfl rfl rfl (List.mem_of_getElem? (i := 6) rfl) rfl sc_one_word rfl rfl (by decide) (fun kV doc pm an cdv ct us hl => match us, hl with | [_], _ => rfl) (fun z => (Bool.false_ne_true z).elim) TB (tabs_of e) ck_one_word
theorem rec_letter_word (X : K.In base) (G : base.Ns mainGlobals mg) (c : He.SaysD fa fn K) (e : exK K = true) (TB : ∀ t ∈ ts, LamX.TabB base mg (He.cT K t.1).1 (He.cT K t.1).2) : FnRec (wdOf R.prog w K mg base xs ts fv cl) P T "letter_word" 7 false :=
  fnRec_of (lm := false) (d := dd "letter_word" 23) X G c (List.mem_of_getElem? (i := 7) rfl) rfl rfl rfl (List.mem_of_getElem? (i := 7) rfl) rfl sc_letter_word rfl rfl (by decide) (fun kV doc pm an cdv ct us hl => match us, hl with | [_, _], _ => rfl) (fun z => (Bool.false_ne_true z).elim) TB (tabs_of e) ck_letter_word
theorem rec_product_in (X : K.In base) (G : base.Ns mainGlobals mg) (c : He.SaysD fa fn K) (e : exK K = true) (TB : ∀ t ∈ ts, LamX.TabB base mg (He.cT K t.1).1 (He.cT K t.1).2) : FnRec (wdOf R.prog w K mg base xs ts fv cl) P T "product_in" 8 false :=
  fnRec_of (lm := false) (d := dd "product_in" 24) X G c (List.mem_of_getElem? (i := 8) rfl) rfl rfl rfl (List.mem_of_getElem? (i := 8) rfl) rfl sc_product_in rfl rfl (by decide) (fun kV doc pm an cdv ct us hl => match us, hl with | [_, _, _], _ => rfl) (fun z => (Bool.false_ne_true z).elim) TB (tabs_of e) ck_product_in
theorem rec_counts_in (X : K.In base) (G : base.Ns mainGlobals mg) (c : He.SaysD fa fn K) (e : exK K = true) (TB : ∀ t ∈ ts, LamX.TabB base mg (He.cT K t.1).1 (He.cT K t.1).2) : FnRec (wdOf R.prog w K mg base xs ts fv cl) P T "counts_in" 9 false :=
  fnRec_of (lm := false) (d := dd "counts_in" 25) X G c (List.mem_of_getElem? (i := 9) rfl) rfl rfl rfl (List.mem_of_getElem? (i := 9) rfl) rfl sc_counts_in rfl rfl (by decide) (fun kV doc pm an cdv ct us hl => match us, hl with | [_, _], _ => rfl) (fun z => (Bool.false_ne_true z).elim) TB (tabs_of e) ck_counts_in
theorem rec_count_in (X : K.In base) (G : base.Ns mainGlobals mg) (c : He.SaysD fa fn K) (e : exK K = true) (TB : ∀ t ∈ ts, LamX.TabB base mg (He.cT K t.1).1 (He.cT K t.1).2) : FnRec (wdOf R.prog w K mg base xs ts fv cl) P T "count_in" 10 false :=
  fnRec_of (lm := false) (d := dd "count_in" 26) X G c (List.mem_of_getElem? (i := 10) rfl) rfl rfl rfl (List.mem_of_getElem? (i := 10) rfl) rfl sc_count_in rfl rfl (by decide) (fun kV doc pm an cdv ct us hl => match us, hl with | [_, _], _ => rfl) (fun z => (Bool.false_ne_true z).elim) TB (tabs_of e) ck_count_in
theorem rec_longer_words (X : K.In base) (G : base.Ns mainGlobals mg) (c : He.SaysD fa fn K) (e : exK K = true) (TB : ∀ t ∈ ts, LamX.TabB base mg (He.cT K t.1).1 (He.cT K t.1).2) : FnRec (wdOf R.prog w K mg base xs ts fv cl) P T "longer_words" 11 false :=
  fnRec_of (lm := false) (d := dd "longer_words" 27) X G c (List.mem_of_getElem? (i := 11) rfl) rfl rfl rfl (List.mem_of_getElem? (i := 11) rfl) rfl sc_longer_words rfl rfl (by decide) (fun kV doc pm an cdv ct us hl => match us, hl with | [_, _, _, _], _ => rfl) (fun z => (Bool.false_ne_true z).elim) TB (tabs_of e) ck_longer_words
theorem rec_words_in (X : K.In base) (G : base.Ns mainGlobals mg) (c : He.SaysD fa fn K) (e : exK K = true) (TB : ∀ t ∈ ts, LamX.TabB base mg (He.cT K t.1).1 (He.cT K t.1).2) : FnRec (wdOf R.prog w K mg base xs ts fv cl) P T "words_in" 12 false :=
  fnRec_of (lm := false) (d := dd "words_in" 29) X G c (List.mem_of_getElem? (i := 12) rfl) rfl rfl rfl (List.mem_of_getElem? (i := 12) rfl) rfl sc_words_in rfl rfl (by decide) (fun kV doc pm an cdv ct us hl => match us, hl with | [_, _], _ => rfl) (fun z => (Bool.false_ne_true z).elim) TB (tabs_of e) ck_words_in
theorem rec_is_letters (X : K.In base) (G : base.Ns mainGlobals mg) (c : He.SaysD fa fn K) (e : exK K = true) (TB : ∀ t ∈ ts, LamX.TabB base mg (He.cT K t.1).1 (He.cT K t.1).2) : FnRec (wdOf R.prog w K mg base xs ts fv cl) P T "is_letters" 13 false :=
  fnRec_of (lm := false) (d := dd "is_letters" 30) X G c (List.mem_of_getElem? (i := 13) rfl) rfl rfl rfl (List.mem_of_getElem? (i := 13) rfl) rfl sc_is_letters rfl rfl (by decide) (fun kV doc pm an cdv ct us hl => match us, hl with | [_], _ => rfl) (fun z => (Bool.false_ne_true z).elim) TB (tabs_of e) ck_is_letters
theorem rec_require_letters (X : K.In base) (G : base.Ns mainGlobals mg) (c : He.SaysD fa fn K) (e : exK K = true) (TB : ∀ t ∈ ts, LamX.TabB base mg (He.cT K t.1).1 (He.cT K t.1).2) : FnRec (wdOf R.prog w K mg base xs ts fv cl) P T "require_letters" 14 false :=
  fnRec_of (lm := false) (d := dd "require_letters" 31) X G c (List.mem_of_getElem? (i := 14) rfl) rfl rfl rfl (List.mem_of_getElem? (i := 14) rfl) rfl sc_require_letters rfl rfl (by decide) (fun kV doc pm an cdv ct us hl => match us, hl with | [_], _ => rfl) (fun z => (Bool.false_ne_true z).elim) TB (tabs_of e) ck_require_letters
theorem rec_is_word_in (X : K.In base) (G : base.Ns mainGlobals mg) (c : He.SaysD fa fn K) (e : exK K = true) (TB : ∀ t ∈ ts, LamX.TabB base mg (He.cT K t.1).1 (He.cT K t.1).2) : FnRec (wdOf R.prog w K mg base xs ts fv cl) P T "is_word_in" 15 false :=
  fnRec_of (lm := false) (d := dd "is_word_in" 32) X G c (List.mem_of_getElem? (i := 15) rfl) rfl rfl rfl (List.mem_of_getElem? (i := 15) rfl) rfl sc_is_word_in rfl rfl (by decide) (fun kV doc pm an cdv ct us hl => match us, hl with | [_, _], _ => rfl) (fun z => (Bool.false_ne_true z).elim) TB (tabs_of e) ck_is_word_in
theorem rec_require_word (X : K.In base) (G : base.Ns mainGlobals mg) (c : He.SaysD fa fn K) (e : exK K = true) (TB : ∀ t ∈ ts, LamX.TabB base mg (He.cT K t.1).1 (He.cT K t.1).2) : FnRec (wdOf R.prog w K mg base xs ts fv cl) P T "require_word" 16 false :=
  fnRec_of (lm := false) (d := dd "require_word" 33) X G c (List.mem_of_getElem? (i := 16) rfl) rfl rfl rfl (List.mem_of_getElem? (i := 16) rfl) rfl sc_require_word rfl rfl (by decide) (fun kV doc pm an cdv ct us hl => match us, hl with | [_, _], _ => rfl) (fun z => (Bool.false_ne_true z).elim) TB (tabs_of e) ck_require_word
theorem rec_is_word (X : K.In base) (G : base.Ns mainGlobals mg) (c : He.SaysD fa fn K) (e : exK K = true) (TB : ∀ t ∈ ts, LamX.TabB base mg (He.cT K t.1).1 (He.cT K t.1).2) : FnRec (wdOf R.prog w K mg base xs ts fv cl) P T "is_word" 17 false :=
  fnRec_of (lm := false) (d := dd "is_word" 34) X G c (List.mem_of_getElem? (i := 17) rfl) rfl rfl rfl (List.mem_of_getElem? (i := 17) rfl) rfl sc_is_word rfl rfl (by decide) (fun kV doc pm an cdv ct us hl => match us, hl with | [_, _], _ => rfl) (fun z => (Bool.false_ne_true z).elim) TB (tabs_of e) ck_is_word
theorem rec_word_degree (X : K.In base) (G : base.Ns mainGlobals mg) (c : He.SaysD fa fn K) (e : exK K = true) (TB : ∀ t ∈ ts, LamX.TabB base mg (He.cT K t.1).1 (He.cT K t.1).2) : FnRec (wdOf R.prog w K mg base xs ts fv cl) P T "word_degree" 18 false :=
  fnRec_of (lm := false) (d := dd "word_degree" 35) X G c (List.mem_of_getElem? (i := 18) rfl) rfl rfl rfl (List.mem_of_getElem? (i := 18) rfl) rfl sc_word_degree rfl rfl (by decide) (fun kV doc pm an cdv ct us hl => match us, hl with | [_, _], _ => rfl) (fun z => (Bool.false_ne_true z).elim) TB (tabs_of e) ck_word_degree
theorem rec_word_length (X : K.In base) (G : base.Ns mainGlobals mg) (c : He.SaysD fa fn K) (e : exK K = true) (TB : ∀ t ∈ ts, LamX.TabB base mg (He.cT K t.1).1 (He.cT K t.1).2) : FnRec (wdOf R.prog w K mg base xs ts fv cl) P T "word_length" 19 false :=
  fnRec_of (lm := false) (d := dd "word_length" 36) X G c (List.mem_of_getElem? (i := 19) rfl) rfl rfl rfl (List.mem_of_getElem? (i := 19) rfl) rfl sc_word_length rfl rfl (by decide) (fun kV doc pm an cdv ct us hl => match us, hl with | [_, _], _ => rfl) (fun z => (Bool.false_ne_true z).elim) TB (tabs_of e) ck_word_length
theorem rec_word_product (X : K.In base) (G : base.Ns mainGlobals mg) (c : He.SaysD fa fn K) (e : exK K = true) (TB : ∀ t ∈ ts, LamX.TabB base mg (He.cT K t.1).1 (He.cT K t.1).2) : FnRec (wdOf R.prog w K mg base xs ts fv cl) P T "word_product" 20 false :=
  fnRec_of (lm := false) (d := dd "word_product" 37) X G c (List.mem_of_getElem? (i := 20) rfl) rfl rfl rfl (List.mem_of_getElem? (i := 20) rfl) rfl sc_word_product rfl rfl (by decide) (fun kV doc pm an cdv ct us hl => match us, hl with | [_, _, _], _ => rfl) (fun z => (Bool.false_ne_true z).elim) TB (tabs_of e) ck_word_product
theorem rec_words_of (X : K.In base) (G : base.Ns mainGlobals mg) (c : He.SaysD fa fn K) (e : exK K = true) (TB : ∀ t ∈ ts, LamX.TabB base mg (He.cT K t.1).1 (He.cT K t.1).2) : FnRec (wdOf R.prog w K mg base xs ts fv cl) P T "words_of" 21 false :=
  fnRec_of (lm := false) (d := dd "words_of" 38) X G c (List.mem_of_getElem? (i := 21) rfl) rfl rfl rfl (List.mem_of_getElem? (i := 21) rfl) rfl sc_words_of rfl rfl (by decide) (fun kV doc pm an cdv ct us hl => match us, hl with | [_, _], _ => rfl) (fun z => (Bool.false_ne_true z).elim) TB (tabs_of e) ck_words_of
theorem rec_word_count (X : K.In base) (G : base.Ns mainGlobals mg) (c : He.SaysD fa fn K) (e : exK K = true) (TB : ∀ t ∈ ts, LamX.TabB base mg (He.cT K t.1).1 (He.cT K t.1).2) : FnRec (wdOf R.prog w K mg base xs ts fv cl) P T "word_count" 22 false :=
  fnRec_of (lm := false) (d := dd "word_count" 39) X G c (List.mem_of_getElem? (i := 22) rfl) rfl rfl rfl (List.mem_of_getElem? (i := 22) rfl) rfl sc_word_count rfl rfl (by decide) (fun kV doc pm an cdv ct us hl => match us, hl with | [_, _], _ => rfl) (fun z => (Bool.false_ne_true z).elim) TB (tabs_of e) ck_word_count
theorem rec_even_letters (X : K.In base) (G : base.Ns mainGlobals mg) (c : He.SaysD fa fn K) (e : exK K = true) (TB : ∀ t ∈ ts, LamX.TabB base mg (He.cT K t.1).1 (He.cT K t.1).2) : FnRec (wdOf R.prog w K mg base xs ts fv cl) P T "even_letters" 23 false :=
  fnRec_of (lm := false) (d := dd "even_letters" 40) X G c (List.mem_of_getElem? (i := 23) rfl) rfl rfl rfl (List.mem_of_getElem? (i := 23) rfl) rfl sc_even_letters rfl rfl (by decide) (fun kV doc pm an cdv ct us hl => match us, hl with | [_], _ => rfl) (fun z => (Bool.false_ne_true z).elim) TB (tabs_of e) ck_even_letters
theorem rec_odd_letters (X : K.In base) (G : base.Ns mainGlobals mg) (c : He.SaysD fa fn K) (e : exK K = true) (TB : ∀ t ∈ ts, LamX.TabB base mg (He.cT K t.1).1 (He.cT K t.1).2) : FnRec (wdOf R.prog w K mg base xs ts fv cl) P T "odd_letters" 24 false :=
  fnRec_of (lm := false) (d := dd "odd_letters" 41) X G c (List.mem_of_getElem? (i := 24) rfl) rfl rfl rfl (List.mem_of_getElem? (i := 24) rfl) rfl sc_odd_letters rfl rfl (by decide) (fun kV doc pm an cdv ct us hl => match us, hl with | [_], _ => rfl) (fun z => (Bool.false_ne_true z).elim) TB (tabs_of e) ck_odd_letters
theorem rec_top_word (X : K.In base) (G : base.Ns mainGlobals mg) (c : He.SaysD fa fn K) (e : exK K = true) (TB : ∀ t ∈ ts, LamX.TabB base mg (He.cT K t.1).1 (He.cT K t.1).2) : FnRec (wdOf R.prog w K mg base xs ts fv cl) P T "top_word" 25 false :=
  fnRec_of (lm := false) (d := dd "top_word" 42) X G c (List.mem_of_getElem? (i := 25) rfl) rfl rfl rfl (List.mem_of_getElem? (i := 25) rfl) rfl sc_top_word rfl rfl (by decide) (fun kV doc pm an cdv ct us hl => match us, hl with | [_], _ => rfl) (fun z => (Bool.false_ne_true z).elim) TB (tabs_of e) ck_top_word
theorem rec_sorted_word (X : K.In base) (G : base.Ns mainGlobals mg) (c : He.SaysD fa fn K) (e : exK K = true) (TB : ∀ t ∈ ts, LamX.TabB base mg (He.cT K t.1).1 (He.cT K t.1).2) : FnRec (wdOf R.prog w K mg base xs ts fv cl) P T "sorted_word" 26 false :=
  fnRec_of (lm := false) (d := dd "sorted_word" 43) X G c (List.mem_of_getElem? (i := 26) rfl) rfl rfl rfl (List.mem_of_getElem? (i := 26) rfl) rfl sc_sorted_word rfl rfl (by decide) (fun kV doc pm an cdv ct us hl => match us, hl with | [_, _], _ => rfl) (fun z => (Bool.false_ne_true z).elim) TB (tabs_of e) ck_sorted_word
theorem rec__law_dice (X : K.In base) (G : base.Ns mainGlobals mg) (c : He.SaysD fa fn K) (e : exK K = true) (TB : ∀ t ∈ ts, LamX.TabB base mg (He.cT K t.1).1 (He.cT K t.1).2) : FnRec (wdOf R.prog w K mg base xs ts fv cl) P T "_law_dice" 27 false :=
  fnRec_of (lm := false) (d := dd "_law_dice" 46) X G c (List.mem_of_getElem? (i := 27) rfl) rfl rfl rfl (List.mem_of_getElem? (i := 27) rfl) rfl sc__law_dice rfl rfl (by decide) (fun kV doc pm an cdv ct us hl => match us, hl with | [_, _], _ => rfl) (fun z => (Bool.false_ne_true z).elim) TB (tabs_of e) ck__law_dice
theorem rec__law_roll (X : K.In base) (G : base.Ns mainGlobals mg) (c : He.SaysD fa fn K) (e : exK K = true) (TB : ∀ t ∈ ts, LamX.TabB base mg (He.cT K t.1).1 (He.cT K t.1).2) : FnRec (wdOf R.prog w K mg base xs ts fv cl) P T "_law_roll" 28 false :=
  fnRec_of (lm := false) (d := dd "_law_roll" 47) X G c (List.mem_of_getElem? (i := 28) rfl) rfl rfl rfl (List.mem_of_getElem? (i := 28) rfl) rfl sc__law_roll rfl rfl (by decide) (fun kV doc pm an cdv ct us hl => match us, hl with | [_, _], _ => rfl) (fun z => (Bool.false_ne_true z).elim) TB (tabs_of e) ck__law_roll
theorem rec__law_pick (X : K.In base) (G : base.Ns mainGlobals mg) (c : He.SaysD fa fn K) (e : exK K = true) (TB : ∀ t ∈ ts, LamX.TabB base mg (He.cT K t.1).1 (He.cT K t.1).2) : FnRec (wdOf R.prog w K mg base xs ts fv cl) P T "_law_pick" 29 false :=
  fnRec_of (lm := false) (d := dd "_law_pick" 48) X G c (List.mem_of_getElem? (i := 29) rfl) rfl rfl rfl (List.mem_of_getElem? (i := 29) rfl) rfl sc__law_pick rfl rfl (by decide) (fun kV doc pm an cdv ct us hl => match us, hl with | [_, _], _ => rfl) (fun z => (Bool.false_ne_true z).elim) TB (tabs_of e) ck__law_pick
theorem rec__law_words_right (X : K.In base) (G : base.Ns mainGlobals mg) (c : He.SaysD fa fn K) (e : exK K = true) (TB : ∀ t ∈ ts, LamX.TabB base mg (He.cT K t.1).1 (He.cT K t.1).2) : FnRec (wdOf R.prog w K mg base xs ts fv cl) P T "_law_words_right" 30 true :=
  fnRec_of (lm := true) (d := dd "_law_words_right" 51) X G c (List.mem_of_getElem? (i := 30) rfl) rfl rfl rfl (List.mem_of_getElem? (i := 30) rfl) rfl sc__law_words_right rfl rfl (by decide) (fun kV doc pm an cdv ct us hl => match us, hl with | [_], _ => rfl) (fun _ => List.mem_of_getElem? (i := 0) rfl) TB (tabs_of e) ck__law_words_right
theorem rec__law_others_right (X : K.In base) (G : base.Ns mainGlobals mg) (c : He.SaysD fa fn K) (e : exK K = true) (TB : ∀ t ∈ ts, LamX.TabB base mg (He.cT K t.1).1 (He.cT K t.1).2) : FnRec (wdOf R.prog w K mg base xs ts fv cl) P T "_law_others_right" 31 true :=
  fnRec_of (lm := true) (d := dd "_law_others_right" 52) X G c (List.mem_of_getElem? (i := 31) rfl) rfl rfl rfl (List.mem_of_getElem? (i := 31) rfl) rfl sc__law_others_right rfl rfl (by decide) (fun kV doc pm an cdv ct us hl => match us, hl with | [_], _ => rfl) (fun _ => List.mem_of_getElem? (i := 1) rfl) TB (tabs_of e) ck__law_others_right
theorem rec_law (X : K.In base) (G : base.Ns mainGlobals mg) (c : He.SaysD fa fn K) (e : exK K = true) (TB : ∀ t ∈ ts, LamX.TabB base mg (He.cT K t.1).1 (He.cT K t.1).2) : FnRec (wdOf R.prog w K mg base xs ts fv cl) P T "law" 32 true :=
  fnRec_of (lm := false) (d := dd "law" 53) X G c (List.mem_of_getElem? (i := 32) rfl) rfl rfl rfl (List.mem_of_getElem? (i := 32) rfl) rfl sc_law rfl rfl (by decide) (fun kV doc pm an cdv ct us hl => match us, hl with | [_], _ => rfl) (fun z => (Bool.false_ne_true z).elim) TB (tabs_of e) ck_law
theorem rec_each_in (X : K.In base) (G : base.Ns mainGlobals mg) (c : He.SaysD fa fn K) (e : exK K = true) : GnRec (wdOf R.prog w K mg base xs ts fv cl) P T "each_in" 33 :=
  gnRec_of (d := dd "each_in" 28) X G c (List.mem_of_getElem? (i := 34) rfl) rfl rfl rfl (List.mem_of_getElem? (i := 34) rfl) rfl rfl sc_each_in rfl rfl (by decide) (fun kV doc pm an cdv ct us hl => match us, hl with | [_, _], _ => rfl) ck_each_in
theorem rec_each_word (X : K.In base) (G : base.Ns mainGlobals mg) (c : He.SaysD fa fn K) (e : exK K = true) : GnRec (wdOf R.prog w K mg base xs ts fv cl) P T "each_word" 34 :=
  gnRec_of (d := dd "each_word" 44) X G c (List.mem_of_getElem? (i := 35) rfl) rfl rfl rfl (List.mem_of_getElem? (i := 35) rfl) rfl rfl sc_each_word rfl rfl (by decide) (fun kV doc pm an cdv ct us hl => match us, hl with | [_, _], _ => rfl) ck_each_word
theorem cat__law_met (X : K.In base) (G : base.Ns mainGlobals mg) (c : He.SaysD fa fn K) : CatAt (wdOf R.prog w K mg base xs ts fv cl) (clN xs) "_law_met" c__law_met :=
  catAt_of (d := dd "_law_met" 49) X G c (List.mem_of_getElem? (i := 33) rfl) rfl rfl rfl rfl rfl (List.mem_of_getElem? (i := 33) rfl) (List.mem_of_getElem? (i := 40) rfl) sc__law_met rfl (fun kV doc pm an cdv ct us hl => match us, hl with | [_], _ => rfl) (by kernel_rfl) (by decide) (by decide) (by decide) (by decide)
theorem rec__law_are_met (X : K.In base) (G : base.Ns mainGlobals mg) (c : He.SaysD fa fn K) : LcRec (wdOf R.prog w K mg base xs ts fv cl) (clN xs) P T "_law_are_met" 35 0 :=
  lcRec_of (d := dd "_law_are_met" 50) X G c (List.mem_of_getElem? (i := 36) rfl) rfl rfl rfl rfl rfl (List.mem_of_getElem? (i := 36) rfl) rfl rfl rfl sc__law_are_met rfl (fun kV doc pm an cdv ct us hl => match us, hl with | [_, _], _ => rfl) rfl (cat__law_met X G c) ck__law_are_met
theorem tb (X : K.In base) (G : base.Ns mainGlobals mg) (c : He.SaysD fa fn K) (e : exK K = true) (TB : ∀ t ∈ ts, LamX.TabB base mg (He.cT K t.1).1 (He.cT K t.1).2) : TbRec (wdOf R.prog w K mg base xs ts fv cl) (clN xs) P T :=
  have fvok : FvOk T mg K fv := ⟨⟨by kernel_rfl, by kernel_rfl, He.glo_ok X G (c.facts (List.mem_of_getElem? (i := 23) rfl))⟩, ⟨by kernel_rfl, by kernel_rfl, He.glo_ok X G (c.facts (List.mem_of_getElem? (i := 24) rfl))⟩, ⟨by kernel_rfl, by kernel_rfl, He.glo_ok X G (c.facts (List.mem_of_getElem? (i := 25) rfl))⟩, ⟨by kernel_rfl, by kernel_rfl, He.glo_ok X G (c.facts (List.mem_of_getElem? (i := 18) rfl))⟩, ⟨by kernel_rfl, by kernel_rfl, He.glo_ok X G (c.facts (List.mem_of_getElem? (i := 19) rfl))⟩, trivial⟩
  {
    fn := fun x f gf h => (show AllT (fun x q => FnRec (wdOf R.prog w K mg base xs ts fv cl) P T x q.1 q.2) T.fns from ⟨rec_is_whole X G c e TB, rec_is_short X G c e TB, rec_is_from X G c e TB, rec_require_from X G c e TB, rec_odd_indices X G c e TB, rec_degree_in X G c e TB, rec_one_word X G c e TB, rec_letter_word X G c e TB, rec_product_in X G c e TB, rec_counts_in X G c e TB, rec_count_in X G c e TB, rec_longer_words X G c e TB, rec_words_in X G c e TB, rec_is_letters X G c e TB, rec_require_letters X G c e TB, rec_is_word_in X G c e TB, rec_require_word X G c e TB, rec_is_word X G c e TB, rec_word_degree X G c e TB, rec_word_length X G c e TB, rec_word_product X G c e TB, rec_words_of X G c e TB, rec_word_count X G c e TB, rec_even_letters X G c e TB, rec_odd_letters X G c e TB, rec_top_word X G c e TB, rec_sorted_word X G c e TB, rec__law_dice X G c e TB, rec__law_roll X G c e TB, rec__law_pick X G c e TB, rec__law_words_right X G c e TB, rec__law_others_right X G c e TB, rec_law X G c e TB, trivial⟩).get x (f, gf) h
    cat := fun x g h => (show AllT (fun x g => ∃ ct, P.cats[g]? = some ct ∧ CatAt (wdOf R.prog w K mg base xs ts fv cl) (clN xs) x ct) T.cats from ⟨⟨_, rfl, cat__law_met X G c⟩, trivial⟩).get x g h
    msg := fun x k h => (show AllT (fun x k => ExMsg (wdOf R.prog w K mg base xs ts fv cl) k x) T.msgs from ⟨msg_of (c := 0) X G (xs_mem (c := 0) (exs_of e) rfl) rfl rfl xb_ValueError_ok, msg_of (c := 1) X G (xs_mem (c := 1) (exs_of e) rfl) rfl rfl xb_ValueError_ok, msg_of (c := 2) X G (xs_mem (c := 2) (exs_of e) rfl) rfl rfl xb_ValueError_ok, trivial⟩).get x k h
    pay := fun x k h => (show AllT (fun x k => ExPay (wdOf R.prog w K mg base xs ts fv cl) k x) T.pays from ⟨pay_of (prog := R.prog) (c := 3) X G (xs_mem (c := 3) (exs_of e) rfl) rfl rfl xb_IndexError_ok (He.free_ok X G (c.facts (List.mem_of_getElem? (i := 53) rfl))) (by kernel_rfl), pay_of (prog := R.prog) (c := 4) X G (xs_mem (c := 4) (exs_of e) rfl) rfl rfl xb_OverflowError_ok (He.free_ok X G (c.facts (List.mem_of_getElem? (i := 53) rfl))) (by kernel_rfl), trivial⟩).get x k h
    con := fun x d h => (show AllT (fun x d => ∃ v u, (wdOf R.prog w K mg base xs ts fv cl).mg x = some u ∧ L2.RelV v u ∧ ∀ F, Rep (wdOf R.prog w K mg base xs ts fv cl) F v d) T.cons from ⟨con_int X G c (List.mem_of_getElem? (i := 54) rfl), con_int X G c (List.mem_of_getElem? (i := 55) rfl), con_int X G c (List.mem_of_getElem? (i := 56) rfl), con_int X G c (List.mem_of_getElem? (i := 57) rfl), con_int X G c (List.mem_of_getElem? (i := 58) rfl), con_int X G c (List.mem_of_getElem? (i := 59) rfl), con_int X G c (List.mem_of_getElem? (i := 60) rfl), trivial⟩).get x d h
    bl := fun x h => (show AllL (fun x => mg x = none) T.bl from ⟨He.free_ok X G (c.facts (List.mem_of_getElem? (i := 37) rfl)), He.free_ok X G (c.facts (List.mem_of_getElem? (i := 38) rfl)), He.free_ok X G (c.facts (List.mem_of_getElem? (i := 39) rfl)), He.free_ok X G (c.facts (List.mem_of_getElem? (i := 40) rfl)), He.free_ok X G (c.facts (List.mem_of_getElem? (i := 41) rfl)), He.free_ok X G (c.facts (List.mem_of_getElem? (i := 42) rfl)), He.free_ok X G (c.facts (List.mem_of_getElem? (i := 43) rfl)), He.free_ok X G (c.facts (List.mem_of_getElem? (i := 44) rfl)), He.free_ok X G (c.facts (List.mem_of_getElem? (i := 45) rfl)), He.free_ok X G (c.facts (List.mem_of_getElem? (i := 46) rfl)), He.free_ok X G (c.facts (List.mem_of_getElem? (i := 47) rfl)), He.free_ok X G (c.facts (List.mem_of_getElem? (i := 48) rfl)), He.free_ok X G (c.facts (List.mem_of_getElem? (i := 49) rfl)), He.free_ok X G (c.facts (List.mem_of_getElem? (i := 50) rfl)), He.free_ok X G (c.facts (List.mem_of_getElem? (i := 51) rfl)), He.free_ok X G (c.facts (List.mem_of_getElem? (i := 52) rfl)), trivial⟩).get x h
    CF := clf_of (file := R.prog.main.file) X G (exs_of e) (exm_of e) (by decide +kernel)
    fv := fv_of (fv := fv) (T := T) (K := K) fvok
    fa := fa_of (fv := fv) (T := T) (K := K) fvok
    gcd := gcd_of X G (gcds_of e)
    gn := fun x f h => (show AllT (fun x f => GnRec (wdOf R.prog w K mg base xs ts fv cl) P T x f ∧ NoSt (wdOf R.prog w K mg base xs ts fv cl)) T.gens from ⟨⟨rec_each_in X G c e, noSt_of (nost_of e)⟩, ⟨rec_each_word X G c e, noSt_of (nost_of e)⟩, trivial⟩).get x f h
    lc := fun x f g h => (show AllT (fun x (q : Nat × Nat) => LcRec (wdOf R.prog w K mg base xs ts fv cl) (clN xs) P T x q.1 q.2) T.lcs from ⟨rec__law_are_met X G c, trivial⟩).get x (f, g) h }
end
end Pv.K05
end Hd05_
section En05_
set_option maxRecDepth 100000
set_option maxHeartbeats 0
namespace Pv.K05
open Pv PySem PySem.Spec PyProof.Rows L2 PySem.W PySem.Calls
theorem holds_of (hE : ∀ ns : List Int, ns.length ≤ 63 → ∃ out, P.cal 7 32 [.dat (.scr ns)] = .ret (.dat (.bl true)) out) : PySem.Challenge.rw_stepletters_k05_errors_of_words.Holds := by
  w_on; o_law
  refine HandSHeadRun.head_any (r := R) (q := view R.prog [53]) (H := hk) (ob := ob) (M := 60000) (loose := loose) (d := HandSHeadRun.topDef R.prog 53) (kwd := []) ob_eq
    (by kernel_rfl) (fun s => by kernel_rfl) run (by kernel_rfl) (by kernel_rfl) (by kernel_rfl) (by rfl) (by first | assumption | decide +kernel) (by decide +kernel) ⟨rfl, rfl, rfl, rfl, rfl, by decide +kernel⟩ ?hw ?hc
  case hw => w_witness2
  case hc =>
    refine walk_pv (l := PySem.Challenge.rw_stepletters_k05_errors_of_words) (n := 63) (m := 4) (L := 7) (i := 32) (gf := true) (P := P) (T := T) (xs := xs) (ts := ts) (fv := fv) (fa := fa) (fns := fn) (tf := tf) (ex := exK) rfl (by decide) (by kernel_rfl) (by kernel_rfl) ⟨rfl, by decide, by decide⟩ (by kernel_rfl) rfl ?R hE
    intro w K base mg X G c e TB cl
    exact tb X G c e TB
end Pv.K05
end En05_
theorem PySem.Challenge.cw_stepletters_k05_errors_of_words_holds : PySem.Challenge.rw_stepletters_k05_errors_of_words.Holds :=
  Pv.K05.holds_of fun ns _ => Pv.K05.law_ok ns
