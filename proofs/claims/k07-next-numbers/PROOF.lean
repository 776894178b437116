import PyProof.Rows.All
import Wide.All
import OpenK.AllK
import Wide.FinOn
import PyProof.P3Statements
import HandS.ForMost
import HandS.ForExc
import HandS.TryMany
import HandS.ExcIs
import HandS.IsInst
import HandS.Zip
import HandS.TupAny
import HandS.TupMul
import HandS.Style
import HandS.Deep
import HandS.Conv
import HandS.TupLen
import HandS.Strs
import HandS.SetFor
import HandS.CallSlots
import HandS.Flow
import KE.KTupSum
import KE.GoesEnum
import HandS.SortRule
import HandS.TupSets
import HandS.FStr
import HandS.Text
import HandS.HeadHook1
import PySem.Challenge.RW_rowrepairs_k07_whole_next_numbers
set_option linter.all false
set_option Elab.async false
/-! A small language over PyData, with value semantics. -/
namespace Rr
open PySem

abbrev D := PyData
abbrev S := List (Option D)
abbrev LIM : Nat := 1000000

/-- what an expression comes to -/
inductive R (a : Type) where
  | ok (x : a)
  | ex (c : Str) (p : Option D)
  | bad

namespace R
def bind {a b : Type} : R a → (a → R b) → R b
  | .ok x, f => f x
  | .ex c p, _ => .ex c p
  | .bad, _ => .bad
@[simp] theorem bind_ok {a b : Type} (x : a) (f : a → R b) : (R.ok x).bind f = f x := Eq.trans rfl rfl
@[simp] theorem bind_ex {a b : Type} (c : Str) (p : Option D) (f : a → R b) : (R.ex c p : R a).bind f = .ex c p := Eq.trans rfl rfl
@[simp] theorem bind_bad {a b : Type} (f : a → R b) : (R.bad : R a).bind f = .bad := Eq.trans rfl rfl
def ofOpt {a : Type} : Option a → R a
  | some x => .ok x
  | none => .bad
@[simp] theorem ofOpt_some {a : Type} (x : a) : ofOpt (some x) = .ok x := Eq.trans rfl rfl
/-- no exception may leave here -/
def calm {a : Type} : R a → R a
  | .ex _ _ => .bad
  | r => r
@[simp] theorem calm_ok {a : Type} (x : a) : (R.ok x).calm = .ok x := Eq.trans rfl rfl
@[simp] theorem calm_ex {a : Type} (c : Str) (p : Option D) : (R.ex c p : R a).calm = .bad := Eq.trans rfl rfl
end R

inductive Op where | add | sub | mul | fdiv | mod | pow
inductive Cp where | eq | ne | lt | le | gt | ge | isn | isnn | inn | nin
/-- built-in functions -/
inductive Bi where | len | sum | max | min | max2 | min2 | list | tuple | sorted | sortedSet | int | str | listRange | listValues
/-- methods -/
inductive Mt where | index | sindex | count | tcount | join | split
inductive Ty where | int | bool | tuple | str | list
inductive Tg where
  | one (i : Nat)
  | two (i j : Nat)

mutual
inductive Ex where
  | var (i : Nat)
  | cst (d : D)
  | glb (x : Str)
  | bin (o : Op) (a b : Ex)
  | neg (i : Nat)
  | cmp (o : Cp) (a b : Ex)
  | lele (a b c : Ex)
  | and (a b : Ex)
  | or (a b : Ex)
  | not (a : Ex)
  | ite (c a b : Ex)
  | call (f : Str) (es : Es)
  | bi (f : Bi) (es : Es)
  | mt (m : Mt) (o e : Ex)
  | isi (a : Ex) (t : Ty)
  | sub (a i : Ex)
  | slc (a lo hi : Ex)
  | slo (a lo : Ex)
  | shi (a hi : Ex)
  | rev (a : Ex)
  | stp (a s : Ex)
  | lrg (a : Ex)
  | tup (es : Es)
  | lst (es : Es)
  | dic
  | lc (t : Tg) (it : It) (ifs : Es) (e : Ex)
  | lck (t : Tg) (i : Nat) (ifs : Es) (e : Ex)
  | sset (a : Ex)
  | dvl (i : Nat)
  | fst (pre : Str) (e : Ex) (post : Str)
inductive Es where
  | nil
  | cons (e : Ex) (es : Es)
inductive It where
  | seq (e : Ex)
  | keys (e : Ex)
  | rng (a : Ex)
  | rng2 (a b : Ex)
  | enm (e : Ex)
  | zip (a b : Ex)
end

/-- a clause: except C as e: return a if isinstance(e, Y) and not isinstance(e, M) else b -/
structure Hd where
  c : Str
  i : Nat
  y : Str
  m : Str
  a : D
  b : D

mutual
inductive St where
  | asg (i : Nat) (e : Ex)
  | own (i : Nat) (e : Ex)
  | dnew (i : Nat)
  | frz (i : Nat)
  | unp (is : List Nat) (e : Ex)
  | par2 (i j : Nat) (a b : Ex)
  | par3 (i j k : Nat) (a b c : Ex)
  | paro (i j : Nat) (a : Ex) (sw : Bool)
  | aug (o : Op) (i : Nat) (e : Ex)
  | sti (i : Nat) (k e : Ex)
  | st2 (i : Nat) (k l a b : Ex)
  | app (i : Nat) (e : Ex)
  | ext (i : Nat) (e : Ex)
  | apop (i j : Nat) (c e : Ex)
  | exp (e : Ex)
  | iff (c : Ex) (a b : Ss)
  | whl (c : Ex) (a : Ss)
  | fr (t : Tg) (it : It) (a : Ss)
  | ret (e : Ex)
  | rse (c : Str) (m : Str)
  | trh (a : Ss) (hs : List Hd)
  | pass
inductive Ss where
  | nil
  | cons (s : St) (r : Ss)
end

/-! ### the operations -/
def tupI (l : List Int) : D := .tuple (l.map .int)
def lstI (l : List Int) : D := .list (l.map .int)
/-- a list of ints that comes from outside -/
def scrD (l : List Int) : D := .dict [(.none, .list (l.map .int))]

/-- a tuple of ints of the module -/
def ktD (l : List Int) : D := .dict [(.bool true, .tuple (l.map .int))]

def repD (k : Int) (l : List D) : List D := (List.replicate k.toNat l).flatten

def opD : Op → D → D → R D
  | .add, .int i, .int j => .ok (.int (i + j))
  | .add, .str a, .str b => if a.length + b.length ≤ LIM then .ok (.str (a ++ b)) else .bad
  | .add, .tuple a, .tuple b => if a.length + b.length ≤ LIM then .ok (.tuple (a ++ b)) else .bad
  | .add, .list a, .list b => if a.length + b.length ≤ LIM then .ok (.list (a ++ b)) else .bad
  | .sub, .int i, .int j => .ok (.int (i - j))
  | .mul, .int i, .int j => if (-(2 ^ 63) < i ∧ i < 2 ^ 63) ∨ (-(2 ^ 63) < j ∧ j < 2 ^ 63) then .ok (.int (i * j)) else .bad
  | .mul, .tuple a, .int k => if -1000 ≤ k ∧ k ≤ 1000 ∧ a.length ≤ 1000 then .ok (.tuple (repD k a)) else .bad
  | .mul, .list a, .int k => if -(2 ^ 62) ≤ k ∧ k < 2 ^ 62 ∧ a.length * k.toNat ≤ LIM then .ok (.list (repD k a)) else .bad
  | .fdiv, .int i, .int j => if 0 < j ∧ j < 1000000000 then .ok (.int (i / j)) else .bad
  | .mod, .int i, .int j => if 0 < j then .ok (.int (i % j)) else .bad
  | .pow, .int i, .int j => if 0 ≤ j ∧ j ≤ 1000 ∧ i.natAbs < 1000000 then .ok (.int (i ^ j.toNat)) else .bad
  | _, _, _ => .bad

/-- no dict, depth at most n -/
def shp : Nat → D → Bool
  | _, .none => true
  | _, .bool _ => true
  | _, .int _ => true
  | _, .str x => PyData.strOk x
  | n + 1, .list l => l.all (shp n)
  | n + 1, .tuple l => l.all (shp n)
  | 0, .list _ => false
  | 0, .tuple _ => false
  | _, .dict _ => false

def flat : D → Bool
  | .none => true
  | .bool _ => true
  | .int _ => true
  | .str _ => true
  | _ => false

/-- the ints of a list of ints -/
def intsOf : List D → Option (List Int)
  | [] => some []
  | .int i :: r => (intsOf r).map (i :: ·)
  | _ :: _ => none
/-- the tuples of ints of a list -/
def tupsOf : List D → Option (List (List Int))
  | [] => some []
  | .tuple t :: r => match intsOf t, tupsOf r with
    | some k, some ks => some (k :: ks)
    | _, _ => none
  | _ :: _ => none
def strsOf : List D → Option (List Str)
  | [] => some []
  | .str i :: r => (strsOf r).map (i :: ·)
  | _ :: _ => none

/-- the key of an entry -/
def keyIs (k : List Int) : D → Bool
  | .tuple t => decide (intsOf t = some k)
  | _ => false
def dGet (k : List Int) : List (D × D) → Option D
  | [] => none
  | e :: r => if keyIs k e.1 then some e.2 else dGet k r
def dPut (k : List Int) (v : D) (es : List (D × D)) : List (D × D) :=
  if (dGet k es).isSome then es.map (fun e => if keyIs k e.1 then (e.1, v) else e) else es ++ [(tupI k, v)]

/-- the one sign of a text -/
def sign (z : Str) : Option Nat := match z.cps.toList with
  | [c] => some c
  | _ => none
def eqD (a b : D) : R Bool := if shp 8 a && shp 8 b then .ok (PyData.eqv a b) else .bad
def inD : D → D → R Bool
  | x, .list l => if shp 8 x && shp 8 (.list l) then .ok (l.any fun y => PyData.eqv y x) else .bad
  | x, .tuple l => if flat x && l.all flat then .ok (l.any fun y => PyData.eqv y x) else .bad
  | x, .dict [(.bool true, .tuple l)] => if flat x && l.all flat then .ok (l.any fun y => PyData.eqv y x) else .bad
  | .str a, .str z => match sign a with
    | some c => .ok (decide (c ∈ z.cps.toList))
    | none => .bad
  | .tuple t, .dict kvs => match intsOf t, tupsOf (kvs.map (·.1)) with
    | some k, some _ => .ok (dGet k kvs).isSome
    | _, _ => .bad
  | _, _ => .bad

def isNone : D → Bool
  | .none => true
  | _ => false
def cpD : Cp → D → D → R Bool
  | .eq, a, b => eqD a b
  | .ne, a, b => (eqD a b).bind fun x => .ok (!x)
  | .lt, .int i, .int j => .ok (decide (i < j))
  | .le, .int i, .int j => .ok (decide (i ≤ j))
  | .gt, .int i, .int j => .ok (decide (j < i))
  | .ge, .int i, .int j => .ok (decide (j ≤ i))
  | .isn, a, .none => .ok (isNone a)
  | .isnn, a, .none => .ok (!isNone a)
  | .inn, a, b => inD a b
  | .nin, a, b => (inD a b).bind fun x => .ok (!x)
  | _, _, _ => .bad

def truD : D → R Bool
  | .bool b => .ok b
  | .list l => .ok (!l.isEmpty)
  | .tuple l => .ok (!l.isEmpty)
  | _ => .bad

def ixI (n : Nat) (i : Int) : Option Nat := if 0 ≤ i then (if i < n then some i.toNat else none) else if -(n : Int) ≤ i then some (i + n).toNat else none
def nthD (l : List D) (i : Int) : R D := R.ofOpt ((ixI l.length i).bind fun j => l[j]?)
def subD : D → D → R D
  | .list l, .int i => nthD l i
  | .tuple l, .int i => nthD l i
  | .str z, .int i => if z.length ≤ LIM then R.ofOpt (((ixI z.cps.toList.length i).bind fun j => z.cps.toList[j]?).map fun c => .str ⟨#[c]⟩) else .bad
  | .dict [(.none, .list l)], .int i => nthD l i
  | .dict kvs, .tuple t => match intsOf t with
    | some k => R.ofOpt (dGet k kvs)
    | none => .bad
  | _, _ => .bad

def sIx (n d : Nat) : Option Int → Nat
  | none => d
  | some v => if v < 0 then (v + (n : Int)).toNat else min v.toNat n
def cut {a : Type} (xs : List a) (lo hi : Option Int) : List a := (xs.drop (sIx xs.length 0 lo)).take (sIx xs.length xs.length hi - sIx xs.length 0 lo)
def slcD (lo hi : Option Int) : D → R D
  | .list l => .ok (.list (cut l lo hi))
  | .tuple l => .ok (.tuple (cut l lo hi))
  | .str z => if z.length ≤ LIM then .ok (.str ⟨(cut z.cps.toList lo hi).toArray⟩) else .bad
  | _ => .bad
def boolD : D → R Bool
  | .bool b => .ok b
  | _ => .bad
@[simp] theorem boolD_bool (b : Bool) : boolD (.bool b) = .ok b := Eq.trans rfl rfl
def intD : D → R Int
  | .int i => .ok i
  | _ => .bad
@[simp] theorem intD_int (i : Int) : intD (.int i) = .ok i := Eq.trans rfl rfl
def revD : D → R D
  | .list l => .ok (.list l.reverse)
  | .tuple l => .ok (.tuple l.reverse)
  | _ => .bad
/-- every k-th item, from the first on -/
def every (k : Nat) (l : List D) : List D := (List.range ((l.length + k - 1) / k)).filterMap fun (j : Nat) => l[j * k]?
def stpD : D → Int → R D
  | .tuple l, k => if 1 ≤ k ∧ k ≤ 1000 then .ok (.tuple (every k.toNat l)) else .bad
  | _, _ => .bad

def isiD : D → Ty → R Bool
  | .none, _ => .ok false
  | .bool _, .int => .ok true
  | .bool _, .bool => .ok true
  | .int _, .int => .ok true
  | .str _, .str => .ok true
  | .tuple _, .tuple => .ok true
  | .list _, .list => .ok true
  | .dict _, _ => .bad
  | _, _ => .ok false

/-- the order of tuples of ints -/
def ltL : List Int → List Int → Bool
  | [], [] => false
  | [], _ :: _ => true
  | _ :: _, [] => false
  | a :: x, b :: y => if a = b then ltL x y else decide (a < b)
def lexLe (a b : List Int) : Bool := !ltL b a
def sortT (ks : List (List Int)) : List (List Int) := ks.mergeSort lexLe
def maxI : List Int → Int
  | [] => 0
  | [x] => x
  | x :: r => let m := maxI r; if x < m then m else x
def minI : List Int → Int
  | [] => 0
  | [x] => x
  | x :: r => let m := minI r; if m < x then m else x
/-- the ints below 64, once each, ascending (the items of a set of small ints) -/
def uniq (ks : List Int) : List Int := (List.range 64).filterMap fun (n : Nat) => if (n : Int) ∈ ks then some (n : Int) else none
def rangeI (lo : Int) (n : Nat) : List Int := (List.range n).map fun (k : Nat) => lo + (k : Int)

def biD : Bi → List D → R D
  | .len, [.list l] => .ok (.int l.length)
  | .len, [.tuple l] => .ok (.int l.length)
  | .len, [.str z] => if z.length ≤ LIM then .ok (.int z.length) else .bad
  | .len, [.dict [(.none, .list l)]] => .ok (.int l.length)
  | .len, [.dict [(.bool true, .tuple _)]] => .bad
  | .len, [.dict l] => .ok (.int l.length)
  | .sum, [.list l] => match intsOf l with
    | some ks => .ok (.int ks.sum)
    | none => .bad
  | .sum, [.tuple l] => match intsOf l with
    | some ks => .ok (.int ks.sum)
    | none => .bad
  | .max, [.list l] => match intsOf l with
    | some (k :: ks) => .ok (.int (maxI (k :: ks)))
    | _ => .bad
  | .min, [.list l] => match intsOf l with
    | some (k :: ks) => .ok (.int (minI (k :: ks)))
    | _ => .bad
  | .max2, [.int i, .int j] => .ok (.int (if j > i then j else i))
  | .min2, [.int i, .int j] => .ok (.int (if j < i then j else i))
  | .list, [.list l] => .ok (.list l)
  | .list, [.tuple l] => .ok (.list l)
  | .tuple, [.list l] => .ok (.tuple l)
  | .tuple, [.tuple l] => .ok (.tuple l)
  | .sorted, [.list l] => match tupsOf l with
    | some ks => if ks.length ≤ LIM ∧ (ks.length < 2 ∨ ks.all (fun k => !k.isEmpty) = true) then .ok (.list ((sortT ks).map tupI)) else .bad
    | none => .bad
  | .sorted, [.dict l] => match tupsOf (l.map (·.1)) with
    | some ks => if ks.length ≤ LIM ∧ (ks.length < 2 ∨ ks.all (fun k => !k.isEmpty) = true) then .ok (.list ((sortT ks).map tupI)) else .bad
    | none => .bad
  | .sortedSet, [.list l] => match intsOf l with
    | some ks => if ks.all (fun k => decide (0 ≤ k ∧ k < 63)) && decide (ks.length ≤ 4000) then .ok (lstI (uniq ks)) else .bad
    | none => .bad
  | .int, [.int i] => .ok (.int i)
  | .int, [.bool b] => .ok (.int (if b then 1 else 0))
  | .str, [.int i] => if i.natAbs < 1000000000 then .ok (.str (toString i)) else .bad
  | .listRange, [.int j] => if -(2 ^ 30) ≤ j ∧ j ≤ 1000000 then .ok (lstI (rangeI 0 j.toNat)) else .bad
  | .listValues, [.dict l] => match tupsOf (l.map (·.1)) with
    | some _ => .ok (.list (l.map (·.2)))
    | none => .bad
  | _, _ => .bad

/-- the first place of an item -/
def idxOf (x : D) : List D → Option Nat
  | [] => none
  | y :: r => if PyData.eqv y x then some 0 else (idxOf x r).map (· + 1)
/-- the pieces between the signs c -/
def splitC (c : Nat) : List Nat → List (List Nat)
  | [] => [[]]
  | x :: r => if x = c then [] :: splitC c r else match splitC c r with
    | [] => [[x]]
    | p :: ps => (x :: p) :: ps
def mtD : Mt → D → D → R D
  | .index, .list l, x => if shp 8 x && shp 8 (.list l) then (R.ofOpt (idxOf x l)).bind fun n => .ok (.int n) else .bad
  | .sindex, .str z, .str a => match sign a with
    | some c => (R.ofOpt (z.cps.toList.findIdx? (· == c))).bind fun n => .ok (.int n)
    | none => .bad
  | .count, .list l, x => if flat x && l.all flat then .ok (.int (l.countP fun y => PyData.eqv y x)) else .bad
  | .tcount, .tuple l, x => if flat x && l.all flat then .ok (.int (l.countP fun y => PyData.eqv y x)) else .bad
  | .join, .str z, .list l => match strsOf l with
    | some xs => if xs.length ≤ 1000 ∧ z.length ≤ 10 ∧ xs.all (fun x => decide (x.length ≤ 1000)) then .ok (.str (Str.join z xs)) else .bad
    | none => .bad
  | .split, .str z, .str a => match sign a with
    | some c => if z.length ≤ LIM then .ok (.list ((splitC c z.cps.toList).map fun p => .str ⟨p.toArray⟩)) else .bad
    | none => .bad
  | _, _, _ => .bad

def bindT : Tg → D → S → R S
  | .one i, d, s => .ok (s.set i (some d))
  | .two i j, .tuple [a, b], s => .ok ((s.set i (some a)).set j (some b))
  | _, _, _ => .bad

/-! ### the evaluator -/
def getV (s : S) (i : Nat) : R D := match s[i]? with
  | some (some d) => .ok d
  | _ => .bad
structure Env where
  fn : Str → Option (List D → R D)
  gl : Str → Option D
  sub : Str → Str → Bool
  cs : List Str

def lcL (bind : D → R S) (tst : S → R Bool) (el : S → R D) : List D → R (List D)
  | [] => .ok []
  | d :: r => (bind d).bind fun s => (tst s).calm.bind fun b => if b then (el s).calm.bind fun y => (lcL bind tst el r).bind fun ys => .ok (y :: ys) else lcL bind tst el r

def enumL (n : Nat) : List D → List D
  | [] => []
  | x :: r => .tuple [.int n, x] :: enumL (n + 1) r
def zipL : List D → List D → List D
  | x :: r, y :: q => .tuple [x, y] :: zipL r q
  | _, _ => []
def keysD : D → R (List D)
  | .dict l => match tupsOf (l.map (·.1)) with
    | some _ => .ok (l.map (·.1))
    | none => .bad
  | _ => .bad
def seqE : D → R (List D)
  | .list l => .ok l
  | .tuple l => .ok l
  | .dict [(.bool true, .tuple l)] => .ok l
  | _ => .bad
def rngD (lo hi : Int) : R (List D) :=
  if -(2 ^ 61) ≤ lo ∧ lo < 2 ^ 61 ∧ -(2 ^ 61) ≤ hi ∧ hi < 2 ^ 61 then .ok ((rangeI lo (hi - lo).toNat).map .int) else .bad

mutual
def evE (G : Env) : Ex → S → R D
  | .var i, s => match s[i]? with
    | some (some d) => .ok d
    | _ => .bad
  | .cst d, _ => .ok d
  | .glb x, _ => R.ofOpt (G.gl x)
  | .bin o a b, s => (evE G a s).bind fun x => (evE G b s).bind fun y => opD o x y
  | .neg i, _ => .ok (.int (-(i : Int)))
  | .cmp o a b, s => (evE G a s).bind fun x => (evE G b s).bind fun y => (cpD o x y).bind fun k => .ok (.bool k)
  | .lele a b c, s => (evE G a s).bind fun x => (evE G b s).bind fun y => (cpD .le x y).bind fun k => if k then (evE G c s).bind fun z => (cpD .le y z).bind fun l => .ok (.bool l) else .ok (.bool false)
  | .and a b, s => (evE G a s).bind fun x => (boolD x).bind fun k => if k then (evE G b s).bind fun y => (boolD y).bind fun l => .ok (.bool l) else .ok (.bool false)
  | .or a b, s => (evE G a s).bind fun x => (boolD x).bind fun k => if k then .ok (.bool true) else (evE G b s).bind fun y => (boolD y).bind fun l => .ok (.bool l)
  | .not a, s => (evE G a s).bind fun x => (truD x).bind fun k => .ok (.bool (!k))
  | .ite c a b, s => (evE G c s).bind fun x => (truD x).bind fun k => if k then evE G a s else evE G b s
  | .call f es, s => (evEs G es s).bind fun xs => match G.fn f with
    | some g => g xs
    | none => .bad
  | .bi f es, s => (evEs G es s).bind fun xs => biD f xs
  | .mt m o e, s => (evE G o s).bind fun x => (evE G e s).calm.bind fun y => mtD m x y
  | .isi a t, s => (evE G a s).bind fun x => (isiD x t).bind fun k => .ok (.bool k)
  | .sub a i, s => (evE G a s).bind fun x => (evE G i s).bind fun y => subD x y
  | .slc a lo hi, s => (evE G a s).bind fun x => (evE G lo s).bind fun l => (intD l).bind fun i => (evE G hi s).bind fun h => (intD h).bind fun j => slcD (some i) (some j) x
  | .slo a lo, s => (evE G a s).bind fun x => (evE G lo s).bind fun l => (intD l).bind fun i => slcD (some i) none x
  | .shi a hi, s => (evE G a s).bind fun x => (evE G hi s).bind fun h => (intD h).bind fun j => slcD none (some j) x
  | .rev a, s => (evE G a s).bind revD
  | .stp a k, s => (evE G a s).bind fun x => (evE G k s).bind fun y => (intD y).bind fun i => stpD x i
  | .lrg a, s => (evE G a s).bind fun x => biD .listRange [x]
  | .tup es, s => (evEs G es s).bind fun xs => .ok (.tuple xs)
  | .lst es, s => (evEs G es s).bind fun xs => .ok (.list xs)
  | .dic, _ => .ok (.dict [])
  | .lc t it ifs e, s => (evI G it s).bind fun ds => if ds.length ≤ LIM then (lcL (fun d => bindT t d s) (fun s' => evT G ifs s') (fun s' => evE G e s') ds).bind fun ys => .ok (.list ys) else .bad
  | .lck t i ifs e, s => ((getV s i).bind keysD).bind fun ds => if ds.length ≤ LIM then (lcL (fun d => bindT t d s) (fun s' => evT G ifs s') (fun s' => evE G e s') ds).bind fun ys => .ok (.list ys) else .bad
  | .sset a, s => (evE G a s).bind fun x => biD .sortedSet [x]
  | .dvl i, s => (getV s i).bind fun x => biD .listValues [x]
  | .fst p e q, s => (evE G e s).bind fun x => match x with
    | .int i => if 0 ≤ i ∧ i < 1000000 ∧ (Str.empty ++ p).length ≤ LIM ∧ (Str.empty ++ p ++ toString i).length ≤ LIM ∧ (Str.empty ++ p ++ toString i ++ q).length ≤ LIM then .ok (.str (Str.empty ++ p ++ toString i ++ q)) else .bad
    | _ => .bad
def evEs (G : Env) : Es → S → R (List D)
  | .nil, _ => .ok []
  | .cons e r, s => (evE G e s).bind fun x => (evEs G r s).bind fun xs => .ok (x :: xs)
/-- all of some tests -/
def evT (G : Env) : Es → S → R Bool
  | .nil, _ => .ok true
  | .cons e r, s => (evE G e s).bind fun x => (truD x).bind fun k => if k then evT G r s else .ok false
def evI (G : Env) : It → S → R (List D)
  | .seq e, s => (evE G e s).bind seqE
  | .keys e, s => (evE G e s).bind keysD
  | .rng a, s => (evE G a s).bind fun x => (intD x).bind fun j => rngD 0 j
  | .rng2 a b, s => (evE G a s).bind fun x => (evE G b s).bind fun y => (intD x).bind fun i => (intD y).bind fun j => rngD i j
  | .enm e, s => (evE G e s).bind fun x => (seqE x).bind fun l => .ok (enumL 0 l)
  | .zip a b, s => (evE G a s).bind fun x => (evE G b s).bind fun y => (seqE x).bind fun l => (seqE y).bind fun m => .ok (zipL l m)
end

/-- what a statement comes to -/
inductive Q where
  | nx (s : S)
  | rt (d : D)
  | ex (c : Str) (p : Option D)
  | bad

def R.go {a : Type} : R a → (a → Q) → Q
  | .ok x, f => f x
  | .ex c p, _ => .ex c p
  | .bad, _ => .bad
@[simp] theorem R.go_ok {a : Type} (x : a) (f : a → Q) : (R.ok x).go f = f x := Eq.trans rfl rfl
@[simp] theorem R.go_ex {a : Type} (c : Str) (p : Option D) (f : a → Q) : (R.ex c p : R a).go f = .ex c p := Eq.trans rfl rfl
@[simp] theorem R.go_bad {a : Type} (f : a → Q) : (R.bad : R a).go f = .bad := Eq.trans rfl rfl
def Q.go : Q → (S → Q) → Q
  | .nx s, f => f s
  | .rt d, _ => .rt d
  | .ex c p, _ => .ex c p
  | .bad, _ => .bad
@[simp] theorem Q.go_nx (s : S) (f : S → Q) : (Q.nx s).go f = f s := Eq.trans rfl rfl
@[simp] theorem Q.go_rt (d : D) (f : S → Q) : (Q.rt d).go f = .rt d := Eq.trans rfl rfl
@[simp] theorem Q.go_ex (c : Str) (p : Option D) (f : S → Q) : (Q.ex c p).go f = .ex c p := Eq.trans rfl rfl
@[simp] theorem Q.go_bad (f : S → Q) : Q.bad.go f = .bad := Eq.trans rfl rfl

def forL (bind : D → S → R S) (body : S → Q) : List D → S → Q
  | [], s => .nx s
  | d :: r, s => (bind d s).go fun s1 => (body s1).go fun s2 => forL bind body r s2
def whL (test : S → R Bool) (body : S → Q) : Nat → S → Q
  | 0, _ => .bad
  | n + 1, s => (test s).go fun b => if b then (body s).go fun s1 => whL test body n s1 else .nx s

def unpL : List Nat → List D → S → Q
  | [], [], s => .nx s
  | i :: is, d :: ds, s => unpL is ds (s.set i (some d))
  | _, _, _ => .bad
/-- x[k] = v -/
def putD : D → D → D → R D
  | .list l, .int k, v => match ixI l.length k with
    | some j => .ok (.list (l.set j v))
    | none => .bad
  | .dict kvs, .tuple t, v => match intsOf t, flat v with
    | some k, true => if kvs.length ≤ LIM then .ok (.dict (dPut k v kvs)) else .bad
    | _, _ => .bad
  | _, _, _ => .bad
def listD : D → R D
  | .list l => .ok (.list l)
  | _ => .bad
@[simp] theorem listD_list (l : List D) : listD (.list l) = .ok (.list l) := Eq.trans rfl rfl
def appD : D → D → R D
  | .list l, x => if l.length ≤ LIM then .ok (.list (l ++ [x])) else .bad
  | _, _ => .bad
def extD : D → D → R D
  | .list l, .list m => if l.length + m.length ≤ LIM then .ok (.list (l ++ m)) else .bad
  | _, _ => .bad

def hdQ (G : Env) (c : Str) (p : Option D) : List Hd → Q
  | [] => .ex c p
  | h :: r => if !(decide (c ∈ G.cs) && decide (p.isNone = true)) then .bad else if G.sub c h.c then (if G.sub c h.y && !G.sub c h.m then .rt h.a else .rt h.b) else hdQ G c p r

mutual
def evS (G : Env) (N : Nat) : St → S → Q
  | .asg i e, s => (evE G e s).go fun d => .nx (s.set i (some d))
  | .own i e, s => ((evE G e s).bind listD).go fun d => .nx (s.set i (some d))
  | .dnew i, s => .nx (s.set i (some (.dict [])))
  | .frz _, s => .nx s
  | .unp is e, s => (evE G e s).go fun d => match d with
    | .tuple ds => unpL is ds s
    | _ => .bad
  | .par2 i j a b, s => (evE G a s).go fun x => (evE G b s).go fun y => .nx ((s.set i (some x)).set j (some y))
  | .par3 i j k a b c, s => (evE G a s).go fun x => (evE G b s).go fun y => (evE G c s).go fun z => .nx (((s.set i (some x)).set j (some y)).set k (some z))
  | .paro i j a _, s => (evE G a s).go fun x => .nx ((s.set i (some x)).set j (some (.list [])))
  | .aug o i e, s => (getV s i).go fun x => (evE G e s).go fun y => match x, y with
    | .int m, .int n => (opD o (.int m) (.int n)).go fun z => .nx (s.set i (some z))
    | _, _ => .bad
  | .sti i k e, s => (evE G e s).go fun v => (getV s i).go fun x => (evE G k s).go fun y => (putD x y v).go fun z => .nx (s.set i (some z))
  | .st2 i k l a b, s => (evE G a s).go fun v => (evE G b s).go fun w => (getV s i).go fun x => (evE G k s).go fun y => (putD x y v).go fun z =>
      (evE G l (s.set i (some z))).go fun u => (putD z u w).go fun z2 => .nx (s.set i (some z2))
  | .app i e, s => (getV s i).go fun x => (evE G e s).go fun y => (appD x y).go fun z => .nx (s.set i (some z))
  | .ext i e, s => (getV s i).go fun x => (evE G e s).go fun y => (extD x y).go fun z => .nx (s.set i (some z))
  | .apop i j c e, s => (getV s i).go fun x => (evE G c s).go fun k => (truD k).go fun b =>
      if b then (getV s j).go fun q => match q with
        | .list (h :: r) => (appD x h).go fun z => .nx ((s.set j (some (.list r))).set i (some z))
        | _ => .bad
      else (evE G e s).go fun y => (appD x y).go fun z => .nx (s.set i (some z))
  | .exp e, s => (evE G e s).go fun _ => .nx s
  | .iff c a b, s => (evE G c s).go fun x => (truD x).go fun k => if k then evSs G N a s else evSs G N b s
  | .whl c a, s => whL (fun s' => (evE G c s').bind truD) (fun s' => evSs G N a s') N s
  | .fr t it a, s => (evI G it s).go fun ds => forL (fun d s' => bindT t d s') (fun s' => evSs G N a s') ds s
  | .ret e, s => (evE G e s).go fun d => .rt d
  | .rse c _, _ => .ex c none
  | .trh a hs, s => match evSs G N a s with
    | .ex c p => hdQ G c p hs
    | q => q
  | .pass, s => .nx s
def evSs (G : Env) (N : Nat) : Ss → S → Q
  | .nil, s => .nx s
  | .cons x r, s => (evS G N x s).go fun s' => evSs G N r s'
end

structure Def where
  names : List Str
  np : Nat
  body : Ss

def Q.out : Q → R D
  | .nx _ => .ok .none
  | .rt d => .ok d
  | .ex c p => .ex c p
  | .bad => .bad

def start (d : Def) (args : List D) : S := args.map some ++ List.replicate (d.names.length - args.length) none
def runD (G : Env) (N : Nat) (d : Def) (args : List D) : R D := if args.length = d.np then (evSs G N d.body (start d args)).out else .bad
end Rr

set_option linter.all false
set_option Elab.async false
set_option maxRecDepth 100000
/-! Reading data off the abstract heap. -/
namespace Rr
open PySem PySem.Spec PyProof.Rows L2

mutual
inductive Dr (K : PySem.W.Frag) (F : Hp) : V → D → Prop
  | non : Dr K F .non .none
  | bl (b : Bool) : Dr K F (.bl b) (.bool b)
  | int (i : Int) : Dr K F (.int i) (.int i)
  | str (x : Str) : Dr K F (.str x) (.str x)
  | lst {a : Addr} {xs : List V} {ds : List D} : F a = some (.lst xs) → DrAll K F xs ds → Dr K F (.ref a) (.list ds)
  | scr {a : Addr} {ns : List Int} : SqL K F a (ns.map V.int) → Dr K F (.ref a) (scrD ns)
  | kt {a : Addr} {ns : List Int} : SqT K F a (ns.map V.int) → Dr K F (.ref a) (ktD ns)
  | tup {a : Addr} {xs : List V} {ds : List D} : F a = some (.tup xs) → DrAll K F xs ds → Dr K F (.ref a) (.tuple ds)
inductive DrAll (K : PySem.W.Frag) (F : Hp) : List V → List D → Prop
  | nil : DrAll K F [] []
  | cons {v : V} {vs : List V} {d : D} {ds : List D} : Dr K F v d → DrAll K F vs ds → DrAll K F (v :: vs) (d :: ds)
end

theorem rd_mono {F H : Hp} (s : Same F H) {a : Addr} {o : HO} (h : Rd F a o) : Rd H a o := by
  rcases h with h | ⟨u, h⟩
  · exact .inl (s _ _ h)
  · exact .inr ⟨u, s _ _ h⟩
theorem rd_upd {H : Hp} {a p : Addr} {u o : HO} (n : a ≠ p) (h : Rd H a u) : Rd (upd H p o) a u := by
  rcases h with h | ⟨w, h⟩
  · exact .inl (by rw [upd_ne n]; exact h)
  · exact .inr ⟨w, by rw [upd_ne n]; exact h⟩
theorem sqT_mono {K : PySem.W.Frag} {F H : Hp} (s : Same F H) {a : Addr} {xs : List V} (h : SqT K F a xs) : SqT K H a xs := by
  rcases h with h | h
  · exact .inl (rd_mono s h)
  · exact .inr h
mutual
theorem dr_mono {K : PySem.W.Frag} {F H : Hp} (s : Same F H) : ∀ {v : V} {d : D}, Dr K F v d → Dr K H v d
  | _, _, .non => .non
  | _, _, .bl b => .bl b
  | _, _, .int b => .int b
  | _, _, .str b => .str b
  | _, _, .lst h a => .lst (s _ _ h) (drAll_mono s a)
  | _, _, .scr h => .scr (s.seq h)
  | _, _, .kt h => .kt (sqT_mono s h)
  | _, _, .tup h a => .tup (s _ _ h) (drAll_mono s a)
theorem drAll_mono {K : PySem.W.Frag} {F H : Hp} (s : Same F H) : ∀ {v : List V} {d : List D}, DrAll K F v d → DrAll K H v d
  | _, _, .nil => .nil
  | _, _, .cons h a => .cons (dr_mono s h) (drAll_mono s a)
end
mutual
theorem dr_dp {K : PySem.W.Frag} {F : Hp} : ∀ {n : Nat} {v : V} {d : D}, Dr K F v d → shp n d = true → Dp K F v d
  | _, _, _, .non, _ => .non
  | _, _, _, .bl b, _ => .bl b
  | _, _, _, .int b, _ => .int b
  | _, _, _, .str b, _ => .str b
  | n + 1, _, _, .lst h a, e => .lst (.inl (.inl h)) (drAll_dp (n := n) a (by simpa [shp] using e))
  | n + 1, _, _, .tup h a, e => .tup (.inl (.inl h)) (drAll_dp (n := n) a (by simpa [shp] using e))
  | 0, _, _, .lst h a, e => by simp [shp] at e
  | 0, _, _, .tup h a, e => by simp [shp] at e
  | _, _, _, .scr h, e => by simp [shp, scrD] at e
  | _, _, _, .kt h, e => by simp [shp, ktD] at e
theorem drAll_dp {K : PySem.W.Frag} {F : Hp} : ∀ {n : Nat} {v : List V} {d : List D}, DrAll K F v d → (∀ x ∈ d, shp n x = true) → DpAll K F v d
  | _, _, _, .nil, _ => .nil
  | n, _, _, .cons h a, e => .cons (dr_dp (n := n) h (e _ List.mem_cons_self)) (drAll_dp (n := n) a fun x hx => e x (List.mem_cons_of_mem _ hx))
end

theorem DrAll.length {K : PySem.W.Frag} {F : Hp} : ∀ {vs : List V} {ds : List D}, DrAll K F vs ds → vs.length = ds.length
  | _, _, .nil => rfl
  | _, _, .cons _ a => congrArg (· + 1) a.length
theorem DrAll.append {K : PySem.W.Frag} {F : Hp} : ∀ {vs ws : List V} {ds es : List D}, DrAll K F vs ds → DrAll K F ws es → DrAll K F (vs ++ ws) (ds ++ es)
  | _, _, _, _, .nil, b => b
  | _, _, _, _, .cons h a, b => .cons h (a.append b)
theorem DrAll.get {K : PySem.W.Frag} {F : Hp} : ∀ {vs : List V} {ds : List D} {j : Nat} {d : D}, DrAll K F vs ds → ds[j]? = some d → ∃ v, vs[j]? = some v ∧ Dr K F v d
  | _, _, _, _, .nil, e => by simp at e
  | _, _, 0, _, .cons h _, e => by simp at e; subst e; exact ⟨_, rfl, h⟩
  | _, _, j + 1, d, .cons _ a, e => by
    obtain ⟨v, h1, h2⟩ := DrAll.get (j := j) (d := d) a (by simpa using e)
    exact ⟨v, by simpa using h1, h2⟩
theorem DrAll.take {K : PySem.W.Frag} {F : Hp} : ∀ {vs : List V} {ds : List D} (n : Nat), DrAll K F vs ds → DrAll K F (vs.take n) (ds.take n)
  | _, _, 0, _ => by simpa using .nil
  | _, _, _ + 1, .nil => .nil
  | _, _, n + 1, .cons h a => .cons h (a.take n)
theorem DrAll.drop {K : PySem.W.Frag} {F : Hp} : ∀ {vs : List V} {ds : List D} (n : Nat), DrAll K F vs ds → DrAll K F (vs.drop n) (ds.drop n)
  | _, _, 0, r => r
  | _, _, _ + 1, .nil => .nil
  | _, _, n + 1, .cons _ t => t.drop n
theorem DrAll.set {K : PySem.W.Frag} {F : Hp} {x : V} {u : D} (r : Dr K F x u) : ∀ {xs : List V} {us : List D} (i : Nat), DrAll K F xs us → DrAll K F (xs.set i x) (us.set i u)
  | _, _, _, .nil => .nil
  | _, _, 0, .cons _ t => .cons r t
  | _, _, i + 1, .cons q t => .cons q (t.set r i)
theorem DrAll.reverse {K : PySem.W.Frag} {F : Hp} : ∀ {vs : List V} {ds : List D}, DrAll K F vs ds → DrAll K F vs.reverse ds.reverse
  | _, _, .nil => .nil
  | _, _, .cons h a => by
    rw [List.reverse_cons, List.reverse_cons]
    exact a.reverse.append (.cons h .nil)
theorem DrAll.rep {K : PySem.W.Frag} {F : Hp} {vs : List V} {ds : List D} (h : DrAll K F vs ds) : ∀ n : Nat, DrAll K F (List.replicate n vs).flatten (List.replicate n ds).flatten
  | 0 => .nil
  | n + 1 => by
    rw [List.replicate_succ, List.replicate_succ, List.flatten_cons, List.flatten_cons]
    exact h.append (h.rep n)
theorem DrAll.ints {K : PySem.W.Frag} {F : Hp} : ∀ {vs : List V} {ds : List D} {ks : List Int}, DrAll K F vs ds → intsOf ds = some ks → vs = ks.map V.int ∧ ds = ks.map .int
  | _, _, ks, .nil, e => by
    simp [intsOf] at e; subst e; exact ⟨rfl, rfl⟩
  | _, _, ks, .cons h a, e => by
    cases h with
    | int i =>
      simp only [intsOf, Option.map_eq_some_iff] at e
      obtain ⟨r, e, rfl⟩ := e
      obtain ⟨h1, h2⟩ := DrAll.ints a e
      exact ⟨by rw [h1]; rfl, by rw [h2]; rfl⟩
    | non => simp [intsOf] at e
    | bl => simp [intsOf] at e
    | str => simp [intsOf] at e
    | lst => simp [intsOf] at e
    | tup => simp [intsOf] at e
    | scr => simp [intsOf, scrD] at e
    | kt => simp [intsOf, ktD] at e
theorem DrAll.ofInts {K : PySem.W.Frag} {F : Hp} : ∀ ks : List Int, DrAll K F (ks.map V.int) (ks.map .int)
  | [] => .nil
  | k :: r => .cons (.int k) (DrAll.ofInts r)

/-! ### the state -/
structure Own where
  l : List Nat
  d : List Nat
inductive Lv where | cl | sh | dd | dt
  deriving DecidableEq

inductive FlatR : V → D → Prop
  | non : FlatR .non .none
  | bl (b : Bool) : FlatR (.bl b) (.bool b)
  | int (i : Int) : FlatR (.int i) (.int i)
  | str (x : Str) : FlatR (.str x) (.str x)
theorem FlatR.dr {K : PySem.W.Frag} {F : Hp} {v : V} {d : D} (h : FlatR v d) : Dr K F v d := by
  cases h
  · exact .non
  · exact .bl _
  · exact .int _
  · exact .str _
theorem flatR_of {K : PySem.W.Frag} {F : Hp} {v : V} {d : D} (h : Dr K F v d) (e : flat d = true) : FlatR v d := by
  cases h
  · exact .non
  · exact .bl _
  · exact .int _
  · exact .str _
  · simp [flat] at e
  · simp [flat, scrD] at e
  · simp [flat, ktD] at e
  · simp [flat] at e
/-- a dict's entries -/
inductive DicOk : List (List Key × V) → List (D × D) → Prop
  | nil : DicOk [] []
  | cons {k : List Int} {v : V} {d : D} {kvs : List (List Key × V)} {es : List (D × D)} : FlatR v d → DicOk kvs es → DicOk ((k.map Sum.inl, v) :: kvs) ((tupI k, d) :: es)

/-- no tuple -/
def noT : HO → Bool
  | .tup _ => false
  | _ => true
/-- not locked -/
def nFz : HO → Bool
  | .frz _ _ => false
  | _ => true
def Unf (H : Hp) (p : Addr) : Prop := ∃ u, H p = some u ∧ nFz u = true
theorem Unf.mono {H H' : Hp} {p : Addr} (h : Unf H p) (s : Same H H') : Unf H' p := let ⟨u, e, n⟩ := h; ⟨u, s _ _ e, n⟩
theorem Unf.rd {H : Hp} {p : Addr} {u : HO} (h : Unf H p) (r : Rd H p u) : H p = some u := by
  rcases r with r | ⟨ob, r⟩
  · exact r
  · obtain ⟨w, e, n⟩ := h
    rw [r] at e
    cases e
    cases n
/-- nothing there, or a tuple -/
def Fre (H : Hp) (a : Addr) : Prop := H a = none ∨ ∃ xs, H a = some (.tup xs)
theorem Fre.back {H H' : Hp} {a : Addr} (s : Same H H') (h : Fre H' a) : Fre H a := by
  rcases h with h | ⟨xs, h⟩
  · exact .inl (s.free h)
  · cases e : H a with
    | none => exact .inl e
    | some u =>
      have := s _ _ e
      rw [h] at this
      cases this
      exact .inr ⟨xs, e⟩
theorem Fre.no {H : Hp} {a : Addr} {u : HO} (h : Fre H a) (e : H a = some u) (n : noT u = true) : False := by
  rcases h with h | ⟨xs, h⟩
  · rw [e] at h; cases h
  · rw [e] at h; cases h; cases n
structure Ab (K : PySem.W.Frag) (F H : Hp) (sg : L2.St) (o : Own) (s : S) (ps : List Addr) : Prop where
  sub : Same F H
  len : s.length = sg.length
  fz : ∀ i d, s[i]? = some (some d) → i ∉ o.l → i ∉ o.d → ∃ v, sg[i]? = some (some v) ∧ Dr K F v d
  ol : ∀ i d, s[i]? = some (some d) → i ∈ o.l → ∃ p vs ds, sg[i]? = some (some (.ref p)) ∧ p ∈ ps ∧ d = .list ds ∧ H p = some (.lst vs) ∧ DrAll K F vs ds
  od : ∀ i d, s[i]? = some (some d) → i ∈ o.d → ∃ p kvs es, sg[i]? = some (some (.ref p)) ∧ p ∈ ps ∧ d = .dict es ∧ Rd H p (.dT kvs) ∧ DicOk kvs es
  inj : ∀ i j p d e, s[i]? = some (some d) → s[j]? = some (some e) → (i ∈ o.l ∨ i ∈ o.d) → (j ∈ o.l ∨ j ∈ o.d) → sg[i]? = some (some (.ref p)) → sg[j]? = some (some (.ref p)) → i = j
  out : ∀ p ∈ ps, F p = none ∧ ∃ u, H p = some u ∧ noT u = true

structure Ext (F F' H H' : Hp) : Prop where
  ff : Same F F'
  fh : Same F' H'
  hh : Same H H'
  nw : ∀ a u, F' a = some u → F a = some u ∨ Fre H a
theorem Ext.refl {F H : Hp} (s : Same F H) : Ext F F H H := ⟨Same.refl _, s, Same.refl _, fun _ _ h => .inl h⟩
theorem Ext.trans {F F1 F2 H H1 H2 : Hp} (a : Ext F F1 H H1) (b : Ext F1 F2 H1 H2) : Ext F F2 H H2 :=
  ⟨a.ff.trans b.ff, b.fh, a.hh.trans b.hh, fun x u h => by
    rcases b.nw x u h with h | h
    · exact a.nw x u h
    · exact .inr (h.back a.hh)⟩
/-- a new object, frozen from now on -/
theorem Ext.new {F H : Hp} {p : Addr} {o : HO} (s : Same F H) (h : H p = none) : Ext F (upd F p o) H (upd H p o) := by
  refine ⟨fun b u e => ?_, fun b u e => ?_, fun b u e => ?_, fun b u e => ?_⟩
  · rw [upd_ne (ne_of_none (s _ _ e) h)]; exact e
  · by_cases q : b = p
    · subst q; rw [upd_same] at e ⊢; exact e
    · rw [upd_ne q] at e ⊢; exact s _ _ e
  · rw [upd_ne (ne_of_none e h)]; exact e
  · by_cases q : b = p
    · subst q; exact .inr (.inl h)
    · rw [upd_ne q] at e; exact .inl e
/-- a new object that nobody reads -/
theorem Ext.junk {F H : Hp} {p : Addr} {o : HO} (s : Same F H) (h : H p = none) : Ext F F H (upd H p o) :=
  ⟨Same.refl _, fun b u e => by rw [upd_ne (ne_of_none (s _ _ e) h)]; exact s _ _ e, fun b u e => by rw [upd_ne (ne_of_none e h)]; exact e, fun b u e => .inl e⟩

def lend (F H : Hp) (ps : List Addr) : Hp := fun a => if a ∈ ps then H a else F a
theorem lend_in {F H : Hp} {ps : List Addr} {a : Addr} (h : a ∈ ps) : lend F H ps a = H a := if_pos h
theorem lend_out {F H : Hp} {ps : List Addr} {a : Addr} (h : a ∉ ps) : lend F H ps a = F a := if_neg h
theorem same_lend {F H : Hp} {ps : List Addr} (o : ∀ p ∈ ps, F p = none ∧ ∃ u, H p = some u ∧ noT u = true) : Same F (lend F H ps) := fun b u e => by
  by_cases q : b ∈ ps
  · rw [(o b q).1] at e; cases e
  · rw [lend_out q]; exact e
theorem lend_same {F H : Hp} {ps : List Addr} (s : Same F H) : Same (lend F H ps) H := fun b u e => by
  by_cases q : b ∈ ps
  · rw [lend_in q] at e; exact e
  · rw [lend_out q] at e; exact s _ _ e

theorem out_mono {F F' H H' : Hp} {ps : List Addr} (o : ∀ p ∈ ps, F p = none ∧ ∃ u, H p = some u ∧ noT u = true) (x : Ext F F' H H') : ∀ p ∈ ps, F' p = none ∧ ∃ u, H' p = some u ∧ noT u = true := fun p hp => by
  obtain ⟨h1, u, h2, nt⟩ := o p hp
  refine ⟨?_, u, x.hh _ _ h2, nt⟩
  cases e : F' p with
  | none => rfl
  | some v =>
    rcases x.nw p v e with q | q
    · rw [h1] at q; cases q
    · exact (q.no h2 nt).elim
theorem Ab.mono {K : PySem.W.Frag} {F F' H H' : Hp} {sg : L2.St} {o : Own} {s : S} {ps : List Addr} (a : Ab K F H sg o s ps) (x : Ext F F' H H') : Ab K F' H' sg o s ps where
  sub := x.fh
  len := a.len
  fz := fun i d h h1 h2 => let ⟨v, e, r⟩ := a.fz i d h h1 h2; ⟨v, e, dr_mono x.ff r⟩
  ol := fun i d h h1 => let ⟨p, vs, ds, e, hp, ed, eh, r⟩ := a.ol i d h h1; ⟨p, vs, ds, e, hp, ed, x.hh _ _ eh, drAll_mono x.ff r⟩
  od := fun i d h h1 => let ⟨p, vs, ds, e, hp, ed, eh, r⟩ := a.od i d h h1; ⟨p, vs, ds, e, hp, ed, rd_mono x.hh eh, r⟩
  inj := a.inj
  out := out_mono a.out x

/-- what is known of a value, by its level -/
def Res (K : PySem.W.Frag) (F H : Hp) (ps : List Addr) : Lv → V → D → Prop
  | .cl, v, d => Dr K F v d
  | .sh, v, d => ∃ p vs ds, v = .ref p ∧ p ∈ ps ∧ d = .list ds ∧ H p = some (.lst vs) ∧ DrAll K F vs ds
  | .dd, v, d => ∃ p kvs es, v = .ref p ∧ p ∈ ps ∧ d = .dict es ∧ Rd H p (.dT kvs) ∧ DicOk kvs es
  | .dt, v, d => Dr K (lend F H ps) v d
theorem lend_mono {F F' H H' : Hp} {ps : List Addr} (x : Ext F F' H H') : Same (lend F H ps) (lend F' H' ps) := fun b u e => by
  by_cases q : b ∈ ps
  · rw [lend_in q] at e ⊢; exact x.hh _ _ e
  · rw [lend_out q] at e ⊢; exact x.ff _ _ e
theorem Res.mono {K : PySem.W.Frag} {F F' H H' : Hp} {ps : List Addr} (x : Ext F F' H H') : ∀ {l : Lv} {v : V} {d : D}, Res K F H ps l v d → Res K F' H' ps l v d
  | .cl, _, _, h => dr_mono x.ff h
  | .sh, _, _, h => let ⟨p, vs, ds, e, hp, ed, eh, r⟩ := h; ⟨p, vs, ds, e, hp, ed, x.hh _ _ eh, drAll_mono x.ff r⟩
  | .dd, _, _, h => let ⟨p, vs, ds, e, hp, ed, eh, r⟩ := h; ⟨p, vs, ds, e, hp, ed, rd_mono x.hh eh, r⟩
  | .dt, _, _, h => dr_mono (lend_mono x) h
/-- the value may be read where all is lent -/
theorem Res.lent {K : PySem.W.Frag} {F H : Hp} {ps : List Addr} (o : ∀ p ∈ ps, F p = none ∧ ∃ u, H p = some u ∧ noT u = true) : ∀ {l : Lv} {v : V} {d : D}, l ≠ .dd → Res K F H ps l v d → Dr K (lend F H ps) v d
  | .cl, _, _, _, h => dr_mono (same_lend o) h
  | .sh, _, _, _, h => by
    obtain ⟨p, vs, ds, rfl, hp, rfl, eh, r⟩ := h
    exact .lst (by rw [lend_in hp]; exact eh) (drAll_mono (same_lend o) r)
  | .dt, _, _, _, h => h
  | .dd, _, _, n, _ => absurd rfl n
theorem Res.flat {K : PySem.W.Frag} {F H : Hp} {ps : List Addr} : ∀ {l : Lv} {v : V} {d : D}, Res K F H ps l v d → flat d = true → FlatR v d
  | .cl, _, _, h, e => flatR_of h e
  | .sh, _, _, h, e => by
    obtain ⟨p, vs, ds, rfl, hp, rfl, eh, r⟩ := h
    simp [Rr.flat] at e
  | .dd, _, _, h, e => by
    obtain ⟨p, vs, ds, rfl, hp, rfl, eh, r⟩ := h
    simp [Rr.flat] at e
  | .dt, _, _, h, e => flatR_of h e

/-- what is behind an exception: its own dict, where it has one -/
def XPay (H : Hp) : Option Addr → Option D → Prop
  | none, none => True
  | some a, some d => ∃ v, H a = some (.xd [("line", v)]) ∧ FlatR v d
  | _, _ => False

/-- how a result is taken -/
def Out {a : Type} (cls : Str → Addr) (W : WX) (sg : L2.St) (H : Hp) (r : R a) (k : a → Prop) : Prop := match r with
  | .ok x => k x
  | .ex c p => ∀ H' x, Same H H' → XPay H' x p → W (.ref (cls c)) x sg H'
  | .bad => False
section
variable {a b : Type} {cls : Str → Addr} {W : WX} {sg : L2.St} {H H1 : Hp}
theorem Out.bind {r : R a} {g : a → R b} {k : b → Prop} (h : Out cls W sg H (r.bind g) k) : Out cls W sg H r fun x => Out cls W sg H (g x) k := by
  cases r with
  | ok x => exact h
  | ex c p => exact h
  | bad => exact h
theorem Out.shift {r : R a} {k : a → Prop} (h : Out cls W sg H r k) (s : Same H H1) : Out cls W sg H1 r k := by
  cases r with
  | ok x => exact h
  | ex c p => exact fun H' x q y => h H' x (s.trans q) y
  | bad => exact h
theorem Out.imp {r : R a} {k k' : a → Prop} (h : Out cls W sg H r k) (i : ∀ x, r = .ok x → k x → k' x) : Out cls W sg H r k' := by
  cases r with
  | ok x => exact i x rfl h
  | ex c p => exact h
  | bad => exact h
/-- an operation that raises nothing -/
theorem Out.get {r : R a} {k : a → Prop} (h : Out cls W sg H r k) (n : ∀ c p, r ≠ .ex c p) : ∃ x, r = .ok x ∧ k x := by
  cases r with
  | ok x => exact ⟨x, rfl, h⟩
  | ex c p => exact absurd rfl (n c p)
  | bad => exact h.elim
theorem Out.calm {r : R a} {k : a → Prop} (h : Out cls W sg H r.calm k) : ∃ x, r = .ok x ∧ k x := by
  cases r with
  | ok x => exact ⟨x, rfl, h⟩
  | ex c p => exact h.elim
  | bad => exact h.elim
end

section
variable (K : PySem.W.Frag) (cls : Str → Addr) (W : WX) (o : Own)
/-- the reading of an expression -/
def tE (lv : Lv) (f : S → R D) : TE := fun sg H Q => ∃ F s ps, Ab K F H sg o s ps ∧ Out cls W sg H (f s) fun d => ∀ v F' H', Ext F F' H H' → Res K F' H' ps lv v d → Q v H'
/-- of a test -/
def tT (f : S → R Bool) : TT := fun sg H Q => ∃ F s ps, Ab K F H sg o s ps ∧ Out cls W sg H (f s) fun b => ∀ F' H', Ext F F' H H' → Q b H'
/-- of arguments -/
inductive ResAll (K : PySem.W.Frag) (F H : Hp) (ps : List Addr) : List Lv → List V → List D → Prop
  | nil : ResAll K F H ps [] [] []
  | cons {l : Lv} {v : V} {d : D} {ls : List Lv} {vs : List V} {ds : List D} : Res K F H ps l v d → ResAll K F H ps ls vs ds → ResAll K F H ps (l :: ls) (v :: vs) (d :: ds)
def tAs (ls : List Lv) (f : S → R (List D)) : TA := fun sg H Q => ∃ F s ps, Ab K F H sg o s ps ∧ Out cls W sg H (f s) fun ds => ∀ vs F' H', Ext F F' H H' → ResAll K F' H' ps ls vs ds → Q vs H'
end
theorem ResAll.mono {K : PySem.W.Frag} {F F' H H' : Hp} {ps : List Addr} (x : Ext F F' H H') : ∀ {ls : List Lv} {vs : List V} {ds : List D}, ResAll K F H ps ls vs ds → ResAll K F' H' ps ls vs ds
  | _, _, _, .nil => .nil
  | _, _, _, .cons h r => .cons (h.mono x) (r.mono x)
/-- all arguments clean: they are read off F -/
theorem ResAll.clean {K : PySem.W.Frag} {F H : Hp} {ps : List Addr} : ∀ {ls : List Lv} {vs : List V} {ds : List D}, ResAll K F H ps ls vs ds → (∀ l ∈ ls, l = .cl) → DrAll K F vs ds
  | _, _, _, .nil, _ => .nil
  | _, _, _, .cons (l := l) h r, n => by
    have e : l = .cl := n l List.mem_cons_self
    subst e
    exact .cons h (r.clean fun l hl => n l (List.mem_cons_of_mem _ hl))
theorem ResAll.lent {K : PySem.W.Frag} {F H : Hp} {ps : List Addr} (o : ∀ p ∈ ps, F p = none ∧ ∃ u, H p = some u ∧ noT u = true) : ∀ {ls : List Lv} {vs : List V} {ds : List D}, ResAll K F H ps ls vs ds → (∀ l ∈ ls, l ≠ .dd) → DrAll K (lend F H ps) vs ds
  | _, _, _, .nil, _ => .nil
  | _, _, _, .cons (l := l) h r, n => .cons (h.lent o (n l List.mem_cons_self)) (r.lent o fun l hl => n l (List.mem_cons_of_mem _ hl))

/-- the promise of a def by a function over data -/
def spG (K : PySem.W.Frag) (cls : Str → Addr) (n : Nat) (g : List D → R D) : Sp := fun vs H Q E => vs.length = n ∧ ∃ F ds, Same F H ∧ DrAll K F vs ds ∧ match g ds with
  | .ok d => ∀ v F' H', Ext F F' H H' → Dr K F' v d → Q v H'
  | .ex c p => ∀ H' x, Same H H' → XPay H' x p → E (.ref (cls c)) x H'
  | .bad => False

theorem pe_imp {X : Cx} {e : Expr} {t t' : TE} (h : PE X e t) (i : ∀ sg H Q, t' sg H Q → t sg H Q) : PE X e t' := ⟨fun pins s sg H Q I q => h.run pins s sg H Q I (i _ _ _ q)⟩
theorem pt_imp {X : Cx} {e : Expr} {t t' : TT} (h : PT X e t) (i : ∀ sg H Q, t' sg H Q → t sg H Q) : PT X e t' := ⟨fun pins s sg H Q I q => h.run pins s sg H Q I (i _ _ _ q)⟩
theorem pa_imp {X : Cx} {e : List Expr} {t t' : TA} (h : PA X e t) (i : ∀ sg H Q, t' sg H Q → t sg H Q) : PA X e t' := ⟨fun pos pins s sg H Q I q => h.run pos pins s sg H Q I (i _ _ _ q)⟩
theorem ps_imp {X : Cx} {e : Stmt} {t t' : TS} (h : PS X e t) (i : ∀ D sg H, t' D sg H → t D sg H) : PS X e t' := ⟨fun pins s sg H D I q => h.run pins s sg H D I (i _ _ _ q)⟩
theorem pss_imp {X : Cx} {e : List Stmt} {t t' : TS} (h : PSs X e t) (i : ∀ D sg H, t' D sg H → t D sg H) : PSs X e t' := ⟨fun pins s sg H D I q => h.run pins s sg H D I (i _ _ _ q)⟩
end Rr

set_option linter.all false
set_option Elab.async false
set_option maxRecDepth 100000
/-! Expressions: one lemma a construct. -/
namespace Rr
open PySem PySem.Spec PyProof.Rows L2

/-! ### facts of syntax -/
def plainA : Expr → Bool
  | .Starred _ _ => false
  | _ => true
def noSlice : Expr → Bool
  | .Slice _ _ _ _ => false
  | _ => true
def noSet : Expr → Bool
  | .Set _ _ _ => false
  | _ => true
def noComp : Expr → Bool
  | .ListComp _ _ _ _ => false
  | .SetComp _ _ _ _ => false
  | .DictComp _ _ _ _ _ => false
  | _ => true
def noCall0 : Expr → Bool
  | .Call _ [] _ _ => false
  | _ => true
theorem star_plain {e : Expr} (h : plainA e = true) (es : List Expr) (env : PySem.Env) : starEach (e :: es) env = (false, eval e env) :: starEach es env := by
  cases e <;> first | rfl | simp [plainA] at h
theorem star_all {env : PySem.Env} {pos : Pos} : ∀ {es : List Expr}, es.all plainA = true → (backTo pos (starEach es env)).any (·.1) = false
  | [], _ => rfl
  | e :: es, h => by
    simp only [List.all_cons, Bool.and_eq_true] at h
    rw [star_plain h.1]
    show (false || (backTo pos (starEach es env)).any (·.1)) = false
    rw [star_all h.2]; rfl
theorem star_all2 {env : PySem.Env} {pos : Pos} : ∀ {es : List Expr}, es.all plainA = true → (backTo pos (starEach es env)).all (fun x => !x.1) = true
  | [], _ => rfl
  | e :: es, h => by
    simp only [List.all_cons, Bool.and_eq_true] at h
    rw [star_plain h.1]
    show (!false && (backTo pos (starEach es env)).all (fun x => !x.1)) = true
    rw [star_all2 h.2]; rfl
theorem plain_ix {b : Expr} (h : noSlice b = true) : PlainIx b := by
  intro o i
  cases b <;> first | rfl | simp [noSlice] at h
theorem no_mark {op : CmpOp} {b : Expr} (h : noSet b = true) : behindInMarks op b = false := by
  cases b <;> first | rfl | simp [noSet] at h
theorem no_swap {e : Expr} (h : noComp e = true) (t : Option Expr) (l : Nat) (env : PySem.Env) : swapsWith e t l env = pure false := by
  cases e <;> first | rfl | simp [noComp] at h
theorem no_fold {e : Expr} (h : noSet e = true) (env : PySem.Env) : ∀ x, foldedSetIterable e env x = pure x := by
  intro x
  cases e <;> first | rfl | simp [noSet] at h
theorem no_base {e : Expr} (h : noCall0 e = true) (a : Str) (env : PySem.Env) (w : Sem Value) : attributeBase e a env w = w := by
  cases e with
  | Call f args kws pos =>
    cases args with
    | nil => simp [noCall0] at h
    | cons x r => cases f <;> rfl
  | _ => rfl

/-! ### values by level -/
section
variable {K : PySem.W.Frag} {F H : Hp} {ps : List Addr} {l : Lv} {v : V}
theorem res_int {i : Int} (h : Res K F H ps l v (.int i)) : v = .int i := by
  have := h.flat rfl
  cases this; rfl
theorem res_bool {i : Bool} (h : Res K F H ps l v (.bool i)) : v = .bl i := by
  have := h.flat rfl
  cases this; rfl
theorem res_none (h : Res K F H ps l v .none) : v = .non := by
  have := h.flat rfl
  cases this; rfl
theorem res_str {i : Str} (h : Res K F H ps l v (.str i)) : v = .str i := by
  have := h.flat rfl
  cases this; rfl
/-- clean, or an owned list -/
def Lv.fine : Lv → Bool
  | .cl => true
  | .sh => true
  | _ => false
theorem res_list {ds : List D} (hl : l.fine = true) (s : Same F H) (h : Res K F H ps l v (.list ds)) : ∃ a vs, v = .ref a ∧ H a = some (.lst vs) ∧ DrAll K F vs ds := by
  cases l with
  | cl =>
    cases h with
    | lst r a => exact ⟨_, _, rfl, s _ _ r, a⟩
  | sh =>
    obtain ⟨p, vs, es, rfl, hp, e, eh, r⟩ := h
    cases e
    exact ⟨p, vs, rfl, eh, r⟩
  | _ => simp [Lv.fine] at hl
theorem res_tup {ds : List D} (hl : l.fine = true) (s : Same F H) (h : Res K F H ps l v (.tuple ds)) : ∃ a vs, v = .ref a ∧ SqT K H a vs ∧ DrAll K F vs ds ∧ F a = some (.tup vs) := by
  cases l with
  | cl =>
    cases h with
    | tup r a => exact ⟨_, _, rfl, .inl (.inl (s _ _ r)), a, r⟩
  | sh =>
    obtain ⟨p, vs, es, rfl, hp, e, eh, r⟩ := h
    cases e
  | _ => simp [Lv.fine] at hl
/-- the same, where all is lent -/
theorem res_any {d : D} (o : ∀ p ∈ ps, F p = none ∧ ∃ u, H p = some u ∧ noT u = true) (s : Same F H) (hl : l ≠ .dd) (h : Res K F H ps l v d) : Dr K H v d := dr_mono (lend_same s) (h.lent o hl)
end

/-! ### two parts, then an operation by values -/
section
variable {X : Cx} {cls : Str → Addr} {W : WX} {o : Own}
/-- what an operation by values must do -/
def Does2 (K : PySem.W.Frag) (r : R2) (la lb lv : Lv) (op : D → D → R D) : Prop :=
  (∀ d e c p, op d e ≠ .ex c p) ∧ ∀ {F H : Hp} {ps : List Addr} {x y : V} {d e z : D} {Q : VK}, (∀ p ∈ ps, F p = none ∧ ∃ u, H p = some u ∧ noT u = true) → Same F H → Res K F H ps la x d → Res K F H ps lb y e → op d e = .ok z →
    (∀ v F' H', Ext F F' H H' → Res K F' H' ps lv v z → Q v H') → r x y H Q
theorem seq2 {K : PySem.W.Frag} {r : R2} {la lb lv : Lv} {op : D → D → R D} {f g : S → R D} (dz : Does2 K r la lb lv op) {sg : L2.St} {H : Hp} {Q : VK}
    (h : tE K cls W o lv (fun s => (f s).bind fun x => (g s).bind fun y => op x y) sg H Q) : tOp r (tE K cls W o la f) (tE K cls W o lb g) sg H Q := by
  obtain ⟨F, s, ps, A, h⟩ := h
  refine ⟨F, s, ps, A, h.bind.imp fun d _ h1 v F1 H1 E1 R1 => ?_⟩
  refine ⟨F1, s, ps, A.mono E1, (h1.shift E1.hh).bind.imp fun e _ h2 w F2 H2 E2 R2 => ?_⟩
  obtain ⟨z, hz, k⟩ := h2.get (dz.1 d e)
  exact dz.2 (out_mono A.out (E1.trans E2)) E2.fh (R1.mono E2) R2 hz fun u F' H' E3 R3 => k u F' H' ((E1.trans E2).trans E3) R3
theorem j_bin {op : Operator} {a b : Expr} {pos : Pos} {la lb lv : Lv} {f g : S → R D} {od : D → D → R D} {r : R2} (ho : OpR X (binaryOp op) r) (dz : Does2 X.K r la lb lv od)
    (ha : PE X a (tE X.K cls W o la f)) (hb : PE X b (tE X.K cls W o lb g)) : PE X (.BinOp a op b pos) (tE X.K cls W o lv fun s => (f s).bind fun x => (g s).bind fun y => od x y) :=
  pe_imp (pe_op ho ha hb) fun _ _ _ h => seq2 dz h
theorem j_cmp {op : CmpOp} {a b : Expr} {pos : Pos} {la lb lv : Lv} {f g : S → R D} {od : D → D → R D} {r : R2} (ho : OpR X (compareOp op) r) (hm : noSet b = true) (dz : Does2 X.K r la lb lv od)
    (ha : PE X a (tE X.K cls W o la f)) (hb : PE X b (tE X.K cls W o lb g)) : PE X (.Compare a [op] [b] pos) (tE X.K cls W o lv fun s => (f s).bind fun x => (g s).bind fun y => od x y) :=
  pe_imp (pe_cmpR ho ha hb (no_mark hm)) fun _ _ _ h => seq2 dz h
theorem j_ix {a b : Expr} {pos : Pos} {la lb lv : Lv} {f g : S → R D} {od : D → D → R D} {r : R2} (ho : IxR X r) (hs : noSlice b = true) (dz : Does2 X.K r la lb lv od)
    (ha : PE X a (tE X.K cls W o la f)) (hb : PE X b (tE X.K cls W o lb g)) : PE X (.Subscript a b pos) (tE X.K cls W o lv fun s => (f s).bind fun x => (g s).bind fun y => od x y) :=
  pe_imp (pe_ix ho ha hb (plain_ix hs)) fun _ _ _ h => seq2 dz h
end

end Rr

set_option linter.all false
set_option Elab.async false
set_option maxRecDepth 100000
set_option maxHeartbeats 4000000
/-! tuple * int, in all cases. -/
namespace Rr
open PySem PySem.Spec PyProof.Rows L2
section
variable (l : Addr) (its : Array Value) (n : Nat) (dd : Option Addr) (sl : Array (Option Value)) (x : Int) (u : Tok)
/-- nothing, or once: the tuple itself -/
theorem tmul_same (c0 : (decide (x < -(2 ^ 63)) || decide (x ≥ 2 ^ 63)) = false) (c1 : (its.isEmpty || x == 1) = true) :
    Meets (Builtin.«tuple.__mul__» ⟨[.ref l, .int x u], []⟩) (fun _ R s => s.heap.get? l = some { cls := .type "tuple", dict := dd, data := .seq its n, slots := sl } ∧ R (.ok (.ret (Value.ref l))) s) :=
  .of_wp fun prog w A R s h => by
    obtain ⟨hp, g, d, tk, os⟩ := s
    obtain ⟨hl, h⟩ := h
    have f1 := AutoSeq1.idx_int
    wp_walk using wpAny_loadPart' hl
    repeat (first
      | (refine wpAny_ite_false (decide_eq_false (by rw [c0]; exact Bool.false_ne_true)) ?_; wp_walk using wpAny_loadPart' hl)
      | (refine wpAny_ite_true (decide_eq_true c1) ?_; wp_walk using wpAny_loadPart' hl))
    exact ⟨_, rfl, h⟩
/-- not once, at most nought times: a new empty tuple -/
theorem tmul_none (c0 : (decide (x < -(2 ^ 63)) || decide (x ≥ 2 ^ 63)) = false) (c1 : (its.isEmpty || x == 1) = false) (c2 : (decide (x ≤ 0) || its.isEmpty) = true) :
    Meets (Builtin.«tuple.__mul__» ⟨[.ref l, .int x u], []⟩) (fun _ R s => s.heap.get? l = some { cls := .type "tuple", dict := dd, data := .seq its n, slots := sl } ∧
      R (.ok (.ret (Value.ref s.heap.objs.size))) { s with heap := s.heap.push { cls := Value.type "tuple", data := Data.seq #[] }, toks := s.toks }) :=
  .of_wp fun prog w A R s h => by
    obtain ⟨hp, g, d, tk, os⟩ := s
    obtain ⟨hl, h⟩ := h
    have f1 := AutoSeq1.idx_int
    wp_walk using wpAny_loadPart' hl
    repeat (first
      | (refine wpAny_ite_false (decide_eq_false (by rw [c0]; exact Bool.false_ne_true)) ?_; wp_walk using wpAny_loadPart' hl)
      | (refine wpAny_ite_false (decide_eq_false (by rw [c1]; exact Bool.false_ne_true)) ?_; wp_walk using wpAny_loadPart' hl)
      | (refine wpAny_ite_true (decide_eq_true c2) ?_; wp_walk using wpAny_loadPart' hl))
    exact ⟨_, rfl, h⟩
end
def rRepA (K : PySem.W.Frag) : R2 := fun x y H Q => ∃ l k xs, x = .ref l ∧ y = .int k ∧ SqT K H l xs ∧ -1000 ≤ k ∧ k ≤ 1000 ∧ xs.length ≤ 1000 ∧
  ((xs = [] ∨ k = 1) → Q (.ref l) H) ∧ (¬ (xs = [] ∨ k = 1) → ∀ p, H p = none → Q (.ref p) (upd H p (.tup (List.replicate k.toNat xs).flatten)))
theorem op_repA {X : Cx} : OpR X (binaryOp .Mult) (rRepA X.K) := by
  intro pins s sg H x y v u Q I rx ry h
  obtain ⟨l, k, xs, rfl, rfl, hT, h1, h2, hz, q1, q2⟩ := h
  by_cases hs : xs = [] ∨ k = 1
  · cases rx
    obtain ⟨t, rfl⟩ := ry
    obtain ⟨its, r, ⟨⟨cl, dd, data, sl⟩, ho, hc, n, hd⟩, _⟩ := I.tuple hT
    simp only at hc hd
    subst hc hd
    have c0 : (decide (k < -(2 ^ 63)) || decide (k ≥ 2 ^ 63)) = false := by
      rw [decide_eq_false (by omega), decide_eq_false (by omega)] <;> rfl
    have c1 : (its.toArray.isEmpty || k == 1) = true := by
      rcases hs with e | e
      · subst e
        cases r
        rfl
      · subst e
        exact Bool.or_true _
    refine wpAny_binaryOp_repeat_ref (T := "tuple") (U := "int") (by decide) ⟨_, ho, rfl⟩ (fun s' => typeIs_int s' k t) noFill_tuple_mul F.fills_int_mul F.slot_int_rmul repeat_tuple F.slot_int_index.lookup
      (call_meets F.slot_int_rmul (typeIs_int s k t) F.entry_int_rmul (F.args_int_rmul_2 _ _) (int_rmul_tuple k t l its.toArray n dd sl)
        ⟨ho, rfl, ⟨_, ho, rfl⟩, call_meets F.slot_tuple_mul ⟨_, ho, rfl⟩ F.entry_tuple_mul (F.args_tuple_mul_2 _ _) (tmul_same l its.toArray n dd sl k t c0 c1) ⟨ho, ?_⟩⟩)
    exact ⟨.ref l, H, I, rfl, q1 hs⟩
  · by_cases hk : 2 ≤ k
    · exact op_repT pins s sg H _ _ v u Q I rx ry ⟨l, k, xs, rfl, rfl, hT, fun e => hs (.inl e), hk, h2, hz, q2 hs⟩
    · cases rx
      obtain ⟨t, rfl⟩ := ry
      obtain ⟨its, r, ⟨⟨cl, dd, data, sl⟩, ho, hc, n, hd⟩, _⟩ := I.tuple hT
      simp only at hc hd
      subst hc hd
      have hk1 : k ≠ 1 := fun e => hs (.inr e)
      have c0 : (decide (k < -(2 ^ 63)) || decide (k ≥ 2 ^ 63)) = false := by
        rw [decide_eq_false (by omega), decide_eq_false (by omega)] <;> rfl
      have hi : its.toArray.isEmpty = false := by
        cases its with
        | nil =>
          cases r
          exact absurd (.inl rfl) hs
        | cons a b => rfl
      have c1 : (its.toArray.isEmpty || k == 1) = false := by
        rw [hi, Bool.false_or]
        exact beq_eq_false_iff_ne.mpr hk1
      have c2 : (decide (k ≤ 0) || its.toArray.isEmpty) = true := by
        rw [decide_eq_true (by omega)]; rfl
      refine wpAny_binaryOp_repeat_ref (T := "tuple") (U := "int") (by decide) ⟨_, ho, rfl⟩ (fun s' => typeIs_int s' k t) noFill_tuple_mul F.fills_int_mul F.slot_int_rmul repeat_tuple F.slot_int_index.lookup
        (call_meets F.slot_int_rmul (typeIs_int s k t) F.entry_int_rmul (F.args_int_rmul_2 _ _) (int_rmul_tuple k t l its.toArray n dd sl)
          ⟨ho, rfl, ⟨_, ho, rfl⟩, call_meets F.slot_tuple_mul ⟨_, ho, rfl⟩ F.entry_tuple_mul (F.args_tuple_mul_2 _ _) (tmul_none l its.toArray n dd sl k t c0 c1 c2) ⟨ho, ?_⟩⟩)
      have q := q2 hs s.heap.objs.size (I.hok.fresh (Nat.le_refl _))
      have e0 : k.toNat = 0 := by omega
      rw [e0] at q
      refine ⟨.ref s.heap.objs.size, _, I.laid (t' := s.toks) (o := .tup []) (fun b ob q => Heap.get?_push_of_some _ q) (Nat.le_refl _) ?_, rfl, q⟩
      exact ⟨Nat.zero_le _, [], .nil, IsTup.new _ _⟩

end Rr

set_option linter.all false
set_option Elab.async false
set_option maxRecDepth 100000
set_option maxHeartbeats 1000000
/-! Operators, comparisons, subscripts. -/
namespace Rr
open PySem PySem.Spec PyProof.Rows L2

theorem lim_line {n : Nat} (h : n ≤ LIM) : n ≤ sizeLine := Nat.le_trans h (by decide)
theorem lim_lt {n : Nat} (h : n ≤ LIM) : n < sizeLine := Nat.lt_of_le_of_lt h (by decide)

/-! ### shapes -/
mutual
theorem shp_lay : ∀ {n : Nat} {d : D}, shp n d = true → d.canLay0 = true ∧ d.depth ≤ n
  | _, .none, _ => ⟨by simp [PyData.canLay0], by simp [PyData.depth]⟩
  | _, .bool _, _ => ⟨by simp [PyData.canLay0], by simp [PyData.depth]⟩
  | _, .int _, _ => ⟨by simp [PyData.canLay0], by simp [PyData.depth]⟩
  | _, .str x, h => ⟨by simpa [PyData.canLay0, shp] using h, by simp [PyData.depth]⟩
  | n + 1, .list l, h => by
    obtain ⟨h1, h2⟩ := shp_layAll (n := n) (l := l) (by simpa [shp] using h)
    exact ⟨by simpa [PyData.canLay0] using h1, by simp only [PyData.depth]; omega⟩
  | n + 1, .tuple l, h => by
    obtain ⟨h1, h2⟩ := shp_layAll (n := n) (l := l) (by simpa [shp] using h)
    exact ⟨by simpa [PyData.canLay0] using h1, by simp only [PyData.depth]; omega⟩
  | 0, .list l, h => by simp [shp] at h
  | 0, .tuple l, h => by simp [shp] at h
  | _, .dict l, h => by simp [shp] at h
theorem shp_layAll : ∀ {n : Nat} {l : List D}, (∀ x ∈ l, shp n x = true) → PyData.canLayAll0 l = true ∧ PyData.depthAll l ≤ n
  | _, [], _ => ⟨rfl, Nat.zero_le _⟩
  | n, x :: r, h => by
    obtain ⟨h1, h2⟩ := shp_lay (n := n) (d := x) (h x List.mem_cons_self)
    obtain ⟨h3, h4⟩ := shp_layAll (n := n) (l := r) fun y hy => h y (List.mem_cons_of_mem _ hy)
    exact ⟨by simp only [PyData.canLayAll0, h1, h3]; rfl, by simp only [PyData.depthAll]; omega⟩
end
theorem shp_shaped {d : D} (h : shp 8 d = true) : SeqAt.shaped d = true := by
  obtain ⟨h1, h2⟩ := shp_lay h
  unfold SeqAt.shaped
  rw [h1, decide_eq_true (by omega)]; rfl

/-! ### a new object, or one that is there -/
section
variable {K : PySem.W.Frag} {F H : Hp} {ps : List Addr}
theorem sqT_new {p : Addr} {xs : List V} : SqT K (upd F p (.tup xs)) p xs := .inl (.inl upd_same)
theorem dr_tupN {p : Addr} {vs : List V} {ds : List D} (s : Same F H) (h : H p = none) (a : DrAll K F vs ds) : Dr K (upd F p (.tup vs)) (.ref p) (.tuple ds) :=
  .tup upd_same (drAll_mono (Ext.new (o := .tup vs) s h).ff a)
theorem dr_lstN {p : Addr} {vs : List V} {ds : List D} (s : Same F H) (h : H p = none) (a : DrAll K F vs ds) : Dr K (upd F p (.lst vs)) (.ref p) (.list ds) :=
  .lst upd_same (drAll_mono (Ext.new (o := .lst vs) s h).ff a)
theorem drAll_nil {vs : List V} (h : DrAll K F vs []) : vs = [] := by
  cases h; rfl
theorem drAll_nil' {ds : List D} (h : DrAll K F [] ds) : ds = [] := by
  cases h; rfl
end

/-! ### + - * // % ** -/
def rAddAll (K : PySem.W.Frag) : R2 := fun x y H Q => (rI0 (fun i j => .int (i + j)) x y H Q) ∨ ((∃ i j, x = .str i ∧ y = .str j ∧ i.length + j.length ≤ sizeLine ∧ Q (.str (i ++ j)) H) ∨ (rCatA K x y H Q ∨ rCat x y H Q))
theorem op_addAll {X : Cx} : OpR X (binaryOp .Add) (rAddAll X.K) := op_add.or (op_add_str.or (op_catA.or op_cat))
def rMulAll (K : PySem.W.Frag) : R2 := fun x y H Q => (rI CMul (fun i j => .int (i * j)) x y H Q) ∨ (rRepA K x y H Q ∨ rRep x y H Q)
theorem op_mulAll {X : Cx} : OpR X (binaryOp .Mult) (rMulAll X.K) := op_mul.or (op_repA.or op_rep)
section
variable {K : PySem.W.Frag} {la lb : Lv}
theorem dz_add (h1 : la.fine = true) (h2 : lb.fine = true) : Does2 K (rAddAll K) la lb .cl (opD .add) := by
  refine ⟨fun d e c p h => ?_, ?_⟩
  · unfold opD at h
    split at h <;> first | cases h | (split at h <;> cases h)
  · intro F H ps x y d e z Q o s rx ry hz k
    cases d with
    | int i =>
      cases e with
      | int j =>
        cases hz
        exact .inl ⟨i, j, res_int rx, res_int ry, k _ F H (Ext.refl s) (.int _)⟩
      | _ => simp [opD] at hz
    | str i =>
      cases e with
      | str j =>
        simp only [opD] at hz
        split at hz
        · rename_i hl
          cases hz
          exact .inr (.inl ⟨i, j, res_str rx, res_str ry, lim_line hl, k _ F H (Ext.refl s) (.str _)⟩)
        · cases hz
      | _ => simp [opD] at hz
    | tuple i =>
      cases e with
      | tuple j =>
        simp only [opD] at hz
        split at hz
        · rename_i hl
          cases hz
          obtain ⟨a, xs, rfl, ha, da, fa⟩ := res_tup h1 s rx
          obtain ⟨b, ys, rfl, hb, db, fb⟩ := res_tup h2 s ry
          refine .inr (.inr (.inl ⟨a, b, xs, ys, rfl, rfl, ha, hb, ?_, fun ex => ?_, fun nx ey => ?_, fun _ _ p hp => ?_⟩))
          · rw [da.length, db.length]; exact lim_line hl
          · subst ex
            rw [drAll_nil' da] at k
            exact k _ F H (Ext.refl s) (.tup fb db)
          · subst ey
            rw [drAll_nil' db, List.append_nil] at k
            exact k _ F H (Ext.refl s) (.tup fa da)
          · exact k _ _ _ (Ext.new s hp) (dr_tupN s hp (da.append db))
        · cases hz
      | _ => simp [opD] at hz
    | list i =>
      cases e with
      | list j =>
        simp only [opD] at hz
        split at hz
        · rename_i hl
          cases hz
          obtain ⟨a, xs, rfl, ha, da⟩ := res_list h1 s rx
          obtain ⟨b, ys, rfl, hb, db⟩ := res_list h2 s ry
          refine .inr (.inr (.inr ⟨a, b, xs, ys, rfl, rfl, ha, hb, ?_, fun p hp => ?_⟩))
          · rw [da.length, db.length]; exact lim_line hl
          · exact k _ _ _ (Ext.new s hp) (dr_lstN s hp (da.append db))
        · cases hz
      | _ => simp [opD] at hz
    | _ => cases e <;> simp [opD] at hz
theorem dz_sub : Does2 K (rI0 fun i j => .int (i - j)) la lb .cl (opD .sub) := by
  refine ⟨fun d e c p h => ?_, ?_⟩
  · unfold opD at h
    split at h <;> first | cases h | (split at h <;> cases h)
  · intro F H ps x y d e z Q o s rx ry hz k
    cases d with
    | int i =>
      cases e with
      | int j =>
        cases hz
        exact ⟨i, j, res_int rx, res_int ry, k _ F H (Ext.refl s) (.int _)⟩
      | _ => simp [opD] at hz
    | _ => cases e <;> simp [opD] at hz
theorem dz_mul (h1 : la.fine = true) : Does2 K (rMulAll K) la lb .cl (opD .mul) := by
  refine ⟨fun d e c p h => ?_, ?_⟩
  · unfold opD at h
    split at h <;> first | cases h | (split at h <;> cases h)
  · intro F H ps x y d e z Q o s rx ry hz k
    cases d with
    | int i =>
      cases e with
      | int j =>
        simp only [opD] at hz
        split at hz
        · rename_i hl
          cases hz
          refine .inl ⟨i, j, res_int rx, res_int ry, ?_, k _ F H (Ext.refl s) (.int _)⟩
          rcases hl with ⟨a, b⟩ | ⟨a, b⟩
          · exact .inl ⟨by omega, by omega⟩
          · exact .inr ⟨by omega, by omega⟩
        · cases hz
      | _ => simp [opD] at hz
    | tuple i =>
      cases e with
      | int j =>
        simp only [opD] at hz
        split at hz
        · rename_i hl
          cases hz
          obtain ⟨a, xs, rfl, ha, da, fa⟩ := res_tup h1 s rx
          refine .inr (.inl ⟨a, j, xs, rfl, res_int ry, ha, hl.1, hl.2.1, by rw [da.length]; exact hl.2.2, fun ex => ?_, fun nx p hp => ?_⟩)
          · have e1 : repD j i = i := by
              rcases ex with ex | ex
              · subst ex
                rw [drAll_nil' da]
                unfold repD
                induction j.toNat with
                | zero => rfl
                | succ n ih => rw [List.replicate_succ, List.flatten_cons, ih]; rfl
              · subst ex
                exact List.append_nil i
            rw [e1] at k
            exact k _ F H (Ext.refl s) (.tup fa da)
          · exact k _ _ _ (Ext.new s hp) (dr_tupN s hp (da.rep _))
        · cases hz
      | _ => simp [opD] at hz
    | list i =>
      cases e with
      | int j =>
        simp only [opD] at hz
        split at hz
        · rename_i hl
          cases hz
          obtain ⟨a, xs, rfl, ha, da⟩ := res_list h1 s rx
          refine .inr (.inr ⟨a, j, xs, rfl, res_int ry, ha, by omega, by omega, by rw [da.length]; exact lim_line hl.2.2, fun p hp => ?_⟩)
          exact k _ _ _ (Ext.new s hp) (dr_lstN s hp (da.rep _))
        · cases hz
      | _ => simp [opD] at hz
    | _ => cases e <;> simp [opD] at hz
theorem dz_fdiv : Does2 K (rI CDiv fun i j => .int (i / j)) la lb .cl (opD .fdiv) := by
  refine ⟨fun d e c p h => ?_, ?_⟩
  · unfold opD at h
    split at h <;> first | cases h | (split at h <;> cases h)
  · intro F H ps x y d e z Q o s rx ry hz k
    cases d with
    | int i =>
      cases e with
      | int j =>
        simp only [opD] at hz
        split at hz
        · rename_i hl
          cases hz
          exact ⟨i, j, res_int rx, res_int ry, ⟨hl.1, by omega⟩, k _ F H (Ext.refl s) (.int _)⟩
        · cases hz
      | _ => simp [opD] at hz
    | _ => cases e <;> simp [opD] at hz
theorem dz_mod : Does2 K (rI (fun _ j => 0 < j) fun i j => .int (i % j)) la lb .cl (opD .mod) := by
  refine ⟨fun d e c p h => ?_, ?_⟩
  · unfold opD at h
    split at h <;> first | cases h | (split at h <;> cases h)
  · intro F H ps x y d e z Q o s rx ry hz k
    cases d with
    | int i =>
      cases e with
      | int j =>
        simp only [opD] at hz
        split at hz
        · rename_i hl
          cases hz
          exact ⟨i, j, res_int rx, res_int ry, hl, k _ F H (Ext.refl s) (.int _)⟩
        · cases hz
      | _ => simp [opD] at hz
    | _ => cases e <;> simp [opD] at hz
theorem dz_pow : Does2 K (rI CPow fun i j => .int (i ^ j.toNat)) la lb .cl (opD .pow) := by
  refine ⟨fun d e c p h => ?_, ?_⟩
  · unfold opD at h
    split at h <;> first | cases h | (split at h <;> cases h)
  · intro F H ps x y d e z Q o s rx ry hz k
    cases d with
    | int i =>
      cases e with
      | int j =>
        simp only [opD] at hz
        split at hz
        · rename_i hl
          cases hz
          exact ⟨i, j, res_int rx, res_int ry, ⟨hl.1, by omega, by omega⟩, k _ F H (Ext.refl s) (.int _)⟩
        · cases hz
      | _ => simp [opD] at hz
    | _ => cases e <;> simp [opD] at hz
end
end Rr

set_option linter.all false
set_option Elab.async false
set_option maxRecDepth 100000
set_option maxHeartbeats 1000000
/-! Comparisons, subscripts, slices, tests. -/
namespace Rr
open PySem PySem.Spec PyProof.Rows L2

/-- a comparison as a value -/
def cpV (o : Cp) (x y : D) : R D := (cpD o x y).bind fun k => .ok (.bool k)
theorem cpV_ok {o : Cp} {x y z : D} (h : cpV o x y = .ok z) : ∃ k, cpD o x y = .ok k ∧ z = .bool k := by
  unfold cpV at h
  cases e : cpD o x y with
  | ok k => rw [e] at h; cases h; exact ⟨k, rfl, rfl⟩
  | ex c p => rw [e] at h; cases h
  | bad => rw [e] at h; cases h
theorem eqD_ok {x y : D} {k : Bool} (h : eqD x y = .ok k) : shp 8 x = true ∧ shp 8 y = true ∧ k = PyData.eqv x y := by
  unfold eqD at h
  split at h
  · rename_i hs
    cases h
    rw [Bool.and_eq_true] at hs
    exact ⟨hs.1, hs.2, rfl⟩
  · cases h
theorem eqD_noex (x y : D) : ∀ c p, eqD x y ≠ .ex c p := by
  intro c p h
  unfold eqD at h
  split at h <;> cases h
theorem inD_noex (x y : D) : ∀ c p, inD x y ≠ .ex c p := by
  intro c p h
  unfold inD at h
  split at h <;> first | cases h | (split at h <;> cases h)
theorem cpD_noex (o : Cp) (x y : D) : ∀ c p, cpD o x y ≠ .ex c p := by
  intro c p h
  have n1 : ((eqD x y).bind fun z => .ok (!z)) ≠ .ex c p := by
    intro h
    cases e : eqD x y with
    | ok k => rw [e] at h; cases h
    | ex c p => exact eqD_noex _ _ _ _ e
    | bad => rw [e] at h; cases h
  have n2 : ((inD x y).bind fun z => .ok (!z)) ≠ .ex c p := by
    intro h
    cases e : inD x y with
    | ok k => rw [e] at h; cases h
    | ex c p => exact inD_noex _ _ _ _ e
    | bad => rw [e] at h; cases h
  cases o with
  | eq => exact eqD_noex _ _ _ _ h
  | ne => exact n1 h
  | inn => exact inD_noex _ _ _ _ h
  | nin => exact n2 h
  | _ => cases x <;> cases y <;> cases h
theorem cpV_noex (o : Cp) (x y : D) : ∀ c p, cpV o x y ≠ .ex c p := by
  intro c p h
  unfold cpV at h
  cases e : cpD o x y with
  | ok k => rw [e] at h; cases h
  | ex c p => exact cpD_noex _ _ _ _ _ e
  | bad => rw [e] at h; cases h

section
variable {K : PySem.W.Frag} {la lb : Lv}
theorem dz_eq (h1 : la ≠ .dd) (h2 : lb ≠ .dd) : Does2 K (rEqD K) la lb .cl (cpV .eq) := by
  refine ⟨cpV_noex .eq, ?_⟩
  intro F H ps x y d e z Q o s rx ry hz k
  obtain ⟨b, hb, rfl⟩ := cpV_ok hz
  obtain ⟨s1, s2, rfl⟩ := eqD_ok hb
  exact ⟨d, e, dr_dp (res_any o s h1 rx) s1, dr_dp (res_any o s h2 ry) s2, shp_shaped s1, shp_shaped s2, k _ F H (Ext.refl s) (.bl _)⟩
theorem dz_ne (h1 : la ≠ .dd) (h2 : lb ≠ .dd) : Does2 K (rNeD K) la lb .cl (cpV .ne) := by
  refine ⟨cpV_noex .ne, ?_⟩
  intro F H ps x y d e z Q o s rx ry hz k
  obtain ⟨b, hb, rfl⟩ := cpV_ok hz
  have hb : ((eqD d e).bind fun x => .ok (!x)) = .ok b := hb
  cases q : eqD d e with
  | ok b' =>
    rw [q] at hb
    cases hb
    obtain ⟨s1, s2, rfl⟩ := eqD_ok q
    exact ⟨d, e, dr_dp (res_any o s h1 rx) s1, dr_dp (res_any o s h2 ry) s2, shp_shaped s1, shp_shaped s2, k _ F H (Ext.refl s) (.bl _)⟩
  | ex c p => rw [q] at hb; cases hb
  | bad => rw [q] at hb; cases hb
theorem dz_ord {c : Cp} {g : Int → Int → Bool} (hi : ∀ i j, cpD c (.int i) (.int j) = .ok (g i j)) (hn : ∀ d e k, cpD c d e = .ok k → ∃ i j, d = .int i ∧ e = .int j) : Does2 K (rI0 fun i j => .bl (g i j)) la lb .cl (cpV c) := by
  refine ⟨cpV_noex c, ?_⟩
  intro F H ps x y d e z Q o s rx ry hz k
  obtain ⟨b, hb, rfl⟩ := cpV_ok hz
  obtain ⟨i, j, rfl, rfl⟩ := hn _ _ _ hb
  rw [hi] at hb
  cases hb
  exact ⟨i, j, res_int rx, res_int ry, k _ F H (Ext.refl s) (.bl _)⟩
theorem dz_lt : Does2 K (rI0 fun i j => .bl (decide (i < j))) la lb .cl (cpV .lt) := dz_ord (fun _ _ => rfl) fun d e k h => by
  unfold cpD at h
  split at h <;> simp_all
theorem dz_le : Does2 K (rI0 fun i j => .bl (decide (i ≤ j))) la lb .cl (cpV .le) := dz_ord (fun _ _ => rfl) fun d e k h => by
  unfold cpD at h
  split at h <;> simp_all
theorem dz_gt : Does2 K (rI0 fun i j => .bl (decide (j < i))) la lb .cl (cpV .gt) := dz_ord (fun _ _ => rfl) fun d e k h => by
  unfold cpD at h
  split at h <;> simp_all
theorem dz_ge : Does2 K (rI0 fun i j => .bl (decide (j ≤ i))) la lb .cl (cpV .ge) := dz_ord (fun _ _ => rfl) fun d e k h => by
  unfold cpD at h
  split at h <;> simp_all
theorem res_isn {F H : Hp} {ps : List Addr} {l : Lv} {v : V} {d : D} (h : Res K F H ps l v d) : decide (v = .non) = isNone d := by
  cases l with
  | cl => cases h <;> rfl
  | dt => cases h <;> rfl
  | sh => obtain ⟨p, vs, ds, rfl, hp, rfl, eh, r⟩ := h; rfl
  | dd => obtain ⟨p, vs, ds, rfl, hp, rfl, eh, r⟩ := h; rfl
theorem dz_isn : Does2 K (fun x y H Q => y = .non ∧ Q (.bl (decide (x = .non))) H) la lb .cl (cpV .isn) := by
  refine ⟨cpV_noex .isn, ?_⟩
  intro F H ps x y d e z Q o s rx ry hz k
  obtain ⟨b, hb, rfl⟩ := cpV_ok hz
  have he : e = .none ∧ b = isNone d := by
    cases e <;> first | exact ⟨rfl, (R.ok.inj hb).symm⟩ | (cases d <;> cases hb)
  obtain ⟨rfl, rfl⟩ := he
  refine ⟨res_none ry, ?_⟩
  rw [res_isn rx]
  exact k _ F H (Ext.refl s) (.bl _)
theorem dz_isnn : Does2 K (fun x y H Q => y = .non ∧ Q (.bl (!decide (x = .non))) H) la lb .cl (cpV .isnn) := by
  refine ⟨cpV_noex .isnn, ?_⟩
  intro F H ps x y d e z Q o s rx ry hz k
  obtain ⟨b, hb, rfl⟩ := cpV_ok hz
  have he : e = .none ∧ b = !isNone d := by
    cases e <;> first | exact ⟨rfl, (R.ok.inj hb).symm⟩ | (cases d <;> cases hb)
  obtain ⟨rfl, rfl⟩ := he
  refine ⟨res_none ry, ?_⟩
  rw [res_isn rx]
  exact k _ F H (Ext.refl s) (.bl _)
end
end Rr

set_option linter.all false
set_option Elab.async false
set_option maxRecDepth 100000
set_option maxHeartbeats 1000000
/-! t[::c] of a tuple; xs[::-1] of lists and tuples. -/
namespace Rr
open PySem PySem.Spec PyProof.Rows L2

section
variable {prog : Program} {w : World} {A : Around} {E : Value → Shared → Prop} {s : Shared}
/-- the places of [::c] -/
def plcN (c : Int) (n : Nat) : Int × Nat := let q := Builtin.Slice.sliceAdjust none none c (n : Int); (q.1, Builtin.Slice.slicePlaces q.1 q.2 c)
theorem applied_step {sl : Addr} {c : Int} {t : Tok} {n : Nat} {Q : Int × Int × Nat → Shared → Prop} (hc : c ≠ 0) (hs : s.heap.IsSliceOf sl .none .none (.int c t)) (h : Q ((plcN c n).1, c, (plcN c n).2) s) :
    wpAny (model prog w) A (Builtin.Slice.sliceApplied (.ref sl) (pure (n : Int))) Q E s := by
  obtain ⟨u, hu, cu, du⟩ := hs
  unfold Builtin.Slice.sliceApplied Builtin.Slice.sliceFields
  refine wpAny_bind (wpAny_bind (wpAny_field hu du (x := .none) rfl (wpAny_bind (wpAny_field hu du (x := .none) rfl (wpAny_bind (wpAny_field hu du (x := .int c t) rfl (wpAny_pure ?_)))))))
  refine wpAny_bind (HT.slicePart_ (.int c t) ?_)
  show wpAny _ _ (if (c == 0) = true then _ else _) _ _ s
  rw [if_neg (by simpa using hc)]
  exact wpAny_bind (HT.slicePart_ .none (wpAny_bind (HT.slicePart_ .none (wpAny_bind (wpAny_pure (wpAny_pure h))))))
theorem item_tuple_step {t sl : Addr} {its : Array Value} {c : Int} {tk : Tok} {Q : Value → Shared → Prop} (hc0 : c ≠ 0) (ht : IsTup s.heap t its) (hs : s.heap.IsSliceOf sl .none .none (.int c tk))
    (h1 : ((plcN c its.size).1 == 0 && c == 1 && (plcN c its.size).2 == its.size) = true → Q (.ref t) s)
    (h2 : ((plcN c its.size).1 == 0 && c == 1 && (plcN c its.size).2 == its.size) = false →
      Q (.ref s.heap.objs.size) { s with heap := s.heap.push { cls := .type "tuple", data := .seq ((List.range (plcN c its.size).2).filterMap fun (k : Nat) => its[((plcN c its.size).1 + (k : Int) * c).toNat]?).toArray } })
    (hz : (plcN c its.size).2 ≤ sizeLine) : wpAny (model prog w) A (getItem (.ref t) (.ref sl)) Q E s := by
  have hT : s.TypeIs (.ref sl) "slice" := let ⟨u, hu, cu, _⟩ := hs; ⟨u, hu, cu⟩
  unfold getItem
  try with_reducible refine wpAny_holding ?_
  first | refine wpAny_bind (wpAny_pure ?_) | skip
  refine wpAny_bind (wpAny_sequenceKey ht.typeIs (by decide) ?_)
  refine wpAny_bind (wpAny_callSpecial?_slot (name := Str.ofString "__getitem__") ht.typeIs PyProof.Rows.slot_tuple_getitem
    (wpAny_call_entry PyProof.Rows.slot_tuple_getitem ht.typeIs entry_tuple_getitem ?_ (args_tuple_getitem _ _)))
  show wpAny _ _ (Builtin.Tuple.tupleItemsOf (.ref t) >>= _) _ _ s
  refine wpAny_bind (tupleItemsOf_ ht ?_)
  refine wpAny_bind (wpAny_typeOf hT ?_)
  rw [if_pos (by decide)]
  refine wpAny_bind (applied_step hc0 hs ?_)
  show wpAny _ _ (if ((plcN c its.size).1 == 0 && c == 1 && (plcN c its.size).2 == its.size) = true then _ else _) _ _ s
  cases e : ((plcN c its.size).1 == 0 && c == 1 && (plcN c its.size).2 == its.size) with
  | true =>
    rw [if_pos rfl]
    unfold Builtin.Tuple.tupleIsExact
    refine wpAny_bind (wpAny_bind (wpAny_typeOf ht.typeIs (wpAny_pure ?_)))
    rw [if_pos (by decide)]
    first
      | exact wpAny_bind (wpAny_rule (wpAny_pure ⟨_, rfl, wpAny_pure (h1 e)⟩))
      | exact wpAny_bind (wpAny_bind (wpAny_pure (wpAny_pure ⟨_, rfl, wpAny_pure (h1 e)⟩)))
  | false =>
    rw [if_neg Bool.false_ne_true]
    have hk : sizeOk (.seq ((List.range (plcN c its.size).2).filterMap fun (k : Nat) => its[((plcN c its.size).1 + (k : Int) * c).toNat]?).toArray) := by
      show ((List.range (plcN c its.size).2).filterMap fun (k : Nat) => its[((plcN c its.size).1 + (k : Int) * c).toNat]?).toArray.size ≤ sizeLine
      rw [List.size_toArray]
      exact Nat.le_trans (List.length_filterMap_le _ _) (by rw [List.length_range]; exact hz)
    first
      | exact wpAny_bind (m := Builtin.Tuple.tupleExact _) (wpAny_newObj_type (wpAny_pure ⟨_, rfl, wpAny_pure (h2 e)⟩) hk)
      | exact wpAny_bind (m := Builtin.Tuple.tupleExact _) (wpAny_newObj_type (wpAny_bind (wpAny_pure (wpAny_pure ⟨_, rfl, wpAny_pure (h2 e)⟩))) hk)
      | exact wpAny_bind (wpAny_bind (m := Builtin.Tuple.tupleExact _) (wpAny_newObj_type (wpAny_pure (wpAny_pure ⟨_, rfl, wpAny_pure (h2 e)⟩)) hk))
      | exact wpAny_bind (wpAny_bind (m := Builtin.Tuple.tupleExact _) (wpAny_newObj_type (wpAny_pure ⟨_, rfl, wpAny_pure (h2 e)⟩) hk))
end

/-! ### picking -/
def pick {a : Type} (c : Int) (xs : List a) : List a := (List.range (plcN c xs.length).2).filterMap fun (k : Nat) => xs[((plcN c xs.length).1 + (k : Int) * c).toNat]?
def whole (c : Int) (n : Nat) : Bool := (plcN c n).1 == 0 && c == 1 && (plcN c n).2 == n
theorem paired_pick {a b : Type} {Rel : a → b → Prop} {xs : List a} {ys : List b} (h : ∀ (i : Nat), (∀ x, xs[i]? = some x → ∃ y, ys[i]? = some y ∧ Rel x y) ∧ (xs[i]? = none → ys[i]? = none)) (g : Nat → Nat) :
    ∀ (l : List Nat), Paired Rel (l.filterMap fun k => xs[g k]?) (l.filterMap fun k => ys[g k]?)
  | [] => .nil
  | k :: l => by
    rw [List.filterMap_cons, List.filterMap_cons]
    cases e : xs[g k]? with
    | none =>
      rw [(h (g k)).2 e]
      exact paired_pick h g l
    | some x =>
      obtain ⟨y, ey, r⟩ := (h (g k)).1 x e
      rw [ey]
      exact .cons r (paired_pick h g l)
theorem vals_pick {c : Int} {xs : List V} {us : List Value} (r : Vals xs us) : Vals (pick c xs) (pick c us) := by
  unfold pick
  rw [← r.length]
  exact paired_pick (fun i => ⟨fun x e => r.get e, fun e => r.none_of e⟩) _ _
theorem drAll_pick {K : PySem.W.Frag} {F : Hp} {c : Int} {xs : List V} {ds : List D} (r : DrAll K F xs ds) : DrAll K F (pick c xs) (pick c ds) := by
  have conv : ∀ {vs : List V} {es : List D}, Paired (fun v d => Dr K F v d) vs es → DrAll K F vs es := by
    intro vs es h
    induction h with
    | nil => exact .nil
    | cons a _ ih => exact .cons a ih
  have hl := r.length
  have bk : ∀ (i : Nat), (∀ x, xs[i]? = some x → ∃ y, ds[i]? = some y ∧ Dr K F x y) ∧ (xs[i]? = none → ds[i]? = none) := fun i => by
    refine ⟨fun x e => ?_, fun e => ?_⟩
    · have hi : i < ds.length := by
        have := (List.getElem?_eq_some_iff.mp e).1
        omega
      obtain ⟨v, e1, e2⟩ := r.get (List.getElem?_eq_getElem hi)
      rw [e] at e1
      cases e1
      exact ⟨_, List.getElem?_eq_getElem hi, e2⟩
    · have := List.getElem?_eq_none_iff.mp e
      exact List.getElem?_eq_none_iff.mpr (by omega)
  apply conv
  unfold pick
  rw [← hl]
  exact paired_pick bk _ _
theorem pick_len {a : Type} (c : Int) (xs : List a) : (pick c xs).length ≤ (plcN c xs.length).2 :=
  Nat.le_trans (List.length_filterMap_le _ _) (by rw [List.length_range]; exact Nat.le_refl _)

/-! ### the rule -/
section
variable {X : Cx}
def stpQ (K : PySem.W.Frag) (x : V) (Q : VK) (o : Option Int) (H : Hp) : Prop := ∃ c, o = some c ∧ c ≠ 0 ∧
  ((c = -1 ∧ ∃ a xs, x = .ref a ∧ SqL K H a xs ∧ ∀ p, H p = none → Q (.ref p) (upd H p (.lst xs.reverse))) ∨
   (∃ a xs, x = .ref a ∧ SqT K H a xs ∧ (plcN c xs.length).2 ≤ xs.length ∧ (whole c xs.length = true → Q (.ref a) H) ∧ (whole c xs.length = false → ∀ p, H p = none → Q (.ref p) (upd H p (.tup (pick c xs))))))
def tStp (K : PySem.W.Frag) (te ts : TE) : TE := fun sg H Q => te sg H fun x H1 => tPart ts sg H1 (stpQ K x Q)
theorem pe_stp {e st : Expr} {te ts : TE} {p3 pos : Pos} (he : PE X e te) (hst : PE X st ts) : PE X (.Subscript e (.Slice none none (some st) p3) pos) (tStp X.K te ts) := by
  refine ⟨fun pins s sg H Q I h => ?_⟩
  refine Subscript_ (thn (he.run pins s sg H _ I h) fun v s1 ⟨x, H1, I1, r1, q1⟩ => ?_)
  refine wpAny_Slice (thn (po_none.run pins s1 sg H1 (fun o H2 => o = none ∧ H2 = H1) I1 ⟨rfl, rfl⟩) fun vl s2 ⟨l, H2, I2, pl, el, e2⟩ => ?_)
  subst el e2
  refine thn (po_none.run pins s2 sg H2 (fun o H3 => o = none ∧ H3 = H2) I2 ⟨rfl, rfl⟩) fun vu s3 ⟨u, H3, I3, pu, eu, e3⟩ => ?_
  subst eu e3
  refine thn ((po_some hst).run pins s3 sg H3 _ I3 q1) fun vs s4 ⟨o, H4, I4, ps, c, eo, hc0, q⟩ => ?_
  subst eo
  cases pl
  cases pu
  have ps' : ∃ tk, vs = .int c tk := by
    cases ps
    exact ⟨_, rfl⟩
  obtain ⟨tk, rfl⟩ := ps'
  have I5 : Inv X pins sg H4 { s4 with heap := s4.heap.push { cls := .type "slice", data := .fields #[.none, .none, .int c tk] } } := I4.kept (t' := s4.toks) fun b ob q => Heap.get?_push_of_some _ q
  have hS := Heap.IsSliceOf.new s4.heap .none .none (.int c tk)
  rcases q with ⟨ec, a, xs, ex, hx, q⟩ | ⟨a, xs, ex, hx, hz2, qa, qb⟩
  · subst ex ec
    cases r1
    obtain ⟨its, r, ht, hz⟩ := I5.list hx
    have hlen := r.length
    show wpAny (model X.prog X.w) X.A (subscriptTail e (.Slice none none (some st) p3) (.ref a) (.ref s4.heap.objs.size)) (EP X pins sg Q) X.xe _
    refine tail_any (ops := [.ref a, .ref s4.heap.objs.size]) ht.isList.typeIs (PySem.slot_list_getitem.lookup) ?_ (by with_unfolding_all rfl)
    refine wpAny_getItem_list_slice ht.isList hS .none .none (.int _ tk) (by decide) ?_ (by simp only [List.size_toArray]; omega)
    rw [PySem.W.krv_pick]
    refine ⟨.ref _, _, I5.laid (t' := s4.toks) (o := .lst xs.reverse) (fun b ob q => Heap.get?_push_of_some _ q) (Nat.le_refl _) ?_, rfl, q _ (I5.hok.fresh (Nat.le_refl _))⟩
    exact ⟨by simp only [List.length_reverse]; exact hz, _, 0, r.reverse, Heap.get?_push_size _ rfl⟩
  · subst ex
    cases r1
    obtain ⟨its, r, ht, hz⟩ := I5.tuple hx
    have hlen : its.toArray.size = xs.length := by simp only [List.size_toArray]; exact r.length.symm
    show wpAny (model X.prog X.w) X.A (subscriptTail e (.Slice none none (some st) p3) (.ref a) (.ref s4.heap.objs.size)) (EP X pins sg Q) X.xe _
    refine tail_any (ops := [.ref a, .ref s4.heap.objs.size]) ht.typeIs (PyProof.Rows.slot_tuple_getitem.lookup) ?_ (by with_unfolding_all rfl)
    refine item_tuple_step hc0 ht hS (fun hw => ?_) (fun hw => ?_) (by rw [hlen]; exact Nat.le_trans hz2 hz)
    · rw [hlen] at hw
      exact ⟨.ref a, H4, I5, rfl, qa hw⟩
    · rw [hlen] at hw ⊢
      refine ⟨.ref _, _, I5.laid (t' := s4.toks) (o := .tup (pick c xs)) (fun b ob q => Heap.get?_push_of_some _ q) (Nat.le_refl _) ?_, rfl, qb hw _ (I5.hok.fresh (Nat.le_refl _))⟩
      have hv := vals_pick (c := c) r
      have e0 : pick c its = (List.range (plcN c xs.length).2).filterMap fun (k : Nat) => its.toArray[((plcN c xs.length).1 + (k : Int) * c).toNat]? := by
        unfold pick
        rw [← r.length]
        simp
      rw [e0] at hv
      exact ⟨Nat.le_trans (pick_len c xs) (Nat.le_trans hz2 hz), _, hv, IsTup.new _ _⟩
end

/-! ### what is picked -/
theorem plc_back (n : Nat) : plcN (-1) n = ((n : Int) - 1, n) := by
  have e1 : (plcN (-1) n).1 = (n : Int) - 1 := rfl
  have e2 : (plcN (-1) n).2 = (if ((n : Int) - 1) > -1 then (((n : Int) - 1) - (-1) - 1) / 1 + 1 else 0).toNat := rfl
  have e3 : (plcN (-1) n).2 = n := by
    rw [e2]
    split
    · rw [Int.ediv_one]; omega
    · omega
  exact Prod.ext e1 e3
theorem pick_back {a : Type} (xs : List a) : pick (-1) xs = xs.reverse := by
  unfold pick
  rw [plc_back]
  show (List.range xs.length).filterMap (fun (k : Nat) => xs[((xs.length : Int) - 1 + (k : Int) * (-1)).toNat]?) = _
  apply List.ext_getElem?
  intro i
  have h : ∀ (m : Nat), m ≤ xs.length → (List.range m).filterMap (fun (k : Nat) => xs[((xs.length : Int) - 1 + (k : Int) * (-1)).toNat]?) = (xs.reverse).take m := by
    intro m
    induction m with
    | zero => intro _; simp
    | succ m ih =>
      intro hm
      rw [List.range_succ, List.filterMap_append, ih (by omega), List.take_add_one]
      congr 1
      have e : ((xs.length : Int) - 1 + (m : Int) * (-1)).toNat = xs.length - 1 - m := by omega
      rw [List.filterMap_cons, List.filterMap_nil, e, List.getElem?_reverse (by omega)]
      cases xs[xs.length - 1 - m]? <;> rfl
  rw [h _ (Nat.le_refl _), List.take_of_length_le (by simp)]
end Rr

set_option linter.all false
set_option Elab.async false
set_option maxRecDepth 100000
set_option maxHeartbeats 1000000
/-! in, subscripts, slices, tests, displays. -/
namespace Rr
open PySem PySem.Spec PyProof.Rows L2

/-! ### in -/
theorem eqV_eqv {x y : V} {d e : D} (hx : FlatR x d) (hy : FlatR y e) : eqV y x = PyData.eqv e d := by
  cases hx <;> cases hy <;> rfl
theorem flatV_of {x : V} {d : D} (h : FlatR x d) : flatV x = true := by
  cases h <;> rfl
theorem drAll_flat {K : PySem.W.Frag} {F : Hp} : ∀ {vs : List V} {ds : List D}, DrAll K F vs ds → ds.all flat = true → vs.all flatV = true ∧ ∀ {x : V} {d : D}, FlatR x d → inV x vs = ds.any fun y => PyData.eqv y d
  | _, _, .nil, _ => ⟨rfl, fun _ => rfl⟩
  | _, _, .cons h a, e => by
    rw [List.all_cons, Bool.and_eq_true] at e
    obtain ⟨h1, h2⟩ := drAll_flat a e.2
    have hf := flatR_of h e.1
    refine ⟨by rw [List.all_cons, flatV_of hf, h1]; rfl, fun hx => ?_⟩
    show (eqV _ _ || inV _ _) = _
    rw [List.any_cons, eqV_eqv hx hf, h2 hx]
theorem sign_one {z : Str} {c : Nat} (h : sign z = some c) : z = ⟨#[c]⟩ := by
  unfold sign at h
  obtain ⟨a⟩ := z
  split at h
  · rename_i c' e
    cases h
    have : a = #[c] := by
      apply Array.toList_inj.mp
      exact e
    rw [this]
  · cases h
def rInAll (K : PySem.W.Frag) : R2 := fun x y H Q => rInD K x y H Q ∨ (rIn K false x y H Q ∨ ∃ (c : Nat) (z : Str), x = .str ⟨#[c]⟩ ∧ y = .str z ∧ Q (.bl (decide (c ∈ z.cps.toList))) H)
theorem op_inAll {X : Cx} (hu : X.A.units + 65 < cLine) : OpR X (compareOp .In) (rInAll X.K) := (op_inD hu).or (op_in_seq.or op_in_sign)
def rNotAll (K : PySem.W.Frag) : R2 := fun x y H Q => rNotInD K x y H Q ∨ (rIn K true x y H Q ∨ ∃ (c : Nat) (z : Str), x = .str ⟨#[c]⟩ ∧ y = .str z ∧ Q (.bl (!decide (c ∈ z.cps.toList))) H)
theorem op_notAll {X : Cx} (hu : X.A.units + 65 < cLine) : OpR X (compareOp .NotIn) (rNotAll X.K) := (op_notInD hu).or (op_notIn_seq.or op_notIn_sign)
section
variable {K : PySem.W.Frag} {la lb : Lv}
theorem dz_in_core (h1 : la ≠ .dd) (h2 : lb.fine = true) {F H : Hp} {ps : List Addr} {x y : V} {d e : D} {b : Bool} {P : Bool → Prop} (o : ∀ p ∈ ps, F p = none ∧ ∃ u, H p = some u ∧ noT u = true) (s : Same F H) (rx : Res K F H ps la x d) (ry : Res K F H ps lb y e)
    (hb : inD d e = .ok b) : (∃ ds, e = .list ds ∧ Dp K H x d ∧ Dp K H y (.list ds) ∧ SeqAt.shaped d = true ∧ SeqAt.shaped (.list ds) = true ∧ b = ds.any fun z => PyData.eqv z d) ∨
      (∃ p xs, y = .ref p ∧ (SqL K H p xs ∨ SqT K H p xs) ∧ flatV x = true ∧ xs.all flatV = true ∧ b = inV x xs) ∨ (∃ (c : Nat) (z : Str), x = .str ⟨#[c]⟩ ∧ y = .str z ∧ b = decide (c ∈ z.cps.toList)) := by
  cases e with
  | list l =>
    simp only [inD] at hb
    split at hb
    · rename_i hs
      cases hb
      rw [Bool.and_eq_true] at hs
      exact .inl ⟨l, rfl, dr_dp (res_any o s h1 rx) hs.1, dr_dp (res_any o s (by intro q; rw [q] at h2; cases h2) ry) hs.2, shp_shaped hs.1, shp_shaped hs.2, rfl⟩
    · cases hb
  | tuple l =>
    simp only [inD] at hb
    split at hb
    · rename_i hs
      cases hb
      rw [Bool.and_eq_true] at hs
      obtain ⟨a, xs, rfl, ha, da, fa⟩ := res_tup h2 s ry
      have fx := rx.flat hs.1
      obtain ⟨q1, q2⟩ := drAll_flat da hs.2
      exact .inr (.inl ⟨a, xs, rfl, .inr ha, flatV_of fx, q1, (q2 fx).symm⟩)
    · cases hb
  | str z =>
    cases d with
    | str a =>
      simp only [inD] at hb
      split at hb
      · rename_i c hc
        cases hb
        rw [sign_one hc] at rx
        exact .inr (.inr ⟨c, z, res_str rx, res_str ry, rfl⟩)
      · cases hb
    | _ => simp [inD] at hb
  | dict kvs =>
    cases lb with
    | cl =>
      cases ry with
      | scr hq =>
        cases d <;> simp only [inD, scrD] at hb <;> first | cases hb | skip
        split at hb
        · rename_i q
          cases q
        · cases hb
      | @kt a ns hq =>
        have hb : (if flat d && (ns.map PyData.int).all flat then R.ok ((ns.map PyData.int).any fun y => PyData.eqv y d) else .bad) = .ok b := by
          rw [← hb]; cases d <;> simp [inD, ktD]
        split at hb
        · rename_i hs
          cases hb
          rw [Bool.and_eq_true] at hs
          have fx := rx.flat hs.1
          obtain ⟨q1, q2⟩ := drAll_flat (DrAll.ofInts (K := K) (F := F) ns) hs.2
          exact .inr (.inl ⟨a, _, rfl, .inr (sqT_mono s hq), flatV_of fx, q1, (q2 fx).symm⟩)
        · cases hb
    | sh =>
      obtain ⟨p, vs, ds, rfl, hp, e, eh, r⟩ := ry
      cases e
    | _ => cases h2
  | _ => cases d <;> simp [inD] at hb
theorem inD_of_ok {d e : D} {b : Bool} (h : cpD .inn d e = .ok b) : inD d e = .ok b := h
theorem dz_in (h1 : la ≠ .dd) (h2 : lb.fine = true) : Does2 K (rInAll K) la lb .cl (cpV .inn) := by
  refine ⟨cpV_noex .inn, ?_⟩
  intro F H ps x y d e z Q o s rx ry hz k
  obtain ⟨b, hb, rfl⟩ := cpV_ok hz
  have fin := k (.bl b) F H (Ext.refl s) (.bl _)
  rcases dz_in_core (P := fun _ => True) h1 h2 o s rx ry hb with ⟨ds, rfl, q1, q2, q3, q4, e⟩ | ⟨p, xs, q1, q2, q3, q4, e⟩ | ⟨c, w, q1, q2, e⟩
  · rw [e] at fin
    exact .inl ⟨d, ds, q1, q2, q3, q4, fin⟩
  · rw [e] at fin
    exact .inr (.inl ⟨p, xs, q1, q2, q3, q4, fin⟩)
  · rw [e] at fin
    exact .inr (.inr ⟨c, w, q1, q2, fin⟩)
theorem dz_nin (h1 : la ≠ .dd) (h2 : lb.fine = true) : Does2 K (rNotAll K) la lb .cl (cpV .nin) := by
  refine ⟨cpV_noex .nin, ?_⟩
  intro F H ps x y d e z Q o s rx ry hz k
  obtain ⟨b, hb, rfl⟩ := cpV_ok hz
  have hb : ((inD d e).bind fun x => .ok (!x)) = .ok b := hb
  cases q : inD d e with
  | ok b' =>
    rw [q] at hb
    cases hb
    have fin := k (.bl (!b')) F H (Ext.refl s) (.bl _)
    rcases dz_in_core (P := fun _ => True) h1 h2 o s rx ry q with ⟨ds, rfl, q1, q2, q3, q4, e⟩ | ⟨p, xs, q1, q2, q3, q4, e⟩ | ⟨c, w, q1, q2, e⟩
    · rw [e] at fin
      exact .inl ⟨d, ds, q1, q2, q3, q4, fin⟩
    · rw [e] at fin
      exact .inr (.inl ⟨p, xs, q1, q2, q3, q4, fin⟩)
    · rw [e] at fin
      exact .inr (.inr ⟨c, w, q1, q2, fin⟩)
  | ex c p => rw [q] at hb; cases hb
  | bad => rw [q] at hb; cases hb

/-! ### items -/
def rIxAll (K : PySem.W.Frag) : R2 := fun x y H Q => rIxL K x y H Q ∨ (rIxT K x y H Q ∨ rIxS x y H Q)
theorem ix_all {X : Cx} : IxR X (rIxAll X.K) := ix_list.or (ix_tup.or ix_str)
theorem nth_get {F : Hp} {vs : List V} {l : List D} {i : Int} {z : D} (a : DrAll K F vs l) (h : nthD l i = .ok z) : ∃ v, atI vs i = some v ∧ Dr K F v z := by
  unfold nthD at h
  have e : ((ixI l.length i).bind fun j => l[j]?) = some z := by
    cases q : ((ixI l.length i).bind fun j => l[j]?) with
    | none => rw [q] at h; cases h
    | some x => rw [q] at h; cases h; rfl
  obtain ⟨j, hj, hz⟩ := Option.bind_eq_some_iff.mp e
  obtain ⟨v, hv, hd⟩ := a.get hz
  refine ⟨v, ?_, hd⟩
  unfold atI
  rw [a.length]
  show (ixI l.length i).bind _ = _
  rw [hj]
  exact hv
theorem ofOpt_noex {a : Type} (x : Option a) : ∀ c p, R.ofOpt x ≠ .ex c p := by
  intro c p h
  cases x <;> cases h
theorem subD_noex (x y : D) : ∀ c p, subD x y ≠ .ex c p := by
  intro c p h
  unfold subD at h
  split at h <;> first | exact ofOpt_noex _ _ _ h | (split at h <;> first | exact ofOpt_noex _ _ _ h | cases h) | cases h
theorem dz_sub2 (h1 : la.fine = true) : Does2 K (rIxAll K) la lb .cl subD := by
  refine ⟨subD_noex, ?_⟩
  intro F H ps x y d e z Q o s rx ry hz k
  cases d with
  | list l =>
    cases e with
    | int i =>
      obtain ⟨a, vs, rfl, ha, da⟩ := res_list h1 s rx
      obtain ⟨v, hv, hd⟩ := nth_get da hz
      exact .inl ⟨a, vs, i, v, rfl, res_int ry, .inl (.inl ha), hv, k _ F H (Ext.refl s) hd⟩
    | _ => cases hz
  | tuple l =>
    cases e with
    | int i =>
      obtain ⟨a, vs, rfl, ha, da, fa⟩ := res_tup h1 s rx
      obtain ⟨v, hv, hd⟩ := nth_get da hz
      exact .inr (.inl ⟨a, vs, i, v, rfl, res_int ry, ha, hv, k _ F H (Ext.refl s) hd⟩)
    | _ => cases hz
  | str w =>
    cases e with
    | int i =>
      simp only [subD] at hz
      split at hz
      · rename_i hl
        have e : ((ixI w.cps.toList.length i).bind fun j => w.cps.toList[j]?).map (fun c => PyData.str ⟨#[c]⟩) = some z := by
          cases q : ((ixI w.cps.toList.length i).bind fun j => w.cps.toList[j]?).map (fun c => PyData.str ⟨#[c]⟩) with
          | none => rw [q] at hz; cases hz
          | some x => rw [q] at hz; cases hz; rfl
        obtain ⟨c, hc, rfl⟩ := Option.map_eq_some_iff.mp e
        exact .inr (.inr ⟨w, i, c, res_str rx, res_int ry, lim_line hl, hc, k _ F H (Ext.refl s) (.str _)⟩)
      · cases hz
    | _ => cases hz
  | dict kvs =>
    cases la with
    | cl =>
      cases rx with
      | @scr a ns hq =>
        cases e with
        | int i =>
          obtain ⟨v, hv, hd⟩ := nth_get (K := K) (F := F) (DrAll.ofInts ns) (z := z) (i := i) hz
          exact .inl ⟨a, _, i, v, rfl, res_int ry, s.seq hq, hv, k _ F H (Ext.refl s) hd⟩
        | tuple t =>
          simp only [subD, scrD] at hz
          split at hz
          · simp [dGet, keyIs, R.ofOpt] at hz
          · cases hz
        | _ => cases hz
      | @kt a ns hq =>
        cases e with
        | tuple t =>
          simp only [subD, ktD] at hz
          split at hz
          · simp [dGet, keyIs, R.ofOpt] at hz
          · cases hz
        | _ => cases hz
    | sh =>
      obtain ⟨p, vs, ds, rfl, hp, e, eh, r⟩ := rx
      cases e
    | _ => cases h1
  | _ => cases e <;> cases hz
end

/-! ### slices -/
section
variable {X : Cx} {cls : Str → Addr} {W : WX} {o : Own}
theorem cut_eq (vs : List V) (lo hi : Option Int) : cutV vs lo hi = cut vs lo hi := by
  unfold cutV cut
  have e : ∀ n d v, HT.sIx n d v = sIx n d v := fun n d v => by cases v <;> rfl
  simp only [e]
theorem drAll_cut {K : PySem.W.Frag} {F : Hp} {vs : List V} {ds : List D} (a : DrAll K F vs ds) (lo hi : Option Int) : DrAll K F (cut vs lo hi) (cut ds lo hi) := by
  unfold cut
  rw [a.length]
  exact (a.drop _).take _
def rSlAll (K : PySem.W.Frag) : V → Option Int → Option Int → Hp → VK → Prop := fun x lo hi H Q => rSlL K x lo hi H Q ∨ (rSlA K x lo hi H Q ∨ rSlS x lo hi H Q)
theorem sl_all : SlR X (rSlAll X.K) := sl_list.or (sl_tupA.or sl_str)
theorem slcD_noex (lo hi : Option Int) (x : D) : ∀ c p, slcD lo hi x ≠ .ex c p := by
  intro c p h
  unfold slcD at h
  split at h <;> first | cases h | (split at h <;> cases h)
theorem cut_whole {a : Type} {xs : List a} {lo hi : Option Int} (h1 : sIx xs.length 0 lo = 0) (h2 : sIx xs.length xs.length hi = xs.length) : cut xs lo hi = xs := by
  unfold cut
  rw [h1, h2]
  simp
theorem dz_slc {K : PySem.W.Frag} {l : Lv} (hl : l.fine = true) {F H : Hp} {ps : List Addr} {x : V} {d z : D} {lo hi : Option Int} {Q : VK} (s : Same F H) (rx : Res K F H ps l x d) (hz : slcD lo hi d = .ok z)
    (k : ∀ v F' H', Ext F F' H H' → Res K F' H' ps .cl v z → Q v H') : rSlAll K x lo hi H Q := by
  have e0 : ∀ n d v, HT.sIx n d v = sIx n d v := fun n d v => by cases v <;> rfl
  cases d with
  | list l =>
    cases hz
    obtain ⟨a, vs, rfl, ha, da⟩ := res_list hl s rx
    refine .inl ⟨a, vs, rfl, .inl (.inl ha), fun p hp => ?_⟩
    rw [cut_eq]
    exact k _ _ _ (Ext.new s hp) (dr_lstN s hp (drAll_cut da lo hi))
  | tuple l =>
    cases hz
    obtain ⟨a, vs, rfl, ha, da, fa⟩ := res_tup hl s rx
    refine .inr (.inl ⟨a, vs, rfl, ha, fun hw => ?_, fun hw p hp => ?_⟩)
    · rw [e0, e0, da.length] at hw
      rw [cut_whole hw.1 hw.2] at k
      exact k _ F H (Ext.refl s) (.tup fa da)
    · rw [cut_eq]
      exact k _ _ _ (Ext.new s hp) (dr_tupN s hp (drAll_cut da lo hi))
  | str w =>
    simp only [slcD] at hz
    split at hz
    · rename_i hl
      cases hz
      refine .inr (.inr ⟨w, res_str rx, lim_line hl, ?_⟩)
      have e : cutS w lo hi = ⟨(cut w.cps.toList lo hi).toArray⟩ := by
        unfold cutS cut
        simp only [e0]
        rfl
      rw [e]
      exact k _ F H (Ext.refl s) (.str _)
    · cases hz
  | _ => cases hz
end
end Rr

set_option linter.all false
set_option Elab.async false
set_option maxRecDepth 100000
set_option maxHeartbeats 1000000
/-! Slices, tests, displays, calls. -/
namespace Rr
open PySem PySem.Spec PyProof.Rows L2
theorem intD_ok {d : D} {i : Int} (h : intD d = .ok i) : d = .int i := by
  cases d <;> cases h
  rfl
theorem intD_noex (d : D) : ∀ c p, intD d ≠ .ex c p := by
  intro c p h
  cases d <;> cases h
section
variable {X : Cx} {cls : Str → Addr} {W : WX} {o : Own}

/-! ### slices -/
/-- a part of a slice -/
theorem part {K : PySem.W.Frag} {l : Lv} {f : S → R D} {b : Type} {g : S → Int → R b} {sg : L2.St} {H : Hp} {F : Hp} {s : S} {ps : List Addr} {k : b → Prop} {Q : Option Int → Hp → Prop} (A : Ab K F H sg o s ps)
    (h : Out cls W sg H ((f s).bind fun d => (intD d).bind fun i => g s i) k) (n : ∀ i F' H', Ext F F' H H' → Out cls W sg H' (g s i) k → Q (some i) H') : tPart (tE K cls W o l f) sg H Q := by
  refine ⟨F, s, ps, A, h.bind.imp fun d _ q1 v F1 H1 E1 R1 => ?_⟩
  obtain ⟨i, hi, q2⟩ := q1.bind.get (intD_noex d)
  rw [intD_ok hi] at R1
  exact ⟨i, res_int R1, n i F1 H1 E1 (q2.shift E1.hh)⟩
theorem j_slc {e lo hi : Expr} {p2 pos : Pos} {la ll lh : Lv} {f g h : S → R D} (hl : la.fine = true) (ha : PE X e (tE X.K cls W o la f)) (hlo : PE X lo (tE X.K cls W o ll g)) (hhi : PE X hi (tE X.K cls W o lh h)) :
    PE X (.Subscript e (.Slice (some lo) (some hi) none p2) pos) (tE X.K cls W o .cl fun s => (f s).bind fun x => (g s).bind fun y => (intD y).bind fun i => (h s).bind fun z => (intD z).bind fun j => slcD (some i) (some j) x) := by
  refine pe_imp (pe_slice sl_all ha (po_some hlo) (po_some hhi)) fun sg H Q q => ?_
  obtain ⟨F, s, ps, A, q⟩ := q
  refine ⟨F, s, ps, A, q.bind.imp fun d _ q1 v F1 H1 E1 R1 => ?_⟩
  refine part (g := fun s i => (h s).bind fun z => (intD z).bind fun j => slcD (some i) (some j) d) (A.mono E1) (q1.shift E1.hh) fun i F2 H2 E2 q2 => ?_
  refine part (g := fun s j => slcD (some i) (some j) d) ((A.mono E1).mono E2) q2 fun j F3 H3 E3 q3 => ?_
  obtain ⟨z, hz, k⟩ := q3.get (slcD_noex (some i) (some j) d)
  exact dz_slc hl E3.fh (R1.mono (E2.trans E3)) hz fun v F' H' E4 R4 => k v F' H' (((E1.trans E2).trans E3).trans E4) R4
theorem j_slo {e lo : Expr} {p2 pos : Pos} {la ll : Lv} {f g : S → R D} (hl : la.fine = true) (ha : PE X e (tE X.K cls W o la f)) (hlo : PE X lo (tE X.K cls W o ll g)) :
    PE X (.Subscript e (.Slice (some lo) none none p2) pos) (tE X.K cls W o .cl fun s => (f s).bind fun x => (g s).bind fun y => (intD y).bind fun i => slcD (some i) none x) := by
  refine pe_imp (pe_slice sl_all ha (po_some hlo) po_none) fun sg H Q q => ?_
  obtain ⟨F, s, ps, A, q⟩ := q
  refine ⟨F, s, ps, A, q.bind.imp fun d _ q1 v F1 H1 E1 R1 => ?_⟩
  refine part (g := fun s i => slcD (some i) none d) (A.mono E1) (q1.shift E1.hh) fun i F2 H2 E2 q2 => ?_
  obtain ⟨z, hz, k⟩ := q2.get (slcD_noex (some i) none d)
  exact dz_slc hl E2.fh (R1.mono E2) hz fun v F' H' E4 R4 => k v F' H' ((E1.trans E2).trans E4) R4
theorem j_shi {e hi : Expr} {p2 pos : Pos} {la lh : Lv} {f h : S → R D} (hl : la.fine = true) (ha : PE X e (tE X.K cls W o la f)) (hhi : PE X hi (tE X.K cls W o lh h)) :
    PE X (.Subscript e (.Slice none (some hi) none p2) pos) (tE X.K cls W o .cl fun s => (f s).bind fun x => (h s).bind fun z => (intD z).bind fun j => slcD none (some j) x) := by
  refine pe_imp (pe_slice sl_all ha po_none (po_some hhi)) fun sg H Q q => ?_
  obtain ⟨F, s, ps, A, q⟩ := q
  refine ⟨F, s, ps, A, q.bind.imp fun d _ q1 v F1 H1 E1 R1 => ?_⟩
  show tPart (tE X.K cls W o lh h) sg H1 fun u H3 => rSlAll X.K v none u H3 Q
  refine part (g := fun s j => slcD none (some j) d) (A.mono E1) (q1.shift E1.hh) fun i F2 H2 E2 q2 => ?_
  obtain ⟨z, hz, k⟩ := q2.get (slcD_noex none (some i) d)
  exact dz_slc hl E2.fh (R1.mono E2) hz fun v F' H' E4 R4 => k v F' H' ((E1.trans E2).trans E4) R4
theorem revD_noex (x : D) : ∀ c p, revD x ≠ .ex c p := by
  intro c p h
  cases x <;> cases h
theorem j_rev {e : Expr} {k : Nat} {p1 p2 p3 pos : Pos} {la : Lv} {f : S → R D} (hl : la.fine = true) (ha : PE X e (tE X.K cls W o la f)) :
    PE X (.Subscript e (.Slice none none (some (.UnaryOp .USub (.Constant (.int 1) k p1) p2)) p3) pos) (tE X.K cls W o .cl fun s => (f s).bind revD) := by
  refine pe_imp (pe_stp ha (pe_un un_neg pe_int)) fun sg H Q q => ?_
  obtain ⟨F, s, ps, A, q⟩ := q
  refine ⟨F, s, ps, A, q.bind.imp fun d _ q1 v F1 H1 E1 R1 => ?_⟩
  refine ⟨1, rfl, -1, rfl, -1, rfl, by decide, ?_⟩
  obtain ⟨z, hz, k⟩ := q1.get (revD_noex d)
  cases d with
  | list l =>
    cases hz
    obtain ⟨a, vs, rfl, ha, da⟩ := res_list hl E1.fh R1
    exact .inl ⟨rfl, a, vs, rfl, .inl (.inl ha), fun p hp => k _ _ _ (E1.trans (Ext.new E1.fh hp)) (dr_lstN E1.fh hp da.reverse)⟩
  | tuple l =>
    cases hz
    obtain ⟨a, vs, rfl, ha, da, fa⟩ := res_tup hl E1.fh R1
    refine .inr ⟨a, vs, rfl, ha, ?_, fun hw => ?_, fun hw p hp => ?_⟩
    · rw [plc_back]; exact Nat.le_refl _
    · unfold whole at hw
      rw [Bool.and_eq_true, Bool.and_eq_true] at hw
      exact absurd hw.1.2 (by decide)
    · rw [pick_back]
      exact k _ _ _ (E1.trans (Ext.new E1.fh hp)) (dr_tupN E1.fh hp da.reverse)
  | _ => cases hz

/-! ### names, constants -/
theorem j_cst {d : D} {v : V} {e : Expr} (h : PE X e (tC v)) (r : FlatR v d) : PE X e (tE X.K cls W o .cl fun _ => .ok d) :=
  pe_imp h fun sg H Q q => by
    obtain ⟨F, s, ps, A, q⟩ := q
    exact q v F H (Ext.refl A.sub) r.dr
/-- the level of a name -/
def lvV (o : Own) (i : Nat) : Lv := if i ∈ o.l then .sh else if i ∈ o.d then .dd else .cl
theorem j_var {i : Nat} {x : Str} {pos : Pos} (hN : X.N[i]? = some x) (hv : Vis X.env.scope x) (hd : (x == ("__debug__" : Str)) = false) (hc : (x == ("__classdict__" : Str)) = false) :
    PE X (.Name x pos) (tE X.K cls W o (lvV o i) fun s => getV s i) :=
  pe_imp (pe_var hN hv hd hc) fun sg H Q q => by
    obtain ⟨F, s, ps, A, q⟩ := q
    unfold getV at q
    dsimp only at q
    cases e : s[i]? with
    | none => rw [e] at q; exact q.elim
    | some u =>
      cases u with
      | none => rw [e] at q; exact q.elim
      | some d =>
        rw [e] at q
        have q : ∀ v F' H', Ext F F' H H' → Res X.K F' H' ps (lvV o i) v d → Q v H' := q
        unfold lvV at q
        by_cases h1 : i ∈ o.l
        · rw [if_pos h1] at q
          obtain ⟨p, vs, ds, e1, hp, rfl, eh, r⟩ := A.ol i d e h1
          exact ⟨.ref p, e1, q _ F H (Ext.refl A.sub) ⟨p, vs, ds, rfl, hp, rfl, eh, r⟩⟩
        · by_cases h2 : i ∈ o.d
          · rw [if_neg h1, if_pos h2] at q
            obtain ⟨p, vs, ds, e1, hp, rfl, eh, r⟩ := A.od i d e h2
            exact ⟨.ref p, e1, q _ F H (Ext.refl A.sub) ⟨p, vs, ds, rfl, hp, rfl, eh, r⟩⟩
          · rw [if_neg h1, if_neg h2] at q
            obtain ⟨v, e1, r⟩ := A.fz i d e h1 h2
            exact ⟨v, e1, q v F H (Ext.refl A.sub) r⟩
/-- a constant of the module -/
theorem j_glb {d : D} {v : V} {u : Value} {x : Str} {pos : Pos} {f : S → R D} (hg : Gl X x) (hm : X.mg x = some u) (r : RelV v u) (hd : (x == ("__debug__" : Str)) = false) (rd : Dr X.K (fun _ => none) v d) (hf : ∀ s, f s = .ok d) : PE X (.Name x pos) (tE X.K cls W o .cl f) :=
  pe_imp (pe_glob hg hm r hd) fun sg H Q q => by
    obtain ⟨F, s, ps, A, q⟩ := q
    rw [hf] at q
    exact q v F H (Ext.refl A.sub) (dr_mono (fun _ _ e => by cases e) rd)

/-! ### tests -/
def plainT : Expr → Bool
  | .UnaryOp .Not _ _ => false
  | .BoolOp _ _ _ => false
  | .IfExp _ _ _ _ => false
  | .Compare _ _ _ _ => false
  | _ => true
theorem plain_true {e : Expr} (h : plainT e = true) (env : PySem.Env) : ∀ w, isTrue e env w = (do let v ← w; standAt e.pos; holding [v] (truthy v)) := by
  intro w
  cases e with
  | UnaryOp op x pos => cases op <;> first | rfl | cases h
  | BoolOp => cases h
  | IfExp => cases h
  | Compare => cases h
  | _ => rfl
theorem truD_noex (x : D) : ∀ c p, truD x ≠ .ex c p := by
  intro c p h
  cases x <;> cases h
theorem tru_of {K : PySem.W.Frag} {H : Hp} {v : V} {d : D} {k : Bool} (r : Dr K H v d) (h : truD d = .ok k) : TruV K v H k := by
  cases r with
  | bl b => cases h; rfl
  | @lst a xs ds e al =>
    cases h
    refine .inl ⟨xs, .inl (.inl e), ?_⟩
    cases al <;> rfl
  | @tup a xs ds e al =>
    cases h
    refine .inr (.inl ⟨xs, .inl (.inl e), ?_⟩)
    cases al <;> rfl
  | _ => cases h
theorem j_truth {e : Expr} {l : Lv} {f : S → R D} (hp : plainT e = true) (hl : l ≠ .dd) (h : PE X e (tE X.K cls W o l f)) : PT X e (tT X.K cls W o fun s => (f s).bind truD) :=
  pt_imp (pt_truth h (plain_true hp X.env)) fun sg H Q q => by
    obtain ⟨F, s, ps, A, q⟩ := q
    refine ⟨F, s, ps, A, q.bind.imp fun d _ q1 v F1 H1 E1 R1 => ?_⟩
    obtain ⟨k, hk, q2⟩ := q1.get (truD_noex d)
    exact ⟨k, tru_of (res_any (out_mono A.out E1) E1.fh hl R1) hk, q2 F1 H1 E1⟩
theorem j_notE {e : Expr} {pos : Pos} {l : Lv} {f : S → R D} (hl : l ≠ .dd) (h : PE X e (tE X.K cls W o l f)) : PE X (.UnaryOp .Not e pos) (tE X.K cls W o .cl fun s => (f s).bind fun x => (truD x).bind fun k => .ok (.bool (!k))) :=
  pe_imp (pe_notT h) fun sg H Q q => by
    obtain ⟨F, s, ps, A, q⟩ := q
    refine ⟨F, s, ps, A, q.bind.imp fun d _ q1 v F1 H1 E1 R1 => ?_⟩
    obtain ⟨k, hk, q2⟩ := q1.bind.get (truD_noex d)
    exact ⟨k, tru_of (res_any (out_mono A.out E1) E1.fh hl R1) hk, q2 _ F1 H1 E1 (.bl _)⟩
theorem j_notT {e : Expr} {pos : Pos} {f : S → R D} (h : PT X e (tT X.K cls W o fun s => (f s).bind truD)) : PT X (.UnaryOp .Not e pos) (tT X.K cls W o fun s => ((f s).bind fun x => (truD x).bind fun k => .ok (.bool (!k))).bind truD) :=
  pt_imp (pt_not h) fun sg H Q q => by
    obtain ⟨F, s, ps, A, q⟩ := q
    refine ⟨F, s, ps, A, ?_⟩
    dsimp only at q ⊢
    cases e1 : f s with
    | ok d =>
      rw [e1] at q
      show Out cls W sg H (truD d) _
      cases e2 : truD d with
      | ok k =>
        have q : Out cls W sg H (((truD d).bind fun k => R.ok (PyData.bool (!k))).bind truD) _ := q
        rw [e2] at q
        exact q
      | ex c p => exact absurd e2 (truD_noex d c p)
      | bad =>
        have q : Out cls W sg H (((truD d).bind fun k => R.ok (PyData.bool (!k))).bind truD) _ := q
        rw [e2] at q
        exact q
    | ex c p => rw [e1] at q; exact q
    | bad => rw [e1] at q; exact q
/-- a comparison as a test -/
theorem j_cmpT {op : CmpOp} {a b : Expr} {pos : Pos} {la lb : Lv} {f g : S → R D} {c : Cp} {r : R2} (ho : OpR X (compareOp op) r) (hm : noSet b = true) (dz : Does2 X.K r la lb .cl (cpV c))
    (ha : PE X a (tE X.K cls W o la f)) (hb : PE X b (tE X.K cls W o lb g)) : PT X (.Compare a [op] [b] pos) (tT X.K cls W o fun s => ((f s).bind fun x => (g s).bind fun y => cpV c x y).bind truD) :=
  pt_imp (pt_cmpR ho ha hb (no_mark hm)) fun sg H Q q => by
    refine seq2 dz (Q := fun x H' => ∃ k, x = .bl k ∧ Q k H') ?_
    obtain ⟨F, s, ps, A, q⟩ := q
    refine ⟨F, s, ps, A, q.bind.imp fun d e1 q1 v F1 H1 E1 R1 => ?_⟩
    obtain ⟨k, hk, q2⟩ := q1.get (truD_noex d)
    cases d with
    | bool b =>
      cases hk
      exact ⟨_, res_bool R1, q2 F1 H1 E1⟩
    | _ =>
      cases e2 : f s with
      | ok x =>
        rw [e2] at e1
        have e1 : ((g s).bind fun y => cpV c x y) = _ := e1
        cases e3 : g s with
        | ok y =>
          rw [e3] at e1
          obtain ⟨k, _, hk⟩ := cpV_ok e1
          cases hk
        | ex c p => rw [e3] at e1; cases e1
        | bad => rw [e3] at e1; cases e1
      | ex c p => rw [e2] at e1; cases e1
      | bad => rw [e2] at e1; cases e1
end
end Rr

set_option linter.all false
set_option Elab.async false
set_option maxRecDepth 100000
set_option maxHeartbeats 1000000
/-! and, or, conditional expressions, chains, arguments, displays. -/
namespace Rr
open PySem PySem.Spec PyProof.Rows L2
theorem boolD_ok {d : D} {i : Bool} (h : boolD d = .ok i) : d = .bool i := by
  cases d <;> cases h
  rfl
theorem boolD_noex (d : D) : ∀ c p, boolD d ≠ .ex c p := by
  intro c p h
  cases d <;> cases h
def andD (x : R D) (y : R D) : R D := x.bind fun x => (boolD x).bind fun k => if k then y.bind fun y => (boolD y).bind fun l => .ok (.bool l) else .ok (.bool false)
def orD (x : R D) (y : R D) : R D := x.bind fun x => (boolD x).bind fun k => if k then .ok (.bool true) else y.bind fun y => (boolD y).bind fun l => .ok (.bool l)
section
variable {X : Cx} {cls : Str → Addr} {W : WX} {o : Own}
theorem j_and {a b : Expr} {rest : List Expr} {pos : Pos} {la lb : Lv} {f g : S → R D} (ha : PE X a (tE X.K cls W o la f)) (hb : PE X (.BoolOp .And (b :: rest) pos) (tE X.K cls W o lb g)) :
    PE X (.BoolOp .And (a :: b :: rest) pos) (tE X.K cls W o .cl fun s => andD (f s) (g s)) :=
  pe_imp (pe_and ha hb) fun sg H Q q => by
    obtain ⟨F, s, ps, A, q⟩ := q
    refine ⟨F, s, ps, A, q.bind.imp fun d _ q1 v F1 H1 E1 R1 => ?_⟩
    obtain ⟨k, hk, q2⟩ := q1.bind.get (boolD_noex d)
    rw [boolD_ok hk] at R1
    refine ⟨k, res_bool R1, ?_⟩
    cases k with
    | true =>
      rw [if_pos rfl] at q2 ⊢
      refine ⟨F1, s, ps, A.mono E1, (q2.shift E1.hh).bind.imp fun e _ q3 w F2 H2 E2 R2 => ?_⟩
      obtain ⟨l, hl, q4⟩ := q3.bind.get (boolD_noex e)
      rw [boolD_ok hl] at R2
      rw [res_bool R2]
      exact q4 _ F2 H2 (E1.trans E2) (.bl _)
    | false =>
      rw [if_neg Bool.false_ne_true] at q2 ⊢
      exact q2 _ F1 H1 E1 (.bl _)
theorem j_or {a b : Expr} {rest : List Expr} {pos : Pos} {la lb : Lv} {f g : S → R D} (ha : PE X a (tE X.K cls W o la f)) (hb : PE X (.BoolOp .Or (b :: rest) pos) (tE X.K cls W o lb g)) :
    PE X (.BoolOp .Or (a :: b :: rest) pos) (tE X.K cls W o .cl fun s => orD (f s) (g s)) :=
  pe_imp (pe_or ha hb) fun sg H Q q => by
    obtain ⟨F, s, ps, A, q⟩ := q
    refine ⟨F, s, ps, A, q.bind.imp fun d _ q1 v F1 H1 E1 R1 => ?_⟩
    obtain ⟨k, hk, q2⟩ := q1.bind.get (boolD_noex d)
    rw [boolD_ok hk] at R1
    refine ⟨k, res_bool R1, ?_⟩
    cases k with
    | false =>
      rw [if_neg Bool.false_ne_true] at q2 ⊢
      refine ⟨F1, s, ps, A.mono E1, (q2.shift E1.hh).bind.imp fun e _ q3 w F2 H2 E2 R2 => ?_⟩
      obtain ⟨l, hl, q4⟩ := q3.bind.get (boolD_noex e)
      rw [boolD_ok hl] at R2
      rw [res_bool R2]
      exact q4 _ F2 H2 (E1.trans E2) (.bl _)
    | true =>
      rw [if_pos rfl] at q2 ⊢
      exact q2 _ F1 H1 E1 (.bl _)
theorem pw_imp {e : Expr} {t t' : TT} (h : PW X e t) (i : ∀ sg H Q, t' sg H Q → t sg H Q) : PW X e t' := ⟨fun w pins s sg H Q I q => h.run w pins s sg H Q I (i _ _ _ q)⟩
/-- a test that gives a bool, taken as a test -/
theorem bool_tru {cls : Str → Addr} {W : WX} {sg : L2.St} {H : Hp} {r : R D} {b : Type} {g : Bool → R b} {k : b → Prop} (h : Out cls W sg H (r.bind fun x => (boolD x).bind g) k) : Out cls W sg H (r.bind truD) fun k' => Out cls W sg H (g k') k := by
  cases r with
  | ok d =>
    obtain ⟨x, hx, q⟩ := (show Out cls W sg H ((boolD d).bind g) k from h).bind.get (boolD_noex d)
    rw [boolD_ok hx]
    exact q
  | ex c p => exact h
  | bad => exact h
theorem bind_assoc {a b c : Type} (r : R a) (f : a → R b) (g : b → R c) : (r.bind f).bind g = r.bind fun x => (f x).bind g := by
  cases r <;> rfl
theorem j_andT {a b : Expr} {rest : List Expr} {pos : Pos} {f g : S → R D} (ha : PT X a (tT X.K cls W o fun s => (f s).bind truD)) (hb : PW X (.BoolOp .And (b :: rest) pos) (tT X.K cls W o fun s => (g s).bind truD)) :
    PW X (.BoolOp .And (a :: b :: rest) pos) (tT X.K cls W o fun s => (andD (f s) (g s)).bind truD) :=
  pw_imp (pw_and ha hb) fun sg H Q q => by
    obtain ⟨F, s, ps, A, q⟩ := q
    dsimp only [andD] at q
    simp only [bind_assoc] at q
    refine ⟨F, s, ps, A, (bool_tru q).imp fun k _ q1 F1 H1 E1 => ?_⟩
    cases k with
    | true =>
      rw [if_pos rfl] at q1 ⊢
      simp only [bind_assoc] at q1
      refine ⟨F1, s, ps, A.mono E1, (bool_tru (q1.shift E1.hh)).imp fun l _ q2 F2 H2 E2 => ?_⟩
      exact q2 F2 H2 (E1.trans E2)
    | false =>
      rw [if_neg Bool.false_ne_true] at q1 ⊢
      exact q1 F1 H1 E1
theorem j_orT {a b : Expr} {rest : List Expr} {pos : Pos} {f g : S → R D} (ha : PT X a (tT X.K cls W o fun s => (f s).bind truD)) (hb : PW X (.BoolOp .Or (b :: rest) pos) (tT X.K cls W o fun s => (g s).bind truD)) :
    PW X (.BoolOp .Or (a :: b :: rest) pos) (tT X.K cls W o fun s => (orD (f s) (g s)).bind truD) :=
  pw_imp (pw_or ha hb) fun sg H Q q => by
    obtain ⟨F, s, ps, A, q⟩ := q
    dsimp only [orD] at q
    simp only [bind_assoc] at q
    refine ⟨F, s, ps, A, (bool_tru q).imp fun k _ q1 F1 H1 E1 => ?_⟩
    cases k with
    | false =>
      rw [if_neg Bool.false_ne_true] at q1 ⊢
      simp only [bind_assoc] at q1
      refine ⟨F1, s, ps, A.mono E1, (bool_tru (q1.shift E1.hh)).imp fun l _ q2 F2 H2 E2 => ?_⟩
      exact q2 F2 H2 (E1.trans E2)
    | true =>
      rw [if_pos rfl] at q1 ⊢
      exact q1 F1 H1 E1
/-- the meet of two levels -/
def Lv.meet : Lv → Lv → Lv
  | .cl, .cl => .cl
  | .dd, _ => .dd
  | _, .dd => .dd
  | _, _ => .dt
theorem Res.meet {K : PySem.W.Frag} {F H : Hp} {ps : List Addr} {v : V} {d : D} (o : ∀ p ∈ ps, F p = none ∧ ∃ u, H p = some u ∧ noT u = true) : ∀ {a b : Lv}, (a.meet b ≠ .dd) → Res K F H ps a v d → Res K F H ps (a.meet b) v d
  | .cl, .cl, _, h => h
  | .cl, .sh, _, h => h.lent o (by decide)
  | .cl, .dt, _, h => h.lent o (by decide)
  | .cl, .dd, n, _ => absurd rfl n
  | .sh, .cl, _, h => h.lent o (by decide)
  | .sh, .sh, _, h => h.lent o (by decide)
  | .sh, .dt, _, h => h.lent o (by decide)
  | .sh, .dd, n, _ => absurd rfl n
  | .dt, .cl, _, h => h
  | .dt, .sh, _, h => h
  | .dt, .dt, _, h => h
  | .dt, .dd, n, _ => absurd rfl n
  | .dd, _, n, _ => absurd rfl n
theorem meet_comm : ∀ a b : Lv, a.meet b = b.meet a := by
  intro a b
  cases a <;> cases b <;> rfl
theorem j_ite {c a b : Expr} {pos : Pos} {la lb : Lv} {t f g : S → R D} (hn : la.meet lb ≠ .dd) (hc : PT X c (tT X.K cls W o fun s => (t s).bind truD)) (ha : PE X a (tE X.K cls W o la f)) (hb : PE X b (tE X.K cls W o lb g)) :
    PE X (.IfExp c a b pos) (tE X.K cls W o (la.meet lb) fun s => (t s).bind fun x => (truD x).bind fun k => if k then f s else g s) :=
  pe_imp (pe_ifExp hc ha hb) fun sg H Q q => by
    obtain ⟨F, s, ps, A, q⟩ := q
    dsimp only at q
    rw [← bind_assoc] at q
    refine ⟨F, s, ps, A, q.bind.imp fun k _ q1 F1 H1 E1 => ?_⟩
    cases k with
    | true =>
      rw [if_pos rfl] at q1 ⊢
      exact ⟨F1, s, ps, A.mono E1, (q1.shift E1.hh).imp fun d _ q2 v F2 H2 E2 R2 => q2 v F2 H2 (E1.trans E2) (R2.meet (out_mono A.out (E1.trans E2)) hn)⟩
    | false =>
      rw [if_neg Bool.false_ne_true] at q1 ⊢
      exact ⟨F1, s, ps, A.mono E1, (q1.shift E1.hh).imp fun d _ q2 v F2 H2 E2 R2 => q2 v F2 H2 (E1.trans E2) (by rw [meet_comm]; exact R2.meet (out_mono A.out (E1.trans E2)) (by rw [meet_comm]; exact hn))⟩

/-! ### arguments, displays -/
theorem j_nil : PA X [] (tAs X.K cls W o [] fun _ => .ok []) :=
  pa_imp pa_nil fun sg H Q q => by
    obtain ⟨F, s, ps, A, q⟩ := q
    exact q [] F H (Ext.refl A.sub) .nil
theorem j_cons {e : Expr} {es : List Expr} {l : Lv} {ls : List Lv} {f : S → R D} {g : S → R (List D)} (hp : plainA e = true) (he : PE X e (tE X.K cls W o l f)) (hs : PA X es (tAs X.K cls W o ls g)) :
    PA X (e :: es) (tAs X.K cls W o (l :: ls) fun s => (f s).bind fun x => (g s).bind fun xs => .ok (x :: xs)) :=
  pa_imp (pa_cons he hs (star_plain hp _ _)) fun sg H Q q => by
    obtain ⟨F, s, ps, A, q⟩ := q
    refine ⟨F, s, ps, A, q.bind.imp fun d _ q1 v F1 H1 E1 R1 => ?_⟩
    refine ⟨F1, s, ps, A.mono E1, (q1.shift E1.hh).bind.imp fun ds _ q2 vs F2 H2 E2 R2 => ?_⟩
    exact q2 _ F2 H2 (E1.trans E2) (.cons (R1.mono E2) R2)
theorem resAll_len {K : PySem.W.Frag} {F H : Hp} {ps : List Addr} : ∀ {ls : List Lv} {vs : List V} {ds : List D}, ResAll K F H ps ls vs ds → vs.length = ds.length
  | _, _, _, .nil => rfl
  | _, _, _, .cons _ r => congrArg (· + 1) (resAll_len r)
theorem j_tup {es : List Expr} {x1} {pos : Pos} {ls : List Lv} {f : S → R (List D)} (hl : ∀ l ∈ ls, l = .cl) (hs : es.length ≤ 1000) (h : PA X es (tAs X.K cls W o ls f)) (hn : ∀ s ds, f s = .ok ds → ds.length = es.length) :
    PE X (.Tuple es x1 pos) (tE X.K cls W o .cl fun s => (f s).bind fun xs => .ok (.tuple xs)) :=
  pe_imp (pe_tup h) fun sg H Q q => by
    obtain ⟨F, s, ps, A, q⟩ := q
    refine ⟨F, s, ps, A, q.bind.imp fun ds e q1 vs F1 H1 E1 R1 => ⟨?_, fun p hp => ?_⟩⟩
    · rw [resAll_len R1, hn s ds e]
      exact Nat.le_trans hs (by decide)
    · exact q1 _ _ _ (E1.trans (Ext.new E1.fh hp)) (dr_tupN E1.fh hp (R1.clean hl))
theorem j_lst {es : List Expr} {pos : Pos} {ls : List Lv} {f : S → R (List D)} (hl : ∀ l ∈ ls, l = .cl) (hs : es.length ≤ 1000) (h : PA X es (tAs X.K cls W o ls f)) (hn : ∀ s ds, f s = .ok ds → ds.length = es.length) :
    PE X (.List es pos) (tE X.K cls W o .cl fun s => (f s).bind fun xs => .ok (.list xs)) :=
  pe_imp (pe_lst h) fun sg H Q q => by
    obtain ⟨F, s, ps, A, q⟩ := q
    refine ⟨F, s, ps, A, q.bind.imp fun ds e q1 vs F1 H1 E1 R1 => ⟨?_, fun p hp => ?_⟩⟩
    · rw [resAll_len R1, hn s ds e]
      exact Nat.le_trans hs (by decide)
    · exact q1 _ _ _ (E1.trans (Ext.new E1.fh hp)) (dr_lstN E1.fh hp (R1.clean hl))
/-- a <= b <= c -/
theorem lele_read {K : PySem.W.Frag} {la lb lc : Lv} {f g h : S → R D} {sg : L2.St} {H : Hp} {Q : VK} (q : tE K cls W o .cl (fun s => (f s).bind fun x => (g s).bind fun y => (cpD .le x y).bind fun k => if k then (h s).bind fun z => (cpD .le y z).bind fun l => .ok (.bool l) else .ok (.bool false)) sg H Q) :
    tChain (rI0 fun i j => .bl (decide (i ≤ j))) (rI0 fun i j => .bl (decide (i ≤ j))) (tE K cls W o la f) (tE K cls W o lb g) (tE K cls W o lc h) sg H Q := by
    obtain ⟨F, s, ps, A, q⟩ := q
    refine ⟨F, s, ps, A, q.bind.imp fun d _ q1 v F1 H1 E1 R1 => ?_⟩
    refine ⟨F1, s, ps, A.mono E1, (q1.shift E1.hh).bind.imp fun e _ q2 w F2 H2 E2 R2 => ?_⟩
    obtain ⟨k, hk, q3⟩ := q2.bind.get (cpD_noex .le d e)
    have hde : ∃ i j, d = .int i ∧ e = .int j := by
      unfold cpD at hk
      split at hk <;> simp_all
    obtain ⟨i, j, rfl, rfl⟩ := hde
    cases hk
    refine ⟨i, j, res_int (R1.mono E2), res_int R2, _, rfl, ?_⟩
    by_cases hij : i ≤ j
    · rw [decide_eq_true hij] at q3 ⊢
      rw [if_pos rfl] at q3 ⊢
      refine ⟨F2, s, ps, A.mono (E1.trans E2), (q3.shift E2.hh).bind.imp fun z _ q4 u F3 H3 E3 R3 => ?_⟩
      obtain ⟨l, hl, q5⟩ := q4.bind.get (cpD_noex .le _ z)
      cases z with
      | int z =>
        cases hl
        exact ⟨j, z, res_int R2, res_int R3, q5 _ F3 H3 ((E1.trans E2).trans E3) (.bl _)⟩
      | _ => cases hl
    · rw [decide_eq_false hij] at q3 ⊢
      rw [if_neg Bool.false_ne_true] at q3 ⊢
      exact q3 _ F2 H2 (E1.trans E2) (.bl _)
theorem j_lele {a b c : Expr} {pos : Pos} {la lb lc : Lv} {f g h : S → R D} (hb : noSet b = true) (hc : noSet c = true) (pa : PE X a (tE X.K cls W o la f)) (pb : PE X b (tE X.K cls W o lb g)) (pc : PE X c (tE X.K cls W o lc h)) :
    PE X (.Compare a [.LtE, .LtE] [b, c] pos) (tE X.K cls W o .cl fun s => (f s).bind fun x => (g s).bind fun y => (cpD .le x y).bind fun k => if k then (h s).bind fun z => (cpD .le y z).bind fun l => .ok (.bool l) else .ok (.bool false)) :=
  pe_imp (pe_chain op_le op_le pa pb pc (by show behindInMarks .LtE c = false; exact no_mark hc)) fun sg H Q q => lele_read q
/-- a test whose value is a bool -/
theorem tE_of_tT {K : PySem.W.Frag} {f : S → R D} (hb : ∀ s d, f s = .ok d → ∃ k, d = .bool k) {sg : L2.St} {H : Hp} {Q : Bool → Hp → Prop} (q : tT K cls W o (fun s => (f s).bind truD) sg H Q) : tE K cls W o .cl f sg H (fun x H' => ∃ k, x = .bl k ∧ Q k H') := by
  obtain ⟨F, s, ps, A, q⟩ := q
  refine ⟨F, s, ps, A, q.bind.imp fun d hd q1 v F1 H1 E1 R1 => ?_⟩
  obtain ⟨k, rfl⟩ := hb s d hd
  exact ⟨k, res_bool R1, q1 F1 H1 E1⟩
theorem lele_bool {f g h : S → R D} : ∀ (s : S) (d : D), ((f s).bind fun x => (g s).bind fun y => (cpD .le x y).bind fun k => if k then (h s).bind fun z => (cpD .le y z).bind fun l => .ok (.bool l) else .ok (.bool false) : R D) = .ok d → ∃ k, d = .bool k := by
  intro s d e
  cases e1 : f s with
  | ok x =>
    rw [e1] at e
    cases e2 : g s with
    | ok y =>
      rw [e2] at e
      simp only [R.bind_ok] at e
      cases e3 : cpD .le x y with
      | ok k =>
        rw [e3] at e
        simp only [R.bind_ok] at e
        cases k with
        | true =>
          rw [if_pos rfl] at e
          cases e4 : h s with
          | ok z =>
            rw [e4] at e
            simp only [R.bind_ok] at e
            cases e5 : cpD .le y z with
            | ok l => rw [e5] at e; cases e; exact ⟨_, rfl⟩
            | ex c p => rw [e5] at e; cases e
            | bad => rw [e5] at e; cases e
          | ex c p => rw [e4] at e; cases e
          | bad => rw [e4] at e; cases e
        | false => rw [if_neg Bool.false_ne_true] at e; cases e; exact ⟨_, rfl⟩
      | ex c p => rw [e3] at e; cases e
      | bad => rw [e3] at e; cases e
    | ex c p => rw [e2] at e; cases e
    | bad => rw [e2] at e; cases e
  | ex c p => rw [e1] at e; cases e
  | bad => rw [e1] at e; cases e
theorem j_leleT {a b c : Expr} {pos : Pos} {la lb lc : Lv} {f g h : S → R D} (hb : noSet b = true) (hc : noSet c = true) (pa : PE X a (tE X.K cls W o la f)) (pb : PE X b (tE X.K cls W o lb g)) (pc : PE X c (tE X.K cls W o lc h)) :
    PT X (.Compare a [.LtE, .LtE] [b, c] pos) (tT X.K cls W o fun s => ((f s).bind fun x => (g s).bind fun y => (cpD .le x y).bind fun k => if k then (h s).bind fun z => (cpD .le y z).bind fun l => .ok (.bool l) else .ok (.bool false) : R D).bind truD) :=
  pt_imp (pt_chain op_le op_le pa pb pc (by show behindInMarks .LtE c = false; exact no_mark hc)) fun sg H Q q => lele_read (tE_of_tT lele_bool q)
end
end Rr

set_option linter.all false
set_option Elab.async false
set_option maxRecDepth 100000
set_option maxHeartbeats 1000000
/-! Calls. -/
namespace Rr
open PySem PySem.Spec PyProof.Rows L2

/-- a def of the program that keeps the promise of a function over data -/
def FnK (X : Cx) (cls : Str → Addr) (f : Str) (g : List D → R D) : Prop :=
  ∃ (k : Nat) (fa : Addr) (fd : FuncData) (ps : List Str), FnOk X.prog X.w X.K X.mg X.base (L2.CX X.prog X.w) k fa fd ps (spG X.K cls ps.length g) ∧ Room k X.A ∧ X.mg f = some (.ref fa) ∧ PySem.W.keepIn X.K (.ref fa) = true ∧
    Binds X.K fd ps [] ∧ ∀ ds, g ds ≠ .bad → ds.length = ps.length
section
variable {X : Cx} {cls : Str → Addr} {W : WX} {o : Own}
/-- the level of a call's value -/
def lvC (flat : Bool) (ls : List Lv) : Lv := if ls.all (· == .cl) then .cl else if flat then .cl else .dt
theorem j_call {f : Str} {g : List D → R D} {e : Expr} {es : List Expr} {p pos : Pos} {ls : List Lv} {h : S → R (List D)} {fl : Bool} (tk : Takes X W) (K : FnK X cls f g) (hfl : fl = true → ∀ ds d, g ds = .ok d → flat d = true)
    (hg : Gl X f) (hdb : (f == ("__debug__" : Str)) = false) (hp : (e :: es).all plainA = true) (hl : ls.all (· != .dd) = true) (ha : PA X (e :: es) (tAs X.K cls W o ls h)) :
    PE X (.Call (.Name f p) (e :: es) [] pos) (tE X.K cls W o (lvC fl ls) fun s => (h s).bind g) := by
  obtain ⟨k, fa, fd, ps0, F, hr, hm, hk, hb, har⟩ := K
  have hp2 : plainA e = true ∧ es.all plainA = true := by simpa using hp
  refine pe_imp (pe_callSD F hr hg hm hk hb .nil (fun sg => passAt tk sg) ha hdb (star_plain hp2.1 _ _) (star_all hp2.2)) fun sg H Q q => ?_
  obtain ⟨F, s, ps, A, q⟩ := q
  refine ⟨F, s, ps, A, q.bind.imp fun ds _ q1 vs F1 H1 E1 R1 => ?_⟩
  have A1 := A.mono E1
  show spG X.K cls ps0.length g (vs ++ []) H1 Q (WE W sg)
  rw [List.append_nil]
  have nb : g ds ≠ .bad := fun e => by rw [e] at q1; exact q1
  refine ⟨by rw [resAll_len R1]; exact har ds nb, ?_⟩
  by_cases hc : ls.all (· == .cl) = true
  · have hcl : ∀ l ∈ ls, l = .cl := fun l hl => by simpa using List.all_eq_true.mp hc l hl
    refine ⟨F1, ds, E1.fh, R1.clean hcl, ?_⟩
    have e0 : lvC fl ls = .cl := if_pos hc
    rw [e0] at q1
    cases e1 : g ds with
    | ok d =>
      rw [e1] at q1
      exact fun v F' H' E2 r => q1 v F' H' (E1.trans E2) r
    | ex c p =>
      rw [e1] at q1
      exact fun H' x sm xp => q1 H' x (E1.hh.trans sm) xp
    | bad => exact absurd e1 nb
  · have hnd : ∀ l ∈ ls, l ≠ .dd := fun l hl' => by simpa using List.all_eq_true.mp hl l hl'
    refine ⟨lend F1 H1 ps, ds, lend_same E1.fh, R1.lent A1.out hnd, ?_⟩
    cases e1 : g ds with
    | ok d =>
      rw [e1] at q1
      intro v F' H' E2 r
      have q1 : ∀ v F' H', Ext F F' H H' → Res X.K F' H' ps (lvC fl ls) v d → Q v H' := q1
      by_cases hf : fl = true
      · have e0 : lvC fl ls = .cl := by unfold lvC; rw [if_neg hc, if_pos hf]
        rw [e0] at q1
        have fr : FlatR v d := flatR_of r (hfl hf ds d e1)
        refine q1 v F1 H' (E1.trans ⟨Same.refl _, E1.fh.trans E2.hh, E2.hh, fun _ _ h => .inl h⟩) fr.dr
      · have e0 : lvC fl ls = .dt := by unfold lvC; rw [if_neg hc, if_neg hf]
        rw [e0] at q1
        refine q1 v (fun a => if a ∈ ps then none else F' a) H' (E1.trans ⟨fun b u hb => ?_, fun b u hb => ?_, E2.hh, fun b u hb => ?_⟩) ?_
        · by_cases hi : b ∈ ps
          · rw [(A1.out b hi).1] at hb; cases hb
          · show (if b ∈ ps then none else F' b) = some u
            rw [if_neg hi]
            exact E2.ff _ _ (by rw [lend_out hi]; exact hb)
        · by_cases hi : b ∈ ps
          · have hb : (if b ∈ ps then none else F' b) = some u := hb
            rw [if_pos hi] at hb; cases hb
          · have hb : (if b ∈ ps then none else F' b) = some u := hb
            rw [if_neg hi] at hb
            exact E2.fh _ _ hb
        · by_cases hi : b ∈ ps
          · have hb : (if b ∈ ps then none else F' b) = some u := hb
            rw [if_pos hi] at hb; cases hb
          · have hb : (if b ∈ ps then none else F' b) = some u := hb
            rw [if_neg hi] at hb
            rcases E2.nw b u hb with q | q
            · rw [lend_out hi] at q; exact .inl q
            · exact .inr q
        · refine dr_mono (fun b u hb => ?_) r
          by_cases hi : b ∈ ps
          · rw [lend_in hi]; exact E2.fh _ _ hb
          · rw [lend_out hi]
            show (if b ∈ ps then none else F' b) = some u
            rw [if_neg hi]; exact hb
    | ex c p =>
      rw [e1] at q1
      exact fun H' x sm xp => q1 H' x (E1.hh.trans sm) xp
    | bad => exact absurd e1 nb

/-! ### built-ins -/
def DoesN (K : PySem.W.Frag) (r : List V → Hp → VK → Prop) (ls : List Lv) (lv : Lv) (op : List D → R D) : Prop :=
  (∀ ds c p, op ds ≠ .ex c p) ∧ ∀ {F H : Hp} {ps : List Addr} {vs : List V} {ds : List D} {z : D} {Q : VK}, (∀ p ∈ ps, F p = none ∧ ∃ u, H p = some u ∧ noT u = true) → Same F H → ResAll K F H ps ls vs ds → op ds = .ok z →
    (∀ v F' H', Ext F F' H H' → Res K F' H' ps lv v z → Q v H') → r vs H Q
theorem seqN {K : PySem.W.Frag} {r : List V → Hp → VK → Prop} {ls : List Lv} {lv : Lv} {op : List D → R D} {h : S → R (List D)} (dz : DoesN K r ls lv op) {sg : L2.St} {H : Hp} {Q : VK}
    (q : tE K cls W o lv (fun s => (h s).bind op) sg H Q) : tCB r (tAs K cls W o ls h) sg H Q := by
  obtain ⟨F, s, ps, A, q⟩ := q
  refine ⟨F, s, ps, A, q.bind.imp fun ds _ q1 vs F1 H1 E1 R1 => ?_⟩
  obtain ⟨z, hz, k⟩ := q1.get (dz.1 ds)
  exact dz.2 (out_mono A.out E1) E1.fh R1 hz fun v F' H' E2 R2 => k v F' H' (E1.trans E2) R2
theorem j_callB {x : Str} {id : String} {r : List V → Hp → VK → Prop} {e : Expr} {es : List Expr} {p pos : Pos} {ls : List Lv} {lv : Lv} {op : List D → R D} {h : S → R (List D)} (hc : CallR X (.builtin id) r) (dz : DoesN X.K r ls lv op)
    (hv : bootBuiltins x = some (.builtin id)) (hg : Gl X x) (hm : X.mg x = none) (hn : x ≠ "__name__") (hdb : (x == ("__debug__" : Str)) = false) (hp : (e :: es).all plainA = true) (ha : PA X (e :: es) (tAs X.K cls W o ls h)) :
    PE X (.Call (.Name x p) (e :: es) [] pos) (tE X.K cls W o lv fun s => (h s).bind op) := by
  have hp2 : plainA e = true ∧ es.all plainA = true := by simpa using hp
  exact pe_imp (pe_callB hc hg hm hv ha hn hdb (star_plain hp2.1 _ _) (star_all hp2.2)) fun sg H Q q => seqN dz q
theorem j_callTy {x : Str} {T : String} {r : List V → Hp → VK → Prop} {e : Expr} {es : List Expr} {p pos : Pos} {ls : List Lv} {lv : Lv} {op : List D → R D} {h : S → R (List D)} (hc : CallR X (.type T) r) (dz : DoesN X.K r ls lv op)
    (hv : bootBuiltins x = some (.type T)) (hg : Gl X x) (hm : X.mg x = none) (hn : x ≠ "__name__") (hdb : (x == ("__debug__" : Str)) = false) (hp : (e :: es).all plainA = true) (ha : PA X (e :: es) (tAs X.K cls W o ls h)) :
    PE X (.Call (.Name x p) (e :: es) [] pos) (tE X.K cls W o lv fun s => (h s).bind op) := by
  have hp2 : plainA e = true ∧ es.all plainA = true := by simpa using hp
  exact pe_imp (pe_callTy hc hg hm hv ha hn hdb (star_plain hp2.1 _ _) (star_all hp2.2)) fun sg H Q q => seqN dz q
theorem biD_noex (b : Bi) (ds : List D) : ∀ c p, biD b ds ≠ .ex c p := by
  intro c p h
  unfold biD at h
  split at h <;> first | cases h | (split at h <;> first | cases h | (split at h <;> cases h))

section
variable {K : PySem.W.Frag} {l l2 : Lv}
theorem res1 {F H : Hp} {ps : List Addr} {vs : List V} {ds : List D} (h : ResAll K F H ps [l] vs ds) : ∃ v d, vs = [v] ∧ ds = [d] ∧ Res K F H ps l v d := by
  cases h with
  | cons h r => cases r; exact ⟨_, _, rfl, rfl, h⟩
theorem res2 {F H : Hp} {ps : List Addr} {vs : List V} {ds : List D} (h : ResAll K F H ps [l, l2] vs ds) : ∃ v d w e, vs = [v, w] ∧ ds = [d, e] ∧ Res K F H ps l v d ∧ Res K F H ps l2 w e := by
  cases h with
  | cons h r =>
    cases r with
    | cons h2 r => cases r; exact ⟨_, _, _, _, rfl, rfl, h, h2⟩
theorem dicOk_len : ∀ {kvs : List (List Key × V)} {es : List (D × D)}, DicOk kvs es → kvs.length = es.length
  | _, _, .nil => rfl
  | _, _, .cons _ r => congrArg (· + 1) (dicOk_len r)
def rLenD : List V → Hp → VK → Prop := fun xs H Q => ∃ (p : Addr) (kvs : List (List Key × V)), xs = [.ref p] ∧ Rd H p (.dT kvs) ∧ Q (.int ((kvs.length : Nat) : Int)) H
theorem call_len_dD {X : Cx} : CallR X (.builtin "len") rLenD := by
  intro pins s σ H xs us Q I r h
  obtain ⟨p, kvs, rfl, hp, q⟩ := h
  obtain ⟨u, rfl, rx⟩ := vals1 r
  obtain rfl : u = .ref p := rx
  obtain ⟨z, hd, ys, rel, dd⟩ := dt_rd I.hok hp
  have hl : kvs.length = ys.length := Paired.length rel
  refine call_len_dictH hd dd (by rw [← hl]; rw [sizeLine_eq] at z; omega) ?_
  rw [← hl]
  exact ⟨.int ((kvs.length : Nat) : Int), H, I.tok _, ⟨_, rfl⟩, q⟩
def rLenAll (K : PySem.W.Frag) : List V → Hp → VK → Prop := fun xs H Q => (∃ p ys, xs = [.ref p] ∧ (SqL K H p ys ∨ SqT K H p ys) ∧ Q (.int ys.length) H) ∨ ((∃ z, xs = [.str z] ∧ z.length ≤ sizeLine ∧ Q (.int z.length) H) ∨ rLenD xs H Q)
theorem call_lenAll : CallR X (.builtin "len") (rLenAll X.K) := call_len_seq.or (call_len_str.or call_len_dD)
theorem dz_len (h : l ≠ .dt) : DoesN K (rLenAll K) [l] .cl (biD .len) := by
  refine ⟨biD_noex .len, ?_⟩
  intro F H ps vs ds z Q ou s ra hz k
  obtain ⟨v, d, rfl, rfl, r⟩ := res1 ra
  have hk : ∀ i : Int, z = .int i → Q (.int i) H := fun i e => k _ F H (Ext.refl s) (by rw [e]; exact .int i)
  cases d with
  | list m =>
    cases hz
    obtain ⟨a, xs, rfl, ha, da⟩ := res_list (by cases l <;> first | rfl | exact absurd rfl h | (obtain ⟨_, _, _, _, _, e, _⟩ := r; cases e)) s r
    refine .inl ⟨a, xs, rfl, .inl (.inl (.inl ha)), ?_⟩
    rw [da.length]
    exact hk _ rfl
  | tuple m =>
    cases hz
    obtain ⟨a, xs, rfl, ha, da, fa⟩ := res_tup (by cases l <;> first | rfl | exact absurd rfl h | (obtain ⟨_, _, _, _, _, e, _⟩ := r; cases e)) s r
    refine .inl ⟨a, xs, rfl, .inr ha, ?_⟩
    rw [da.length]
    exact hk _ rfl
  | str w =>
    simp only [biD] at hz
    split at hz
    · rename_i hl
      cases hz
      exact .inr (.inl ⟨w, by rw [res_str r], lim_line hl, hk _ rfl⟩)
    · cases hz
  | dict m =>
    cases l with
    | cl =>
      cases r with
      | @scr a ns hq =>
        have hz : biD .len [PyData.dict [(.none, .list (ns.map .int))]] = .ok z := hz
        simp only [biD] at hz
        cases hz
        refine .inl ⟨a, _, rfl, .inl (s.seq hq), ?_⟩
        rw [List.length_map]
        exact hk _ (by rw [List.length_map])
      | @kt a ns hq =>
        have hz : biD .len [PyData.dict [(.bool true, .tuple (ns.map .int))]] = .ok z := hz
        simp only [biD] at hz
        cases hz
    | sh => obtain ⟨_, _, _, _, _, e, _⟩ := r; cases e
    | dt => exact absurd rfl h
    | dd =>
      obtain ⟨p, kvs, es, rfl, hp, e, eh, r⟩ := r
      cases e
      have hl := dicOk_len r
      have hz : z = .int m.length := by
        cases r with
        | nil => cases hz; rfl
        | cons _ _ => cases hz; rfl
      refine .inr (.inr ⟨p, kvs, rfl, eh, ?_⟩)
      rw [hl]
      exact hk _ hz
  | _ => cases hz
def rSumA (K : PySem.W.Frag) : List V → Hp → VK → Prop := fun vs H Q => rSum K vs H Q ∨ ∃ (a : Addr) (ns : List Int), vs = [V.ref a] ∧ SqT K H a (ns.map V.int) ∧ Q (.int ns.sum) H
theorem cr_sumA {X : Cx} (hc : X.calm = true) : CallR X (.builtin "sum") (rSumA X.K) := by
  intro pins s sg H vs us Q I r h
  rcases h with h | ⟨a, ns, rfl, hs, q⟩
  · exact cr_sum hc pins s sg H vs us Q I r h
  · obtain ⟨its, rv, ht, _⟩ := I.tuple hs
    rw [Vals.ref1 r]
    obtain ⟨xs, e⟩ := rv.ints.allInts.items
    have hn : numsOf (intItems xs).toList = ns := by rw [← e]; exact rv.ints.numsOf
    rw [nums_intItems] at hn
    have hl : s.heap.IsTuple a its.toArray := ht
    rw [e] at hl
    refine PySem.W.ktm_sumG (I.ok.hd hc) hl fun h' tk t' hk => ?_
    refine ⟨.int ns.sum, H, I.kept hk, ⟨t', ?_⟩, q⟩
    rw [preSum_eq, List.take_of_length_le (by simp), hn]
theorem dz_sum (h : l.fine = true) : DoesN K (rSumA K) [l] .cl (biD .sum) := by
  refine ⟨biD_noex .sum, ?_⟩
  intro F H ps vs ds z Q ou s ra hz k
  obtain ⟨v, d, rfl, rfl, r⟩ := res1 ra
  cases d with
  | list m =>
    simp only [biD] at hz
    split at hz
    · rename_i ks e
      cases hz
      obtain ⟨a, xs, rfl, ha, da⟩ := res_list h s r
      obtain ⟨e1, e2⟩ := da.ints e
      exact .inl ⟨a, ks, rfl, .inl (.inl (by rw [← e1]; exact ha)), k _ F H (Ext.refl s) (.int _)⟩
    · cases hz
  | tuple m =>
    simp only [biD] at hz
    split at hz
    · rename_i ks e
      cases hz
      obtain ⟨a, xs, rfl, ha, da, fa⟩ := res_tup h s r
      obtain ⟨e1, e2⟩ := da.ints e
      exact .inr ⟨a, ks, rfl, by rw [← e1]; exact ha, k _ F H (Ext.refl s) (.int _)⟩
    · cases hz
  | _ => cases hz
theorem maxI_mem : ∀ (k : Int) (ks : List Int), maxI (k :: ks) ∈ k :: ks ∧ ∀ y ∈ k :: ks, y ≤ maxI (k :: ks)
  | k, [] => ⟨by simp [maxI], by simp [maxI]⟩
  | k, x :: r => by
    obtain ⟨h1, h2⟩ := maxI_mem x r
    have e : maxI (k :: x :: r) = if k < maxI (x :: r) then maxI (x :: r) else k := rfl
    rw [e]
    split
    · refine ⟨List.mem_cons_of_mem _ h1, fun y hy => ?_⟩
      rcases List.mem_cons.mp hy with rfl | hy
      · omega
      · exact h2 y hy
    · refine ⟨List.mem_cons_self, fun y hy => ?_⟩
      rcases List.mem_cons.mp hy with rfl | hy
      · omega
      · have := h2 y hy
        omega
theorem minI_mem : ∀ (k : Int) (ks : List Int), minI (k :: ks) ∈ k :: ks ∧ ∀ y ∈ k :: ks, minI (k :: ks) ≤ y
  | k, [] => ⟨by simp [minI], by simp [minI]⟩
  | k, x :: r => by
    obtain ⟨h1, h2⟩ := minI_mem x r
    have e : minI (k :: x :: r) = if minI (x :: r) < k then minI (x :: r) else k := rfl
    rw [e]
    split
    · refine ⟨List.mem_cons_of_mem _ h1, fun y hy => ?_⟩
      rcases List.mem_cons.mp hy with rfl | hy
      · omega
      · exact h2 y hy
    · refine ⟨List.mem_cons_self, fun y hy => ?_⟩
      rcases List.mem_cons.mp hy with rfl | hy
      · omega
      · have := h2 y hy
        omega
theorem dz_max (h : l.fine = true) : DoesN K (rMax K) [l] .cl (biD .max) := by
  refine ⟨biD_noex .max, ?_⟩
  intro F H ps vs ds z Q ou s ra hz k
  obtain ⟨v, d, rfl, rfl, r⟩ := res1 ra
  cases d with
  | list m =>
    simp only [biD] at hz
    split at hz
    · rename_i k0 ks e
      cases hz
      obtain ⟨a, xs, rfl, ha, da⟩ := res_list h s r
      obtain ⟨e1, e2⟩ := da.ints e
      obtain ⟨m1, m2⟩ := maxI_mem k0 ks
      refine ⟨a, k0 :: ks, rfl, .inl (.inl (by rw [← e1]; exact ha)), by simp, fun m hm hy => ?_⟩
      have : m = maxI (k0 :: ks) := Int.le_antisymm (m2 m hm) (hy _ m1)
      rw [this]
      exact k _ F H (Ext.refl s) (.int _)
    · cases hz
  | _ => cases hz
theorem dz_min (h : l.fine = true) : DoesN K (rMin K) [l] .cl (biD .min) := by
  refine ⟨biD_noex .min, ?_⟩
  intro F H ps vs ds z Q ou s ra hz k
  obtain ⟨v, d, rfl, rfl, r⟩ := res1 ra
  cases d with
  | list m =>
    simp only [biD] at hz
    split at hz
    · rename_i k0 ks e
      cases hz
      obtain ⟨a, xs, rfl, ha, da⟩ := res_list h s r
      obtain ⟨e1, e2⟩ := da.ints e
      obtain ⟨m1, m2⟩ := minI_mem k0 ks
      refine ⟨a, k0 :: ks, rfl, .inl (.inl (by rw [← e1]; exact ha)), by simp, fun m hm hy => ?_⟩
      have : m = minI (k0 :: ks) := Int.le_antisymm (hy _ m1) (m2 m hm)
      rw [this]
      exact k _ F H (Ext.refl s) (.int _)
    · cases hz
  | _ => cases hz
theorem dz_max2 : DoesN K (fun xs H Q => ∃ i j, xs = [.int i, .int j] ∧ Q (.int (if j > i then j else i)) H) [l, l2] .cl (biD .max2) := by
  refine ⟨biD_noex .max2, ?_⟩
  intro F H ps vs ds z Q ou s ra hz k
  obtain ⟨v, d, w, e, rfl, rfl, r1, r2⟩ := res2 ra
  cases d with
  | int i =>
    cases e with
    | int j =>
      cases hz
      exact ⟨i, j, by rw [res_int r1, res_int r2], k _ F H (Ext.refl s) (.int _)⟩
    | _ => cases hz
  | _ => cases hz
theorem dz_min2 : DoesN K (fun xs H Q => ∃ i j, xs = [.int i, .int j] ∧ Q (.int (if j < i then j else i)) H) [l, l2] .cl (biD .min2) := by
  refine ⟨biD_noex .min2, ?_⟩
  intro F H ps vs ds z Q ou s ra hz k
  obtain ⟨v, d, w, e, rfl, rfl, r1, r2⟩ := res2 ra
  cases d with
  | int i =>
    cases e with
    | int j =>
      cases hz
      exact ⟨i, j, by rw [res_int r1, res_int r2], k _ F H (Ext.refl s) (.int _)⟩
    | _ => cases hz
  | _ => cases hz
theorem dz_list (h : l.fine = true) : DoesN K (fun xs H Q => ∃ p ys, xs = [.ref p] ∧ (SqL K H p ys ∨ SqT K H p ys) ∧ ∀ l, H l = none → Q (.ref l) (upd H l (.lst ys))) [l] .cl (biD .list) := by
  refine ⟨biD_noex .list, ?_⟩
  intro F H ps vs ds z Q ou s ra hz k
  obtain ⟨v, d, rfl, rfl, r⟩ := res1 ra
  cases d with
  | list m =>
    cases hz
    obtain ⟨a, xs, rfl, ha, da⟩ := res_list h s r
    exact ⟨a, xs, rfl, .inl (.inl (.inl ha)), fun p hp => k _ _ _ (Ext.new s hp) (dr_lstN s hp da)⟩
  | tuple m =>
    cases hz
    obtain ⟨a, xs, rfl, ha, da, fa⟩ := res_tup h s r
    exact ⟨a, xs, rfl, .inr ha, fun p hp => k _ _ _ (Ext.new s hp) (dr_lstN s hp da)⟩
  | _ => cases hz
theorem dz_tuple (h : l.fine = true) : DoesN K (fun xs H Q => ∃ p ys, xs = [.ref p] ∧ ((SqL K H p ys ∧ ∀ l, H l = none → Q (.ref l) (upd H l (.tup ys))) ∨ (SqT K H p ys ∧ Q (.ref p) H))) [l] .cl (biD .tuple) := by
  refine ⟨biD_noex .tuple, ?_⟩
  intro F H ps vs ds z Q ou s ra hz k
  obtain ⟨v, d, rfl, rfl, r⟩ := res1 ra
  cases d with
  | list m =>
    cases hz
    obtain ⟨a, xs, rfl, ha, da⟩ := res_list h s r
    exact ⟨a, xs, rfl, .inl ⟨.inl (.inl ha), fun p hp => k _ _ _ (Ext.new s hp) (dr_tupN s hp da)⟩⟩
  | tuple m =>
    cases hz
    obtain ⟨a, xs, rfl, ha, da, fa⟩ := res_tup h s r
    exact ⟨a, xs, rfl, .inr ⟨ha, k _ F H (Ext.refl s) (.tup fa da)⟩⟩
  | _ => cases hz
theorem dz_int : DoesN K (fun xs H Q => (∃ i, xs = [.int i] ∧ Q (.int i) H) ∨ ∃ k, xs = [.bl k] ∧ Q (.int (if k then 1 else 0)) H) [l] .cl (biD .int) := by
  refine ⟨biD_noex .int, ?_⟩
  intro F H ps vs ds z Q ou s ra hz k
  obtain ⟨v, d, rfl, rfl, r⟩ := res1 ra
  cases d with
  | int i =>
    cases hz
    exact .inl ⟨i, by rw [res_int r], k _ F H (Ext.refl s) (.int _)⟩
  | bool b =>
    cases hz
    exact .inr ⟨b, by rw [res_bool r], k _ F H (Ext.refl s) (.int _)⟩
  | _ => cases hz
end
end
end Rr

set_option linter.all false
set_option Elab.async false
set_option maxRecDepth 100000
set_option maxHeartbeats 1000000
/-! zip of lists and tuples in any mix. -/
namespace Rr
open PySem PySem.Spec PyProof.Rows L2

/-- a tuple (true) or a list (false) -/
def SqK (K : PySem.W.Frag) (H : Hp) (k : Bool) (a : Addr) (xs : List V) : Prop := if k then SqT K H a xs else SqL K H a xs
def IterK (k : Bool) (h : Heap) (it a : Addr) (i : Nat) : Prop := if k then h.IsTupleIter it a i else h.IsListIter it a i
def IsK (k : Bool) (h : Heap) (a : Addr) (its : Array Value) : Prop := if k then h.IsTuple a its else h.IsList a its
theorem sqK_inj {X : Cx} {pins : List (Addr × Obj)} {sg : L2.St} {H : Hp} {s : Shared} (I : Inv X pins sg H s) {a : Addr} {xs ys : List V} : ∀ {k : Bool}, SqK X.K H k a xs → SqK X.K H k a ys → xs = ys
  | true, h, h' => I.tuple_inj h h'
  | false, h, h' => I.list_inj h h'
theorem sqK_is {X : Cx} {pins : List (Addr × Obj)} {sg : L2.St} {H : Hp} {s : Shared} (I : Inv X pins sg H s) {a : Addr} {xs : List V} : ∀ {k : Bool}, SqK X.K H k a xs → ∃ its : List Value, Vals xs its ∧ IsK k s.heap a its.toArray ∧ a < s.heap.objs.size
  | true, h => by
    obtain ⟨its, r, p, _⟩ := I.tuple h
    obtain ⟨o, ho, _⟩ := id p
    exact ⟨its, r, p, Heap.lt_size ho⟩
  | false, h => by
    obtain ⟨its, r, p, _⟩ := I.list h
    exact ⟨its, r, p.isList, p.lt⟩
theorem drawsK {prog : Program} {w : World} {A : Around} (hh : A.handled = none) (it a : Addr) (hne : a ≠ it) (its : Array Value) : ∀ k : Bool, Draws prog w A it [it, a] its.size (fun i v => its[i]? = some v) (fun i h => IterK k h it a i ∧ IsK k h a its)
  | true => Draws.tuple hh it a hne its
  | false => Draws.list hh it a hne its
theorem iterK_obj {k : Bool} {h : Heap} {it a : Addr} {i : Nat} (x : IterK k h it a i) : ∃ o, h.get? it = some o ∧ ∃ vs, o.data = .fields vs := by
  cases k with
  | true => obtain ⟨o, e, _, d⟩ := x; exact ⟨o, e, _, d⟩
  | false => obtain ⟨o, e, _, d⟩ := x; exact ⟨o, e, _, d⟩
theorem iterK_at {k : Bool} {h h' : Heap} {it a : Addr} {i : Nat} (x : IterK k h it a i) (f : ∀ o, h.get? it = some o → h'.get? it = some o) : IterK k h' it a i := by
  cases k with
  | true => exact Heap.IsTupleIter.at x f
  | false => exact Heap.IsListIter.at x f

def ItzM (K : PySem.W.Frag) (ka kb : Bool) (a b : Addr) : L2.It :=
  ⟨fun i H => ∃ (xs ys : List V) (x y : V), SqK K H ka a xs ∧ SqK K H kb b ys ∧ xs[i]? = some x ∧ ys[i]? = some y,
    fun i H v H' => ∃ T x y, v = .ref T ∧ H T = none ∧ H' = upd H T (.tup [x, y]) ∧ (∀ xs, SqK K H ka a xs → xs[i]? = some x) ∧ ∀ ys, SqK K H kb b ys → ys[i]? = some y,
    fun i H => ∃ xs ys : List V, SqK K H ka a xs ∧ SqK K H kb b ys ∧ i ≤ xs.length ∧ i ≤ ys.length ∧ (i = xs.length ∨ i = ys.length)⟩
structure Apart (z TI TO i1 i2 a b : Addr) : Prop where
  S : ZipSep2 z TI TO i1 i2 [i1, a] [i2, b]
  a1 : a ≠ i1
  b2 : b ≠ i2
theorem turn_zipM {P : Program} {w : World} {K : PySem.W.Frag} {elts : List Expr} {kk : Nat} {tpos : Pos} {ka kb : Bool} {a b z TI TO i1 i2 : Addr} (D : Apart z TI TO i1 i2 a b) :
    Turn P w K (.Tuple elts kk tpos) (ItzM K ka kb a b) [z, TI, TO, i1, i2] z (fun i h => IsZip h z TI TO .none ∧ IsTupOf2 h TI (.ref i1) (.ref i2) ∧ (∃ x y, IsTupOf2 h TO x y) ∧ IterK ka h i1 a i ∧ IterK kb h i2 b i) where
  mem := by simp
  obj := fun i h st c hc => by
    obtain ⟨hz, hTI, ⟨x, y, hTO⟩, h1, h2⟩ := st
    obtain ⟨o1, e1, v1, d1⟩ := iterK_obj h1
    obtain ⟨o2, e2, v2, d2⟩ := iterK_obj h2
    have hc : c = z ∨ c = TI ∨ c = TO ∨ c = i1 ∨ c = i2 := by simpa using hc
    rcases hc with rfl | rfl | rfl | rfl | rfl
    · exact ⟨_, hz, fun v q => nomatch q⟩
    · exact ⟨_, hTI, fun v q => nomatch q⟩
    · exact ⟨_, hTO, fun v q => nomatch q⟩
    · exact ⟨o1, e1, fun v q => by rw [d1] at q; cases q⟩
    · exact ⟨o2, e2, fun v q => by rw [d2] at q; cases q⟩
  keep := fun i h h' st k => by
    obtain ⟨hz, hTI, ⟨x, y, hTO⟩, h1, h2⟩ := st
    exact ⟨k z (by simp) _ hz, k TI (by simp) _ hTI, ⟨x, y, k TO (by simp) _ hTO⟩, iterK_at h1 fun o q => k i1 (by simp) o q, iterK_at h2 fun o q => k i2 (by simp) o q⟩
  item := by
    intro X hP hw hK hc i pins s sg H E I hf st hg
    subst hP hw hK
    obtain ⟨hz, hTI, ⟨x0, y0, hTO⟩, h1, h2⟩ := st
    obtain ⟨xs, ys, x, y, hqx, hqy, hx, hy⟩ := hg
    obtain ⟨its, rv, p1, _⟩ := sqK_is I hqx
    obtain ⟨jts, rw2, p2, _⟩ := sqK_is I hqy
    obtain ⟨u, hu, ru⟩ := rv.get hx
    obtain ⟨t, ht, rt⟩ := rw2.get hy
    have hzl : z < s.heap.objs.size := Heap.lt_size hz
    have hh : X.A.in1.handled = none := I.ok.hd hc
    have li : i < its.toArray.size := by
      have := (List.getElem?_eq_some_iff.mp hu).1
      simpa using this
    have lj : i < jts.toArray.size := by
      have := (List.getElem?_eq_some_iff.mp ht).1
      simpa using this
    refine wpAny_pyNext_zipD2_item D.S (drawsK hh i1 a D.a1 its.toArray ka) (drawsK hh i2 b D.b2 jts.toArray kb) hz hTI hTO ⟨h1, p1⟩ ⟨h2, p2⟩ li lj fun u1 t1 h' tk q1 q2 z' TO' s1 s2 hT hsz hk => ?_
    have eu : u1 = u := by
      have : its[i]? = some u1 := by simpa using q1
      rw [hu] at this
      exact (Option.some.inj this).symm
    have et : t1 = t := by
      have : jts[i]? = some t1 := by simpa using q2
      rw [ht] at this
      exact (Option.some.inj this).symm
    subst eu et
    refine ⟨_, rfl, wpAny_letOwnedTupleGo_zip (s := { s with heap := h', toks := tk }) z' fun h'' z'' sb => ?_⟩
    have hT2 : h''.get? s.heap.objs.size = some { cls := .type "tuple", data := .seq #[u1, t1] } := (sb.2 _ (Nat.ne_of_gt hzl)).trans hT
    have new : ObjOk X.prog X.w (upd H s.heap.objs.size (.tup [x, y])) h'' s.heap.objs.size (.tup [x, y]) :=
      ⟨by show 2 ≤ sizeLine; decide, [u1, t1], .cons ru (.cons rt .nil), ⟨_, hT2, rfl, _, rfl⟩⟩
    have I1 : L2.Inv X pins sg (upd H s.heap.objs.size (.tup [x, y])) { s with heap := h'', toks := tk } :=
      I.turnedNew (t' := tk) (ch := [z, TI, TO, i1, i2]) (fun c o hb q => (sb.2 c (fun q' => hb (by simp [q']))).trans (hk c o (fun q' => hb (by simp [q'])) (fun q' => hb (by simp [q'])) (fun q' => hb (by simp [q'])) (fun q' => hb (by simp [q'])) q)) hf (Nat.le_refl _) new
    refine ⟨.ref s.heap.objs.size, _, I1, rfl, ⟨_, x, y, rfl, I.hok.fresh (Nat.le_refl _), rfl, fun l hl => by rw [sqK_inj I hl hqx]; exact hx, fun l hl => by rw [sqK_inj I hl hqy]; exact hy⟩, ⟨z'', ?_, ⟨u1, t1, ?_⟩, ?_, ?_⟩, fun c hcm => ?_⟩
    · exact (sb.2 _ D.S.TIz).trans (hk _ _ D.S.TIz D.S.TITO D.S.TIi1 D.S.TIi2 hTI)
    · exact (sb.2 _ D.S.TOz).trans TO'
    · exact iterK_at s1.1 fun o q => (sb.2 _ D.S.zi1.symm).trans q
    · exact iterK_at s2.1 fun o q => (sb.2 _ D.S.zi2.symm).trans q
    · have hlt : c < s.heap.objs.size := by
        have hcm : c = z ∨ c = TI ∨ c = TO ∨ c = i1 ∨ c = i2 := by simpa using hcm
        rcases hcm with rfl | rfl | rfl | rfl | rfl
        · exact hzl
        · exact Heap.lt_size hTI
        · exact Heap.lt_size hTO
        · obtain ⟨_, e1, _⟩ := iterK_obj h1; exact Heap.lt_size e1
        · obtain ⟨_, e2, _⟩ := iterK_obj h2; exact Heap.lt_size e2
      rw [upd_ne (Nat.ne_of_lt hlt)]
      exact (hf c hcm).1
  done := by
    intro X hP hw hK hc i pins s sg H E I hf st hg
    subst hP hw hK
    obtain ⟨hz, hTI, ⟨x0, y0, hTO⟩, h1, h2⟩ := st
    obtain ⟨xs, ys, hqx, hqy, l1, l2, hend⟩ := hg
    obtain ⟨its, rv, p1, _⟩ := sqK_is I hqx
    obtain ⟨jts, rw2, p2, _⟩ := sqK_is I hqy
    have e1 := rv.length
    have e2 := rw2.length
    have hh : X.A.in1.handled = none := I.ok.hd hc
    refine wpAny_pyNext_zipD2_end D.S (drawsK hh i1 a D.a1 its.toArray ka) (drawsK hh i2 b D.b2 jts.toArray kb) hz hTI hTO ⟨h1, p1⟩ ⟨h2, p2⟩ (by simp; omega) (by simp; omega) (by simp; omega) fun h' tk hk => ⟨rfl, ?_⟩
    exact I.turnedL (t' := tk) (ch := [z, TI, TO, i1, i2]) (fun c o hb q => hk c o (fun q' => hb (by simp [q'])) (fun q' => hb (by simp [q'])) (fun q' => hb (by simp [q'])) (fun q' => hb (by simp [q'])) q) hf
  self := fun A i s Q E st h => wpAny_pyIter_zip st.1 h

theorem apart_of {n a b : Nat} (la : a < n) (lb : b < n) : Apart (n + 4) (n + 2) (n + 3) n (n + 1) a b := by
  have ne : ∀ x y : Nat, ¬ (x = y) → ¬ ((x : Addr) = y) := fun _ _ h => h
  have nm : ∀ x y z : Nat, ¬ (x = y) → ¬ (x = z) → (x : Addr) ∉ [(y : Addr), z] := fun x y z h1 h2 q => by
    rcases List.mem_cons.mp q with q | q
    · exact h1 q
    · rcases List.mem_cons.mp q with q | q
      · exact h2 q
      · cases q
  refine ⟨⟨ne _ _ (by omega), ne _ _ (by omega), ne _ _ (by omega), ne _ _ (by omega), List.mem_cons_self, nm _ _ _ (by omega) (by omega), nm _ _ _ (by omega) (by omega), ne _ _ (by omega), List.mem_cons_self, nm _ _ _ (by omega) (by omega), nm _ _ _ (by omega) (by omega), nm _ _ _ (by omega) (by omega), nm _ _ _ (by omega) (by omega)⟩, ne _ _ (by omega), ne _ _ (by omega)⟩
theorem ge_of {n c : Nat} (h : c = n + 4 ∨ c = n + 2 ∨ c = n + 3 ∨ c = n ∨ c = n + 1) : n ≤ c := by omega
def iZipM (K : PySem.W.Frag) (ta : TA) : TI := fun sg H R => ta sg H fun vs H1 => ∃ ka kb a b xs ys, vs = [.ref a, .ref b] ∧ SqK K H1 ka a xs ∧ SqK K H1 kb b ys ∧ R (ItzM K ka kb a b) H1
theorem beginsK (a : Addr) (its : Array Value) : ∀ k : Bool, ∃ o, Begins (.ref a) o (fun h => IsK k h a its) ∧ ∀ (h : Heap) (it : Addr), h.get? it = some o → IterK k h it a 0
  | true => ⟨_, begins_tuple a its, fun h it e => ⟨_, e, rfl, rfl⟩⟩
  | false => ⟨_, begins_list a its, fun h it e => ⟨_, e, rfl, rfl⟩⟩
theorem pi_zipM {X : Cx} {e e2 : Expr} {ta : TA} {p pos tpos : Pos} {elts : List Expr} {kk : Nat} (hg : Gl X "zip") (hm : X.mg "zip" = none) (ha : PA X [e, e2] ta) (hp : plainA e = true) (hp2 : plainA e2 = true) :
    PI X (.Tuple elts kk tpos) (.Call (.Name "zip" p) [e, e2] [] pos) (iZipM X.K ta) := by
  refine ⟨fun pins s sg H R I h => ?_⟩
  refine Call_ (ld_blt I hg hm PyProof.Rows.boot_zip (PyProof.Rows.callWith_type1 (thn (ha.run pos pins s sg H _ I h) fun us s1 ⟨vs, H1, I1, r1, q1⟩ => ?_) (star_plain hp _ _) (star_all (by simp [hp2]))))
  obtain ⟨ka, kb, a, b, xs, ys, ex, hqx, hqy, q⟩ := q1
  subst ex
  cases r1 with
  | cons r rr =>
    cases rr with
    | cons r' rr =>
      cases rr
      cases r
      cases r'
      obtain ⟨its, _, p1, la⟩ := sqK_is I1 hqx
      obtain ⟨jts, _, p2, lb⟩ := sqK_is I1 hqy
      obtain ⟨o1, B1, J1⟩ := beginsK a its.toArray ka
      obtain ⟨o2, B2, J2⟩ := beginsK b jts.toArray kb
      refine zip_begins2 B1 B2 p1 p2 fun h' hz hTI hTO g1 g2 hsz hk => wpAny_pyIter_zip hz ?_
      have I2 : L2.Inv X pins sg H1 { s1 with heap := h' } := I1.kept (t' := s1.toks) hk
      refine ⟨s1.heap.objs.size + 4, [s1.heap.objs.size + 4, s1.heap.objs.size + 2, s1.heap.objs.size + 3, s1.heap.objs.size, s1.heap.objs.size + 1], _, _, H1, rfl, I2, turn_zipM (apart_of la lb), ⟨hz, hTI, ⟨_, _, hTO⟩, J1 _ _ g1, J2 _ _ g2⟩, fun c hcm => ?_, q⟩
      have hle : s1.heap.objs.size ≤ c := ge_of (by simpa using hcm)
      exact I1.fpOk hle (I1.hok.fresh hle)
end Rr

set_option linter.all false
set_option Elab.async false
set_option maxRecDepth 100000
set_option maxHeartbeats 1000000
/-! enumerate of a list or a tuple. -/
namespace Rr
open PySem PySem.Spec PyProof.Rows L2
theorem meets_enum1 {v : Value} {o : Obj} {H : Heap → Prop} (B : Begins v o H) :
    Meets (Builtin.«enumerate.__new__» ⟨[.type "enumerate", v], []⟩) (fun _ R s => H s.heap ∧
      R (.ok (.ret (.ref (s.heap.push o).objs.size))) { s with heap := (s.heap.push o).push { cls := .type "enumerate", data := .fields #[.none, .bool false, .ref s.heap.objs.size, rawInt 0, .none, .none] } }) :=
  .of_wp fun prog w A R s h => by
    obtain ⟨hp, g, d, tk, os⟩ := s
    obtain ⟨h1, h⟩ := h
    have hsub := sub_enumerate
    have it : ∀ {E : Value → Shared → Prop} {A : Around} {Q : Value → Shared → Prop}, Q (.ref hp.objs.size) ⟨hp.push o, g, d, tk, os⟩ → wpAny (model prog w) A (pyIter v) Q E ⟨hp, g, d, tk, os⟩ := fun {E A Q} q => B.iter prog w A E ⟨hp, g, d, tk, os⟩ Q h1 q
    wp_walk
    refine wpAny_stack_any fun st => wpAny_pure ?_
    split
    · rename_i c _ _ _ _ _
      cases (c == Value.type "enumerate")
      · wp_walk using it
        exact ⟨_, rfl, h⟩
      · wp_walk using it
        exact ⟨_, rfl, h⟩
    · wp_walk using it
      exact ⟨_, rfl, h⟩
section
variable {prog : Program} {w : World} {A : Around} {E : Value → Shared → Prop} {s : Shared}
theorem call_enum1 {v : Value} {o : Obj} {H : Heap → Prop} {Q : Value → Shared → Prop} (B : Begins v o H) (h1 : H s.heap)
    (h : ∀ h', IsEnum h' (s.heap.objs.size + 1) s.heap.objs.size 0 .none → h'.get? s.heap.objs.size = some o → (∀ b o, s.heap.get? b = some o → h'.get? b = some o) → Q (.ref (s.heap.objs.size + 1)) { s with heap := h' }) :
    wpAny (model prog w) A (call (.type "enumerate") [v]) Q E s := by
  refine callType_new F.called_enumerate (by decide) (F.typeCall_enumerate_1 _) (F.newCall_enumerate_1 _) (fun obj => F.args_object_init_2 obj _) F.entry_enumerate_new (meets_enum1 B) ⟨h1, ?_⟩
  have hz : (s.heap.push o).objs.size = s.heap.objs.size + 1 := Heap.size_push ..
  show _ ∧ _
  rw [hz]
  have he : IsEnum ((s.heap.push o).push { cls := .type "enumerate", data := .fields #[.none, .bool false, .ref s.heap.objs.size, rawInt 0, .none, .none] }) (s.heap.objs.size + 1) s.heap.objs.size 0 .none := by
    have q := Heap.get?_push_size (s.heap.push o) (o := { cls := .type "enumerate", data := .fields #[.none, .bool false, .ref s.heap.objs.size, rawInt 0, .none, .none] }) rfl
    rw [hz] at q
    exact q
  exact ⟨⟨_, he, rfl⟩, h _ he (Heap.get?_push_of_some _ (Heap.get?_push_size _ B.free)) fun b o x => Heap.get?_push_of_some _ (Heap.get?_push_of_some _ x)⟩
end

def IteM (K : PySem.W.Frag) (k : Bool) (a : Addr) : L2.It :=
  ⟨fun i H => ∃ (xs : List V) (x : V), SqK K H k a xs ∧ xs[i]? = some x,
    fun i H v H' => ∃ T x, v = .ref T ∧ H T = none ∧ H' = upd H T (.tup [.int (i : Nat), x]) ∧ ∀ xs, SqK K H k a xs → xs[i]? = some x,
    fun i H => ∃ xs : List V, SqK K H k a xs ∧ i = xs.length⟩
theorem turn_enumM {P : Program} {w : World} {K : PySem.W.Frag} {elts : List Expr} {kk : Nat} {tpos : Pos} {k : Bool} {a e it : Addr} (hai : a ≠ it) (hei : e ≠ it) (hea : e ≠ a) :
    Turn P w K (.Tuple elts kk tpos) (IteM K k a) [e, it] e (fun i h => (∃ old, IsEnum h e it ((i : Nat) : Int) old) ∧ IterK k h it a i) where
  mem := by simp
  obj := fun i h st c hc => by
    obtain ⟨⟨old, he⟩, h1⟩ := st
    obtain ⟨o1, e1, v1, d1⟩ := iterK_obj h1
    have hc : c = e ∨ c = it := by simpa using hc
    rcases hc with rfl | rfl
    · exact ⟨_, he, fun v q => nomatch q⟩
    · exact ⟨o1, e1, fun v q => by rw [d1] at q; cases q⟩
  keep := fun i h h' st k => let ⟨⟨old, he⟩, h1⟩ := st; ⟨⟨old, k e (by simp) _ he⟩, iterK_at h1 fun o q => k it (by simp) o q⟩
  item := by
    intro X hP hw hK hc i pins s sg H E I hf st hg
    subst hP hw hK
    obtain ⟨⟨old, he⟩, h1⟩ := st
    obtain ⟨xs, x, hqx, hx⟩ := hg
    obtain ⟨its, rv, p1, _⟩ := sqK_is I hqx
    obtain ⟨u, hu, ru⟩ := rv.get hx
    have hel : e < s.heap.objs.size := Heap.lt_size he
    have hil : it < s.heap.objs.size := by obtain ⟨_, q, _⟩ := iterK_obj h1; exact Heap.lt_size q
    have hh : X.A.in1.handled = none := I.ok.hd hc
    have li : i < its.toArray.size := by
      have := (List.getElem?_eq_some_iff.mp hu).1
      simpa using this
    have hef : e ∉ [it, a] := fun q => by
      rcases List.mem_cons.mp q with q | q
      · exact hei q
      · rcases List.mem_cons.mp q with q | q
        · exact hea q
        · cases q
    refine wpAny_pyNext_enum_itemD (drawsK hh it a hai its.toArray k) he ⟨h1, p1⟩ li hei hef fun u1 h' tk q1 ho s1 hT hsz hk => ?_
    have eu : u1 = u := by
      have : its[i]? = some u1 := by simpa using q1
      rw [hu] at this
      exact (Option.some.inj this).symm
    subst eu
    refine ⟨_, rfl, wpAny_letOwnedTupleGo_enum (s := { s with heap := h', toks := tk + 1 }) ho fun h'' he' sb => ?_⟩
    have hT2 : h''.get? s.heap.objs.size = some { cls := .type "tuple", data := .seq #[.int i tk, u1] } := (sb.2 _ (Nat.ne_of_gt hel)).trans hT
    have new : ObjOk X.prog X.w (upd H s.heap.objs.size (.tup [.int (i : Nat), x])) h'' s.heap.objs.size (.tup [.int (i : Nat), x]) :=
      ⟨by show 2 ≤ sizeLine; decide, [.int i tk, u1], .cons ⟨_, rfl⟩ (.cons ru .nil), ⟨_, hT2, rfl, _, rfl⟩⟩
    have I1 : L2.Inv X pins sg (upd H s.heap.objs.size (.tup [.int (i : Nat), x])) { s with heap := h'', toks := tk + 1 } :=
      I.turnedNew (t' := tk + 1) (ch := [e, it]) (fun b ob hb q => (sb.2 b (fun z => hb (by simp [z]))).trans (hk b ob (fun z => hb (by simp [z])) (fun z => hb (by simp [z])) q)) hf (Nat.le_refl _) new
    refine ⟨.ref s.heap.objs.size, _, I1, rfl, ⟨_, x, rfl, I.hok.fresh (Nat.le_refl _), rfl, fun ys hy => by rw [sqK_inj I hy hqx]; exact hx⟩, ⟨⟨u1, ?_⟩, iterK_at s1.1 fun o q => (sb.2 it (Ne.symm hei)).trans q⟩, fun b hb => ?_⟩
    · have e1 : ((i + 1 : Nat) : Int) = (i : Int) + 1 := by omega
      rw [e1]; exact he'
    · have hb' : b < s.heap.objs.size := by
        have hb : b = e ∨ b = it := by simpa using hb
        rcases hb with rfl | rfl
        · exact hel
        · exact hil
      rw [upd_ne (Nat.ne_of_lt hb')]
      exact (hf b hb).1
  done := by
    intro X hP hw hK hc i pins s sg H E I hf st hg
    subst hP hw hK
    obtain ⟨⟨old, he⟩, h1⟩ := st
    obtain ⟨xs, hqx, hx⟩ := hg
    obtain ⟨its, rv, p1, _⟩ := sqK_is I hqx
    have hh : X.A.in1.handled = none := I.ok.hd hc
    obtain ⟨f0, f1, f2, f3, f4, f5⟩ := hf it (by simp)
    have hl : i = its.toArray.size := by
      have := rv.length
      simp
      omega
    subst hl
    exact wpAny_pyNext_enum_endD (drawsK hh it a hai its.toArray k) he ⟨h1, p1⟩ fun h' eb => ⟨rfl, I.turned (t' := s.toks) (fun b o hb q => eb b o hb q) f0 f1 f3 f4 f5⟩
  self := fun A i s Q E st h => let ⟨⟨_, he⟩, _⟩ := st; wpAny_pyIter_enum he h
def iEnumM (K : PySem.W.Frag) (ta : TA) : TI := fun sg H R => ta sg H fun vs H1 => ∃ k a xs, vs = [.ref a] ∧ SqK K H1 k a xs ∧ R (IteM K k a) H1
theorem ne_of_lt' {n a : Nat} (h : a < n) : (a : Addr) ≠ n := fun e => Nat.lt_irrefl _ (e ▸ h)
theorem ne_succ {n : Nat} : ((n + 1 : Nat) : Addr) ≠ n := Nat.succ_ne_self n
theorem ne_succ2 {n a : Nat} (h : a < n) : ((n + 1 : Nat) : Addr) ≠ a := fun e => by
  have e : n + 1 = a := e
  omega
theorem ge_of2 {n c : Nat} (h : c = n + 1 ∨ c = n) : n ≤ c := by omega
theorem pi_enumM {X : Cx} {e : Expr} {ta : TA} {p pos tpos : Pos} {elts : List Expr} {kk : Nat} (hg : Gl X "enumerate") (hm : X.mg "enumerate" = none) (ha : PA X [e] ta) (hp : plainA e = true) :
    PI X (.Tuple elts kk tpos) (.Call (.Name "enumerate" p) [e] [] pos) (iEnumM X.K ta) := by
  refine ⟨fun pins s sg H R I h => ?_⟩
  refine Call_ (ld_blt I hg hm boot_enumerate (PyProof.Rows.callWith_type1 (thn (ha.run pos pins s sg H _ I h) fun us s1 ⟨vs, H1, I1, r1, q1⟩ => ?_) (star_plain hp _ _) rfl))
  obtain ⟨k, a, xs, ex, hq, q⟩ := q1
  subst ex
  cases r1 with
  | cons r rr =>
    cases rr
    cases r
    obtain ⟨its, _, p1, la⟩ := sqK_is I1 hq
    obtain ⟨o1, B1, J1⟩ := beginsK a its.toArray k
    refine call_enum1 B1 p1 fun h' he g1 hk => wpAny_pyIter_enum he ?_
    have I2 : L2.Inv X pins sg H1 { s1 with heap := h' } := I1.kept (t' := s1.toks) hk
    refine ⟨s1.heap.objs.size + 1, [s1.heap.objs.size + 1, s1.heap.objs.size], _, _, H1, rfl, I2, turn_enumM (ne_of_lt' la) ne_succ (ne_succ2 la), ⟨⟨.none, he⟩, J1 _ _ g1⟩, fun b hb => ?_, q⟩
    have hle : s1.heap.objs.size ≤ b := ge_of2 (by simpa using hb)
    exact I1.fpOk hle (I1.hok.fresh hle)
end Rr

set_option linter.all false
set_option Elab.async false
set_option maxRecDepth 100000
set_option maxHeartbeats 1000000
/-! What is walked; comprehensions. -/
namespace Rr
open PySem PySem.Spec PyProof.Rows L2

/-- J walks over ds, while F and B stand -/
def WalkD (K : PySem.W.Frag) (J : L2.It) (ds : List D) (F B : Hp) : Prop := ∀ (i : Nat) (F1 H1 : Hp), Same F F1 → Same F1 H1 → Same B H1 →
  (i < ds.length → J.go i H1) ∧ (i = ds.length → J.stop i H1) ∧ ∀ x H2 d, ds[i]? = some d → J.yld i H1 x H2 → ∃ F2, Ext F1 F2 H1 H2 ∧ Dr K F2 x d
/-- a walk whose source is clean stands while F stands; one over an owned list while the heap stands -/
def tI (K : PySem.W.Frag) (cls : Str → Addr) (W : WX) (o : Own) (l : Lv) (f : S → R (List D)) : TI := fun sg H R => ∃ F s ps, Ab K F H sg o s ps ∧ Out cls W sg H (f s) fun ds => ∀ J F' H', Ext F F' H H' → WalkD K J ds F' (if l = .cl then F' else H') → R J H'
theorem pi_imp {X : Cx} {tg e : Expr} {t t' : TI} (h : PI X tg e t) (i : ∀ sg H Q, t' sg H Q → t sg H Q) : PI X tg e t' := ⟨fun pins s sg H Q I q => h.run pins s sg H Q I (i _ _ _ q)⟩
section
variable {X : Cx} {cls : Str → Addr} {W : WX} {o : Own} {tg : Expr}
def iSeq (K : PySem.W.Frag) (tl : TE) : TI := fun sg H R => tl sg H fun x H1 => ∃ a, x = .ref a ∧ (((∃ xs, SqL K H1 a xs) ∧ R (Itl K a) H1) ∨ ((∃ xs, SqT K H1 a xs) ∧ R (Itt K a) H1))
theorem pi_seq {l : Expr} {tl : TE} (hl : PE X l tl) : PI X tg l (iSeq X.K tl) := by
  refine ⟨fun pins s sg H R I h => ?_⟩
  refine thn (hl.run pins s sg H _ I h) fun v s1 ⟨x, H1, I1, r1, q1⟩ => ?_
  obtain ⟨a, e, q1⟩ := q1
  subst e
  cases r1
  have fp : ∀ b ∈ [s1.heap.objs.size], FpOk X pins H1 b := fun b hb => by
    have e : b = s1.heap.objs.size := by simpa using hb
    rw [e]
    exact I1.fpOk (Nat.le_refl _) (I1.hok.fresh (Nat.le_refl _))
  rcases q1 with ⟨⟨xs, hq⟩, q⟩ | ⟨⟨xs, hq⟩, q⟩
  · obtain ⟨its, _, p, _⟩ := I1.list hq
    exact wpAny_pyIter_list p.isList ⟨s1.heap.objs.size, [s1.heap.objs.size], _, _, H1, rfl, I1.kept (t' := s1.toks) fun b o e => Heap.get?_push_of_some _ e, turn_list a _, ⟨_, Heap.get?_push_size _ rfl, rfl, rfl⟩, fp, q⟩
  · obtain ⟨its, _, p, _⟩ := I1.tuple hq
    exact wpAny_pyIter_tuple (show s1.heap.IsTuple a its.toArray from p) ⟨s1.heap.objs.size, [s1.heap.objs.size], _, _, H1, rfl, I1.kept (t' := s1.toks) fun b o e => Heap.get?_push_of_some _ e, turn_tuple a _, ⟨_, Heap.get?_push_size _ rfl, rfl, rfl⟩, fp, q⟩
theorem walk_list {K : PySem.W.Frag} {a : Addr} {xs : List V} {ds : List D} {F B : Hp} (h : B a = some (.lst xs)) (r : DrAll K F xs ds) : WalkD K (Itl K a) ds F B := by
  intro i F1 H1 s1 s2 s3
  have hq : SqL K H1 a xs := .inl (.inl (s3 _ _ h))
  refine ⟨fun hi => ?_, fun hi => ?_, fun x H2 d hd hy => ?_⟩
  · rw [← r.length] at hi
    exact ⟨xs, xs[i], hq, List.getElem?_eq_getElem hi⟩
  · exact ⟨xs, hq, by rw [hi, r.length]; exact Nat.le_refl _⟩
  · obtain ⟨rfl, e⟩ := hy
    obtain ⟨v, hv, hr⟩ := r.get hd
    rw [e xs hq] at hv
    cases hv
    exact ⟨F1, Ext.refl s2, dr_mono s1 hr⟩
theorem walk_tup {K : PySem.W.Frag} {a : Addr} {xs : List V} {ds : List D} {F B : Hp} (h : SqT K F a xs) (r : DrAll K F xs ds) : WalkD K (Itt K a) ds F B := by
  intro i F1 H1 s1 s2 s3
  have hq : SqT K H1 a xs := sqT_mono (s1.trans s2) h
  refine ⟨fun hi => ?_, fun hi => ?_, fun x H2 d hd hy => ?_⟩
  · rw [← r.length] at hi
    exact ⟨xs, xs[i], hq, List.getElem?_eq_getElem hi⟩
  · exact ⟨xs, hq, by rw [hi, r.length]; exact Nat.le_refl _⟩
  · obtain ⟨rfl, e⟩ := hy
    obtain ⟨v, hv, hr⟩ := r.get hd
    rw [e xs hq] at hv
    cases hv
    exact ⟨F1, Ext.refl s2, dr_mono s1 hr⟩
/-- seqD without dicts -/
theorem seqE_noex (d : D) : ∀ c p, seqE d ≠ .ex c p := by
  intro c p h
  unfold seqE at h
  split at h <;> cases h
theorem j_seq {e : Expr} {l : Lv} {f : S → R D} (hl : l.fine = true) (h : PE X e (tE X.K cls W o l f)) : PI X tg e (tI X.K cls W o l fun s => (f s).bind seqE) :=
  pi_imp (pi_seq h) fun sg H RR q => by
    obtain ⟨F, s, ps, A, q⟩ := q
    refine ⟨F, s, ps, A, q.bind.imp fun d _ q1 v F1 H1 E1 R1 => ?_⟩
    obtain ⟨ds, hd, k⟩ := q1.get (seqE_noex d)
    cases d with
    | list m =>
      cases hd
      cases l with
      | cl =>
        cases R1 with
        | @lst a xs _ ha da => exact ⟨a, rfl, .inl ⟨⟨xs, .inl (.inl (E1.fh _ _ ha))⟩, k _ F1 H1 E1 (walk_list ha da)⟩⟩
      | sh =>
        obtain ⟨p, vs, es, rfl, hp, e, eh, r⟩ := R1
        cases e
        exact ⟨p, rfl, .inl ⟨⟨vs, .inl (.inl eh)⟩, k _ F1 H1 E1 (walk_list eh r)⟩⟩
      | _ => cases hl
    | tuple m =>
      cases hd
      obtain ⟨a, xs, rfl, ha, da, fa⟩ := res_tup hl E1.fh R1
      exact ⟨a, rfl, .inr ⟨⟨xs, ha⟩, k _ F1 H1 E1 (walk_tup (.inl (.inl fa)) da)⟩⟩
    | dict m =>
      cases l with
      | cl =>
        cases R1 with
        | scr hq => cases hd
        | @kt a ns hq =>
          cases hd
          exact ⟨a, rfl, .inr ⟨⟨_, sqT_mono E1.fh hq⟩, k _ F1 H1 E1 (walk_tup hq (DrAll.ofInts ns))⟩⟩
      | sh =>
        obtain ⟨p, vs, es, rfl, hp, e, eh, r⟩ := R1
        cases e
      | _ => cases hl
    | _ => cases hd
theorem walk_rng {K : PySem.W.Frag} {lo : Int} {n : Nat} {F B : Hp} : WalkD K (Itr lo n) ((rangeI lo n).map .int) F B := by
  intro i F1 H1 s1 s2 s3
  have hl : ((rangeI lo n).map PyData.int).length = n := by simp [rangeI]
  refine ⟨fun hi => ?_, fun hi => ?_, fun x H2 d hd hy => ?_⟩
  · rw [hl] at hi; exact hi
  · rw [hl] at hi; exact Nat.le_of_eq hi.symm
  · obtain ⟨rfl, rfl⟩ := hy
    have hi : i < n := by
      have := (List.getElem?_eq_some_iff.mp hd).1
      omega
    have e : d = .int (lo + i) := by
      simp [rangeI, List.getElem?_map, List.getElem?_range hi] at hd
      exact hd.symm
    rw [e]
    exact ⟨F1, Ext.refl s2, .int _⟩
theorem rngD_ok {lo hi : Int} {ds : List D} (h : rngD lo hi = .ok ds) : (-(2 ^ 61) ≤ lo ∧ lo < 2 ^ 61 ∧ -(2 ^ 61) ≤ hi ∧ hi < 2 ^ 61) ∧ ds = (rangeI lo (hi - lo).toNat).map .int := by
  unfold rngD at h
  split at h
  · rename_i q
    cases h
    exact ⟨q, rfl⟩
  · cases h
theorem rngD_noex (lo hi : Int) : ∀ c p, rngD lo hi ≠ .ex c p := by
  intro c p h
  unfold rngD at h
  split at h <;> cases h
theorem j_rng {a : Expr} {p pos : Pos} {l : Lv} {f : S → R D} (hg : Gl X "range") (hm : X.mg "range" = none) (hp : plainA a = true) (h : PE X a (tE X.K cls W o l f)) :
    PI X tg (.Call (.Name "range" p) [a] [] pos) (tI X.K cls W o .cl fun s => (f s).bind fun x => (intD x).bind fun j => rngD 0 j) :=
  pi_imp (pi_range1 hg hm (j_cons hp h j_nil) (star_plain hp [] _)) fun sg H RR q => by
    obtain ⟨F, s, ps, A, q⟩ := q
    refine ⟨F, s, ps, A, ?_⟩
    dsimp only
    have q2 := q.bind
    cases e : f s with
    | ok d =>
      rw [e] at q2
      intro vs F' H' E1 R1
      obtain ⟨v, d', rfl, hd, r⟩ := res1 R1
      cases hd
      obtain ⟨j, hj, q3⟩ := (show Out cls W sg H ((intD d).bind fun j => rngD 0 j) _ from q2).bind.get (intD_noex d)
      obtain ⟨ds, hds, k⟩ := q3.get (rngD_noex 0 j)
      obtain ⟨b, rfl⟩ := rngD_ok hds
      rw [intD_ok hj] at r
      refine ⟨j, by rw [res_int r], by omega, by omega, k _ F' H' E1 ?_⟩
      rw [Int.sub_zero]
      exact walk_rng
    | ex c p => rw [e] at q2; exact q2
    | bad => rw [e] at q2; exact q2
theorem j_rng2 {a b : Expr} {p pos : Pos} {l l2 : Lv} {f g : S → R D} (hg : Gl X "range") (hm : X.mg "range" = none) (hp : plainA a = true) (hp2 : plainA b = true) (h : PE X a (tE X.K cls W o l f)) (h2 : PE X b (tE X.K cls W o l2 g)) :
    PI X tg (.Call (.Name "range" p) [a, b] [] pos) (tI X.K cls W o .cl fun s => (f s).bind fun x => (g s).bind fun y => (intD x).bind fun i => (intD y).bind fun j => rngD i j) :=
  pi_imp (pi_range2 hg hm (j_cons hp h (j_cons hp2 h2 j_nil)) (by rw [star_plain hp, star_plain hp2]; rfl) (star_plain hp2 [] _)) fun sg H RR q => by
    obtain ⟨F, s, ps, A, q⟩ := q
    refine ⟨F, s, ps, A, ?_⟩
    dsimp only
    have q2 := q.bind
    cases e : f s with
    | ok d =>
      rw [e] at q2
      have q3 := (show Out cls W sg H ((g s).bind fun y => (intD d).bind fun i => (intD y).bind fun j => rngD i j) _ from q2).bind
      show Out cls W sg H (((g s).bind fun x => R.ok [x]).bind fun xs => R.ok (d :: xs)) _
      cases e2 : g s with
      | ok d2 =>
        rw [e2] at q3
        intro vs F' H' E1 R1
        obtain ⟨v, d', w, d2', rfl, hd, r1, r2⟩ := res2 R1
        cases hd
        obtain ⟨i, hi, q4⟩ := (show Out cls W sg H ((intD d).bind fun i => (intD d2).bind fun j => rngD i j) _ from q3).bind.get (intD_noex d)
        obtain ⟨j, hj, q5⟩ := q4.bind.get (intD_noex d2)
        obtain ⟨ds, hds, k⟩ := q5.get (rngD_noex i j)
        obtain ⟨b, rfl⟩ := rngD_ok hds
        rw [intD_ok hi] at r1
        rw [intD_ok hj] at r2
        exact ⟨i, j, by rw [res_int r1, res_int r2], ⟨by omega, by omega, by omega, by omega⟩, k _ F' H' E1 walk_rng⟩
      | ex c p => rw [e2] at q3; exact q3
      | bad => rw [e2] at q3; exact q3
    | ex c p => rw [e] at q2; exact q2
    | bad => rw [e] at q2; exact q2
/-- a sequence by its kind -/
theorem res_sq {K : PySem.W.Frag} {F H : Hp} {ps : List Addr} {l : Lv} {v : V} {d : D} {ds : List D} (hl : l.fine = true) (s : Same F H) (h : Res K F H ps l v d) (hd : seqE d = .ok ds) :
    ∃ k a xs, v = .ref a ∧ DrAll K F xs ds ∧ ∀ H', Same F H' → Same (if l = .cl then F else H) H' → SqK K H' k a xs := by
  cases d with
  | list m =>
    cases hd
    cases l with
    | cl =>
      cases h with
      | @lst a xs _ ha da => exact ⟨false, a, xs, rfl, da, fun H' s1 _ => .inl (.inl (s1 _ _ ha))⟩
    | sh =>
      obtain ⟨p, vs, es, rfl, hp, e, eh, r⟩ := h
      cases e
      exact ⟨false, p, vs, rfl, r, fun H' _ s2 => .inl (.inl (s2 _ _ eh))⟩
    | _ => cases hl
  | tuple m =>
    cases hd
    obtain ⟨a, xs, rfl, ha, da, fa⟩ := res_tup hl s h
    exact ⟨true, a, xs, rfl, da, fun H' s1 _ => .inl (.inl (s1 _ _ fa))⟩
  | dict m =>
    cases l with
    | cl =>
      cases h with
      | scr hq => cases hd
      | @kt a ns hq =>
        cases hd
        exact ⟨true, a, _, rfl, DrAll.ofInts ns, fun H' s1 _ => sqT_mono s1 hq⟩
    | sh =>
      obtain ⟨p, vs, es, rfl, hp, e, eh, r⟩ := h
      cases e
    | _ => cases hl
  | _ => cases hd
theorem enumL_get : ∀ (l : List D) (n i : Nat), (enumL n l)[i]? = (l[i]?).map fun d => .tuple [.int (n + i : Nat), d]
  | [], n, i => by simp [enumL]
  | x :: r, n, 0 => by simp [enumL]
  | x :: r, n, i + 1 => by
    rw [enumL, List.getElem?_cons_succ, enumL_get r (n + 1) i, List.getElem?_cons_succ]
    have : n + 1 + i = n + (i + 1) := by omega
    rw [this]
theorem enumL_len : ∀ (l : List D) (n : Nat), (enumL n l).length = l.length
  | [], n => rfl
  | x :: r, n => by rw [enumL, List.length_cons, List.length_cons, enumL_len r]
theorem j_enm {e : Expr} {p pos tpos : Pos} {elts : List Expr} {kk : Nat} {l : Lv} {f : S → R D} (hg : Gl X "enumerate") (hm : X.mg "enumerate" = none) (hp : plainA e = true) (hl : l.fine = true) (h : PE X e (tE X.K cls W o l f)) :
    PI X (.Tuple elts kk tpos) (.Call (.Name "enumerate" p) [e] [] pos) (tI X.K cls W o l fun s => (f s).bind fun x => (seqE x).bind fun m => .ok (enumL 0 m)) :=
  pi_imp (pi_enumM hg hm (j_cons hp h j_nil) hp) fun sg H RR q => by
    obtain ⟨F, s, ps, A, q⟩ := q
    refine ⟨F, s, ps, A, ?_⟩
    dsimp only
    have q2 := q.bind
    cases e : f s with
    | ok d =>
      rw [e] at q2
      intro vs F' H' E1 R1
      obtain ⟨v, d', rfl, hd, r⟩ := res1 R1
      cases hd
      obtain ⟨m, hm2, k⟩ := (show Out cls W sg H ((seqE d).bind fun m => .ok (enumL 0 m)) _ from q2).bind.get (seqE_noex d)
      obtain ⟨kd, a, xs, rfl, da, sq⟩ := res_sq hl E1.fh r hm2
      have s0 : Same (if l = .cl then F' else H') H' := by
        split
        · exact E1.fh
        · exact Same.refl _
      refine ⟨kd, a, xs, rfl, sq H' E1.fh s0, k _ F' H' E1 ?_⟩
      intro i F1 H1 s1 s2 s3
      have hq := sq H1 (s1.trans s2) s3
      have hlen : (enumL 0 m).length = xs.length := by rw [enumL_len, da.length]
      refine ⟨fun hi => ?_, fun hi => ?_, fun x H2 d hd hy => ?_⟩
      · rw [hlen] at hi
        exact ⟨xs, xs[i], hq, List.getElem?_eq_getElem hi⟩
      · exact ⟨xs, hq, by rw [hi, hlen]⟩
      · obtain ⟨T, x', rfl, hT, rfl, e2⟩ := hy
        rw [enumL_get] at hd
        obtain ⟨d2, hd2, rfl⟩ := Option.map_eq_some_iff.mp hd
        obtain ⟨w, hw, hr⟩ := da.get hd2
        rw [e2 xs hq] at hw
        cases hw
        refine ⟨_, Ext.new s2 hT, dr_tupN s2 hT (.cons ?_ (.cons (dr_mono s1 hr) .nil))⟩
        rw [Nat.zero_add]
        exact .int _
    | ex c p => rw [e] at q2; exact q2
    | bad => rw [e] at q2; exact q2
theorem zipL_get : ∀ (l m : List D) (i : Nat) (d : D), (zipL l m)[i]? = some d → ∃ x y, l[i]? = some x ∧ m[i]? = some y ∧ d = .tuple [x, y]
  | [], m, i, d, h => by simp [zipL] at h
  | x :: r, [], i, d, h => by simp [zipL] at h
  | x :: r, y :: q, 0, d, h => by
    simp [zipL] at h
    exact ⟨x, y, rfl, rfl, h.symm⟩
  | x :: r, y :: q, i + 1, d, h => by
    rw [zipL, List.getElem?_cons_succ] at h
    exact zipL_get r q i d h
theorem zipL_len : ∀ (l m : List D), (zipL l m).length = min l.length m.length
  | [], m => by simp [zipL]
  | x :: r, [] => by simp [zipL]
  | x :: r, y :: q => by
    rw [zipL, List.length_cons, List.length_cons, List.length_cons, zipL_len r q]
    omega
theorem j_zip {e e2 : Expr} {p pos tpos : Pos} {elts : List Expr} {kk : Nat} {l l2 : Lv} {f g : S → R D} (hg : Gl X "zip") (hm : X.mg "zip" = none) (hp : plainA e = true) (hp2 : plainA e2 = true) (hl : l.fine = true) (hl2 : l2.fine = true)
    (h : PE X e (tE X.K cls W o l f)) (h2 : PE X e2 (tE X.K cls W o l2 g)) :
    PI X (.Tuple elts kk tpos) (.Call (.Name "zip" p) [e, e2] [] pos) (tI X.K cls W o (l.meet l2) fun s => (f s).bind fun x => (g s).bind fun y => (seqE x).bind fun m => (seqE y).bind fun n => .ok (zipL m n)) :=
  pi_imp (pi_zipM hg hm (j_cons hp h (j_cons hp2 h2 j_nil)) hp hp2) fun sg H RR q => by
    obtain ⟨F, s, ps, A, q⟩ := q
    refine ⟨F, s, ps, A, ?_⟩
    dsimp only
    have q2 := q.bind
    cases e : f s with
    | ok d =>
      rw [e] at q2
      have q3 := (show Out cls W sg H ((g s).bind fun y => (seqE d).bind fun m => (seqE y).bind fun n => .ok (zipL m n)) _ from q2).bind
      show Out cls W sg H (((g s).bind fun x => R.ok [x]).bind fun xs => R.ok (d :: xs)) _
      cases e2 : g s with
      | ok d2 =>
        rw [e2] at q3
        intro vs F' H' E1 R1
        obtain ⟨v, d', w, d2', rfl, hd, r1, r2⟩ := res2 R1
        cases hd
        obtain ⟨m, hm2, q4⟩ := (show Out cls W sg H ((seqE d).bind fun m => (seqE d2).bind fun n => .ok (zipL m n)) _ from q3).bind.get (seqE_noex d)
        obtain ⟨n, hn2, k⟩ := q4.bind.get (seqE_noex d2)
        obtain ⟨ka, a, xs, rfl, da, sqa⟩ := res_sq hl E1.fh r1 hm2
        obtain ⟨kb, b, ys, rfl, db, sqb⟩ := res_sq hl2 E1.fh r2 hn2
        have base : ∀ H1, Same F' H1 → Same (if l.meet l2 = .cl then F' else H') H1 → Same (if l = .cl then F' else H') H1 ∧ Same (if l2 = .cl then F' else H') H1 := by
          intro H1 s1 s2
          cases l <;> cases l2 <;> first | exact ⟨s2, s2⟩ | exact ⟨s1, s2⟩ | exact ⟨s2, s1⟩ | cases hl | cases hl2
        have s0 : Same (if l.meet l2 = .cl then F' else H') H' := by
          split
          · exact E1.fh
          · exact Same.refl _
        obtain ⟨t1, t2⟩ := base H' E1.fh s0
        refine ⟨ka, kb, a, b, xs, ys, rfl, sqa H' E1.fh t1, sqb H' E1.fh t2, k _ F' H' E1 ?_⟩
        intro i F1 H1 s1 s2 s3
        obtain ⟨u1, u2⟩ := base H1 (s1.trans s2) s3
        have hqa := sqa H1 (s1.trans s2) u1
        have hqb := sqb H1 (s1.trans s2) u2
        have hlen : (zipL m n).length = min xs.length ys.length := by rw [zipL_len, da.length, db.length]
        refine ⟨fun hi => ?_, fun hi => ?_, fun x H2 d hd hy => ?_⟩
        · rw [hlen] at hi
          exact ⟨xs, ys, xs[i], ys[i], hqa, hqb, List.getElem?_eq_getElem (by omega), List.getElem?_eq_getElem (by omega)⟩
        · rw [hlen] at hi
          exact ⟨xs, ys, hqa, hqb, by omega, by omega, by omega⟩
        · obtain ⟨T, x1, y1, rfl, hT, rfl, e3, e4⟩ := hy
          obtain ⟨dx, dy, hx, hy, rfl⟩ := zipL_get _ _ _ _ hd
          obtain ⟨vx, hvx, rx⟩ := da.get hx
          obtain ⟨vy, hvy, ry⟩ := db.get hy
          rw [e3 xs hqa] at hvx
          rw [e4 ys hqb] at hvy
          cases hvx
          cases hvy
          exact ⟨_, Ext.new s2 hT, dr_tupN s2 hT (.cons (dr_mono s1 rx) (.cons (dr_mono s1 ry) .nil))⟩
      | ex c p => rw [e2] at q3; exact q3
      | bad => rw [e2] at q3; exact q3
    | ex c p => rw [e] at q2; exact q2
    | bad => rw [e] at q2; exact q2
end
end Rr

set_option linter.all false
set_option Elab.async false
set_option maxRecDepth 100000
set_option maxHeartbeats 1000000
/-! Targets; comprehensions. -/
namespace Rr
open PySem PySem.Spec PyProof.Rows L2

/-! ### a slot is set -/
theorem Ab.set {K : PySem.W.Frag} {F H : Hp} {sg : L2.St} {o : Own} {s : S} {ps : List Addr} (a : Ab K F H sg o s ps) {i : Nat} {v : V} {d : D} (h1 : i ∉ o.l) (h2 : i ∉ o.d) (r : Dr K F v d) : Ab K F H (sg.set i (some v)) o (s.set i (some d)) ps where
  sub := a.sub
  len := by simp [a.len]
  fz := fun j e hj n1 n2 => by
    by_cases q : i = j
    · subst q
      by_cases hi : i < s.length
      · rw [List.getElem?_set_self hi] at hj
        cases hj
        exact ⟨v, List.getElem?_set_self (by rw [← a.len]; exact hi), r⟩
      · rw [List.getElem?_eq_none (by simp; omega)] at hj
        cases hj
    · rw [List.getElem?_set_ne q] at hj
      obtain ⟨w, hw, hr⟩ := a.fz j e hj n1 n2
      exact ⟨w, by rw [List.getElem?_set_ne q]; exact hw, hr⟩
  ol := fun j e hj n1 => by
    have q : i ≠ j := fun q => h1 (q ▸ n1)
    rw [List.getElem?_set_ne q] at hj
    obtain ⟨p, vs, ds, hw, rest⟩ := a.ol j e hj n1
    exact ⟨p, vs, ds, by rw [List.getElem?_set_ne q]; exact hw, rest⟩
  od := fun j e hj n1 => by
    have q : i ≠ j := fun q => h2 (q ▸ n1)
    rw [List.getElem?_set_ne q] at hj
    obtain ⟨p, vs, ds, hw, rest⟩ := a.od j e hj n1
    exact ⟨p, vs, ds, by rw [List.getElem?_set_ne q]; exact hw, rest⟩
  inj := fun j k p d e hj hk oj ok ej ek => by
    have qj : i ≠ j := fun q => by
      rcases oj with n | n
      · exact h1 (q ▸ n)
      · exact h2 (q ▸ n)
    have qk : i ≠ k := fun q => by
      rcases ok with n | n
      · exact h1 (q ▸ n)
      · exact h2 (q ▸ n)
    rw [List.getElem?_set_ne qj] at hj ej
    rw [List.getElem?_set_ne qk] at hk ek
    exact a.inj j k p d e hj hk oj ok ej ek
  out := a.out

/-! ### targets -/
def Tg.slots : Tg → List Nat
  | .one i => [i]
  | .two i j => [i, j]
def Tg.ok (o : Own) : Tg → Bool
  | .one i => decide (i ∉ o.l) && decide (i ∉ o.d)
  | .two i j => decide (i ≠ j) && decide (i ∉ o.l) && decide (i ∉ o.d) && decide (j ∉ o.l) && decide (j ∉ o.d)
def gT (K : PySem.W.Frag) : Tg → TG
  | .one i => gName i
  | .two i j => gTup K 2 (gCons (gName i) (gCons (gName j) gNil))
/-- the slots behind a target -/
theorem bind_ok {K : PySem.W.Frag} {F H : Hp} {t : Tg} {x : V} {d : D} {s s' : S} {o : Own} (ho : t.ok o = true) (hs : Same F H) (r : Dr K F x d) (hb : bindT t d s = .ok s') :
    ∃ f : L2.St → L2.St, (∀ sg Q, Q (f sg) H → gT K t x sg H Q) ∧ (∀ sg ps, Ab K F H sg o s ps → Ab K F H (f sg) o s' ps) ∧ (∀ sg, f (wipe sg t.slots) = f sg) ∧ ∀ sg, wipe (f sg) t.slots = wipe sg t.slots := by
  cases t with
  | one i =>
    simp only [Tg.ok, Bool.and_eq_true, decide_eq_true_eq] at ho
    cases hb
    refine ⟨fun sg => sg.set i (some x), fun sg Q q => q, fun sg ps a => a.set ho.1 ho.2 r, fun sg => ?_, fun sg => ?_⟩
    · show ((sg.set i none).set i (some x)) = _
      rw [List.set_set]
    · show ((sg.set i (some x)).set i none) = sg.set i none
      rw [List.set_set]
  | two i j =>
    simp only [Tg.ok, Bool.and_eq_true, decide_eq_true_eq] at ho
    obtain ⟨⟨⟨⟨nij, i1⟩, i2⟩, j1⟩, j2⟩ := ho
    have hd : ∃ a b, d = .tuple [a, b] ∧ s' = (s.set i (some a)).set j (some b) := by
      cases d with
      | tuple l =>
        match l, hb with
        | [a, b], hb => cases hb; exact ⟨a, b, rfl, rfl⟩
        | [], hb => cases hb
        | [_], hb => cases hb
        | _ :: _ :: _ :: _, hb => cases hb
      | _ => cases hb
    obtain ⟨a, b, rfl, rfl⟩ := hd
    cases r with
    | @tup p xs _ hq da =>
      cases da with
      | cons ra da =>
        cases da with
        | cons rb da =>
          cases da
          rename_i va vb
          refine ⟨fun sg => (sg.set i (some va)).set j (some vb), fun sg Q q => ?_, fun sg ps A => (A.set i1 i2 ra).set j1 j2 rb, fun sg => ?_, fun sg => ?_⟩
          · exact ⟨p, [va, vb], rfl, .inl (.inl (hs _ _ hq)), rfl, va, [vb], rfl, vb, [], rfl, rfl, q⟩
          · show ((((sg.set j none).set i none).set i (some va)).set j (some vb)) = _
            rw [List.set_set, List.set_comm none (some va) (Ne.symm nij), List.set_set]
          · show ((((sg.set i (some va)).set j (some vb)).set j none).set i none) = (sg.set j none).set i none
            rw [List.set_set, List.set_comm (some va) none nij, List.set_set]
section
variable {X : Cx}
theorem j_one {i : Nat} {x : Str} {pos : Pos} (hN : X.N.Nodup) (hi : X.N[i]? = some x) (hx : Loc X.env.scope x) (hf : X.fn x = true ∨ X.env.scope.names.lookup x = some .local) : PG X (.Name x pos) (gT X.K (.one i)) := pg_name hN hi hx hf
theorem each_plain {e : Expr} (h : plainA e = true) (es : List Expr) (env : PySem.Env) : assignEach (e :: es) env = (false, assign e env) :: assignEach es env := by
  cases e <;> first | rfl | cases h
theorem j_two {i j : Nat} {x y : Str} {px py pos : Pos} {k : Nat} (hc : X.calm = true) (hN : X.N.Nodup) (hi : X.N[i]? = some x) (hj : X.N[j]? = some y) (hx : Loc X.env.scope x) (hy : Loc X.env.scope y)
    (hf : X.fn x = true ∨ X.env.scope.names.lookup x = some .local) (hf2 : X.fn y = true ∨ X.env.scope.names.lookup y = some .local) : PG X (.Tuple [.Name x px, .Name y py] k pos) (gT X.K (.two i j)) :=
  pg_tup hc (pgs_cons (pg_name hN hi hx hf) (pgs_cons (pg_name hN hj hy hf2) pgs_nil))
end

/-! ### comprehensions -/
section
variable {X : Cx} {cls : Str → Addr} {W : WX} {o : Own}
abbrev W0 : WX := fun _ _ _ _ => False
/-- what lcL comes to, from a place on -/
theorem lcL_cons {bind : D → R S} {tst : S → R Bool} {el : S → R D} {d : D} {r ys : List D} (h : lcL bind tst el (d :: r) = .ok ys) :
    ∃ s b, bind d = .ok s ∧ tst s = .ok b ∧ ((b = true ∧ ∃ y zs, el s = .ok y ∧ lcL bind tst el r = .ok zs ∧ ys = y :: zs) ∨ (b = false ∧ lcL bind tst el r = .ok ys)) := by
  unfold lcL at h
  cases e1 : bind d with
  | ok s =>
    rw [e1] at h
    simp only [R.bind_ok] at h
    cases e2 : tst s with
    | ok b =>
      rw [e2] at h
      simp only [R.calm_ok, R.bind_ok] at h
      refine ⟨s, b, rfl, e2, ?_⟩
      cases b with
      | true =>
        rw [if_pos rfl] at h
        cases e3 : el s with
        | ok y =>
          rw [e3] at h
          simp only [R.calm_ok, R.bind_ok] at h
          cases e4 : lcL bind tst el r with
          | ok zs =>
            rw [e4] at h
            cases h
            exact .inl ⟨rfl, y, zs, by first | rfl | exact e3, by first | rfl | exact e4, rfl⟩
          | ex c p => rw [e4] at h; cases h
          | bad => rw [e4] at h; cases h
        | ex c p => rw [e3] at h; cases h
        | bad => rw [e3] at h; cases h
      | false =>
        rw [if_neg Bool.false_ne_true] at h
        exact .inr ⟨rfl, h⟩
    | ex c p => rw [e2] at h; cases h
    | bad => rw [e2] at h; cases h
  | ex c p => rw [e1] at h; cases h
  | bad => rw [e1] at h; cases h
theorem lcL_noex {bind : D → R S} {tst : S → R Bool} {el : S → R D} (hb : ∀ d c p, bind d ≠ .ex c p) : ∀ (l : List D) c p, lcL bind tst el l ≠ .ex c p
  | [], c, p, h => by cases h
  | d :: r, c, p, h => by
    unfold lcL at h
    cases e1 : bind d with
    | ok s =>
      rw [e1] at h
      simp only [R.bind_ok] at h
      cases e2 : tst s with
      | ok b =>
        rw [e2] at h
        simp only [R.calm_ok, R.bind_ok] at h
        cases b with
        | true =>
          rw [if_pos rfl] at h
          cases e3 : el s with
          | ok y =>
            rw [e3] at h
            simp only [R.calm_ok, R.bind_ok] at h
            cases e4 : lcL bind tst el r with
            | ok zs => rw [e4] at h; cases h
            | ex c p => exact lcL_noex hb r c p e4
            | bad => rw [e4] at h; cases h
          | ex c p => rw [e3] at h; cases h
          | bad => rw [e3] at h; cases h
        | false =>
          rw [if_neg Bool.false_ne_true] at h
          exact lcL_noex hb r c p h
      | ex c p => rw [e2] at h; cases h
      | bad => rw [e2] at h; cases h
    | ex c p => exact hb d c p e1
    | bad => rw [e1] at h; cases h
theorem bindT_noex (t : Tg) (d : D) (s : S) : ∀ c p, bindT t d s ≠ .ex c p := by
  intro c p h
  unfold bindT at h
  split at h <;> cases h
/-- the reading of a comprehension -/
theorem lc_read {K : PySem.W.Frag} {li : Lv} {fi : S → R (List D)} {t : Tg} {tst : S → R Bool} {el : S → R D} (ho : t.ok o = true) {sg : L2.St} {H : Hp} {Q : VK}
    (q : tE K cls W o .cl (fun s => (fi s).bind fun ds => if ds.length ≤ LIM then (lcL (fun d => bindT t d s) tst el ds).bind fun ys => .ok (.list ys) else .bad) sg H Q) :
    tLc (tI K cls W o li fi) (gT K t) (tT K cls W0 o tst) (tE K cls W0 o .cl el) t.slots sg H Q := by
  obtain ⟨F, s, ps, A, q⟩ := q
  refine ⟨F, s, ps, A, q.bind.imp fun ds _ q1 J F1 H1 E1 hW => fun D0 hD0 => ?_⟩
  have hlim : ds.length ≤ LIM := by
    by_cases hlim : ds.length ≤ LIM
    · exact hlim
    · rw [if_neg hlim] at q1
      exact q1.elim
  rw [if_pos hlim] at q1
  obtain ⟨ys, hys, k⟩ := q1.bind.get (lcL_noex (fun d => bindT_noex t d s) ds)
  have k : ∀ v F' H', Ext F F' H H' → Dr K F' v (.list ys) → Q v H' := k
  have A1 := A.mono E1
  refine ⟨fun i m H2 => i + m = ds.length ∧ ∃ F2 acc accD rest, Same F1 F2 ∧ Same F2 H2 ∧ Same H1 H2 ∧ (∀ a u, F2 a = some u → F1 a = some u ∨ Fre H1 a) ∧ F2 D0 = none ∧ H2 D0 = some (.lst acc) ∧ DrAll K F2 acc accD ∧ acc.length ≤ i ∧ lcL (fun d => bindT t d s) tst el (ds.drop i) = .ok rest ∧ ys = accD ++ rest, ?_, ?_⟩
  · refine ⟨ds.length, by omega, F1, [], [], ys, Same.refl _, fun b u e => ?_, fun b u e => ?_, fun a u e => .inl e, ?_, upd_same, .nil, Nat.le_refl _, ?_, rfl⟩
    · rw [upd_ne (ne_of_none (E1.fh _ _ e) hD0)]; exact E1.fh _ _ e
    · rw [upd_ne (ne_of_none e hD0)]; exact e
    · exact E1.fh.free hD0
    · rw [List.drop_zero]; exact hys
  · rintro i m H2 ⟨him, F2, acc, accD, rest, s12, s2h, sh1, nw, nD, eD, rd, hacc, hrest, hy⟩
    have hB : Same (if li = .cl then F1 else H1) H2 := by
      split
      · exact s12.trans s2h
      · exact sh1
    obtain ⟨w1, w2, w3⟩ := hW i F2 H2 s12 s2h hB
    by_cases hi : i < ds.length
    · right
      refine ⟨w1 hi, fun H' => ∃ m', m' < m ∧ (i + 1 + m' = ds.length ∧ ∃ F2 acc accD rest, Same F1 F2 ∧ Same F2 H' ∧ Same H1 H' ∧ (∀ a u, F2 a = some u → F1 a = some u ∨ Fre H1 a) ∧ F2 D0 = none ∧ H' D0 = some (.lst acc) ∧ DrAll K F2 acc accD ∧ acc.length ≤ i + 1 ∧ lcL (fun d => bindT t d s) tst el (ds.drop (i + 1)) = .ok rest ∧ ys = accD ++ rest), fun H' h => h, fun x H3 hyld => ?_⟩
      have hd : ds[i]? = some ds[i] := List.getElem?_eq_getElem hi
      obtain ⟨F3, E3, rx⟩ := w3 x H3 _ hd hyld
      rw [List.drop_eq_getElem_cons hi] at hrest
      obtain ⟨s', b, hbind, htst, hcase⟩ := lcL_cons hrest
      obtain ⟨f, g1, g2, g3, g4⟩ := bind_ok (o := o) ho E3.fh rx hbind
      have X13 : Ext F1 F3 H1 H3 := ⟨s12.trans E3.ff, E3.fh, sh1.trans E3.hh, fun a u e => by
        rcases E3.nw a u e with e | e
        · exact nw a u e
        · exact .inr (e.back sh1)⟩
      have nD3 : F3 D0 = none := by
        cases e : F3 D0 with
        | none => rfl
        | some u =>
          rcases E3.nw _ _ e with e | e
          · rw [nD] at e; cases e
          · exact (e.no eD rfl).elim
      have A3 : Ab K F3 H3 (f sg) o s' ps := g2 sg ps (A1.mono X13)
      apply g1
      rw [g3]
      refine ⟨g4 sg, ⟨F3, s', ps, A3, ?_⟩⟩
      rw [htst]
      intro F4 H4 E4
      have nD4 : F4 D0 = none := by
        cases e : F4 D0 with
        | none => rfl
        | some u =>
          rcases E4.nw _ _ e with e | e
          · rw [nD3] at e; cases e
          · exact (e.no (E3.hh _ _ eD) rfl).elim
      have X14 := X13.trans E4
      rcases hcase with ⟨rfl, y, zs, hel, hzs, rfl⟩ | ⟨rfl, hzs⟩
      · rw [if_pos rfl]
        refine ⟨F4, s', ps, A3.mono E4, ?_⟩
        rw [hel]
        intro v F5 H5 E5 rv
        have rv : Dr K F5 v y := rv
        have nD5 : F5 D0 = none := by
          cases e : F5 D0 with
          | none => rfl
          | some u =>
            rcases E5.nw _ _ e with e | e
            · rw [nD4] at e; cases e
            · exact (e.no (E4.hh _ _ (E3.hh _ _ eD)) rfl).elim
        have X15 := X14.trans E5
        have eD5 : H5 D0 = some (.lst acc) := E5.hh _ _ (E4.hh _ _ (E3.hh _ _ eD))
        refine ⟨acc, eD5, ?_, m - 1, by omega, by omega, F5, acc ++ [v], accD ++ [y], zs, X15.ff, fun b u e => ?_, fun b u e => ?_, X15.nw, nD5, upd_same, (drAll_mono ((E3.ff.trans E4.ff).trans E5.ff) rd).append (.cons rv .nil), ?_, hzs, ?_⟩
        · exact lim_lt (by have : i ≤ ds.length := by omega
                           omega)
        · have nb : b ≠ D0 := fun q => by rw [q, nD5] at e; cases e
          rw [upd_ne nb]; exact X15.fh _ _ e
        · rw [upd_ne (ne_of_none e hD0)]; exact X15.hh _ _ e
        · simp; omega
        · rw [hy]; simp
      · rw [if_neg Bool.false_ne_true]
        exact ⟨m - 1, by omega, by omega, F4, acc, accD, rest, X14.ff, X14.fh, X14.hh, X14.nw, nD4, E4.hh _ _ (E3.hh _ _ eD), drAll_mono (E3.ff.trans E4.ff) rd, by omega, hzs, hy⟩
    · left
      have hi' : i = ds.length := by omega
      refine ⟨w2 hi', ?_⟩
      rw [List.drop_of_length_le (by omega)] at hrest
      cases hrest
      rw [List.append_nil] at hy
      subst hy
      refine k (.ref D0) (upd F2 D0 (.lst acc)) H2 ⟨fun b u e => ?_, fun b u e => ?_, E1.hh.trans sh1, fun b u e => ?_⟩ (.lst upd_same (drAll_mono (fun b u e => ?_) rd))
      · have e2 := s12 _ _ (E1.ff _ _ e)
        have nb : b ≠ D0 := fun q => by rw [q, nD] at e2; cases e2
        rw [upd_ne nb]; exact e2
      · by_cases nb : b = D0
        · subst nb; rw [upd_same] at e; cases e; exact eD
        · rw [upd_ne nb] at e; exact s2h _ _ e
      · by_cases nb : b = D0
        · subst nb
          exact .inr (.inl (E1.hh.free hD0))
        · rw [upd_ne nb] at e
          rcases nw b u e with e | e
          · exact E1.nw _ _ e
          · exact .inr (e.back E1.hh)
      · have nb : b ≠ D0 := fun q => by rw [q, nD] at e; cases e
        rw [upd_ne nb]; exact e
end
end Rr

set_option linter.all false
set_option Elab.async false
set_option maxRecDepth 100000
set_option maxHeartbeats 1000000
/-! The state under stores. -/
namespace Rr
open PySem PySem.Spec PyProof.Rows L2

def Own.drop (o : Own) (i : Nat) : Own := ⟨o.l.filter (· != i), o.d.filter (· != i)⟩
def Own.addL (o : Own) (i : Nat) : Own := ⟨i :: (o.drop i).l, (o.drop i).d⟩
def Own.addD (o : Own) (i : Nat) : Own := ⟨(o.drop i).l, i :: (o.drop i).d⟩
theorem drop_l {o : Own} {i j : Nat} : j ∈ (o.drop i).l ↔ j ∈ o.l ∧ j ≠ i := by simp [Own.drop]
theorem drop_d {o : Own} {i j : Nat} : j ∈ (o.drop i).d ↔ j ∈ o.d ∧ j ≠ i := by simp [Own.drop]

section
variable {K : PySem.W.Frag} {F H : Hp} {sg : L2.St} {o : Own} {s : S} {ps : List Addr}
/-- a slot is given a frozen value -/
theorem Ab.setF (a : Ab K F H sg o s ps) {i : Nat} {v : V} {d : D} (r : Dr K F v d) : Ab K F H (sg.set i (some v)) (o.drop i) (s.set i (some d)) ps where
  sub := a.sub
  len := by simp [a.len]
  fz := fun j e hj n1 n2 => by
    by_cases q : i = j
    · subst q
      by_cases hi : i < s.length
      · rw [List.getElem?_set_self hi] at hj
        cases hj
        exact ⟨v, List.getElem?_set_self (by rw [← a.len]; exact hi), r⟩
      · rw [List.getElem?_eq_none (by simp; omega)] at hj
        cases hj
    · rw [List.getElem?_set_ne q] at hj
      obtain ⟨w, hw, hr⟩ := a.fz j e hj (fun n => n1 (drop_l.mpr ⟨n, Ne.symm q⟩)) (fun n => n2 (drop_d.mpr ⟨n, Ne.symm q⟩))
      exact ⟨w, by rw [List.getElem?_set_ne q]; exact hw, hr⟩
  ol := fun j e hj n1 => by
    obtain ⟨n1, q⟩ := drop_l.mp n1
    rw [List.getElem?_set_ne (Ne.symm q)] at hj
    obtain ⟨p, vs, ds, hw, rest⟩ := a.ol j e hj n1
    exact ⟨p, vs, ds, by rw [List.getElem?_set_ne (Ne.symm q)]; exact hw, rest⟩
  od := fun j e hj n1 => by
    obtain ⟨n1, q⟩ := drop_d.mp n1
    rw [List.getElem?_set_ne (Ne.symm q)] at hj
    obtain ⟨p, vs, ds, hw, rest⟩ := a.od j e hj n1
    exact ⟨p, vs, ds, by rw [List.getElem?_set_ne (Ne.symm q)]; exact hw, rest⟩
  inj := fun j k p d e hj hk oj ok ej ek => by
    have pj : j ≠ i ∧ (j ∈ o.l ∨ j ∈ o.d) := by
      rcases oj with n | n
      · exact ⟨(drop_l.mp n).2, .inl (drop_l.mp n).1⟩
      · exact ⟨(drop_d.mp n).2, .inr (drop_d.mp n).1⟩
    have pk : k ≠ i ∧ (k ∈ o.l ∨ k ∈ o.d) := by
      rcases ok with n | n
      · exact ⟨(drop_l.mp n).2, .inl (drop_l.mp n).1⟩
      · exact ⟨(drop_d.mp n).2, .inr (drop_d.mp n).1⟩
    rw [List.getElem?_set_ne (Ne.symm pj.1)] at hj ej
    rw [List.getElem?_set_ne (Ne.symm pk.1)] at hk ek
    exact a.inj j k p d e hj hk pj.2 pk.2 ej ek
  out := a.out
/-- the addresses of owned slots are among ps -/
theorem Ab.own_in (a : Ab K F H sg o s ps) {j : Nat} {e : D} {p : Addr} (hj : s[j]? = some (some e)) (oj : j ∈ o.l ∨ j ∈ o.d) (ej : sg[j]? = some (some (.ref p))) : p ∈ ps := by
  rcases oj with n | n
  · obtain ⟨q, _, _, e1, hp, _⟩ := a.ol j e hj n
    rw [ej] at e1; cases e1; exact hp
  · obtain ⟨q, _, _, e1, hp, _⟩ := a.od j e hj n
    rw [ej] at e1; cases e1; exact hp
/-- a slot is given a new list of its own -/
theorem Ab.setL (a : Ab K F H sg o s ps) {i : Nat} {p : Addr} {vs : List V} {ds : List D} (hp : p ∉ ps) (hF : F p = none) (hH : H p = some (.lst vs)) (r : DrAll K F vs ds) : Ab K F H (sg.set i (some (.ref p))) (o.addL i) (s.set i (some (.list ds))) (p :: ps) where
  sub := a.sub
  len := by simp [a.len]
  fz := fun j e hj n1 n2 => by
    have q : i ≠ j := fun q => n1 (by rw [q]; exact List.mem_cons_self)
    rw [List.getElem?_set_ne q] at hj
    obtain ⟨w, hw, hr⟩ := a.fz j e hj (fun n => n1 (List.mem_cons_of_mem _ (drop_l.mpr ⟨n, Ne.symm q⟩))) (fun n => n2 (drop_d.mpr ⟨n, Ne.symm q⟩))
    exact ⟨w, by rw [List.getElem?_set_ne q]; exact hw, hr⟩
  ol := fun j e hj n1 => by
    by_cases q : i = j
    · subst q
      by_cases hi : i < s.length
      · rw [List.getElem?_set_self hi] at hj
        cases hj
        exact ⟨p, vs, ds, List.getElem?_set_self (by rw [← a.len]; exact hi), List.mem_cons_self, rfl, hH, r⟩
      · rw [List.getElem?_eq_none (by simp; omega)] at hj
        cases hj
    · rw [List.getElem?_set_ne q] at hj
      have n2 : j ∈ o.l := by
        rcases List.mem_cons.mp n1 with n | n
        · exact absurd n.symm q
        · exact (drop_l.mp n).1
      obtain ⟨p', vs', ds', hw, hp', rest⟩ := a.ol j e hj n2
      exact ⟨p', vs', ds', by rw [List.getElem?_set_ne q]; exact hw, List.mem_cons_of_mem _ hp', rest⟩
  od := fun j e hj n1 => by
    obtain ⟨n1, q⟩ := drop_d.mp n1
    rw [List.getElem?_set_ne (Ne.symm q)] at hj
    obtain ⟨p', vs', ds', hw, hp', rest⟩ := a.od j e hj n1
    exact ⟨p', vs', ds', by rw [List.getElem?_set_ne (Ne.symm q)]; exact hw, List.mem_cons_of_mem _ hp', rest⟩
  inj := fun j k p' d e hj hk oj ok ej ek => by
    have low : ∀ j, (j ∈ (o.addL i).l ∨ j ∈ (o.addL i).d) → j ≠ i → (j ∈ o.l ∨ j ∈ o.d) := by
      intro j oj q
      rcases oj with n | n
      · rcases List.mem_cons.mp n with n | n
        · exact absurd n q
        · exact .inl (drop_l.mp n).1
      · exact .inr (drop_d.mp n).1
    have self : ∀ {e : D}, (s.set i (some (.list ds)))[i]? = some (some e) → (sg.set i (some (V.ref p)))[i]? = some (some (V.ref p)) := by
      intro e h
      have hi : i < s.length := by
        have := (List.getElem?_eq_some_iff.mp h).1
        simpa using this
      exact List.getElem?_set_self (by rw [← a.len]; exact hi)
    by_cases qj : j = i
    · by_cases qk : k = i
      · rw [qj, qk]
      · subst qj
        rw [self hj] at ej
        cases ej
        rw [List.getElem?_set_ne (Ne.symm qk)] at hk ek
        exact absurd (a.own_in hk (low k ok qk) ek) hp
    · by_cases qk : k = i
      · subst qk
        rw [self hk] at ek
        cases ek
        rw [List.getElem?_set_ne (Ne.symm qj)] at hj ej
        exact absurd (a.own_in hj (low j oj qj) ej) hp
      · rw [List.getElem?_set_ne (Ne.symm qj)] at hj ej
        rw [List.getElem?_set_ne (Ne.symm qk)] at hk ek
        exact a.inj j k p' d e hj hk (low j oj qj) (low k ok qk) ej ek
  out := fun q hq => by
    rcases List.mem_cons.mp hq with rfl | hq
    · exact ⟨hF, _, hH, rfl⟩
    · exact a.out q hq
/-- a new dict of its own -/
theorem Ab.setD (a : Ab K F H sg o s ps) {i : Nat} {p : Addr} {vs : List (List Key × V)} {ds : List (D × D)} (hp : p ∉ ps) (hF : F p = none) (hH : H p = some (.dT vs)) (r : DicOk vs ds) : Ab K F H (sg.set i (some (.ref p))) (o.addD i) (s.set i (some (.dict ds))) (p :: ps) where
  sub := a.sub
  len := by simp [a.len]
  fz := fun j e hj n1 n2 => by
    have q : i ≠ j := fun q => n2 (by rw [q]; exact List.mem_cons_self)
    rw [List.getElem?_set_ne q] at hj
    obtain ⟨w, hw, hr⟩ := a.fz j e hj (fun n => n1 (drop_l.mpr ⟨n, Ne.symm q⟩)) (fun n => n2 (List.mem_cons_of_mem _ (drop_d.mpr ⟨n, Ne.symm q⟩)))
    exact ⟨w, by rw [List.getElem?_set_ne q]; exact hw, hr⟩
  od := fun j e hj n1 => by
    by_cases q : i = j
    · subst q
      by_cases hi : i < s.length
      · rw [List.getElem?_set_self hi] at hj
        cases hj
        exact ⟨p, vs, ds, List.getElem?_set_self (by rw [← a.len]; exact hi), List.mem_cons_self, rfl, .inl hH, r⟩
      · rw [List.getElem?_eq_none (by simp; omega)] at hj
        cases hj
    · rw [List.getElem?_set_ne q] at hj
      have n2 : j ∈ o.d := by
        rcases List.mem_cons.mp n1 with n | n
        · exact absurd n.symm q
        · exact (drop_d.mp n).1
      obtain ⟨p', vs', ds', hw, hp', rest⟩ := a.od j e hj n2
      exact ⟨p', vs', ds', by rw [List.getElem?_set_ne q]; exact hw, List.mem_cons_of_mem _ hp', rest⟩
  ol := fun j e hj n1 => by
    obtain ⟨n1, q⟩ := drop_l.mp n1
    rw [List.getElem?_set_ne (Ne.symm q)] at hj
    obtain ⟨p', vs', ds', hw, hp', rest⟩ := a.ol j e hj n1
    exact ⟨p', vs', ds', by rw [List.getElem?_set_ne (Ne.symm q)]; exact hw, List.mem_cons_of_mem _ hp', rest⟩
  inj := fun j k p' d e hj hk oj ok ej ek => by
    have low : ∀ j, (j ∈ (o.addD i).l ∨ j ∈ (o.addD i).d) → j ≠ i → (j ∈ o.l ∨ j ∈ o.d) := by
      intro j oj q
      rcases oj with n | n
      · exact .inl (drop_l.mp n).1
      · rcases List.mem_cons.mp n with n | n
        · exact absurd n q
        · exact .inr (drop_d.mp n).1
    have self : ∀ {e : D}, (s.set i (some (.dict ds)))[i]? = some (some e) → (sg.set i (some (V.ref p)))[i]? = some (some (V.ref p)) := by
      intro e h
      have hi : i < s.length := by
        have := (List.getElem?_eq_some_iff.mp h).1
        simpa using this
      exact List.getElem?_set_self (by rw [← a.len]; exact hi)
    by_cases qj : j = i
    · by_cases qk : k = i
      · rw [qj, qk]
      · subst qj
        rw [self hj] at ej
        cases ej
        rw [List.getElem?_set_ne (Ne.symm qk)] at hk ek
        exact absurd (a.own_in hk (low k ok qk) ek) hp
    · by_cases qk : k = i
      · subst qk
        rw [self hk] at ek
        cases ek
        rw [List.getElem?_set_ne (Ne.symm qj)] at hj ej
        exact absurd (a.own_in hj (low j oj qj) ej) hp
      · rw [List.getElem?_set_ne (Ne.symm qj)] at hj ej
        rw [List.getElem?_set_ne (Ne.symm qk)] at hk ek
        exact a.inj j k p' d e hj hk (low j oj qj) (low k ok qk) ej ek
  out := fun q hq => by
    rcases List.mem_cons.mp hq with rfl | hq
    · exact ⟨hF, _, hH, rfl⟩
    · exact a.out q hq
/-- the list of an owned slot is changed -/
theorem Ab.chgL (a : Ab K F H sg o s ps) {i : Nat} {p : Addr} {e0 : D} {vs : List V} {ds : List D} (hi : s[i]? = some (some e0)) (io : i ∈ o.l) (ei : sg[i]? = some (some (.ref p))) (r : DrAll K F vs ds) : Ab K F (upd H p (.lst vs)) sg o (s.set i (some (.list ds))) ps where
  sub := fun b u e => by
    have nb : b ≠ p := fun q => by
      rw [q, (a.out p (a.own_in hi (.inl io) ei)).1] at e; cases e
    rw [upd_ne nb]; exact a.sub _ _ e
  len := by simp [a.len]
  fz := fun j e hj n1 n2 => by
    have q : i ≠ j := fun q => n1 (q ▸ io)
    rw [List.getElem?_set_ne q] at hj
    exact a.fz j e hj n1 n2
  ol := fun j e hj n1 => by
    by_cases q : i = j
    · subst q
      have hl : i < s.length := (List.getElem?_eq_some_iff.mp hi).1
      rw [List.getElem?_set_self hl] at hj
      cases hj
      exact ⟨p, vs, ds, ei, a.own_in hi (.inl io) ei, rfl, upd_same, r⟩
    · rw [List.getElem?_set_ne q] at hj
      obtain ⟨p', vs', ds', hw, hp', ed, eh, rest⟩ := a.ol j e hj n1
      have np : p' ≠ p := fun z => q (a.inj i j p e0 e hi hj (.inl io) (.inl n1) ei (z ▸ hw))
      exact ⟨p', vs', ds', hw, hp', ed, by rw [upd_ne np]; exact eh, rest⟩
  od := fun j e hj n1 => by
    by_cases q : i = j
    · subst q
      have hl : i < s.length := (List.getElem?_eq_some_iff.mp hi).1
      obtain ⟨p', vs', ds', hw, hp', ed, eh, rest⟩ := a.od i e0 hi n1
      obtain ⟨p2, vs2, ds2, hw2, hp2, ed2, eh2, rest2⟩ := a.ol i e0 hi io
      rw [ed] at ed2
      cases ed2
    · rw [List.getElem?_set_ne q] at hj
      obtain ⟨p', vs', ds', hw, hp', ed, eh, rest⟩ := a.od j e hj n1
      have np : p' ≠ p := fun z => q (a.inj i j p e0 e hi hj (.inl io) (.inr n1) ei (z ▸ hw))
      exact ⟨p', vs', ds', hw, hp', ed, rd_upd np eh, rest⟩
  inj := fun j k p' d e hj hk oj ok ej ek => by
    have get : ∀ {j : Nat} {d : D}, (s.set i (some (.list ds)))[j]? = some (some d) → ∃ d', s[j]? = some (some d') := by
      intro j d h
      by_cases q : i = j
      · subst q; exact ⟨_, hi⟩
      · rw [List.getElem?_set_ne q] at h; exact ⟨_, h⟩
    obtain ⟨_, hj⟩ := get hj
    obtain ⟨_, hk⟩ := get hk
    exact a.inj j k p' _ _ hj hk oj ok ej ek
  out := fun q hq => by
    refine ⟨(a.out q hq).1, ?_⟩
    by_cases z : q = p
    · rw [z, upd_same]; exact ⟨_, rfl, rfl⟩
    · rw [upd_ne z]; exact (a.out q hq).2
theorem Ab.chgD (a : Ab K F H sg o s ps) {i : Nat} {p : Addr} {e0 : D} {vs : List (List Key × V)} {ds : List (D × D)} (hi : s[i]? = some (some e0)) (io : i ∈ o.d) (ei : sg[i]? = some (some (.ref p))) (r : DicOk vs ds) : Ab K F (upd H p (.dT vs)) sg o (s.set i (some (.dict ds))) ps where
  sub := fun b u e => by
    have nb : b ≠ p := fun q => by
      rw [q, (a.out p (a.own_in hi (.inr io) ei)).1] at e; cases e
    rw [upd_ne nb]; exact a.sub _ _ e
  len := by simp [a.len]
  fz := fun j e hj n1 n2 => by
    have q : i ≠ j := fun q => n2 (q ▸ io)
    rw [List.getElem?_set_ne q] at hj
    exact a.fz j e hj n1 n2
  od := fun j e hj n1 => by
    by_cases q : i = j
    · subst q
      have hl : i < s.length := (List.getElem?_eq_some_iff.mp hi).1
      rw [List.getElem?_set_self hl] at hj
      cases hj
      exact ⟨p, vs, ds, ei, a.own_in hi (.inr io) ei, rfl, .inl upd_same, r⟩
    · rw [List.getElem?_set_ne q] at hj
      obtain ⟨p', vs', ds', hw, hp', ed, eh, rest⟩ := a.od j e hj n1
      have np : p' ≠ p := fun z => q (a.inj i j p e0 e hi hj (.inr io) (.inr n1) ei (z ▸ hw))
      exact ⟨p', vs', ds', hw, hp', ed, rd_upd np eh, rest⟩
  ol := fun j e hj n1 => by
    by_cases q : i = j
    · subst q
      have hl : i < s.length := (List.getElem?_eq_some_iff.mp hi).1
      obtain ⟨p', vs', ds', hw, hp', ed, eh, rest⟩ := a.od i e0 hi io
      obtain ⟨p2, vs2, ds2, hw2, hp2, ed2, eh2, rest2⟩ := a.ol i e0 hi n1
      rw [ed] at ed2
      cases ed2
    · rw [List.getElem?_set_ne q] at hj
      obtain ⟨p', vs', ds', hw, hp', ed, eh, rest⟩ := a.ol j e hj n1
      have np : p' ≠ p := fun z => q (a.inj i j p e0 e hi hj (.inr io) (.inl n1) ei (z ▸ hw))
      exact ⟨p', vs', ds', hw, hp', ed, by rw [upd_ne np]; exact eh, rest⟩
  inj := fun j k p' d e hj hk oj ok ej ek => by
    have get : ∀ {j : Nat} {d : D}, (s.set i (some (.dict ds)))[j]? = some (some d) → ∃ d', s[j]? = some (some d') := by
      intro j d h
      by_cases q : i = j
      · subst q; exact ⟨_, hi⟩
      · rw [List.getElem?_set_ne q] at h; exact ⟨_, h⟩
    obtain ⟨_, hj⟩ := get hj
    obtain ⟨_, hk⟩ := get hk
    exact a.inj j k p' _ _ hj hk oj ok ej ek
  out := fun q hq => by
    refine ⟨(a.out q hq).1, ?_⟩
    by_cases z : q = p
    · rw [z, upd_same]; exact ⟨_, rfl, rfl⟩
    · rw [upd_ne z]; exact (a.out q hq).2
/-- an owned list is frozen -/
theorem Ab.frz (a : Ab K F H sg o s ps) {i : Nat} (io : i ∈ o.l) : ∃ F' ps', Ab K F' H sg (o.drop i) s ps' ∧ Same F F' ∧ (∀ p ∈ ps', p ∈ ps) ∧ (∀ b u, F' b = some u → F b = some u ∨ b ∈ ps) ∧ ∀ d, s[i]? = some (some d) → ∃ v, sg[i]? = some (some v) ∧ Dr K F' v d := by
  cases hs : s[i]? with
  | none =>
    refine ⟨F, ps, ⟨a.sub, a.len, fun j e hj n1 n2 => ?_, fun j e hj n => a.ol j e hj (drop_l.mp n).1, fun j e hj n => a.od j e hj (drop_d.mp n).1, fun j k p d e hj hk oj ok => a.inj j k p d e hj hk (oj.imp (fun n => (drop_l.mp n).1) fun n => (drop_d.mp n).1) (ok.imp (fun n => (drop_l.mp n).1) fun n => (drop_d.mp n).1), a.out⟩, Same.refl _, fun p h => h, fun b u e => .inl e, fun d h => by cases h⟩
    have q : j ≠ i := fun q => by rw [q, hs] at hj; cases hj
    exact a.fz j e hj (fun n => n1 (drop_l.mpr ⟨n, q⟩)) fun n => n2 (drop_d.mpr ⟨n, q⟩)
  | some u =>
    cases u with
    | none =>
      refine ⟨F, ps, ⟨a.sub, a.len, fun j e hj n1 n2 => ?_, fun j e hj n => a.ol j e hj (drop_l.mp n).1, fun j e hj n => a.od j e hj (drop_d.mp n).1, fun j k p d e hj hk oj ok => a.inj j k p d e hj hk (oj.imp (fun n => (drop_l.mp n).1) fun n => (drop_d.mp n).1) (ok.imp (fun n => (drop_l.mp n).1) fun n => (drop_d.mp n).1), a.out⟩, Same.refl _, fun p h => h, fun b u e => .inl e, fun d h => by cases h⟩
      have q : j ≠ i := fun q => by rw [q, hs] at hj; cases hj
      exact a.fz j e hj (fun n => n1 (drop_l.mpr ⟨n, q⟩)) fun n => n2 (drop_d.mpr ⟨n, q⟩)
    | some d0 =>
      obtain ⟨p, vs, ds, ei, hp, rfl, eh, r⟩ := a.ol i d0 hs io
      have sF : Same F (upd F p (.lst vs)) := fun b u e => by
        have nb : b ≠ p := fun q => by rw [q, (a.out p hp).1] at e; cases e
        rw [upd_ne nb]; exact e
      have sH : Same (upd F p (.lst vs)) H := fun b u e => by
        by_cases nb : b = p
        · subst nb; rw [upd_same] at e; cases e; exact eh
        · rw [upd_ne nb] at e; exact a.sub _ _ e
      have rd : Dr K (upd F p (.lst vs)) (.ref p) (.list ds) := .lst upd_same (drAll_mono sF r)
      refine ⟨upd F p (.lst vs), ps.filter (· != p), ⟨sH, a.len, fun j e hj n1 n2 => ?_, fun j e hj n => ?_, fun j e hj n => ?_, fun j k p d e hj hk oj ok => a.inj j k p d e hj hk (oj.imp (fun n => (drop_l.mp n).1) fun n => (drop_d.mp n).1) (ok.imp (fun n => (drop_l.mp n).1) fun n => (drop_d.mp n).1), fun q hq => ?_⟩, sF, fun q hq => (List.mem_filter.mp hq).1, fun b u e => ?_, fun d h => ?_⟩
      · by_cases q : j = i
        · subst q
          rw [hs] at hj
          cases hj
          exact ⟨_, ei, rd⟩
        · obtain ⟨v, e1, e2⟩ := a.fz j e hj (fun n => n1 (drop_l.mpr ⟨n, q⟩)) fun n => n2 (drop_d.mpr ⟨n, q⟩)
          exact ⟨v, e1, dr_mono sF e2⟩
      · obtain ⟨n, q⟩ := drop_l.mp n
        obtain ⟨p', vs', ds', hw, hp', ed, eh', rest⟩ := a.ol j e hj n
        have np : p' ≠ p := fun z => q (a.inj j i p e _ hj hs (.inl n) (.inl io) (z ▸ hw) ei)
        exact ⟨p', vs', ds', hw, List.mem_filter.mpr ⟨hp', by simpa using np⟩, ed, eh', drAll_mono sF rest⟩
      · obtain ⟨n, q⟩ := drop_d.mp n
        obtain ⟨p', vs', ds', hw, hp', ed, eh', rest⟩ := a.od j e hj n
        have np : p' ≠ p := fun z => q (a.inj j i p e _ hj hs (.inr n) (.inl io) (z ▸ hw) ei)
        exact ⟨p', vs', ds', hw, List.mem_filter.mpr ⟨hp', by simpa using np⟩, ed, eh', rest⟩
      · obtain ⟨hq, nq⟩ := List.mem_filter.mp hq
        have nq : q ≠ p := by simpa using nq
        rw [upd_ne nq]
        exact a.out q hq
      · by_cases nb : b = p
        · subst nb; exact .inr hp
        · rw [upd_ne nb] at e; exact .inl e
      · cases h
        exact ⟨_, ei, rd⟩
end
end Rr

set_option linter.all false
set_option Elab.async false
set_option maxRecDepth 100000
set_option maxHeartbeats 1000000
/-! Statements. -/
namespace Rr
open PySem PySem.Spec PyProof.Rows L2

/-- what stands since the def's entry (F0, H0), and since some point (P) -/
structure Fr0 (P F0 H0 F H : Hp) (ps : List Addr) : Prop where
  pf : Same P F
  hh : Same H0 H
  ff : Same F0 F
  nw : ∀ a u, F a = some u → F0 a = some u ∨ Fre H0 a
  pn : ∀ p ∈ ps, H0 p = none
  uf : ∀ p ∈ ps, Unf H p
theorem Fr0.ext {P F0 H0 F H F' H' : Hp} {ps : List Addr} (a : Fr0 P F0 H0 F H ps) (x : Ext F F' H H') : Fr0 P F0 H0 F' H' ps :=
  ⟨a.pf.trans x.ff, a.hh.trans x.hh, a.ff.trans x.ff, fun b u e => by
    rcases x.nw b u e with q | q
    · exact a.nw b u q
    · exact .inr (q.back a.hh), a.pn, fun p hp => (a.uf p hp).mono x.hh⟩
theorem Fr0.re {P P' F0 H0 F H : Hp} {ps : List Addr} (a : Fr0 P F0 H0 F H ps) (x : Same P' F) : Fr0 P' F0 H0 F H ps := ⟨x, a.hh, a.ff, a.nw, a.pn, a.uf⟩

section
variable (K : PySem.W.Frag) (cls : Str → Addr) (W : WX) (n : Nat) (P F0 H0 : Hp)
def QOut (o : Own) (E : Ends) : Q → Prop
  | .nx s => ∀ sg F H ps, Ab K F H sg o s ps → sg.length = n → Fr0 P F0 H0 F H ps → E.nx sg H
  | .rt d => ∀ v F H, Ext F0 F H0 H → Dr K F v d → E.rt v H
  | .ex c p => ∀ sg H x, sg.length = n → Same H0 H → XPay H x p → W (.ref (cls c)) x sg H
  | .bad => False
def tS (o o' : Own) (f : S → Q) : TS := fun E sg H => ∃ F s ps, Ab K F H sg o s ps ∧ sg.length = n ∧ Fr0 P F0 H0 F H ps ∧ QOut K cls W n P F0 H0 o' E (f s)
end
section
variable {K : PySem.W.Frag} {cls : Str → Addr} {W : WX} {n : Nat} {P F0 H0 : Hp}
theorem QOut.go {a : Type} {r : R a} {g : a → Q} {o : Own} {E : Ends} {sg : L2.St} {H : Hp} (h : QOut K cls W n P F0 H0 o E (r.go g)) (hl : sg.length = n) (hh : Same H0 H) : Out cls W sg H r fun x => QOut K cls W n P F0 H0 o E (g x) := by
  cases r with
  | ok x => exact h
  | ex c p => exact fun H' x s q => h sg H' x hl (hh.trans s) q
  | bad => exact h
theorem QOut.then {P' : Hp} {q : Q} {g : S → Q} {o o' : Own} {E : Ends} (h : QOut K cls W n P F0 H0 o' E (q.go g)) : QOut K cls W n P' F0 H0 o { E with nx := fun sg H => ∃ F s ps, Ab K F H sg o s ps ∧ sg.length = n ∧ Fr0 P' F0 H0 F H ps ∧ QOut K cls W n P F0 H0 o' E (g s) } q := by
  cases q with
  | nx s => exact fun sg F H ps A l fr => ⟨F, s, ps, A, l, fr, h⟩
  | rt d => exact h
  | ex c p => exact h
  | bad => exact h
theorem QOut.re {P' : Hp} {q : Q} {o : Own} {E : Ends} (h : QOut K cls W n P F0 H0 o E q) (x : Same P P') : QOut K cls W n P' F0 H0 o E q := by
  cases q with
  | nx s => exact fun sg F H ps A l fr => h sg F H ps A l (fr.re (x.trans fr.pf))
  | rt d => exact h
  | ex c p => exact h
  | bad => exact h
theorem QOut.imp {q : Q} {o : Own} {E E' : Ends} (h : QOut K cls W n P F0 H0 o E q) (h1 : ∀ sg H, E.nx sg H → E'.nx sg H) (h2 : ∀ v H, E.rt v H → E'.rt v H) : QOut K cls W n P F0 H0 o E' q := by
  cases q with
  | nx s => exact fun sg F H ps A l fr => h1 _ _ (h sg F H ps A l fr)
  | rt d => exact fun v F H x r => h2 _ _ (h v F H x r)
  | ex c p => exact h
  | bad => exact h

variable {X : Cx} {o o1 o2 : Own}
/-! ### blocks -/
theorem b_nil : PSs X [] (tS X.K cls W n P F0 H0 o o fun s => .nx s) :=
  pss_imp pss_nil fun E sg H q => by
    obtain ⟨F, s, ps, A, l, fr, q⟩ := q
    exact q sg F H ps A l fr
theorem b_cons {st : Stmt} {rest : List Stmt} {f g : S → Q} (h1 : PS X st (tS X.K cls W n P F0 H0 o o1 f)) (h2 : PSs X rest (tS X.K cls W n P F0 H0 o1 o2 g)) : PSs X (st :: rest) (tS X.K cls W n P F0 H0 o o2 fun s => (f s).go g) :=
  pss_imp (pss_cons h1 h2) fun E sg H q => by
    obtain ⟨F, s, ps, A, l, fr, q⟩ := q
    exact ⟨F, s, ps, A, l, fr, q.then⟩
/-- an owned list is frozen (no statement of the text) -/
theorem b_frz {sts : List Stmt} {f : S → Q} {i : Nat} (io : i ∈ o.l) (h : PSs X sts (tS X.K cls W n P F0 H0 (o.drop i) o1 f)) : PSs X sts (tS X.K cls W n P F0 H0 o o1 fun s => (Q.nx s).go f) :=
  pss_imp h fun E sg H q => by
    obtain ⟨F, s, ps, A, l, fr, q⟩ := q
    obtain ⟨F', ps', A', sF, sp, nw, _⟩ := A.frz io
    refine ⟨F', s, ps', A', l, ⟨fr.pf.trans sF, fr.hh, fr.ff.trans sF, fun b u e => ?_, fun p hp => fr.pn p (sp p hp), fun p hp => fr.uf p (sp p hp)⟩, q⟩
    rcases nw b u e with e | e
    · exact fr.nw b u e
    · exact .inr (.inl (fr.pn b e))

/-! ### stores -/
/-- an expression's reading within a statement -/
theorem st_e {f : S → R D} {g : S → D → Q} {l : Lv} {E : Ends} {sg : L2.St} {H : Hp} {Qv : VK} {F : Hp} {s : S} {ps : List Addr} (A : Ab K F H sg o s ps) (hl : sg.length = n) (fr : Fr0 P F0 H0 F H ps)
    (q : QOut K cls W n P F0 H0 o1 E ((f s).go (g s))) (k : ∀ d v F' H', f s = .ok d → Ab K F' H' sg o s ps → Ext F F' H H' → Fr0 P F0 H0 F' H' ps → Res K F' H' ps l v d → QOut K cls W n P F0 H0 o1 E (g s d) → Qv v H') : tE K cls W o l f sg H Qv :=
  ⟨F, s, ps, A, (q.go hl fr.hh).imp fun d e q1 v F' H' E1 R1 => k d v F' H' e (A.mono E1) E1 (fr.ext E1) R1 q1⟩
theorem asg_read {f : S → R D} {i : Nat} {E : Ends} {sg : L2.St} {H : Hp} (q : tS K cls W n P F0 H0 o (o.drop i) (fun s => (f s).go fun d => .nx (s.set i (some d))) E sg H) : tE K cls W o .cl f sg H fun x H1 => gName i x sg H1 E.nx := by
  obtain ⟨F, s, ps, A, l, fr, q⟩ := q
  refine st_e (g := fun s d => .nx (s.set i (some d))) A l fr q fun d v F' H' _ A' _ fr' r q1 => ?_
  exact q1 _ F' H' ps (A'.setF r) (by simp [l]) fr'
theorem s_asg {i : Nat} {x : Str} {e : Expr} {pos pos' : Pos} {f : S → R D} (hN : X.N.Nodup) (hi : X.N[i]? = some x) (hx : Loc X.env.scope x) (hf : X.fn x = true ∨ X.env.scope.names.lookup x = some .local) (hs : swapsWith e (some (.Name x pos')) pos.line X.env = pure false)
    (he : PE X e (tE X.K cls W o .cl f)) : PS X (.Assign [.Name x pos'] e pos) (tS X.K cls W n P F0 H0 o (o.drop i) fun s => (f s).go fun d => .nx (s.set i (some d))) :=
  ps_imp (ps_set hN hi hx he hs hf) fun E sg H q => asg_read q
/-- x = y, y an owned list: both are frozen -/
theorem s_mov {i j : Nat} {x y : Str} {p pos pos' : Pos} (hN : X.N.Nodup) (hi : X.N[i]? = some x) (hx : Loc X.env.scope x) (hf : X.fn x = true ∨ X.env.scope.names.lookup x = some .local)
    (hj : X.N[j]? = some y) (hy : Vis X.env.scope y) (hd : (y == ("__debug__" : Str)) = false) (hc : (y == ("__classdict__" : Str)) = false) (jo : j ∈ o.l) :
    PS X (.Assign [.Name x pos'] (.Name y p) pos) (tS X.K cls W n P F0 H0 o ((o.drop j).drop i) fun s => (getV s j).go fun d => .nx (s.set i (some d))) :=
  ps_imp (ps_set hN hi hx (pe_var hj hy hd hc) rfl hf) fun E sg H q => by
    obtain ⟨F, s, ps, A, l, fr, q⟩ := q
    unfold getV at q
    dsimp only at q
    cases e : s[j]? with
    | none => rw [e] at q; exact q.elim
    | some u =>
      cases u with
      | none => rw [e] at q; exact q.elim
      | some d =>
        rw [e] at q
        obtain ⟨F', ps', A', sF, sp, nw, hd⟩ := A.frz jo
        obtain ⟨v, e1, r⟩ := hd d e
        refine ⟨v, e1, ?_⟩
        have fr' : Fr0 P F0 H0 F' H ps' := ⟨fr.pf.trans sF, fr.hh, fr.ff.trans sF, fun b u e => by
          rcases nw b u e with e | e
          · exact fr.nw b u e
          · exact .inr (.inl (fr.pn b e)), fun p hp => fr.pn p (sp p hp), fun p hp => fr.uf p (sp p hp)⟩
        exact (show QOut _ _ _ _ _ _ _ _ _ (Q.nx _) from q) _ F' H ps' (A'.setF r) (by simp [l]) fr'
/-- the reading of an expression that makes a new list -/
def tF (K : PySem.W.Frag) (cls : Str → Addr) (W : WX) (o : Own) (f : S → R D) : TE := fun sg H Q => ∃ F s ps, Ab K F H sg o s ps ∧ Out cls W sg H (f s) fun d => ∀ p vs ds F' H', d = .list ds → Ext F F' H H' → F' p = none → H p = none → H' p = some (.lst vs) → DrAll K F' vs ds → Q (.ref p) H'
theorem s_own {i : Nat} {x : Str} {e : Expr} {pos pos' : Pos} {f : S → R D} (hN : X.N.Nodup) (hi : X.N[i]? = some x) (hx : Loc X.env.scope x) (hf : X.fn x = true ∨ X.env.scope.names.lookup x = some .local) (hs : swapsWith e (some (.Name x pos')) pos.line X.env = pure false)
    (he : PE X e (tF X.K cls W o f)) : PS X (.Assign [.Name x pos'] e pos) (tS X.K cls W n P F0 H0 o (o.addL i) fun s => (f s).go fun d => .nx (s.set i (some d))) :=
  ps_imp (ps_set hN hi hx he hs hf) fun E sg H q => by
    obtain ⟨F, s, ps, A, l, fr, q⟩ := q
    refine ⟨F, s, ps, A, (q.go l fr.hh).imp fun d _ q1 p vs ds F' H' ed E1 nF nH eH rd => ?_⟩
    subst ed
    have A' := A.mono E1
    have fr' := fr.ext E1
    have np : p ∉ ps := fun hp => by
      obtain ⟨_, u, hu, _⟩ := A.out p hp
      rw [nH] at hu; cases hu
    refine q1 _ F' H' (p :: ps) (A'.setL np nF eH rd) (by simp [l]) ⟨fr'.pf, fr'.hh, fr'.ff, fr'.nw, fun q hq => ?_, fun q hq => by
      rcases List.mem_cons.mp hq with rfl | hq
      · exact ⟨_, eH, rfl⟩
      · exact fr'.uf q hq⟩
    rcases List.mem_cons.mp hq with rfl | hq
    · exact fr.hh.free nH
    · exact fr.pn q hq
theorem s_ownD {i : Nat} {x : Str} {pos pos' pe : Pos} (hN : X.N.Nodup) (hi : X.N[i]? = some x) (hx : Loc X.env.scope x) (hf : X.fn x = true ∨ X.env.scope.names.lookup x = some .local) :
    PS X (.Assign [.Name x pos'] (.Dict [] [] pe) pos) (tS X.K cls W n P F0 H0 o (o.addD i) fun s => (R.ok (PyData.dict [])).go fun d => .nx (s.set i (some d))) :=
  ps_imp (ps_set hN hi hx pe_dnewT rfl hf) fun E sg H q => by
    obtain ⟨F, s, ps, A, l, fr, q⟩ := q
    intro p hp
    have x := Ext.junk (o := .dT []) A.sub hp
    have A' := A.mono x
    have fr' := fr.ext x
    have np : p ∉ ps := fun h => by
      obtain ⟨_, u, hu, _⟩ := A.out p h
      rw [hp] at hu; cases hu
    refine (show QOut _ _ _ _ _ _ _ _ _ (Q.nx _) from q) _ F _ (p :: ps) (A'.setD np (A.sub.free hp) upd_same .nil) (by simp [l]) ⟨fr'.pf, fr'.hh, fr'.ff, fr'.nw, fun q hq => ?_, fun q hq => by
      rcases List.mem_cons.mp hq with rfl | hq
      · exact ⟨_, upd_same, rfl⟩
      · exact fr'.uf q hq⟩
    rcases List.mem_cons.mp hq with rfl | hq
    · exact fr.hh.free hp
    · exact fr.pn q hq

/-! ### e; return; if -/
theorem s_exp {e : Expr} {pos : Pos} {l : Lv} {f : S → R D} (hs : noComp e = true) (he : PE X e (tE X.K cls W o l f)) : PS X (.Expr e pos) (tS X.K cls W n P F0 H0 o o fun s => (f s).go fun _ => .nx s) :=
  ps_imp (ps_expr he (no_swap hs _ _ _)) fun E sg H q => by
    obtain ⟨F, s, ps, A, hl, fr, q⟩ := q
    exact st_e (g := fun s _ => .nx s) A hl fr q fun d v F' H' _ A' _ fr' _ q1 => q1 sg F' H' ps A' hl fr'
theorem s_ret {e : Expr} {pos : Pos} {l : Lv} {f : S → R D} (hn : l ≠ .dd) (he : PE X e (tE X.K cls W o l f)) : PS X (.Return (some e) pos) (tS X.K cls W n P F0 H0 o o1 fun s => (f s).go fun d => .rt d) :=
  ps_imp (ps_ret he) fun E sg H q => by
    obtain ⟨F, s, ps, A, hl, fr, q⟩ := q
    refine st_e (g := fun _ d => .rt d) A hl fr q fun d v F' H' _ A' x fr' r q1 => ?_
    refine q1 v (lend F' H' ps) H' ⟨fr'.ff.trans (same_lend A'.out), lend_same A'.sub, fr'.hh, fun b u e => ?_⟩ (r.lent A'.out hn)
    by_cases hb : b ∈ ps
    · exact .inr (.inl (fr'.pn b hb))
    · rw [lend_out hb] at e
      exact fr'.nw b u e
theorem s_if {c : Expr} {a b : List Stmt} {pos : Pos} {t : S → R D} {f g : S → Q} (hc : PT X c (tT X.K cls W o fun s => (t s).bind truD)) (ha : PSs X a (tS X.K cls W n P F0 H0 o o1 f)) (hb : PSs X b (tS X.K cls W n P F0 H0 o o1 g)) :
    PS X (.If c a b pos) (tS X.K cls W n P F0 H0 o o1 fun s => (t s).go fun x => (truD x).go fun k => if k then f s else g s) :=
  ps_imp (ps_if hc ha hb) fun E sg H q => by
    obtain ⟨F, s, ps, A, hl, fr, q⟩ := q
    have q : QOut X.K cls W n P F0 H0 o1 E (((t s).bind truD).go fun k => if k then f s else g s) := by
      dsimp only at q
      cases e : t s with
      | ok d => rw [e] at q; exact q
      | ex c p => rw [e] at q; exact q
      | bad => rw [e] at q; exact q
    refine ⟨F, s, ps, A, (q.go hl fr.hh).imp fun k _ q1 F' H' x => ?_⟩
    cases k with
    | true =>
      rw [if_pos rfl] at q1 ⊢
      exact ⟨F', s, ps, A.mono x, hl, fr.ext x, q1⟩
    | false =>
      rw [if_neg Bool.false_ne_true] at q1 ⊢
      exact ⟨F', s, ps, A.mono x, hl, fr.ext x, q1⟩

/-! ### loops -/
theorem s_while {c : Expr} {a : List Stmt} {pos : Pos} {t : S → R D} {f : S → Q} {N : Nat} (hp : PassesOwn (model X.prog X.w) X.A X.env X.xe) (hc : PT X c (tT X.K cls W o fun s => (t s).bind truD)) (ha : PSs X a (tS X.K cls W n P F0 H0 o o f)) :
    PS X (.While c a [] pos) (tS X.K cls W n P F0 H0 o o fun s => whL (fun s' => (t s').bind truD) f N s) :=
  ps_imp (ps_while hp hc ha) fun E sg H q => by
    obtain ⟨F, s, ps, A, hl, fr, q⟩ := q
    refine ⟨fun m sg H => ∃ F s ps, Ab X.K F H sg o s ps ∧ sg.length = n ∧ Fr0 P F0 H0 F H ps ∧ QOut X.K cls W n P F0 H0 o E (whL (fun s' => (t s').bind truD) f m s), ⟨N, F, s, ps, A, hl, fr, q⟩, ?_⟩
    rintro m sg H ⟨F, s, ps, A, hl, fr, q⟩
    cases m with
    | zero => exact q.elim
    | succ m =>
      refine ⟨F, s, ps, A, (QOut.go (r := (t s).bind truD) q hl fr.hh).imp fun k _ q1 F' H' x => ?_⟩
      cases k with
      | true =>
        rw [if_pos rfl] at q1 ⊢
        refine ⟨fun sg' H' => ∃ F s ps, Ab X.K F H' sg' o s ps ∧ sg'.length = n ∧ Fr0 P F0 H0 F H' ps ∧ QOut X.K cls W n P F0 H0 o E (whL (fun s' => (t s').bind truD) f m s), fun sg' H' h => ⟨m, Nat.lt_succ_self _, h⟩, F', s, ps, A.mono x, hl, fr.ext x, ?_⟩
        exact (QOut.then q1).imp (fun _ _ h => h) fun _ _ h => h
      | false =>
        rw [if_neg Bool.false_ne_true] at q1 ⊢
        exact q1 sg F' H' ps (A.mono x) hl (fr.ext x)
theorem s_for {tg it : Expr} {a : List Stmt} {pos : Pos} {t : Tg} {fi : S → R (List D)} {f : S → Q} (hp : PassesOwn (model X.prog X.w) X.A X.env X.xe) (hc : X.calm = true) (ho : t.ok o = true) (hi : PI X tg it (tI X.K cls W o .cl fi)) (hg : PG X tg (gT X.K t))
    (hfs : noSet it = true) (ha : ∀ P, PSs X a (tS X.K cls W n P F0 H0 o o f)) : PS X (.For tg it a [] pos) (tS X.K cls W n P F0 H0 o o fun s => (fi s).go fun ds => forL (fun d s' => bindT t d s') f ds s) := by
  have hb : PSs X a (fun E sg H => ∃ P', tS X.K cls W n P' F0 H0 o o f E sg H) := ⟨fun pins s sg H E I ⟨P', q⟩ => (ha P').run pins s sg H E I q⟩
  refine ps_imp (ps_for hp hc hi hg hb (no_fold hfs _)) fun E sg H q => ?_
  obtain ⟨F, s, ps, A, hl, fr, q⟩ := q
  refine ⟨F, s, ps, A, (QOut.go (r := fi s) q hl fr.hh).imp fun ds _ q1 J F1 H1 x hW => ?_⟩
  rw [if_pos rfl] at hW
  refine ⟨fun i m sg H => i + m = ds.length ∧ ∃ F s ps, Ab X.K F H sg o s ps ∧ sg.length = n ∧ Fr0 P F0 H0 F H ps ∧ Same F1 F ∧ QOut X.K cls W n P F0 H0 o E (forL (fun d s' => bindT t d s') f (ds.drop i) s), ⟨ds.length, by omega, F1, s, ps, A.mono x, hl, fr.ext x, Same.refl _, by rw [List.drop_zero]; exact q1⟩, ?_⟩
  rintro i m sg H ⟨him, F, s, ps, A, hl, fr, s1, q⟩
  obtain ⟨w1, w2, w3⟩ := hW i F H s1 A.sub (s1.trans A.sub)
  by_cases hi : i < ds.length
  · right
    refine ⟨w1 hi, fun sg' H' => ∃ m', m' < m ∧ (i + 1 + m' = ds.length ∧ ∃ F s ps, Ab X.K F H' sg' o s ps ∧ sg'.length = n ∧ Fr0 P F0 H0 F H' ps ∧ Same F1 F ∧ QOut X.K cls W n P F0 H0 o E (forL (fun d s' => bindT t d s') f (ds.drop (i + 1)) s)), fun _ _ h => h, fun y H3 hy => ?_⟩
    obtain ⟨F3, E3, rx⟩ := w3 y H3 _ (List.getElem?_eq_getElem hi) hy
    rw [List.drop_eq_getElem_cons hi] at q
    have q2 := QOut.go (sg := sg) (H := H) (r := bindT t ds[i] s) q hl fr.hh
    obtain ⟨s', hs', q3⟩ := q2.get (bindT_noex t ds[i] s)
    obtain ⟨g, g1, g2, _, g4⟩ := bind_ok (o := o) ho E3.fh rx hs'
    have A3 := g2 sg ps (A.mono E3)
    have fr3 := fr.ext E3
    apply g1
    have hl3 : (g sg).length = n := by
      have e := congrArg List.length (g4 sg)
      rw [wipe_length, wipe_length] at e
      rw [e, hl]
    refine ⟨F3, F3, s', ps, A3, hl3, fr3.re (Same.refl _), ?_⟩
    have q4 : QOut X.K cls W n P F0 H0 o E ((f s').go fun s2 => forL (fun d s' => bindT t d s') f (ds.drop (i + 1)) s2) := q3
    refine (QOut.then (P' := F3) q4).imp (fun sg' H' h => ?_) fun _ _ h => h
    obtain ⟨F4, s4, ps4, A4, l4, fr4, q5⟩ := h
    refine ⟨m - 1, by omega, by omega, F4, s4, ps4, A4, l4, fr4.re (fr3.pf.trans fr4.pf), (s1.trans E3.ff).trans fr4.pf, q5⟩
  · left
    have e : ds.drop i = [] := List.drop_of_length_le (by omega)
    rw [e] at q
    exact ⟨w2 (by omega), q sg F H ps A hl fr⟩
end
end Rr

set_option linter.all false
set_option Elab.async false
set_option maxRecDepth 100000
set_option maxHeartbeats 1000000
/-! New lists; append, extend, stores. -/
namespace Rr
open PySem PySem.Spec PyProof.Rows L2
theorem listD_ok {d z : D} (h : listD d = .ok z) : ∃ ds, d = .list ds ∧ z = .list ds := by
  cases d <;> cases h
  exact ⟨_, rfl, rfl⟩
theorem listD_noex (d : D) : ∀ c p, listD d ≠ .ex c p := by
  intro c p h
  cases d <;> cases h
section
variable {X : Cx} {cls : Str → Addr} {W : WX} {o : Own} {K : PySem.W.Frag}
def Does2F (K : PySem.W.Frag) (r : R2) (la lb : Lv) (op : D → D → R D) : Prop :=
  (∀ d e c p, op d e ≠ .ex c p) ∧ ∀ {F H : Hp} {ps : List Addr} {x y : V} {d e : D} {ds : List D} {Q : VK}, (∀ p ∈ ps, F p = none ∧ ∃ u, H p = some u ∧ noT u = true) → Same F H → Res K F H ps la x d → Res K F H ps lb y e → op d e = .ok (.list ds) →
    (∀ p vs F' H', Ext F F' H H' → F' p = none → H p = none → H' p = some (.lst vs) → DrAll K F' vs ds → Q (.ref p) H') → r x y H Q
/-- one new list -/
theorem fresh_new {F H : Hp} {p : Addr} {vs : List V} (s : Same F H) (h : H p = none) : Ext F F H (upd H p (.lst vs)) ∧ F p = none ∧ upd H p (.lst vs) p = some (.lst vs) := ⟨Ext.junk s h, s.free h, upd_same⟩
theorem seq2F {r : R2} {la lb : Lv} {op : D → D → R D} {f g : S → R D} (dz : Does2F K r la lb op) {sg : L2.St} {H : Hp} {Q : VK}
    (h : tF K cls W o (fun s => ((f s).bind fun x => (g s).bind fun y => op x y).bind listD) sg H Q) : tOp r (tE K cls W o la f) (tE K cls W o lb g) sg H Q := by
  obtain ⟨F, s, ps, A, h⟩ := h
  dsimp only at h
  simp only [bind_assoc] at h
  refine ⟨F, s, ps, A, h.bind.imp fun d _ h1 v F1 H1 E1 R1 => ?_⟩
  refine ⟨F1, s, ps, A.mono E1, (h1.shift E1.hh).bind.imp fun e _ h2 w F2 H2 E2 R2 => ?_⟩
  obtain ⟨z, hz, k⟩ := h2.bind.get (dz.1 d e)
  obtain ⟨z', hz', k⟩ := k.get (listD_noex z)
  obtain ⟨ds, rfl, rfl⟩ := listD_ok hz'
  have E12 := E1.trans E2
  exact dz.2 (out_mono A.out E12) E2.fh (R1.mono E2) R2 hz fun p vs F' H' E3 nF nH eH rd => k p vs ds F' H' rfl (E12.trans E3) nF (E12.hh.free nH) eH rd
theorem dzF_add {la lb : Lv} (h1 : la.fine = true) (h2 : lb.fine = true) : Does2F K (rAddAll K) la lb (opD .add) := by
  refine ⟨(dz_add (K := K) h1 h2).1, ?_⟩
  intro F H ps x y d e ds Q ou s rx ry hz k
  cases d with
  | list i =>
    cases e with
    | list j =>
      simp only [opD] at hz
      split at hz
      · rename_i hl
        cases hz
        obtain ⟨a, xs, rfl, ha, da⟩ := res_list h1 s rx
        obtain ⟨b, ys, rfl, hb, db⟩ := res_list h2 s ry
        refine .inr (.inr (.inr ⟨a, b, xs, ys, rfl, rfl, ha, hb, by rw [da.length, db.length]; exact lim_line hl, fun p hp => ?_⟩))
        obtain ⟨q1, q2, q3⟩ := fresh_new (vs := xs ++ ys) s hp
        exact k p _ F _ q1 q2 hp q3 (da.append db)
      · cases hz
    | _ => cases hz
  | int i =>
    cases e <;> cases hz
  | str i =>
    cases e with
    | str j =>
      simp only [opD] at hz
      split at hz <;> cases hz
    | _ => cases hz
  | tuple i =>
    cases e with
    | tuple j =>
      simp only [opD] at hz
      split at hz <;> cases hz
    | _ => cases hz
  | _ => cases e <;> cases hz
theorem dzF_mul {la lb : Lv} (h1 : la.fine = true) : Does2F K (rMulAll K) la lb (opD .mul) := by
  refine ⟨(dz_mul (K := K) (lb := lb) h1).1, ?_⟩
  intro F H ps x y d e ds Q ou s rx ry hz k
  cases d with
  | list i =>
    cases e with
    | int j =>
      simp only [opD] at hz
      split at hz
      · rename_i hl
        cases hz
        obtain ⟨a, xs, rfl, ha, da⟩ := res_list h1 s rx
        refine .inr (.inr ⟨a, j, xs, rfl, res_int ry, ha, by omega, by omega, by rw [da.length]; exact lim_line hl.2.2, fun p hp => ?_⟩)
        obtain ⟨q1, q2, q3⟩ := fresh_new (vs := (List.replicate j.toNat xs).flatten) s hp
        exact k p _ F _ q1 q2 hp q3 (da.rep _)
      · cases hz
    | _ => cases hz
  | int i =>
    cases e with
    | int j =>
      simp only [opD] at hz
      split at hz <;> cases hz
    | _ => cases hz
  | tuple i =>
    cases e with
    | int j =>
      simp only [opD] at hz
      split at hz <;> cases hz
    | _ => cases hz
  | _ => cases e <;> cases hz
theorem jF_bin {op : Operator} {a b : Expr} {pos : Pos} {la lb : Lv} {f g : S → R D} {od : D → D → R D} {r : R2} (ho : OpR X (binaryOp op) r) (dz : Does2F X.K r la lb od)
    (ha : PE X a (tE X.K cls W o la f)) (hb : PE X b (tE X.K cls W o lb g)) : PE X (.BinOp a op b pos) (tF X.K cls W o fun s => ((f s).bind fun x => (g s).bind fun y => od x y).bind listD) :=
  pe_imp (pe_op ho ha hb) fun _ _ _ h => seq2F dz h
theorem jF_lst {es : List Expr} {pos : Pos} {ls : List Lv} {f : S → R (List D)} (hl : ∀ l ∈ ls, l = .cl) (hs : es.length ≤ 1000) (h : PA X es (tAs X.K cls W o ls f)) (hn : ∀ s ds, f s = .ok ds → ds.length = es.length) :
    PE X (.List es pos) (tF X.K cls W o fun s => ((f s).bind fun xs => .ok (.list xs)).bind listD) :=
  pe_imp (pe_lst h) fun sg H Q q => by
    obtain ⟨F, s, ps, A, q⟩ := q
    dsimp only at q
    simp only [bind_assoc] at q
    refine ⟨F, s, ps, A, q.bind.imp fun ds e q1 vs F1 H1 E1 R1 => ⟨?_, fun p hp => ?_⟩⟩
    · rw [resAll_len R1, hn s ds e]
      exact Nat.le_trans hs (by decide)
    · obtain ⟨q2, q3, q4⟩ := fresh_new (vs := vs) E1.fh hp
      exact q1 p vs ds F1 _ rfl (E1.trans q2) q3 (E1.hh.free hp) q4 (R1.clean hl)
theorem jF_list {e : Expr} {p pos : Pos} {l : Lv} {h : S → R (List D)} (hl : l.fine = true) (hg : Gl X "list") (hm : X.mg "list" = none) (hp : plainA e = true) (ha : PA X [e] (tAs X.K cls W o [l] h)) :
    PE X (.Call (.Name "list" p) [e] [] pos) (tF X.K cls W o fun s => ((h s).bind (biD .list)).bind listD) :=
  pe_imp (pe_callTy call_list_of hg hm PyProof.Rows.boot_list ha (by decide) (by decide) (star_plain hp _ _) rfl) fun sg H Q q => by
    obtain ⟨F, s, ps, A, q⟩ := q
    dsimp only at q
    simp only [bind_assoc] at q
    refine ⟨F, s, ps, A, q.bind.imp fun ds _ q1 vs F1 H1 E1 R1 => ?_⟩
    obtain ⟨v, d, rfl, rfl, r⟩ := res1 R1
    obtain ⟨z, hz, k⟩ := q1.bind.get (biD_noex .list [d])
    obtain ⟨z', hz', k⟩ := k.get (listD_noex z)
    obtain ⟨ys, rfl, rfl⟩ := listD_ok hz'
    cases d with
    | list m =>
      cases hz
      obtain ⟨a, xs, rfl, ha, da⟩ := res_list hl E1.fh r
      refine ⟨a, xs, rfl, .inl (.inl (.inl ha)), fun p hp => ?_⟩
      obtain ⟨q2, q3, q4⟩ := fresh_new (vs := xs) E1.fh hp
      exact k p xs _ F1 _ rfl (E1.trans q2) q3 (E1.hh.free hp) q4 da
    | tuple m =>
      cases hz
      obtain ⟨a, xs, rfl, ha, da, fa⟩ := res_tup hl E1.fh r
      refine ⟨a, xs, rfl, .inr ha, fun p hp => ?_⟩
      obtain ⟨q2, q3, q4⟩ := fresh_new (vs := xs) E1.fh hp
      exact k p xs _ F1 _ rfl (E1.trans q2) q3 (E1.hh.free hp) q4 da
    | _ => cases hz
end

section
variable {cls : Str → Addr} {W : WX} {n : Nat} {P F0 H0 : Hp} {X : Cx} {o o1 o2 : Own}
theorem getV_get {s : S} {i : Nat} {d : D} (h : getV s i = .ok d) : s[i]? = some (some d) := by
  unfold getV at h
  cases e : s[i]? with
  | none => rw [e] at h; cases h
  | some u =>
    cases u with
    | none => rw [e] at h; cases h
    | some x => rw [e] at h; cases h; rfl
theorem getV_noex (s : S) (i : Nat) : ∀ c p, getV s i ≠ .ex c p := by
  intro c p h
  unfold getV at h
  split at h <;> cases h
theorem appD_noex (x y : D) : ∀ c p, appD x y ≠ .ex c p := by
  intro c p h
  unfold appD at h
  split at h
  · split at h <;> cases h
  · cases h
theorem extD_noex (x y : D) : ∀ c p, extD x y ≠ .ex c p := by
  intro c p h
  unfold extD at h
  split at h
  · split at h <;> cases h
  · cases h
theorem putD_noex (x y z : D) : ∀ c p, putD x y z ≠ .ex c p := by
  intro c p h
  unfold putD at h
  split at h
  · split at h <;> cases h
  · split at h
    · split at h <;> cases h
    · cases h
  · cases h
/-- behind a change of an owned list -/
theorem fr_chg {F H : Hp} {ps : List Addr} {p : Addr} {ob : HO} (fr : Fr0 P F0 H0 F H ps) (hp : p ∈ ps) (hn : nFz ob = true := by rfl) : Fr0 P F0 H0 F (upd H p ob) ps :=
  ⟨fr.pf, fun b u e => by
    have nb : b ≠ p := fun q => by rw [q, fr.pn p hp] at e; cases e
    rw [upd_ne nb]; exact fr.hh _ _ e, fr.ff, fr.nw, fr.pn, fun q hq => by
    by_cases e : q = p
    · subst e; exact ⟨_, upd_same, hn⟩
    · obtain ⟨u, h, n⟩ := fr.uf q hq
      exact ⟨u, by rw [upd_ne e]; exact h, n⟩⟩
theorem few_one {e : Expr} {cpos : Pos} {env : PySem.Env} (hp : plainA e = true) : ((backTo cpos (starEach [e] env)).all (fun x => !x.1) && (backToKw cpos (keywordEach [] env)).all (fun x => x.1.isSome)
      && decide (([e] : List Expr).length + ([] : List Keyword).length + (if ([] : List Keyword).isEmpty then 0 else 1) < 30)) = true := by
  rw [star_all2 (es := [e]) (by simp [hp])]
  rfl
theorem s_app {i : Nat} {x : Str} {e : Expr} {p apos cpos pos : Pos} {f : S → R D} (hi : X.N[i]? = some x) (hv : Vis X.env.scope x) (hd : (x == ("__debug__" : Str)) = false) (hc : (x == ("__classdict__" : Str)) = false) (io : i ∈ o.l) (hp : plainA e = true)
    (hline : (apos.endLine == cpos.line) = true) (he : PE X e (tE X.K cls W o .cl f)) :
    PS X (.Expr (.Call (.Attribute (.Name x p) "append" apos) [e] [] cpos) pos) (tS X.K cls W n P F0 H0 o o fun s => (getV s i).go fun y => (f s).go fun z => (appD y z).go fun u => .nx (s.set i (some u))) := by
  refine ps_imp (ps_expr (pe_bm PySem.F.plainAttrs_list PySem.F.slot_list_append PySem.F.type_list_append mt_append (pe_var hi hv hd hc) (j_cons hp he j_nil) rfl (few_one hp) hline (star_plain hp _ _) rfl) rfl) fun E sg H q => ?_
  obtain ⟨F, s, ps, A, hl, fr, q⟩ := q
  obtain ⟨y, hy, q1⟩ := (QOut.go (r := getV s i) q hl fr.hh).get (getV_noex s i)
  have gy := getV_get hy
  obtain ⟨p, vs, ds, ei, hp, rfl, eh, rd⟩ := A.ol i y gy io
  refine ⟨.ref p, ei, .inl ⟨rfl, vs, .inl (.inl eh)⟩, ?_⟩
  refine ⟨F, s, ps, A, ?_⟩
  dsimp only
  have q2 := QOut.go (r := f s) q1 hl fr.hh
  cases e1 : f s with
  | ok z =>
    rw [e1] at q2
    intro ws F1 H1 E1 R1
    obtain ⟨w, z', rfl, hz, r⟩ := res1 R1
    cases hz
    obtain ⟨u, hu, q3⟩ := (QOut.go (sg := sg) (H := H) (r := appD (.list ds) z) q2 hl fr.hh).get (appD_noex _ _)
    simp only [appD] at hu
    split at hu
    · rename_i hlim
      cases hu
      have A1 := A.mono E1
      obtain ⟨p', vs', ds', ei', hp', ed', eh', rd'⟩ := A1.ol i _ gy io
      rw [ei] at ei'
      cases ei'
      cases ed'
      refine ⟨p, vs', w, rfl, rfl, eh', by rw [rd'.length]; exact lim_lt hlim, ?_⟩
      exact q3 sg F1 _ ps (A1.chgL gy io ei (rd'.append (.cons r .nil))) hl (fr_chg (fr.ext E1) hp)
    · cases hu
  | ex c p => rw [e1] at q2; exact q2
  | bad => rw [e1] at q2; exact q2
theorem s_ext {i : Nat} {x : Str} {e : Expr} {p apos cpos pos : Pos} {f : S → R D} (hi : X.N[i]? = some x) (hv : Vis X.env.scope x) (hd : (x == ("__debug__" : Str)) = false) (hc : (x == ("__classdict__" : Str)) = false) (io : i ∈ o.l) (hp : plainA e = true)
    (hline : (apos.endLine == cpos.line) = true) (he : PE X e (tE X.K cls W o .cl f)) :
    PS X (.Expr (.Call (.Attribute (.Name x p) "extend" apos) [e] [] cpos) pos) (tS X.K cls W n P F0 H0 o o fun s => (getV s i).go fun y => (f s).go fun z => (extD y z).go fun u => .nx (s.set i (some u))) := by
  refine ps_imp (ps_expr (pe_bm PySem.F.plainAttrs_list PySem.F.slot_list_extend PySem.F.type_list_extend mt_extend (pe_var hi hv hd hc) (j_cons hp he j_nil) rfl (few_one hp) hline (star_plain hp _ _) rfl) rfl) fun E sg H q => ?_
  obtain ⟨F, s, ps, A, hl, fr, q⟩ := q
  obtain ⟨y, hy, q1⟩ := (QOut.go (r := getV s i) q hl fr.hh).get (getV_noex s i)
  have gy := getV_get hy
  obtain ⟨p, vs, ds, ei, hp, rfl, eh, rd⟩ := A.ol i y gy io
  refine ⟨.ref p, ei, .inl ⟨rfl, vs, .inl (.inl eh)⟩, ?_⟩
  refine ⟨F, s, ps, A, ?_⟩
  dsimp only
  have q2 := QOut.go (r := f s) q1 hl fr.hh
  cases e1 : f s with
  | ok z =>
    rw [e1] at q2
    intro ws F1 H1 E1 R1
    obtain ⟨w, z', rfl, hz, r⟩ := res1 R1
    cases hz
    obtain ⟨u, hu, q3⟩ := (QOut.go (sg := sg) (H := H) (r := extD (.list ds) z) q2 hl fr.hh).get (extD_noex _ _)
    cases z with
    | list m =>
      simp only [extD] at hu
      split at hu
      · rename_i hlim
        cases hu
        have A1 := A.mono E1
        obtain ⟨p', vs', ds', ei', hp', ed', eh', rd'⟩ := A1.ol i _ gy io
        rw [ei] at ei'
        cases ei'
        cases ed'
        obtain ⟨b, zs, rfl, hb, db⟩ := res_list rfl E1.fh r
        refine ⟨p, b, vs', zs, rfl, rfl, eh', hb, by rw [rd'.length, db.length]; exact lim_line hlim, ?_⟩
        exact q3 sg F1 _ ps (A1.chgL gy io ei (rd'.append db)) hl (fr_chg (fr.ext E1) hp)
      · cases hu
    | _ => cases hu
  | ex c p => rw [e1] at q2; exact q2
  | bad => rw [e1] at q2; exact q2
end
end Rr

set_option linter.all false
set_option Elab.async false
set_option maxRecDepth 100000
set_option maxHeartbeats 1000000
/-! try with several named clauses. -/
namespace Rr
open PySem PySem.Spec PyProof.Rows L2
abbrev ClA := Value × Nat × (Addr → Value → Option Addr → TS)
def endA (E : Ends) (i : Nat) : Ends := { nx := fun g H => E.nx (g.set i none) H, rt := E.rt, bk := fun g H => E.bk (g.set i none) H, ct := fun g H => E.ct (g.set i none) H }
def wManyA (K : PySem.W.Frag) (Wo : WX) (E : Ends) : List ClA → WX
  | [] => Wo
  | (c, i, ts) :: r => fun cl d g H => ∃ b, PySem.W.exmOne K cl c = some b ∧ (b = true → ∀ a, H a = none → ts a cl d (endA E i) (g.set i (some (.ref a))) H) ∧ (b = false → wManyA K Wo E r cl d g H)
inductive HdsA (X : Cx) : List ExceptHandler → List ClA → Prop
  | nil : HdsA X [] []
  | cons {x n : Str} {c : Value} {i : Nat} {ts : Addr → Value → Option Addr → TS} {b0 : Stmt} {suite : List Stmt} {np pos' : Pos} {hds : List ExceptHandler} {l : List ClA} (hc : Names X x c) (hi : X.N[i]? = some n) (hln : X.env.kindOf n = some .local)
      (hsu : ∀ (a : Addr) (oe : Obj) (cl : Value) (d : Option Addr) (pn : List (Addr × Obj)), Zc cl d oe → (∃ vs, oe.data = .fields vs) → PSs (X.suite a ((a, oe) :: pn)) (b0 :: suite) (ts a cl d)) (r : HdsA X hds l) :
      HdsA X (.ExceptHandler (some (.Name x np)) (some n) (b0 :: suite) pos' :: hds) ((c, i, ts) :: l)
section
variable {X : Cx} {body : List Stmt} {h0 : ExceptHandler} {hds : List ExceptHandler} {l : List ClA} {pos : Pos} {tb : WX → TS} {Wo : WX}
theorem ps_try_manyA (hst : X.stack = X.env :: X.outer) (hfm : X.env.frame = some X.env.locals) (hN : X.N.Nodup) (tk : Takes X Wo)
    (hb : ∀ (W : WX) (pn : List (Addr × Obj)) (xe : Value → Shared → Prop), Takes (X.tr pn xe) W → PassesOwn (model X.prog X.w) X.A X.env xe → PSs (X.tr pn xe) body (tb W)) (hh : HdsA X (h0 :: hds) l) :
    PS X (.Try body (h0 :: hds) [] [] pos) (fun E g H => tb (wManyA X.K Wo E l) E g H) := by
  refine ⟨fun pins s g H E I q0 => ?_⟩
  have ok := I.ok
  have hfr : X.A.frames = some (X.env :: X.outer) := by rw [ok.frames, hst]
  refine wpAny_Try_except ?_
  refine wpAny_mono ((hb (wManyA X.K Wo E l) (X.pn ++ pins) (fun u z1 => wpAny (model X.prog X.w) X.A (noteFrame u X.env) (fun _ z2 => wpAny (model X.prog X.w) X.A (setFlight u none) (fun _ z3 =>
    wpAny (model X.prog X.w) X.A (handleBy u X.env (h0 :: hds)) (SP X pins E) X.xe z3) X.xe z2) X.xe z1) (fun u s' xx => ?_) PassesOwn.looking).run [] s g H E (I.toTry _) q0) (fun f s1 hsp => ?_) (fun u z1 he => he)
  · obtain ⟨a, B, sI, pins', g1, H1, cl, d, rfl, J0, nb, up, sky, na, os, ag, wq⟩ := xx
    have J : L2.Inv X pins g1 H1 sI := J0.ofTry ok
    have sky1 : Sky B (X.env :: X.outer) a (Zc cl d) X.env.locals s'.heap := by rw [← hst]; exact sky
    show wpAny (model X.prog X.w) X.A (noteFrame (.ref a) X.env) _ _ _
    refine Sky.land Zc.steady hfr hfm sky1 fun h3 fl3 up3 => ?_
    have J3 : L2.Inv X pins g1 H1 { s' with heap := h3 } := J.landed nb fl3.1 (up.trans up3) os ag
    obtain ⟨oe3, vs3, he3, hz3, hd3⟩ := fl3.there
    have nfr : a ∉ frs (X.env :: X.outer) := fun hm => by
      obtain ⟨_, o', e', hnf⟩ := fl3.2.2.1.mem hm
      rw [he3] at e'
      cases e'
      exact hnf _ hd3
    have nL : a ≠ X.env.locals := fun z => nfr (List.mem_filterMap.mpr ⟨X.env, List.mem_cons_self, by rw [hfm, z]⟩)
    have nF : a ∉ X.fs := fun hm => by
      obtain ⟨e, he, q⟩ := List.mem_filterMap.mp hm
      exact nfr (List.mem_filterMap.mpr ⟨e, List.mem_cons_of_mem _ he, q⟩)
    have S3 := J3.suite he3 hd3 na nL nF
    have go : ∀ {hk : List ExceptHandler} {lk : List ClA}, HdsA X hk lk → wManyA X.K Wo E lk cl d g1 H1 → wpAny (model X.prog X.w) X.A (handleBy (.ref a) X.env hk) (SP X pins E) X.xe { s' with heap := h3 } := by
      intro hk lk hkk
      induction hkk with
      | nil =>
        intro wn
        refine wpAny_handleBy_nil ?_
        obtain ⟨k1, k2, k3, oe, vs, T, oT, ts', he, hz, hd, h1, hr⟩ := id fl3
        unfold PySem.passOn
        refine wpAny_bind (wpAny_field he hd h1 ?_)
        rw [if_neg (show ¬ ((Value.ref T == Value.none) = true) from by simp)]
        have fin : wpAny (model X.prog X.w) X.A (setFlight (.ref a) X.env.frame) (fun _ z4 => wpAny (model X.prog X.w) X.A (throw (.ref a) : Sem Flow) (SP X pins E) X.xe z4) X.xe { s' with heap := h3 } := by
          rw [hfm]
          refine HandSPX.setFlight_upZ fl3 fun h4 hh4 up4 => wpAny_throw (tk _ _ ?_)
          exact ⟨a, B, sI, pins, g1, H1, cl, d, rfl, J, nb, (up.trans up3).trans up4, .inr (.inr (by rw [hst]; exact hh4)), na, os, ag, wn⟩
        first
          | exact wpAny_bind (wpAny_pure (wpAny_bind fin))
          | exact wpAny_bind fin
      | @cons x n c i ts b0 suite np pos' hds2 l2 hc hi hln hsu r ih =>
        intro wn
        obtain ⟨b, hb1, hyes, hno⟩ := wn
        refine wpAny_handleBy_cons (codeAny_handlers_test ?_) (by intro q; cases q)
        have LT : PySem.W.Looks (model X.prog X.w) h3 (typeOf (.ref a)) cl := fun A Q E s k q => wpAny_typeOf_ref (k _ _ he3) (by rw [hz3.1]; exact q)
        have LM := PySem.W.exm_one (M := model X.prog X.w) (J3.kIn) LT hb1
        have test : ∀ {Q : Value → Shared → Prop} {E : Value → Shared → Prop}, Q c { s' with heap := h3 } → wpAny (model X.prog X.w) (X.A.mark (some (.ref a))) (eval (.Name x np) X.env) Q E { s' with heap := h3 } := fun {Q E} q => by
          obtain ⟨hg, hdbg, hm | ⟨hm, hv, hnn⟩⟩ := hc
          · exact ld_glob (X := X.suite a ((a, oe3) :: (X.pn ++ pins))) S3 hg hm q hdbg
          · exact ld_blt (X := X.suite a ((a, oe3) :: (X.pn ++ pins))) S3 hg hm hv q hnn hdbg
        refine test (LM.here ?_)
        cases b with
        | true =>
          refine codeAny_handlers_suite_as ?_
          refine HandSPX.lands_againZ fl3 fun h4 fl4 up4 => ?_
          have J4 : L2.Inv X pins g1 H1 { s' with heap := h4 } := J.landed nb fl4.1 ((up.trans up3).trans up4) os ag
          obtain ⟨oe4, vs4, he4, hz4, hd4⟩ := fl4.there
          have S4 := J4.suite he4 hd4 na nL nF
          refine store_ok (X := X.suite a ((a, oe4) :: (X.pn ++ pins))) (v := .ref a) S4 hN hi (.inl hln) rfl (fun s5 S5 => ?_) (.inr hln)
          refine wpAny_mono ((hsu a oe4 cl d (X.pn ++ pins) hz4 ⟨_, hd4⟩).run [] s5 _ H1 _ S5 (hyes rfl a na)) (fun f s6 hsp => ?_) (fun _ _ z => False.elim z)
          have fin : ∀ {g6 : L2.St} {H6 : Hp} {Q : Shared → Prop}, L2.Inv (X.suite a ((a, oe4) :: (X.pn ++ pins))) [] g6 H6 s6 → (∀ s7, L2.Inv X pins (g6.set i none) H6 s7 → Q s7) →
              wpAny (model X.prog X.w) X.A (do bindName X.env n .none; unbindBehindTheSuite X.env n pos') (fun _ s7 => Q s7) X.xe s6 := fun {g6 H6 Q} S6 hq => gone_ok (S6.unsuite ok) hN hi hln hq
          cases f with
          | next =>
            obtain ⟨g6, H6, S6, k6⟩ := hsp
            exact fin S6 fun s7 J7 => ⟨_, _, J7, k6⟩
          | brk =>
            obtain ⟨g6, H6, S6, k6⟩ := hsp
            exact fin S6 fun s7 J7 => ⟨_, _, J7, k6⟩
          | cont =>
            obtain ⟨g6, H6, S6, k6⟩ := hsp
            exact fin S6 fun s7 J7 => ⟨_, _, J7, k6⟩
          | ret u =>
            obtain ⟨w6, g6, H6, S6, m6, k6⟩ := hsp
            exact fin S6 fun s7 J7 => ⟨_, _, _, J7, m6, k6⟩
        | false =>
          show wpAny _ X.A (handleBy (.ref a) X.env hds2) _ _ _
          exact ih (hno rfl)
    exact go hh wq
  · cases f with
    | next =>
      obtain ⟨g2, H2, J2, q⟩ := hsp
      exact wpAny_execs_nil ⟨g2, H2, J2.ofTry ok, q⟩
    | brk =>
      obtain ⟨g2, H2, J2, q⟩ := hsp
      exact ⟨g2, H2, J2.ofTry ok, q⟩
    | cont =>
      obtain ⟨g2, H2, J2, q⟩ := hsp
      exact ⟨g2, H2, J2.ofTry ok, q⟩
    | ret u =>
      obtain ⟨v2, g2, H2, J2, m2, q⟩ := hsp
      exact ⟨v2, g2, H2, J2.ofTry ok, m2, q⟩
end
end Rr

set_option linter.all false
set_option Elab.async false
set_option maxRecDepth 100000
set_option maxHeartbeats 1000000
/-! raise, try, augmented stores, unpacking. -/
namespace Rr
open PySem PySem.Spec PyProof.Rows L2

/-- what is known of the classes of exceptions -/
structure ExK (X : Cx) (cls : Str → Addr) (sub : Str → Str → Bool) (cs : List Str) : Prop where
  mg : ∀ c ∈ cs, X.mg c = some (.ref (cls c))
  kp : ∀ c ∈ cs, PySem.W.keepIn X.K (.ref (cls c)) = true
  exc : ∀ c ∈ cs, PySem.W.excIn X.K (cls c) [.type "ValueError", .type "Exception", .type "BaseException", .type "object"] "ValueError.__new__" = true
  bs : ∀ c ∈ cs, PySem.W.subIn X.K (.ref (cls c)) (.type "BaseException") = some true
  ty : ∀ c ∈ cs, PySem.W.typeIn X.K (.ref (cls c)) = some (.type "type")
  ec : ∀ c ∈ cs, ExcC X.K (cls c)
  exm : ∀ c ∈ cs, ∀ d ∈ cs, PySem.W.exmOne X.K (.ref (cls c)) (.ref (cls d)) = some (sub c d)
  kit : ∀ c ∈ cs, ∀ d ∈ cs, PySem.W.kitOne X.K (.ref (cls c)) (.ref (cls d)) = some (sub c d)
section
variable {cls : Str → Addr} {W : WX} {n : Nat} {P F0 H0 : Hp} {X : Cx} {o o1 o2 : Own} {G : Env}
theorem s_raise {c m : Str} {j : Nat} {p p2 p3 pos : Pos} (hc : X.calm = true) (tk : Takes X W) (K : ExK X cls G.sub G.cs) (hm : c ∈ G.cs) (hg : Gl X c) (hd : (c == ("__debug__" : Str)) = false) :
    PS X (.Raise (some (.Call (.Name c p) [.Constant (.str m) j p2] [] p3)) none pos) (tS X.K cls W n P F0 H0 o o1 fun _ => .ex c none) :=
  ps_imp (ps_raise hc tk (pmk_own PySem.F.excBase_ValueError (K.exc c hm) (K.mg c hm) (K.kp c hm) (raises_own (K.bs c hm) (K.ty c hm)) hg hd)) fun E sg H q => by
    obtain ⟨F, s, ps, A, hl, fr, q⟩ := q
    exact q sg H none hl fr.hh trivial

/-! ### try -/
def mkHd (h : Hd) (p : List Pos) (np pos' : Pos) (xs : Str × Str × Nat × Nat) : Unit := ()
/-- the suite of a clause -/
def suiteT (K : PySem.W.Frag) (cls : Str → Addr) (G : Env) (h : Hd) : Addr → Value → Option Addr → TS := fun a cl d E g H =>
  ∃ c ∈ G.cs, cl = .ref (cls c) ∧ d = none ∧ g[h.i]? = some (some (.ref a)) ∧ if G.sub c h.y && !G.sub c h.m then (∃ x, h.a = .str x ∧ E.rt (.str x) H) else (∃ x, h.b = .str x ∧ E.rt (.str x) H)
theorem j_suite {h : Hd} {en ia ib : Str} {k1 k2 : Nat} {p1 p2 p3 p4 p5 p6 p7 p8 p9 p10 p11 p12 p13 p14 : Pos} (K : ExK X cls G.sub G.cs) (hy : h.y ∈ G.cs) (hm : h.m ∈ G.cs) (ha : h.a = .str ia) (hb : h.b = .str ib)
    (hi : X.N[h.i]? = some en) (hv : Vis X.env.scope en) (hd : (en == ("__debug__" : Str)) = false) (hc : (en == ("__classdict__" : Str)) = false) (hg : Gl X "isinstance") (hmi : X.mg "isinstance" = none)
    (gy : Gl X h.y) (dy : (h.y == ("__debug__" : Str)) = false) (gm : Gl X h.m) (dm : (h.m == ("__debug__" : Str)) = false)
    (a : Addr) (oe : Obj) (cl : Value) (d : Option Addr) (pn : List (Addr × Obj)) (hz : Zc cl d oe) (hf : ∃ vs, oe.data = .fields vs) :
    PSs (X.suite a ((a, oe) :: pn)) [.Return (some (.IfExp (.BoolOp .And [.Call (.Name "isinstance" p1) [.Name en p2, .Name h.y p3] [] p4, .UnaryOp .Not (.Call (.Name "isinstance" p5) [.Name en p6, .Name h.m p7] [] p8) p9] p10) (.Constant (.str ia) k1 p11) (.Constant (.str ib) k2 p12) p13)) p14]
      (suiteT X.K cls G h a cl d) := by
  refine ⟨fun pins s g H E I q => ?_⟩
  obtain ⟨c, hcs, rfl, rfl, ei, q⟩ := q
  have isE : CallR (X.suite a ((a, oe) :: pn)) (.builtin "isinstance") (rIsE X.K (cls c) a) := call_isE (K.ec c hcs) hz hf
  have e1 : PE (X.suite a ((a, oe) :: pn)) (.Call (.Name "isinstance" p1) [.Name en p2, .Name h.y p3] [] p4) _ :=
    pe_callB isE hg hmi PyProof.Rows.boot_isinstance (pa_cons (pe_var (X := X.suite a ((a, oe) :: pn)) hi hv hd hc) (pa_cons (pe_glob (X := X.suite a ((a, oe) :: pn)) (v := .ref (cls h.y)) gy (K.mg _ hy) rfl dy) pa_nil)) (by decide) (by decide) rfl rfl
  have e2 : PE (X.suite a ((a, oe) :: pn)) (.Call (.Name "isinstance" p5) [.Name en p6, .Name h.m p7] [] p8) _ :=
    pe_callB isE hg hmi PyProof.Rows.boot_isinstance (pa_cons (pe_var (X := X.suite a ((a, oe) :: pn)) hi hv hd hc) (pa_cons (pe_glob (X := X.suite a ((a, oe) :: pn)) (v := .ref (cls h.m)) gm (K.mg _ hm) rfl dm) pa_nil)) (by decide) (by decide) rfl rfl
  refine (pss_one (ps_ret (pe_ifExp (PW.pt (pw_and (pt_val e1) (pw_and1 (pt_not (pt_val e2))))) pe_str pe_str))).run pins s g H E I ?_
  have ref1 : ∀ {C : Addr} (u : Value), RelV (V.ref C) u → u = .ref C := fun u r => r
  refine ⟨.ref a, ei, .ref (cls h.y), .ref (cls h.y), _, rfl, ref1, K.kit c hcs _ hy, _, rfl, ?_⟩
  rw [ha] at q
  rw [hb] at q
  cases ey : G.sub c h.y with
  | true =>
    rw [if_pos rfl]
    refine ⟨.ref a, ei, .ref (cls h.m), .ref (cls h.m), _, rfl, ref1, K.kit c hcs _ hm, _, rfl, ?_⟩
    rw [ey, Bool.true_and] at q
    cases em : G.sub c h.m with
    | true =>
      rw [em] at q
      obtain ⟨x, e, q⟩ := (show ∃ x, PyData.str ib = .str x ∧ E.rt (.str x) H from q)
      cases e
      exact q
    | false =>
      rw [em] at q
      obtain ⟨x, e, q⟩ := (show ∃ x, PyData.str ia = .str x ∧ E.rt (.str x) H from q)
      cases e
      exact q
  | false =>
    rw [if_neg Bool.false_ne_true]
    rw [ey, Bool.false_and] at q
    obtain ⟨x, e, q⟩ := (show ∃ x, PyData.str ib = .str x ∧ E.rt (.str x) H from q)
    cases e
    exact q
/-- the clauses as a list of readings -/
def clA (K : PySem.W.Frag) (cls : Str → Addr) (G : Env) (h : Hd) : ClA := (.ref (cls h.c), h.i, suiteT K cls G h)
theorem many_read {hs : List Hd} {c : Str} {p : Option D} {E : Ends} {g : L2.St} {H : Hp} {x : Option Addr} (K : ExK X cls G.sub G.cs) (hF : Same F0 H0) (hcs : ∀ h ∈ hs, h.c ∈ G.cs ∧ h.i < n ∧ (∃ x, h.a = .str x) ∧ ∃ x, h.b = .str x)
    (q : QOut X.K cls W n P F0 H0 o1 E (hdQ G c p hs)) (hl : g.length = n) (hh : Same H0 H) (xp : XPay H x p) : wManyA X.K W E (hs.map (clA X.K cls G)) (.ref (cls c)) x g H := by
  induction hs with
  | nil => exact q g H x hl hh xp
  | cons h r ih =>
    unfold hdQ at q
    by_cases hmem : (decide (c ∈ G.cs) && decide (p.isNone = true)) = true
    · rw [hmem, if_neg (by decide)] at q
      simp only [Bool.and_eq_true, decide_eq_true_eq] at hmem
      obtain ⟨hc, hp⟩ := hmem
      have hp : p = none := by cases p <;> simp_all
      subst hp
      have hx : x = none := by
        cases x with
        | none => rfl
        | some a => exact xp.elim
      subst hx
      obtain ⟨h1, h2, ⟨xa, ea⟩, xb, eb⟩ := hcs h List.mem_cons_self
      refine ⟨G.sub c h.c, K.exm c hc _ h1, fun hb a na => ?_, fun hb => ?_⟩
      · rw [if_pos hb] at q
        refine ⟨c, hc, rfl, rfl, List.getElem?_set_self (by omega), ?_⟩
        have ex : Ext F0 F0 H0 H := ⟨Same.refl _, hF.trans hh, hh, fun _ _ e => .inl e⟩
        split at q
        · rename_i hq
          rw [if_pos hq]
          rw [ea] at q
          exact ⟨xa, ea, q _ F0 H ex (.str _)⟩
        · rename_i hq
          rw [if_neg hq]
          rw [eb] at q
          exact ⟨xb, eb, q _ F0 H ex (.str _)⟩
      · rw [if_neg (by rw [hb]; decide)] at q
        exact ih (fun h hh => hcs h (List.mem_cons_of_mem _ hh)) q
    · have hm : (decide (c ∈ G.cs) && decide (p.isNone = true)) = false := by
        cases e : (decide (c ∈ G.cs) && decide (p.isNone = true)) with
        | true => exact absurd e hmem
        | false => rfl
      rw [hm, if_pos (by decide)] at q
      exact q.elim
theorem s_try {body : List Stmt} {h0 : ExceptHandler} {hds : List ExceptHandler} {hs : List Hd} {pos : Pos} {f : S → Q} (hst : X.stack = X.env :: X.outer) (hfm : X.env.frame = some X.env.locals) (hN : X.N.Nodup) (tk : Takes X W) (K : ExK X cls G.sub G.cs) (hF : Same F0 H0)
    (hcs : ∀ h ∈ hs, h.c ∈ G.cs ∧ h.i < n ∧ (∃ x, h.a = .str x) ∧ ∃ x, h.b = .str x) (hh : HdsA X (h0 :: hds) (hs.map (clA X.K cls G)))
    (hb : ∀ (W : WX) (pn : List (Addr × Obj)) (xe : Value → Shared → Prop), Takes (X.tr pn xe) W → PassesOwn (model X.prog X.w) X.A X.env xe → PSs (X.tr pn xe) body (tS X.K cls W n P F0 H0 o o1 f)) :
    PS X (.Try body (h0 :: hds) [] [] pos) (tS X.K cls W n P F0 H0 o o1 fun s => match f s with | .ex c p => hdQ G c p hs | q => q) :=
  ps_imp (ps_try_manyA hst hfm hN tk hb hh) fun E sg H q => by
    obtain ⟨F, s, ps, A, hl, fr, q⟩ := q
    refine ⟨F, s, ps, A, hl, fr, ?_⟩
    dsimp only at q
    cases e : f s with
    | nx s' => rw [e] at q; exact q
    | rt d => rw [e] at q; exact q
    | ex c p =>
      rw [e] at q
      exact fun g H x hl hh xp => many_read K hF hcs q hl hh xp
    | bad => rw [e] at q; exact q

/-! ### x += e, x *= e -/
theorem opD_ints {op : Op} {a b : Int} {z : D} (h : opD op (.int a) (.int b) = .ok z) : ∃ c, z = .int c := by
  cases op <;> simp only [opD] at h <;> first | (cases h; exact ⟨_, rfl⟩) | (split at h <;> first | (cases h; exact ⟨_, rfl⟩) | cases h)
theorem opD_noex (op : Op) (a b : D) : ∀ c p, opD op a b ≠ .ex c p := by
  intro c p h
  unfold opD at h
  split at h <;> first | cases h | (split at h <;> cases h)
def augQ (op : Op) (i : Nat) (s : S) (x y : D) : Q := match x, y with
  | .int m, .int n => (opD op (.int m) (.int n)).go fun z => .nx (s.set i (some z))
  | _, _ => .bad
theorem s_aug {i : Nat} {x : Str} {e : Expr} {pos pos' : Pos} {f : S → R D} {op : Op} {po : Operator} {ti : TIp} {l : Lv} (hN : X.N.Nodup) (hi : X.N[i]? = some x) (hx : Loc X.env.scope x) (hf : X.fn x = true ∨ X.env.scope.names.lookup x = some .local)
    (i1 : i ∉ o.l) (i2 : i ∉ o.d) (ho : PIp X po ti) (hop : ∀ a b z H Q, opD op (.int a) (.int b) = .ok (.int z) → Q (.int z) H → ti (.int a) (.int b) H Q) (he : PE X e (tE X.K cls W o l f)) :
    PS X (.AugAssign (.Name x pos') po e pos) (tS X.K cls W n P F0 H0 o o fun s => (getV s i).go fun y => (f s).go fun z => augQ op i s y z) :=
  ps_imp (ps_aug hN hi hx he ho hf) fun E sg H q => by
    obtain ⟨F, s, ps, A, hl, fr, q⟩ := q
    obtain ⟨y, hy, q1⟩ := (QOut.go (r := getV s i) q hl fr.hh).get (getV_noex s i)
    have gy := getV_get hy
    obtain ⟨v, ev, rv⟩ := A.fz i y gy i1 i2
    refine ⟨v, ev, st_e (g := fun s z => augQ op i s y z) A hl fr q1 fun z w F' H' _ A' x' fr' r q2 => ?_⟩
    cases y with
    | int a =>
      cases z with
      | int b =>
        cases rv
        rw [res_int r]
        obtain ⟨u, hu, q3⟩ := (QOut.go (sg := sg) (H := H') (r := opD op (.int a) (.int b)) q2 hl fr'.hh).get (opD_noex _ _ _)
        obtain ⟨c, rfl⟩ := opD_ints hu
        exact hop a b c H' _ hu (q3 _ F' H' ps (A'.set i1 i2 (.int c)) (by simp [hl]) fr')
      | _ => exact q2.elim
    | _ => exact q2.elim

/-! ### a, b, .. = e -/
def gNs : List Nat → TGs
  | [] => gNil
  | i :: is => gCons (gName i) (gNs is)
inductive NamesAt (X : Cx) : List Expr → List Nat → Prop
  | nil : NamesAt X [] []
  | cons {x : Str} {p : Pos} {i : Nat} {es : List Expr} {is : List Nat} (hi : X.N[i]? = some x) (hx : Loc X.env.scope x) (hf : X.fn x = true ∨ X.env.scope.names.lookup x = some .local) (r : NamesAt X es is) : NamesAt X (.Name x p :: es) (i :: is)
theorem pgs_names (hN : X.N.Nodup) : ∀ {es : List Expr} {is : List Nat}, NamesAt X es is → PGs X es (gNs is)
  | _, _, .nil => pgs_nil
  | _, _, .cons hi hx hf r => pgs_cons (pg_name hN hi hx hf) (pgs_names hN r)
theorem names_len : ∀ {es : List Expr} {is : List Nat}, NamesAt X es is → (assignEach es X.env).length = is.length ∧ (assignEach es X.env).findIdx? (·.1) = none
  | _, _, .nil => ⟨rfl, rfl⟩
  | _, _, .cons (p := p) hi hx hf r => by
    obtain ⟨h1, h2⟩ := names_len r
    refine ⟨by simp [assignEach, h1], ?_⟩
    simp only [assignEach, List.findIdx?_cons, h2]
    rfl
def noTuple : Expr → Bool
  | .Tuple _ _ _ => false
  | _ => true
theorem no_swapped {e : Expr} (h : noTuple e = true) (ts : List Expr) (k : Nat) (p : Pos) (env : PySem.Env) : swappedStores [.Tuple ts k p] e env = pure none := by
  cases e <;> first | rfl | cases h
def dropAll (o : Own) : List Nat → Own
  | [] => o
  | i :: is => dropAll (o.drop i) is
theorem unp_read {K : PySem.W.Frag} : ∀ {is : List Nat} {o : Own} {vs : List V} {ds : List D} {F H : Hp} {g : L2.St} {s : S} {ps : List Addr} {E : Ends}, DrAll K F vs ds → Ab K F H g o s ps → g.length = n → Fr0 P F0 H0 F H ps → vs.length = is.length →
    QOut K cls W n P F0 H0 (dropAll o is) E (unpL is ds s) → gNs is vs g H E.nx
  | [], o, _, _, F, H, g, s, ps, E, .nil, A, hl, fr, _, q => ⟨rfl, q g F H ps A hl fr⟩
  | i :: is, o, _, _, F, H, g, s, ps, E, .cons (v := v) (vs := vs) r a, A, hl, fr, hn, q => by
    refine ⟨v, vs, rfl, ?_⟩
    exact unp_read (is := is) a (A.setF (i := i) r) (by simp [hl]) fr (by simpa using hn) q
  | [], o, _, _, F, H, g, s, ps, E, .cons r a, A, hl, fr, hn, q => by simp at hn
  | i :: is, o, _, _, F, H, g, s, ps, E, .nil, A, hl, fr, hn, q => by simp at hn
def unpQ (is : List Nat) (s : S) (d : D) : Q := match d with
  | .tuple ds => unpL is ds s
  | _ => .bad
theorem unpL_len : ∀ {is : List Nat} {ds : List D} {s : S}, unpL is ds s ≠ .bad → ds.length = is.length
  | [], [], _, _ => rfl
  | i :: is, d :: ds, s, h => by
    have := unpL_len (is := is) (ds := ds) (s := s.set i (some d)) h
    simp [this]
  | [], _ :: _, _, h => absurd rfl h
  | _ :: _, [], _, h => absurd rfl h
theorem s_unp {es : List Expr} {is : List Nat} {k : Nat} {e : Expr} {tp pos : Pos} {f : S → R D} (hc : X.calm = true) (hN : X.N.Nodup) (hn : NamesAt X es is) (h1 : noTuple e = true) (h2 : noComp e = true) (he : PE X e (tE X.K cls W o .cl f)) :
    PS X (.Assign [.Tuple es k tp] e pos) (tS X.K cls W n P F0 H0 o (dropAll o is) fun s => (f s).go fun d => unpQ is s d) :=
  ps_imp (ps_asg he (pg_tup hc (pgs_names hN hn) (names_len hn).1 (names_len hn).2) (show swapsWith e (some (.Tuple es k tp)) pos.line X.env = pure false from no_swap h2 _ _ _) (no_swapped h1 _ _ _ _) rfl) fun E sg H q => by
    obtain ⟨F, s, ps, A, hl, fr, q⟩ := q
    refine st_e (g := fun s d => unpQ is s d) A hl fr q fun d v F' H' _ A' x' fr' r q1 => ?_
    cases d with
    | tuple ds =>
      have r : Dr X.K F' v (.tuple ds) := r
      cases r with
      | @tup a vs _ hq da =>
        have hlen : ds.length = is.length := unpL_len (s := s) fun e => by
          have q1 : QOut _ _ _ _ _ _ _ _ _ (unpL is ds s) := q1
          rw [e] at q1
          exact q1
        exact ⟨a, vs, rfl, (.inl (.inl (A'.sub _ _ hq))), by rw [da.length, hlen], unp_read da A' hl fr' (by rw [da.length, hlen]) q1⟩
    | _ => exact q1.elim
end
end Rr

set_option linter.all false
set_option Elab.async false
set_option maxRecDepth 100000
set_option maxHeartbeats 1000000
/-! isinstance; x[k] = v. -/
namespace Rr
open PySem PySem.Spec PyProof.Rows L2
def tyN : D → Option String
  | .none => some "NoneType"
  | .bool _ => some "bool"
  | .int _ => some "int"
  | .str _ => some "str"
  | .list _ => some "list"
  | .tuple _ => some "tuple"
  | .dict _ => none
def Ty.nm : Ty → String
  | .int => "int"
  | .bool => "bool"
  | .tuple => "tuple"
  | .str => "str"
  | .list => "list"
theorem ty_boot : ∀ t : Ty, bootBuiltins (Str.ofString t.nm) = some (.type t.nm)
  | .int => by decide +kernel
  | .bool => by decide +kernel
  | .tuple => by decide +kernel
  | .str => by decide +kernel
  | .list => by decide +kernel
theorem tyx_of {K : PySem.W.Frag} {H : Hp} {x : V} {d : D} {tn : String} (r : Dr K H x d) (h : tyN d = some tn) : TyX K H x (.type tn) := by
  cases r with
  | non => cases h; exact .base .non
  | bl b => cases h; exact .base (.bl b)
  | int i => cases h; exact .base (.int i)
  | str i => cases h; exact .base (.str i)
  | lst e a => cases h; exact .base (.lst e)
  | scr e => cases h
  | kt e => cases h
  | tup e a =>
    cases h
    exact .base (.tup e)
theorem isi_kit {d : D} {t : Ty} {k : Bool} (h : isiD d t = .ok k) : ∃ tn, tyN d = some tn ∧ kitB tn t.nm = some k := by
  cases d with
  | dict l => cases t <;> cases h
  | none => refine ⟨_, rfl, ?_⟩; cases t <;> cases h <;> decide +kernel
  | bool b => refine ⟨_, rfl, ?_⟩; cases t <;> cases h <;> decide +kernel
  | int b => refine ⟨_, rfl, ?_⟩; cases t <;> cases h <;> decide +kernel
  | str b => refine ⟨_, rfl, ?_⟩; cases t <;> cases h <;> decide +kernel
  | list b => refine ⟨_, rfl, ?_⟩; cases t <;> cases h <;> decide +kernel
  | tuple b => refine ⟨_, rfl, ?_⟩; cases t <;> cases h <;> decide +kernel
theorem isiD_noex (d : D) (t : Ty) : ∀ c p, isiD d t ≠ .ex c p := by
  intro c p h
  cases d <;> cases t <;> cases h
section
variable {cls : Str → Addr} {W : WX} {n : Nat} {P F0 H0 : Hp} {X : Cx} {o o1 o2 : Own} {G : Env}
theorem j_isi {e : Expr} {t : Ty} {l : Lv} {f : S → R D} {p p2 pos : Pos} (hl : l ≠ .dd) (hg : Gl X "isinstance") (hm : X.mg "isinstance" = none) (gt : Gl X (Str.ofString t.nm)) (mt : X.mg (Str.ofString t.nm) = none) (hp : plainA e = true)
    (he : PE X e (tE X.K cls W o l f)) : PE X (.Call (.Name "isinstance" p) [e, .Name (Str.ofString t.nm) p2] [] pos) (tE X.K cls W o .cl fun s => (f s).bind fun x => (isiD x t).bind fun k => .ok (.bool k)) :=
  pe_imp (pe_callB call_isi hg hm PyProof.Rows.boot_isinstance (pa_cons he (pa_cons (pe_bltn (v := .ty t.nm) gt mt (ty_boot t) rfl (by cases t <;> decide) (by cases t <;> decide)) pa_nil) (star_plain hp _ _)) (by decide) (by decide) (star_plain hp _ _) rfl) fun sg H Q q => by
    obtain ⟨F, s, ps, A, q⟩ := q
    refine ⟨F, s, ps, A, q.bind.imp fun d _ q1 v F1 H1 E1 R1 => ?_⟩
    obtain ⟨k, hk, q2⟩ := q1.bind.get (isiD_noex d t)
    obtain ⟨tn, ht, hb⟩ := isi_kit hk
    exact ⟨v, .ty t.nm, .type tn, .type t.nm, k, rfl, .ty _, tyx_of (res_any (out_mono A.out E1) E1.fh hl R1) ht, kit_ty hb, q2 _ F1 H1 E1 (.bl _)⟩
theorem plain_sub {o i : Expr} {pos : Pos} {env : PySem.Env} (h : noSlice i = true) : ∀ v, assign (.Subscript o i pos) env v = (do
      let ov ← holding [v] (eval o env)
      let iv ← holding [v, ov] (eval i env)
      standAt pos
      holding [v, ov, iv] (setItem ov iv v)
      release [v, ov, iv] []) := by
  intro v
  cases i <;> first | rfl | cases h
/-- xs[k] = e, xs an owned list -/
theorem s_sti {i : Nat} {x : Str} {k e : Expr} {p sp pos : Pos} {f g : S → R D} {lk : Lv} (hi : X.N[i]? = some x) (hv : Vis X.env.scope x) (hd : (x == ("__debug__" : Str)) = false) (hc : (x == ("__classdict__" : Str)) = false) (io : i ∈ o.l)
    (hk : noSlice k = true) (pk : PE X k (tE X.K cls W o lk g)) (he : PE X e (tE X.K cls W o .cl f)) :
    PS X (.Assign [.Subscript (.Name x p) k sp] e pos) (tS X.K cls W n P F0 H0 o o fun s => (f s).go fun v => (getV s i).go fun y => (g s).go fun z => (putD y z v).go fun u => .nx (s.set i (some u))) := by
  refine ps_imp (ps_asg he (pg_sub (pe_var hi hv hd hc) pk set_list (plain_sub hk)) (show swapsWith e (some (.Subscript (.Name x p) k sp)) pos.line X.env = pure false by cases e <;> rfl) (by cases e <;> rfl) rfl) fun E sg H q => ?_
  obtain ⟨F, s, ps, A, hl, fr, q⟩ := q
  refine st_e (g := fun s v => (getV s i).go fun y => (g s).go fun z => (putD y z v).go fun u => .nx (s.set i (some u))) A hl fr q fun d v F1 H1 _ A1 x1 fr1 r q1 => ?_
  obtain ⟨y, hy, q2⟩ := (QOut.go (sg := sg) (H := H1) (r := getV s i) q1 hl fr1.hh).get (getV_noex s i)
  have gy := getV_get hy
  obtain ⟨p, vs, ds, ei, hp, rfl, eh, rd⟩ := A1.ol i y gy io
  refine ⟨.ref p, ei, ?_⟩
  refine st_e (g := fun s z => (putD (.list ds) z d).go fun u => .nx (s.set i (some u))) A1 hl fr1 q2 fun z w F2 H2 _ A2 x2 fr2 r2 q3 => ?_
  obtain ⟨u, hu, q4⟩ := (QOut.go (sg := sg) (H := H2) (r := putD (.list ds) z d) q3 hl fr2.hh).get (putD_noex _ _ _)
  cases z with
  | int j =>
    simp only [putD] at hu
    split at hu
    · rename_i m hm
      cases hu
      obtain ⟨p', vs', ds', ei', hp', ed', eh', rd'⟩ := A2.ol i _ gy io
      rw [ei] at ei'
      cases ei'
      cases ed'
      refine ⟨p, vs', j, m, rfl, res_int r2, eh', by rw [rd'.length]; exact hm, ?_⟩
      exact q4 sg F2 _ ps (A2.chgL gy io ei (rd'.set (dr_mono x2.ff r) m)) hl (fr_chg fr2 hp)
    · cases hu
  | _ => cases hu
end
end Rr

set_option linter.all false
set_option Elab.async false
set_option maxRecDepth 100000
set_option maxHeartbeats 1000000
/-! Several targets at once. -/
namespace Rr
open PySem PySem.Spec PyProof.Rows L2
/-- a written tuple of constants -/
def cstTup : Expr → Bool
  | .Tuple vs _ _ => vs.all (foldedForSure 8)
  | _ => false
theorem cst_swapped {e : Expr} (h : cstTup e = true) (ts : List Expr) (k : Nat) (p : Pos) (env : PySem.Env) : swappedStores [.Tuple ts k p] e env = pure none := by
  cases e <;> first | cases h | skip
  rename_i vs k2 p2
  have h : vs.all (foldedForSure 8) = true := h
  unfold swappedStores
  simp only
  split
  · rfl
  · split
    · rfl
    · split
      · rfl
      · first | rw [if_pos h] | simp [h]
theorem sub_swapped {o1 i1 o2 i2 e : Expr} {p1 p2 : Pos} (k : Nat) (p : Pos) (env : PySem.Env) : swappedStores [.Tuple [.Subscript o1 i1 p1, .Subscript o2 i2 p2] k p] e env = pure none := by
  cases e <;> first | rfl | skip
  rename_i vs k2 p2
  unfold swappedStores
  simp only
  split
  · rfl
  · split
    · rfl
    · rfl
def stard : Expr → Bool
  | .Starred .. => true
  | _ => false
/-- the values are neither all constants, nor starred -/
def vsOk (vs : List Expr) : Bool := !(vs.any stard) && !(vs.all (foldedForSure 8)) && !(vs.all (constantsAlone 8))
theorem kind_fn {env : PySem.Env} (h : env.scope.kind = .function) : env.blockKind = .function := by
  unfold Env.blockKind
  rw [h]; rfl
theorem any_stard (vs : List Expr) : (vs.any fun | .Starred .. => true | _ => false) = vs.any stard := by
  congr 1
theorem par2_sw {x y : Str} {px py pt pt2 : Pos} {kt k2 : Nat} {vs : List Expr} {env : PySem.Env} (hk : env.scope.kind = .function) (hx : env.scope.names.lookup x = some .local) (hy : env.scope.names.lookup y = some .local) (hp : (py.line == px.line) = true) (hxy : x ≠ y) (hn : vs.length = 2) (hv : vsOk vs = true) :
    swappedStores [.Tuple [.Name x px, .Name y py] kt pt] (.Tuple vs k2 pt2) env = pure (some [x, y]) := by
  unfold vsOk at hv
  simp only [Bool.and_eq_true, Bool.not_eq_true'] at hv
  obtain ⟨⟨h1, h2⟩, h3⟩ := hv
  have hxk : env.kindOf x = some .local := hx
  have hyk : env.kindOf y = some .local := hy
  unfold swappedStores
  simp only [any_stard, h1, h2, h3, hn, kind_fn hk]
  have hp' : py.line = px.line := by simpa using hp
  have hyx : (y == x) = false := by simpa using fun e => hxy e.symm
  simp [hxk, hyk, hp', Expr.pos, List.eraseDups, List.eraseDupsBy, List.eraseDupsBy.loop, hyx, pure_bind]
  intro e he hs
  exact absurd (show stard e = true by cases e <;> first | rfl | cases hs) (by simpa using List.any_eq_false.mp h1 e he)
theorem par3_sw {x y z : Str} {px py pz pt pt2 : Pos} {kt k2 : Nat} {vs : List Expr} {env : PySem.Env} (hk : env.scope.kind = .function) (hx : env.scope.names.lookup x = some .local) (hy : env.scope.names.lookup y = some .local) (hz : env.scope.names.lookup z = some .local) (hp : (py.line == px.line) = true) (hp2 : (pz.line == px.line) = true) (hxy : x ≠ y) (hxz : x ≠ z) (hyz : y ≠ z) (hn : vs.length = 3) (hv : vsOk vs = true) :
    swappedStores [.Tuple [.Name x px, .Name y py, .Name z pz] kt pt] (.Tuple vs k2 pt2) env = pure (some [x, y, z]) := by
  unfold vsOk at hv
  simp only [Bool.and_eq_true, Bool.not_eq_true'] at hv
  obtain ⟨⟨h1, h2⟩, h3⟩ := hv
  have hxk : env.kindOf x = some .local := hx
  have hyk : env.kindOf y = some .local := hy
  have hzk : env.kindOf z = some .local := hz
  unfold swappedStores
  simp only [any_stard, h1, h2, h3, hn, kind_fn hk]
  have hp' : py.line = px.line := by simpa using hp
  have hp2' : pz.line = px.line := by simpa using hp2
  have hyx : (y == x) = false := by simpa using fun e => hxy e.symm
  have hzx : (z == x) = false := by simpa using fun e => hxz e.symm
  have hzy : (z == y) = false := by simpa using fun e => hyz e.symm
  simp [hxk, hyk, hzk, hp', hp2', Expr.pos, List.eraseDups, List.eraseDupsBy, List.eraseDupsBy.loop, hyx, hzx, hzy, pure_bind]
  intro e he hs
  exact absurd (show stard e = true by cases e <;> first | rfl | cases hs) (by simpa using List.any_eq_false.mp h1 e he)
/-- a target that is no plain local name -/
def notLoc (sc : Scope) : Expr → Bool
  | .Name x _ => match sc.names.lookup x with
    | some .local => false
    | _ => true
  | _ => true
theorem filterMap_short {α β : Type} (f : α → Option β) : ∀ (l : List α), (∃ x ∈ l, f x = none) → (l.filterMap f).length < l.length
  | [], h => by obtain ⟨x, hx, _⟩ := h; cases hx
  | x :: r, h => by
    by_cases hx : f x = none
    · rw [List.filterMap_cons_none hx]
      exact Nat.lt_succ_of_le (List.length_filterMap_le f r)
    · obtain ⟨y, hy, e⟩ := h
      rcases List.mem_cons.mp hy with rfl | hy
      · exact absurd e hx
      · have := filterMap_short f r ⟨y, hy, e⟩
        cases q : f x with
        | none => exact absurd q hx
        | some b => rw [List.filterMap_cons_some q, List.length_cons, List.length_cons]; omega
theorem cell_swapped {e : Expr} {ts : List Expr} {env : PySem.Env} (h : ts.any (notLoc env.scope) = true) (k : Nat) (p : Pos) : swappedStores [.Tuple ts k p] e env = pure none := by
  cases e <;> first | rfl | skip
  rename_i vs k2 p2
  unfold swappedStores
  simp only
  split
  · rfl
  · split
    · rfl
    · split
      · rfl
      · rename_i hc
        exfalso
        apply hc
        rw [Bool.or_eq_true]
        left
        have := filterMap_short (fun (e : Expr) => match e with
          | .Name id pos => if env.kindOf id == some .local && pos.line == (ts.head?.map (·.pos.line)).getD 0 then some id else none
          | _ => none) ts (by
            obtain ⟨x, hx, hn⟩ := List.any_eq_true.mp h
            refine ⟨x, hx, ?_⟩
            cases x <;> first | rfl | skip
            rename_i id pos
            have hk : (env.kindOf id == some .local) = false := by
              unfold Env.kindOf
              simp only [notLoc] at hn
              split at hn
              · cases hn
              · rename_i hne
                cases q : env.scope.names.lookup id with
                | none => rfl
                | some kk => cases kk <;> first | (exact absurd q hne) | rfl
            simp [hk])
        simp only [bne_iff_ne]
        exact Nat.ne_of_lt this
section
variable {cls : Str → Addr} {W : WX} {n : Nat} {P F0 H0 : Hp} {X : Cx} {o o1 o2 : Own} {G : Env}
theorem s_unpG {es : List Expr} {is : List Nat} {k : Nat} {e : Expr} {tp pos : Pos} {f : S → R D} (hc : X.calm = true) (hN : X.N.Nodup) (hn : NamesAt X es is) (h1 : swappedStores [.Tuple es k tp] e X.env = pure none) (h2 : noComp e = true) (he : PE X e (tE X.K cls W o .cl f)) :
    PS X (.Assign [.Tuple es k tp] e pos) (tS X.K cls W n P F0 H0 o (dropAll o is) fun s => (f s).go fun d => unpQ is s d) :=
  ps_imp (ps_asg he (pg_tup hc (pgs_names hN hn) (names_len hn).1 (names_len hn).2) (show swapsWith e (some (.Tuple es k tp)) pos.line X.env = pure false from no_swap h2 _ _ _) h1 rfl) fun E sg H q => by
    obtain ⟨F, s, ps, A, hl, fr, q⟩ := q
    refine st_e (g := fun s d => unpQ is s d) A hl fr q fun d v F' H' _ A' x' fr' r q1 => ?_
    cases d with
    | tuple ds =>
      have r : Dr X.K F' v (.tuple ds) := r
      cases r with
      | @tup a vs _ hq da =>
        have hlen : ds.length = is.length := unpL_len (s := s) fun e => by
          have q1 : QOut _ _ _ _ _ _ _ _ _ (unpL is ds s) := q1
          rw [e] at q1
          exact q1
        exact ⟨a, vs, rfl, (.inl (.inl (A'.sub _ _ hq))), by rw [da.length, hlen], unp_read da A' hl fr' (by rw [da.length, hlen]) q1⟩
    | _ => exact q1.elim
/-- a, b = e1, e2 without a tuple -/
theorem s_par2 {i j : Nat} {x y : Str} {a b : Expr} {px py pt : Pos} {kt k2 pt2} {pos : Pos} {ls : List Lv} {f : S → R (List D)} (hc : X.calm = true) (hN : X.N.Nodup) (hi : X.N[i]? = some x) (hj : X.N[j]? = some y) (hij : i ≠ j)
    (hx : X.env.scope.names.lookup x = some .local) (hy : X.env.scope.names.lookup y = some .local) (hw : swappedStores [.Tuple [.Name x px, .Name y py] kt pt] (.Tuple [a, b] k2 pt2) X.env = pure (some [x, y]))
    (hls : ∀ l ∈ ls, l = .cl) (ha : PA X [a, b] (tAs X.K cls W o ls f)) :
    PS X (.Assign [.Tuple [.Name x px, .Name y py] kt pt] (.Tuple [a, b] k2 pt2) pos) (tS X.K cls W n P F0 H0 o (dropAll o [i, j]) fun s => ((f s).bind fun xs => .ok (.tuple xs)).go fun d => unpQ [i, j] s d) :=
  ps_imp (ps_par hc hN hi hj hij hx hy ha hw) fun E sg H q => by
    obtain ⟨F, s, ps, A, hl, fr, q⟩ := q
    refine ⟨F, s, ps, A, ?_⟩
    have q' : QOut X.K cls W n P F0 H0 (dropAll o [i, j]) E ((f s).go fun xs => unpQ [i, j] s (.tuple xs)) := by
      have q : QOut X.K cls W n P F0 H0 (dropAll o [i, j]) E (((f s).bind fun xs => .ok (.tuple xs)).go fun d => unpQ [i, j] s d) := q
      cases e : f s <;> rw [e] at q <;> exact q
    refine (q'.go hl fr.hh).imp fun ds _ q1 vs F1 H1 E1 R1 => ?_
    have da := R1.clean hls
    have q1 : QOut _ _ _ _ _ _ _ _ _ (unpL [i, j] ds s) := q1
    have hlen : ds.length = 2 := unpL_len (is := [i, j]) (s := s) fun e => by rw [e] at q1; exact q1
    match ds, vs, da, hlen with
    | [d1, d2], _, .cons (v := v1) r1 (.cons (v := v2) r2 .nil), _ =>
      exact ⟨v1, v2, rfl, q1 _ F1 H1 ps (((A.mono E1).setF r1).setF r2) (by simp [hl]) (fr.ext E1)⟩
theorem s_par3 {i j l : Nat} {x y z : Str} {a b c : Expr} {px py pz pt : Pos} {kt k2 pt2} {pos : Pos} {ls : List Lv} {f : S → R (List D)} (hc : X.calm = true) (hN : X.N.Nodup) (hi : X.N[i]? = some x) (hj : X.N[j]? = some y) (hl : X.N[l]? = some z) (hij : i ≠ j) (hil : i ≠ l) (hjl : j ≠ l)
    (hx : X.env.scope.names.lookup x = some .local) (hy : X.env.scope.names.lookup y = some .local) (hz : X.env.scope.names.lookup z = some .local) (hw : swappedStores [.Tuple [.Name x px, .Name y py, .Name z pz] kt pt] (.Tuple [a, b, c] k2 pt2) X.env = pure (some [x, y, z]))
    (hls : ∀ l ∈ ls, l = .cl) (ha : PA X [a, b, c] (tAs X.K cls W o ls f)) :
    PS X (.Assign [.Tuple [.Name x px, .Name y py, .Name z pz] kt pt] (.Tuple [a, b, c] k2 pt2) pos) (tS X.K cls W n P F0 H0 o (dropAll o [i, j, l]) fun s => ((f s).bind fun xs => .ok (.tuple xs)).go fun d => unpQ [i, j, l] s d) :=
  ps_imp (ps_par3 hc hN hi hj hl hij hil hjl hx hy hz ha hw) fun E sg H q => by
    obtain ⟨F, s, ps, A, hl, fr, q⟩ := q
    refine ⟨F, s, ps, A, ?_⟩
    have q' : QOut X.K cls W n P F0 H0 (dropAll o [i, j, l]) E ((f s).go fun xs => unpQ [i, j, l] s (.tuple xs)) := by
      have q : QOut X.K cls W n P F0 H0 (dropAll o [i, j, l]) E (((f s).bind fun xs => .ok (.tuple xs)).go fun d => unpQ [i, j, l] s d) := q
      cases e : f s <;> rw [e] at q <;> exact q
    refine (q'.go hl fr.hh).imp fun ds _ q1 vs F1 H1 E1 R1 => ?_
    have da := R1.clean hls
    have q1 : QOut _ _ _ _ _ _ _ _ _ (unpL [i, j, l] ds s) := q1
    have hlen : ds.length = 3 := unpL_len (is := [i, j, l]) (s := s) fun e => by rw [e] at q1; exact q1
    match ds, vs, da, hlen with
    | [d1, d2, d3], _, .cons (v := v1) r1 (.cons (v := v2) r2 (.cons (v := v3) r3 .nil)), _ =>
      exact ⟨v1, v2, v3, rfl, q1 _ F1 H1 ps ((((A.mono E1).setF r1).setF r2).setF r3) (by simp [hl]) (fr.ext E1)⟩
def st2Q (i : Nat) (g g2 : S → R D) (s : S) (d : D) : Q := match d with
  | .tuple [v, w] => (getV s i).go fun y => (g s).go fun z => (putD y z v).go fun u => (g2 (s.set i (some u))).go fun z2 => (putD u z2 w).go fun u2 => .nx (s.set i (some u2))
  | _ => .bad
theorem st2_pair {K : PySem.W.Frag} {F : Hp} {vs : List V} {ds : List D} {i : Nat} {g g2 : S → R D} {s : S} (da : DrAll K F vs ds) (h : st2Q i g g2 s (.tuple ds) ≠ .bad) : ∃ v1 v2 d1 d2, vs = [v1, v2] ∧ ds = [d1, d2] ∧ Dr K F v1 d1 ∧ Dr K F v2 d2 := by
  cases da with
  | nil => exact absurd rfl h
  | cons r1 da =>
    cases da with
    | nil => exact absurd rfl h
    | cons r2 da =>
      cases da with
      | nil => exact ⟨_, _, _, _, rfl, rfl, r1, r2⟩
      | cons r3 da => exact absurd rfl h
/-- xs[k], xs[l] = a, b, xs an owned list -/
theorem s_st2 {i : Nat} {x : Str} {k l a b : Expr} {p p' sp sp' pt pos : Pos} {kt k2 : Nat} {pt2 : Pos} {f g g2 : S → R D} {lk ll : Lv} (hcm : X.calm = true) (hi : X.N[i]? = some x) (hv : Vis X.env.scope x) (hd : (x == ("__debug__" : Str)) = false) (hc : (x == ("__classdict__" : Str)) = false) (io : i ∈ o.l)
    (hk : noSlice k = true) (hkl : noSlice l = true) (pk : PE X k (tE X.K cls W o lk g)) (pl : PE X l (tE X.K cls W o ll g2)) (he : PE X (.Tuple [a, b] k2 pt2) (tE X.K cls W o .cl f)) :
    PS X (.Assign [.Tuple [.Subscript (.Name x p) k sp, .Subscript (.Name x p') l sp'] kt pt] (.Tuple [a, b] k2 pt2) pos) (tS X.K cls W n P F0 H0 o o fun s => (f s).go fun d => st2Q i g g2 s d) := by
  refine ps_imp (ps_asg he (pg_tup hcm (pgs_cons (pg_sub (pe_var hi hv hd hc) pk set_list (plain_sub hk)) (pgs_cons (pg_sub (pe_var hi hv hd hc) pl set_list (plain_sub hkl)) pgs_nil)) rfl rfl) (by rfl) (sub_swapped _ _ _) rfl) fun E sg H q => ?_
  obtain ⟨F, s, ps, A, hl, fr, q⟩ := q
  refine st_e (g := fun s d => st2Q i g g2 s d) A hl fr q fun d v F1 H1 _ A1 x1 fr1 r q1 => ?_
  cases d with
  | tuple ds =>
    have r : Dr X.K F1 v (.tuple ds) := r
    cases r with
    | @tup aa vs _ hq da =>
      obtain ⟨v1, v2, d1, d2, rfl, rfl, r1, r2⟩ := st2_pair (i := i) (g := g) (g2 := g2) (s := s) da fun e => by rw [e] at q1; exact q1
      · refine ⟨aa, [v1, v2], rfl, (.inl (.inl (A1.sub _ _ hq))), rfl, v1, [v2], rfl, ?_⟩
        have q1 : QOut X.K cls W n P F0 H0 o E ((getV s i).go fun y => (g s).go fun z => (putD y z d1).go fun u => (g2 (s.set i (some u))).go fun z2 => (putD u z2 d2).go fun u2 => .nx (s.set i (some u2))) := q1
        obtain ⟨y, hy, q2⟩ := (QOut.go (sg := sg) (H := H1) (r := getV s i) q1 hl fr1.hh).get (getV_noex s i)
        have gy := getV_get hy
        obtain ⟨pp, us, es, ei, hp, rfl, eh, rd⟩ := A1.ol i y gy io
        refine ⟨.ref pp, ei, ?_⟩
        refine st_e (g := fun s z => (putD (.list es) z d1).go fun u => (g2 (s.set i (some u))).go fun z2 => (putD u z2 d2).go fun u2 => .nx (s.set i (some u2))) A1 hl fr1 q2 fun z w F2 H2 _ A2 x2 fr2 rz q3 => ?_
        obtain ⟨u, hu, q4⟩ := (QOut.go (sg := sg) (H := H2) (r := putD (.list es) z d1) q3 hl fr2.hh).get (putD_noex _ _ _)
        cases z with
        | int jj =>
          simp only [putD] at hu
          split at hu
          · rename_i m hm
            cases hu
            obtain ⟨p', us', es', ei', hp', ed', eh', rd'⟩ := A2.ol i _ gy io
            rw [ei] at ei'
            cases ei'
            cases ed'
            refine ⟨pp, us', jj, m, rfl, res_int rz, eh', by rw [rd'.length]; exact hm, ?_⟩
            have A3 := A2.chgL gy io ei (rd'.set (dr_mono x2.ff r1) m)
            have fr3 := fr_chg (ob := .lst (us'.set m v1)) fr2 hp
            refine ⟨v2, [], rfl, ?_⟩
            refine ⟨.ref pp, ei, ?_⟩
            refine st_e (s := s.set i (some (.list (es.set m d1)))) (g := fun s' z2 => (putD (.list (es.set m d1)) z2 d2).go fun u2 => .nx (s.set i (some u2))) A3 hl fr3 q4 fun z2 w2 F4 H4 _ A4 x4 fr4 rz2 q5 => ?_
            obtain ⟨u2, hu2, q6⟩ := (QOut.go (sg := sg) (H := H4) (r := putD (.list (es.set m d1)) z2 d2) q5 hl fr4.hh).get (putD_noex _ _ _)
            cases z2 with
            | int j2 =>
              simp only [putD] at hu2
              split at hu2
              · rename_i m2 hm2
                cases hu2
                have gy2 : (s.set i (some (PyData.list (es.set m d1))))[i]? = some (some (.list (es.set m d1))) := by
                  have hlt : i < s.length := by
                    rcases Nat.lt_or_ge i s.length with h | h
                    · exact h
                    · rw [List.getElem?_eq_none h] at gy; cases gy
                  simp [hlt]
                obtain ⟨p'', us'', es'', ei'', hp'', ed'', eh'', rd''⟩ := A4.ol i _ gy2 io
                rw [ei] at ei''
                cases ei''
                cases ed''
                refine ⟨pp, us'', j2, m2, rfl, res_int rz2, eh'', by rw [rd''.length]; exact hm2, ?_⟩
                have A5 := A4.chgL gy2 io ei (rd''.set (dr_mono x4.ff (dr_mono x2.ff r2)) m2)
                rw [List.set_set] at A5
                exact ⟨rfl, q6 sg F4 _ ps A5 hl (fr_chg fr4 hp)⟩
              · cases hu2
            | _ => cases hu2
          · cases hu
        | _ => cases hu
  | _ => exact q1.elim
end
end Rr

set_option linter.all false
set_option Elab.async false
set_option maxRecDepth 100000
set_option maxHeartbeats 1000000
/-! list(range(n)), xs.index(y), t[::k], a pair of stores with a new list. -/
namespace Rr
open PySem PySem.Spec PyProof.Rows L2
theorem drAll_rg {K : PySem.W.Frag} {F : Hp} : ∀ (n : Nat) (a : Int), DrAll K F ((List.range n).map fun i => V.int (a + (i : Nat))) ((List.range n).map fun (k : Nat) => PyData.int (a + (k : Int)))
  | 0, _ => .nil
  | n + 1, a => by
    rw [List.range_succ_eq_map, List.map_cons, List.map_cons, List.map_map, List.map_map]
    refine .cons (.int _) ?_
    have h := drAll_rg (K := K) (F := F) n (a + 1)
    have e1 : ((List.range n).map fun i => V.int (a + 1 + (i : Nat))) = (List.range n).map ((fun i : Nat => V.int (a + (i : Nat))) ∘ Nat.succ) := List.map_congr_left fun k _ => by
      simp only [Function.comp]; congr 1; omega
    have e2 : ((List.range n).map fun (k : Nat) => PyData.int (a + 1 + (k : Int))) = (List.range n).map ((fun (k : Nat) => PyData.int (a + (k : Int))) ∘ Nat.succ) := List.map_congr_left fun k _ => by
      simp only [Function.comp]; congr 1; omega
    rw [e1, e2] at h
    exact h
section
variable {cls : Str → Addr} {W : WX} {n : Nat} {P F0 H0 : Hp} {X : Cx} {o o1 o2 : Own} {G : Env}
theorem j_listRg {a : Expr} {p p2 pos pos2 : Pos} {l : Lv} {f : S → R D} (hc : X.calm = true) (hg : Gl X "list") (hm : X.mg "list" = none) (hg2 : Gl X "range") (hm2 : X.mg "range" = none) (hp : plainA a = true) (ha : PE X a (tE X.K cls W o l f)) :
    PE X (.Call (.Name "list" p) [.Call (.Name "range" p2) [a] [] pos2] [] pos) (tE X.K cls W o .cl fun s => (f s).bind fun x => biD .listRange [x]) :=
  pe_imp (pe_listRg hc hg hm (prg_1 hg2 hm2 ha (star_plain hp _ _)) rfl) fun sg H Q q => by
    obtain ⟨F, s, ps, A, q⟩ := q
    refine ⟨F, s, ps, A, q.bind.imp fun d _ q1 v F1 H1 E1 R1 => ?_⟩
    obtain ⟨z, hz, k⟩ := q1.get (biD_noex .listRange [d])
    cases d with
    | int j =>
      simp only [biD] at hz
      split at hz
      · rename_i hb
        cases hz
        refine ⟨j, res_int R1, ⟨by omega, by omega, by omega, by omega, by omega⟩, fun q hq => k _ _ _ (E1.trans (Ext.new E1.fh hq)) (dr_lstN E1.fh hq ?_)⟩
        unfold rgV rangeI
        rw [List.map_map, Int.sub_zero]
        exact drAll_rg j.toNat 0
      · cases hz
    | _ => cases hz
theorem calm_get {a : Type} {r : R a} {b : Type} {g : a → R b} {sg : L2.St} {H : Hp} {k : b → Prop} (h : Out cls W sg H (r.calm.bind g) k) : ∃ x, r = .ok x ∧ Out cls W sg H (g x) k := by
  cases r with
  | ok x => exact ⟨x, rfl, h⟩
  | ex c p => exact h.elim
  | bad => exact h.elim
theorem idxOf_ok {x : D} : ∀ {l : List D} {j : Nat}, idxOf x l = some j → ∃ z, l[j]? = some z ∧ PyData.eqv z x = true ∧ ∀ (m : Nat) (z' : D), m < j → l[m]? = some z' → PyData.eqv z' x = false
  | [], _, h => by cases h
  | y :: r, j, h => by
    unfold idxOf at h
    split at h
    · rename_i hy
      cases h
      exact ⟨y, rfl, hy, fun m z' hm => by omega⟩
    · rename_i hy
      cases q : idxOf x r with
      | none => rw [q] at h; cases h
      | some i =>
        rw [q] at h
        cases h
        obtain ⟨z, h1, h2, h3⟩ := idxOf_ok q
        refine ⟨z, by simpa using h1, h2, fun m z' hm e => ?_⟩
        cases m with
        | zero => cases e; simpa using hy
        | succ m => exact h3 m z' (by have : m + 1 < i + 1 := hm; omega) (by simpa using e)
theorem j_index {e a : Expr} {apos cpos : Pos} {la lb : Lv} {f g : S → R D} (hu : X.A.units + 65 < cLine) (hla : la.fine = true) (hlb : lb ≠ .dd) (hp : plainA a = true) (hb : noCall0 e = true) (hline : (apos.endLine == cpos.line) = true) (he : PE X e (tE X.K cls W o la f)) (ha : PE X a (tE X.K cls W o lb g)) :
    PE X (.Call (.Attribute e "index" apos) [a] [] cpos) (tE X.K cls W o .cl fun s => (f s).bind fun x => (g s).calm.bind fun y => mtD .index x y) := by
  refine pe_imp (pe_bm PySem.F.plainAttrs_list PySem.F.slot_list_index PySem.F.type_list_index (mt_indexD hu) he (j_cons hp ha j_nil) (no_base hb _ _ _) (few_one hp) hline (star_plain hp _ _) rfl) fun sg H Q q => ?_
  obtain ⟨F, s, ps, A, q⟩ := q
  refine ⟨F, s, ps, A, q.bind.imp fun d _ q1 v F1 H1 E1 R1 => ?_⟩
  obtain ⟨y, hy, q2⟩ := calm_get q1
  cases d with
  | list l =>
    have q2 : Out cls W sg H (if shp 8 y && shp 8 (.list l) then (R.ofOpt (idxOf y l)).bind fun n => R.ok (PyData.int n) else .bad) _ := q2
    split at q2
    · rename_i hs
      rw [Bool.and_eq_true] at hs
      cases hi : idxOf y l with
      | none => rw [hi] at q2; exact q2.elim
      | some j =>
        rw [hi] at q2
        obtain ⟨vs, ds, rfl, eh, rd⟩ := res_list hla E1.fh R1
        have A1 := A.mono E1
        refine ⟨.inl ⟨rfl, ds, .inl (.inl eh)⟩, F1, s, ps, A1, ?_⟩
        dsimp only
        rw [hy]
        intro ws F2 H2 E2 R2
        obtain ⟨w, y', rfl, hyy, r2⟩ := res1 R2
        cases hyy
        obtain ⟨z, h1, h2, h3⟩ := idxOf_ok hi
        have R1' := R1.mono E2
        refine ⟨vs, w, y, l, j, z, rfl, rfl, dr_dp (res_any (out_mono (A.mono E1).out E2) E2.fh (by intro q; rw [q] at hla; cases hla) R1') hs.2, dr_dp (res_any (out_mono (A.mono E1).out E2) E2.fh hlb r2) hs.1, shp_shaped hs.2, shp_shaped hs.1, h1, h2, h3, ?_⟩
        exact q2 _ F2 H2 (E1.trans E2) (.int _)
    · exact q2.elim
  | _ => exact q2.elim
/-! ### every k-th item -/
theorem plc_pos (k n : Nat) (hk : 1 ≤ k) : plcN (k : Int) n = (0, (n + k - 1) / k) := by
  have e1 : (plcN (k : Int) n).1 = 0 := by
    show (Builtin.Slice.sliceAdjust none none (k : Int) (n : Int)).1 = 0
    unfold Builtin.Slice.sliceAdjust
    simp
    omega
  have e2 : (plcN (k : Int) n).2 = (n + k - 1) / k := by
    show Builtin.Slice.slicePlaces (Builtin.Slice.sliceAdjust none none (k : Int) (n : Int)).1 (Builtin.Slice.sliceAdjust none none (k : Int) (n : Int)).2 (k : Int) = _
    unfold Builtin.Slice.sliceAdjust Builtin.Slice.slicePlaces
    have hk0 : ¬ ((k : Int) < 0) := by omega
    have hkp : 0 < k := by omega
    simp [hk0, hkp]
    rcases Nat.eq_zero_or_pos n with h0 | h0
    · subst h0
      simp
      exact (Nat.div_eq_of_lt (by omega)).symm
    · rw [if_pos h0]
      have e3 : ((n : Int) - 1) / (k : Int) = ((n - 1) / k : Nat) := by
        rw [show (n : Int) - 1 = ((n - 1 : Nat) : Int) by omega]; rfl
      rw [e3, show n + k - 1 = n - 1 + k by omega, Nat.add_div_right _ hkp]
      generalize (n - 1) / k = z
      omega
  exact Prod.ext e1 e2
theorem pick_pos {a : Type} (k : Nat) (hk : 1 ≤ k) (xs : List a) : pick (k : Int) xs = (List.range ((xs.length + k - 1) / k)).filterMap fun (j : Nat) => xs[j * k]? := by
  unfold pick
  rw [plc_pos k _ hk]
  refine congrArg (fun f => List.filterMap f _) (funext fun j => ?_)
  have : (0 + (j : Int) * (k : Int)).toNat = j * k := by
    rw [Int.zero_add, ← Int.natCast_mul, Int.toNat_natCast]
  show xs[(0 + (j : Int) * (k : Int)).toNat]? = _
  rw [this]
theorem range_all {a : Type} : ∀ (l : List a), (List.range l.length).filterMap (fun (j : Nat) => l[j]?) = l
  | [] => rfl
  | x :: r => by
    rw [List.length_cons, List.range_succ_eq_map, List.filterMap_cons]
    show x :: List.filterMap _ (List.map Nat.succ (List.range r.length)) = _
    rw [List.filterMap_map]
    congr 1
    exact range_all r
theorem stpD_noex (x : D) (i : Int) : ∀ c p, stpD x i ≠ .ex c p := by
  intro c p h
  unfold stpD at h
  split at h
  · split at h <;> cases h
  · cases h
theorem j_stp {e st : Expr} {p3 pos : Pos} {la lk : Lv} {f g : S → R D} (hl : la.fine = true) (ha : PE X e (tE X.K cls W o la f)) (hk : PE X st (tE X.K cls W o lk g)) :
    PE X (.Subscript e (.Slice none none (some st) p3) pos) (tE X.K cls W o .cl fun s => (f s).bind fun x => (g s).bind fun y => (intD y).bind fun i => stpD x i) := by
  refine pe_imp (pe_stp ha hk) fun sg H Q q => ?_
  obtain ⟨F, s, ps, A, q⟩ := q
  refine ⟨F, s, ps, A, q.bind.imp fun d _ q1 v F1 H1 E1 R1 => ?_⟩
  refine part (g := fun s i => stpD d i) (A.mono E1) (q1.shift E1.hh) fun i F2 H2 E2 q2 => ?_
  obtain ⟨z, hz, k⟩ := q2.get (stpD_noex d i)
  cases d with
  | tuple l =>
    simp only [stpD] at hz
    split at hz
    · rename_i hb
      cases hz
      obtain ⟨j, rfl⟩ : ∃ j : Nat, i = j := ⟨i.toNat, by omega⟩
      obtain ⟨a, vs, rfl, ha, da, fa⟩ := res_tup hl E2.fh (R1.mono E2)
      have hj : 1 ≤ j := by omega
      have hlen := da.length
      refine ⟨j, rfl, by omega, .inr ⟨a, vs, rfl, ha, ?_, fun hw => ?_, fun hw p hp => ?_⟩⟩
      · rw [plc_pos j _ hj]
        show (vs.length + j - 1) / j ≤ vs.length
        rcases Nat.eq_zero_or_pos vs.length with h0 | h0
        · rw [h0]
          rw [Nat.div_eq_of_lt (by omega)]; omega
        · refine Nat.div_le_of_le_mul ?_
          have : vs.length ≤ j * vs.length := Nat.le_mul_of_pos_left _ hj
          have : j * vs.length = (j - 1) * vs.length + vs.length := by
            obtain ⟨m, rfl⟩ : ∃ m, j = m + 1 := ⟨j - 1, by omega⟩
            rw [Nat.add_sub_cancel, Nat.add_mul, Nat.one_mul]
          have : j - 1 ≤ (j - 1) * vs.length := Nat.le_mul_of_pos_right _ h0
          omega
      · -- step 1: the tuple itself
        unfold whole at hw
        rw [Bool.and_eq_true, Bool.and_eq_true] at hw
        have hj1 : j = 1 := by have := hw.1.2; simp at this; omega
        subst hj1
        have e0 : every ((1 : Nat) : Int).toNat l = l := by
          unfold every
          show (List.range ((l.length + 1 - 1) / 1)).filterMap (fun (j : Nat) => l[j * 1]?) = l
          simp only [Nat.add_sub_cancel, Nat.div_one, Nat.mul_one]
          exact range_all l
        rw [e0] at k
        exact k _ _ _ ((E1.trans E2).trans (Ext.refl E2.fh)) (.tup fa da)
      · have hp2 := drAll_pick (c := (j : Int)) da
        rw [pick_pos j hj l] at hp2
        rw [Int.toNat_natCast] at k
        exact k _ _ _ ((E1.trans E2).trans (Ext.new E2.fh hp)) (dr_tupN E2.fh hp hp2)
    · cases hz
  | _ => cases hz

/-! ### a pair of stores, one of a new list -/
theorem s_paro {i j : Nat} {x y : Str} {a : Expr} {pl px py pt : Pos} {kt k2 pt2} {pos : Pos} {f : S → R D} (hc : X.calm = true) (hN : X.N.Nodup) (hi : X.N[i]? = some x) (hj : X.N[j]? = some y) (hij : i ≠ j)
    (hx : X.env.scope.names.lookup x = some .local) (hy : X.env.scope.names.lookup y = some .local) (hw : swappedStores [.Tuple [.Name x px, .Name y py] kt pt] (.Tuple [a, .List [] pl] k2 pt2) X.env = pure (some [x, y]))
    (hp : plainA a = true) (ha : PE X a (tE X.K cls W o .cl f)) :
    PS X (.Assign [.Tuple [.Name x px, .Name y py] kt pt] (.Tuple [a, .List [] pl] k2 pt2) pos) (tS X.K cls W n P F0 H0 o ((o.drop i).addL j) fun s => (f s).go fun d => .nx ((s.set i (some d)).set j (some (.list [])))) :=
  ps_imp (ps_par hc hN hi hj hij hx hy (pa_cons ha (pa_cons (pe_lst pa_nil) pa_nil) (star_plain hp _ _)) hw) fun E sg H q => by
    obtain ⟨F, s, ps, A, hl, fr, q⟩ := q
    refine st_e (g := fun s d => .nx ((s.set i (some d)).set j (some (.list [])))) A hl fr q fun d v F' H' _ A' x' fr' r q1 => ?_
    refine ⟨by simp, fun p hp => ⟨v, .ref p, rfl, ?_⟩⟩
    obtain ⟨e1, e2, e3⟩ := fresh_new (vs := []) A'.sub hp
    have np : p ∉ ps := fun hq => by
      obtain ⟨_, u, hu, _⟩ := A'.out p hq
      rw [hp] at hu; cases hu
    have A2 := (A'.mono e1).setF (i := i) r
    have fr2 := fr'.ext e1
    refine q1 _ F' _ (p :: ps) (A2.setL np e2 e3 .nil) (by simp [hl]) ⟨fr2.pf, fr2.hh, fr2.ff, fr2.nw, fun z hz => ?_, fun q hq => by
      rcases List.mem_cons.mp hq with rfl | hq
      · exact ⟨_, e3, rfl⟩
      · exact fr2.uf q hq⟩
    rcases List.mem_cons.mp hz with rfl | hz
    · exact fr'.hh.free hp
    · exact fr'.pn z hz
theorem s_parw {i j : Nat} {x y : Str} {a : Expr} {pl px py pt : Pos} {kt k2 pt2} {pos : Pos} {f : S → R D} (hc : X.calm = true) (hN : X.N.Nodup) (hi : X.N[i]? = some x) (hj : X.N[j]? = some y) (hij : j ≠ i)
    (hx : X.env.scope.names.lookup x = some .local) (hy : X.env.scope.names.lookup y = some .local) (hw : swappedStores [.Tuple [.Name y py, .Name x px] kt pt] (.Tuple [.List [] pl, a] k2 pt2) X.env = pure (some [y, x]))
    (hp : plainA a = true) (ha : PE X a (tE X.K cls W o .cl f)) :
    PS X (.Assign [.Tuple [.Name y py, .Name x px] kt pt] (.Tuple [.List [] pl, a] k2 pt2) pos) (tS X.K cls W n P F0 H0 o ((o.drop i).addL j) fun s => (f s).go fun d => .nx ((s.set i (some d)).set j (some (.list [])))) :=
  ps_imp (ps_par hc hN hj hi hij hy hx (pa_cons (pe_lst pa_nil) (pa_cons ha pa_nil (star_plain hp _ _))) hw) fun E sg H q => by
    obtain ⟨F, s, ps, A, hl, fr, q⟩ := q
    refine ⟨by simp, fun p hp => ?_⟩
    obtain ⟨e1, e2, e3⟩ := fresh_new (vs := []) A.sub hp
    have np : p ∉ ps := fun hq => by
      obtain ⟨_, u, hu, _⟩ := A.out p hq
      rw [hp] at hu; cases hu
    have A1 := A.mono e1
    have fr1 := fr.ext e1
    have q' : QOut X.K cls W n P F0 H0 ((o.drop i).addL j) E ((f s).go fun d => .nx ((s.set i (some d)).set j (some (.list [])))) := q
    refine ⟨F, s, ps, A1, ((q'.go hl fr.hh).shift e1.hh).imp fun d _ q1 v F' H' x' r => ?_⟩
    refine ⟨.ref p, v, rfl, ?_⟩
    have A2 := A1.mono x'
    have hF' : F' p = none := by
      cases q2 : F' p with
      | none => rfl
      | some u =>
        rcases x'.nw p u q2 with h | h
        · rw [e2] at h; cases h
        · exact (h.no e3 rfl).elim
    have hH' : H' p = some (.lst []) := x'.hh _ _ e3
    have A3 := (A2.setF (i := i) r).setL (i := j) np hF' hH' .nil
    have fr2 := fr1.ext x'
    rw [List.set_comm _ _ (fun e => hij e.symm)] at A3
    refine q1 _ F' _ (p :: ps) A3 (by simp [hl]) ⟨fr2.pf, fr2.hh, fr2.ff, fr2.nw, fun z hz => ?_, fun q hq => by
      rcases List.mem_cons.mp hq with rfl | hq
      · exact ⟨_, hH', rfl⟩
      · exact fr2.uf q hq⟩
    rcases List.mem_cons.mp hz with rfl | hz
    · exact fr.hh.free hp
    · exact fr.pn z hz
end
end Rr

set_option linter.all false
set_option Elab.async false
set_option maxRecDepth 100000
set_option maxHeartbeats 4000000
/-! sorted of tuples of ints, any number of them. -/
namespace Rr
open PySem PySem.Spec PyProof.Rows L2

/-! ### the order of tuples -/
theorem ltL_asym : ∀ {a b : List Int}, ltL a b = true → ltL b a = false
  | [], [], h => by simp [ltL] at h
  | [], _ :: _, _ => rfl
  | _ :: _, [], h => by simp [ltL] at h
  | a :: x, b :: y, h => by
    unfold ltL at h ⊢
    by_cases e : a = b
    · rw [if_pos e] at h
      rw [if_pos e.symm]
      exact ltL_asym h
    · rw [if_neg e] at h
      rw [if_neg (fun z => e z.symm)]
      have := of_decide_eq_true h
      exact decide_eq_false (by omega)
theorem ltL_tr : ∀ {a b c : List Int}, ltL b a = false → ltL c b = false → ltL c a = false
  | [], [], [], _, _ => rfl
  | [], [], _ :: _, _, h => rfl
  | [], _ :: _, [], _, h => by simp [ltL] at h
  | [], _ :: _, _ :: _, _, _ => rfl
  | _ :: _, [], _, h, _ => by simp [ltL] at h
  | _ :: _, _ :: _, [], _, h => by simp [ltL] at h
  | a :: x, b :: y, c :: z, h1, h2 => by
    unfold ltL at h1 h2 ⊢
    by_cases e : b = a
    · rw [if_pos e] at h1
      by_cases f : c = b
      · rw [if_pos f] at h2
        rw [if_pos (f.trans e)]
        exact ltL_tr h1 h2
      · rw [if_neg f] at h2
        rw [if_neg (fun q => f (q.trans e.symm))]
        have := of_decide_eq_false h2
        exact decide_eq_false (by omega)
    · rw [if_neg e] at h1
      have k1 := of_decide_eq_false h1
      by_cases f : c = b
      · rw [if_neg (fun q => e (f.symm.trans q))]
        exact decide_eq_false (by omega)
      · rw [if_neg f] at h2
        have k2 := of_decide_eq_false h2
        rw [if_neg (by omega)]
        exact decide_eq_false (by omega)
theorem ltL_eq : ∀ {a b : List Int}, ltL a b = false → ltL b a = false → a = b
  | [], [], _, _ => rfl
  | [], _ :: _, h, _ => by simp [ltL] at h
  | _ :: _, [], _, h => by simp [ltL] at h
  | a :: x, b :: y, h1, h2 => by
    unfold ltL at h1 h2
    by_cases e : a = b
    · rw [if_pos e] at h1
      rw [if_pos e.symm] at h2
      rw [e, ltL_eq h1 h2]
    · rw [if_neg e] at h1
      rw [if_neg (fun z => e z.symm)] at h2
      have k1 := of_decide_eq_false h1
      have k2 := of_decide_eq_false h2
      omega
theorem swoL {a : Type} (k : a → List Int) : SrtO.Swo fun x y => ltL (k x) (k y) := ⟨fun _ _ h => ltL_asym h, fun _ _ _ h1 h2 => ltL_tr h1 h2⟩
/-- two ascending lists of the same are one -/
theorem srt_uniq : ∀ {l m : List (List Int)}, l.Perm m → l.Pairwise (fun x y => ltL y x = false) → m.Pairwise (fun x y => ltL y x = false) → l = m
  | [], m, p, _, _ => (List.Perm.eq_nil p.symm).symm
  | x :: l, [], p, _, _ => absurd p.length_eq (by simp)
  | x :: l, y :: m, p, hl, hm => by
    obtain ⟨h1, h2⟩ := List.pairwise_cons.mp hl
    obtain ⟨h3, h4⟩ := List.pairwise_cons.mp hm
    have rf : ∀ z, ltL z z = false := fun z => by
      cases e : ltL z z with
      | false => rfl
      | true => exact e.symm.trans (ltL_asym e)
    have e1 : ltL x y = false := by
      rcases List.mem_cons.mp (p.mem_iff.mp (List.mem_cons_self (a := x) (l := l))) with e | h
      · rw [e]; exact rf y
      · exact h3 x h
    have e2 : ltL y x = false := by
      rcases List.mem_cons.mp (p.mem_iff.mpr (List.mem_cons_self (a := y) (l := m))) with e | h
      · rw [e]; exact rf x
      · exact h1 y h
    have e := ltL_eq e1 e2
    subst e
    rw [srt_uniq p.cons_inv h2 h4]
theorem lexLe_total (a b : List Int) : (lexLe a b || lexLe b a) = true := by
  unfold lexLe
  cases e : ltL b a with
  | false => rfl
  | true => rw [ltL_asym e]; rfl
theorem lexLe_trans (a b c : List Int) (h1 : lexLe a b = true) (h2 : lexLe b c = true) : lexLe a c = true := by
  unfold lexLe at *
  have k1 : ltL b a = false := by simpa using h1
  have k2 : ltL c b = false := by simpa using h2
  rw [ltL_tr k1 k2]; rfl
theorem sortT_perm (ks : List (List Int)) : (sortT ks).Perm ks := List.mergeSort_perm ks lexLe
theorem sortT_srt (ks : List (List Int)) : (sortT ks).Pairwise (fun x y => ltL y x = false) := by
  have h := List.pairwise_mergeSort (le := lexLe) lexLe_trans lexLe_total ks
  exact h.imp fun {a b} q => by unfold lexLe at q; simpa using q
theorem sortT_eq {ks l : List (List Int)} (p : l.Perm ks) (h : l.Pairwise (fun x y => ltL y x = false)) : l = sortT ks := srt_uniq (p.trans (sortT_perm ks).symm) h (sortT_srt ks)

/-! ### the comparisons -/
section
variable {prog : Program} {w : World} {A : Around} {E : Value → Shared → Prop} {s : Shared} {Q : Bool → Shared → Prop}
theorem lex_ltL {b fin : Bool} {xs ys : List Value} {ns ms : List Int} (i : Nat) (hx : IntsAre xs ns) (hy : IntsAre ys ms) (hz : fin = decide (ns.length < ms.length))
    (h : Q (ltL ns ms) s) : PySem.W.KatLex prog w A b fin Q (xs.zip ys) i s := by
  induction hx generalizing ys ms i with
  | nil =>
    cases hy with
    | nil =>
      have e : fin = false := by rw [hz]; rfl
      exact PySem.W.kat_nil (by rw [e]; exact h)
    | cons q u hy =>
      have e : fin = true := by rw [hz]; simp
      exact PySem.W.kat_nil (by rw [e]; exact h)
  | @cons p t xs ns hx ih =>
    cases hy with
    | nil =>
      have e : fin = false := by rw [hz]; simp
      show PySem.W.KatLex prog w A b fin Q [] i s
      exact PySem.W.kat_nil (by rw [e]; exact h)
    | @cons q u ys ms hy =>
      show PySem.W.KatLex prog w A b fin Q ((Value.int p t, Value.int q u) :: xs.zip ys) i s
      refine PySem.W.kat_cons (wpAny_eqBool_int ?_)
      unfold ltL at h
      by_cases e : p = q
      · subst e
        rw [beq_self_eq_true]
        rw [if_pos rfl] at h
        refine PySem.W.kat_yes ?_
        exact ih (i + 1) hy (by rw [hz]; simp) h
      · rw [show (p == q) = false from beq_eq_false_iff_ne.mpr e]
        rw [if_neg e] at h
        exact PySem.W.kat_no (TS.oneLt_ints _ h)
theorem tups_cmp {vs : List Value} {k : Value → List Int} (hp : ∀ v ∈ vs, TS.TupInts s.heap v (k v)) : SrtO.Cmp prog w A s (tuples' true) (fun p => p.1 ∈ vs) (SrtO.lt2 fun v u => ltL (k v) (k u)) := by
  intro p q hm hm'
  have h1 := hp _ hm
  have h2 := hp _ hm'
  show wpAny (model prog w) A (keyLt' (tuples' true) p.1 q.1) (fun r s' => s' = s ∧ r = ltL (k p.1) (k q.1)) (fun _ _ => False) s
  generalize k p.1 = ns at h1 ⊢
  generalize k q.1 = ms at h2 ⊢
  obtain ⟨a, xs, e1, ⟨o, ho, hc, n, hdt⟩, i⟩ := h1
  obtain ⟨a', ys, e2, ⟨o', ho', hc', n', hdt'⟩, i'⟩ := h2
  rw [e1, e2]
  refine PySem.W.kat_lt ho hdt ho' hdt' (lex_ltL 0 i i' ?_ ⟨rfl, rfl⟩)
  have l1 := i.length
  have l2 := i'.length
  rw [Array.length_toList] at l1 l2
  rw [l1, l2]
theorem tups_firsts {h : Heap} {k : Value → List Int} : ∀ {vs : List Value}, (∀ v ∈ vs, TS.TupInts h v (k v) ∧ k v ≠ []) → ∃ fs, PySem.W.KatTups h vs fs ∧ fs.length = vs.length ∧ ∀ f, f ∈ fs → ∃ n t, f = Value.int n t
  | [], _ => ⟨[], PySem.W.KatTups.nil, rfl, fun f hf => by simp at hf⟩
  | v :: vs, x => by
    obtain ⟨fs, kk, hl, hi⟩ := tups_firsts (vs := vs) fun u hu => x u (List.mem_cons_of_mem _ hu)
    obtain ⟨⟨a, xs, ev, ⟨o, ho, hc, n, hdt⟩, i⟩, hn⟩ := x v (List.mem_cons_self ..)
    obtain ⟨y, ys, e⟩ : ∃ y ys, xs.toList = y :: ys := by
      cases q : xs.toList with
      | nil =>
        rw [q] at i
        have l := i.length
        rw [List.length_nil] at l
        exact absurd (List.eq_nil_of_length_eq_zero l.symm) hn
      | cons y ys => exact ⟨y, ys, rfl⟩
    obtain ⟨m, t, hy⟩ := i.all y (by rw [e]; exact List.mem_cons_self ..)
    rw [ev]
    refine ⟨y :: fs, PySem.W.KatTups.cons ho hc hdt ?_ kk, by simp [hl], ?_⟩
    · have z := congrArg (fun l : List Value => l[0]?) e
      simpa using z
    · intro f hf
      rcases List.mem_cons.mp hf with rfl | hf
      · exact ⟨m, t, hy⟩
      · exact hi f hf
theorem tups_sortable {a : Addr} {vs : List Value} {k : Value → List Int} (h0 : 0 < vs.length) (hp : ∀ v ∈ vs, TS.TupInts s.heap v (k v) ∧ k v ≠ []) (ha : ∀ o, s.heap.get? a = some o → o.cls ≠ .type "tuple") :
    SrtO.SortableO prog w A s a vs fun v u => ltL (k v) (k u) := by
  intro h' keep
  have hp' : ∀ v ∈ vs, TS.TupInts h' v (k v) ∧ k v ≠ [] := fun v hm => ⟨(hp v hm).1.keeps fun b o e c => keep b o (fun z => by subst z; exact ha o e c) e, (hp v hm).2⟩
  obtain ⟨fs, h1, h2, h3⟩ := tups_firsts hp'
  refine ⟨tuples' true, fun Q E hq => ?_, tups_cmp fun v hm => (hp' v hm).1⟩
  refine PySem.W.kat_kind (T := .type "int") h1 (by omega) (fun f hm => ?_) (by rfl) ?_
  · obtain ⟨x, t, rfl⟩ := h3 f hm
    exact PySem.W.Looks.now
  · have e : (Value.type "int" != Value.type "tuple") = true := by first | decide +kernel | rfl | decide
    rw [e]
    exact hq
end

/-! ### as a rule -/
/-- sorted(xs), xs a list of tuples of ints -/
def rSortTI (K : PySem.W.Frag) : List V → Hp → VK → Prop := fun vs H Q => ∃ (a : Addr) (xs : List V) (k : V → List Int), vs = [V.ref a] ∧ SqL K H a xs ∧ (∀ x ∈ xs, TupI K H x (k x)) ∧ (xs.length < 2 ∨ ∀ x ∈ xs, k x ≠ []) ∧
  ∀ (ys : List V) (p : Addr), ys.Perm xs → (ys.map k).Pairwise (fun x y => ltL y x = false) → H p = none → Q (.ref p) (upd H p (.lst ys))
theorem cr_sortTI {X : Cx} : CallR X (.builtin "sorted") (rSortTI X.K) := by
  intro pins s sg H vs us Q I r h
  obtain ⟨a, xs, k, rfl, hs, hx, hne, q⟩ := h
  obtain ⟨its, rv, hl, hz⟩ := I.list hs
  rw [Vals.ref1 r]
  obtain ⟨e1, e2⟩ := bkV_refs rv fun x m => by
    obtain ⟨t, e, _⟩ := hx x m
    exact ⟨t, e⟩
  have hp : ∀ v ∈ its, TS.TupInts s.heap v (k (bkV v)) ∧ bkV v ∈ xs := fun v hv => by
    have hm : bkV v ∈ xs := by rw [e1]; exact List.mem_map.mpr ⟨_, hv, rfl⟩
    obtain ⟨t, et, ht⟩ := hx _ hm
    refine ⟨?_, hm⟩
    have := tupI_raw I ht
    rw [← bkV_ref et] at this
    exact this
  refine SrtO.sorted_ord (swoL fun v => k (bkV v)) hl.isList (by rw [← rv.length]; exact hz) (fun h2 h₁ a' ha' kk => ?_) fun out h1 h2 => ?_
  · have hne' : ∀ x ∈ xs, k x ≠ [] := by
      rcases hne with c | c
      · have := rv.length
        omega
      · exact c
    refine tups_sortable (s := { s with heap := h₁ }) (by omega) (fun v hm => ⟨(hp v hm).1.keeps fun b o e _ => (kk b o e).2, hne' _ (hp v hm).2⟩) fun o e => ?_
    have e' : some o = some (seqObj "list" its.toArray 0) := e.symm.trans ha'
    cases e'
    intro c
    exact absurd (Value.type.inj c) (by decide)
  · obtain ⟨ep, he'⟩ := PyProof.Rows.sortedAll_at s.heap its out.toArray
    have h3 : ∀ u ∈ out, ∃ a, u = Value.ref a := fun u hu => e2 u (h2.perm.mem_iff.mp hu)
    have hpm : (out.map bkV).Perm xs := by
      rw [e1]
      exact h2.perm.map bkV
    have hlen : (out.map bkV).length ≤ sizeLine := by
      rw [hpm.length_eq]
      exact hz
    refine ⟨.ref _, upd H (s.heap.objs.size + 1) (.lst (out.map bkV)), I.laid (t' := s.toks) (fun _ _ => PyProof.Rows.sortedAll_old) (Nat.le_succ _) ⟨hlen, out, ep, bkV_vals h3, he'⟩, rfl, q _ _ hpm ?_ (I.hok.fresh (Nat.le_succ _))⟩
    rw [List.map_map]
    exact List.pairwise_map.mpr h1
end Rr

set_option linter.all false
set_option Elab.async false
set_option maxRecDepth 100000
set_option maxHeartbeats 4000000
/-! sorted of a dict with tuple keys. -/
namespace Rr
open PySem PySem.Spec PyProof.Rows L2

section
variable {prog : Program} {w : World} {A : Around} {E : Value → Shared → Prop} {s : Shared} {T : String} {r d : Addr} {n : Nat} {P : Nat → Value → Prop} {OK : Heap → Prop}
theorem kdl_collect {R : List Value → Shared → Prop} (K : PySem.W.KdlSrc prog w T r d n P OK) (hh : A.handled = none) (hok : OK s.heap) (hn : n ≤ sizeLine)
    (h : ∀ (h' : Heap) (tk : Nat) (acc : Array Value), (∀ b o, s.heap.get? b = some o → h'.get? b = some o) → s.heap.objs.size < h'.objs.size → ItemsOf P acc n → R acc.toList { s with heap := h', toks := tk }) :
    wpAny (model prog w) A (collect (.ref r)) R E s := by
  obtain ⟨hr, hd⟩ := K.there _ hok
  unfold collect
  refine wpAny_bind (wpAny_runValue (codeAny_builtin PySem.F.entry_proto_collect ?_))
  rw [Around.under_plainId PySem.F.plain_proto_collect _]
  show wpAny _ A.in1 (newList [] >>= fun l => again (.builtin "list.__iadd__" ⟨[l, .ref r], []⟩)) _ _ s
  refine wpAny_bind (wpAny_newObj_type ?_)
  refine wpAny_pure ⟨plainId_quiet PySem.F.plain_list_iadd _, codeAny_builtin PySem.F.entry_list_iadd ?_⟩
  rw [Around.under_plainId PySem.F.plain_list_iadd _]
  have hS₁ : (s.heap.push { cls := .type "list", data := .seq ([] : List Value).toArray }).get? s.heap.objs.size = some { cls := .type "list", data := .seq #[] } := Heap.get?_push_size _ rfl
  show wpAny _ A.in1 (Builtin.List.listExtendWith (.ref s.heap.objs.size) (.ref r) (.ref s.heap.objs.size)) _ _ _
  have key := PySem.W.kdl_extend (prog := prog) (w := w) (A := A) (s := { s with heap := s.heap.push { cls := .type "list", data := .seq ([] : List Value).toArray } })
    (R := fun (q : Result) (s' : Shared) => ∃ (h' : Heap) (tk : Nat) (acc' : Array Value) (c' : Nat), q = .ok (.ret (.ref s.heap.objs.size)) ∧ s' = { s with heap := h', toks := tk } ∧
      (∀ b o, s.heap.get? b = some o → h'.get? b = some o) ∧ h'.get? s.heap.objs.size = some { cls := .type "list", dict := none, data := .seq acc' c', slots := #[] } ∧ ItemsOf P acc' n)
    K hh (K.keep _ _ hok fun b _ o e => Heap.get?_push_of_some _ e) s.heap.objs.size (Nat.ne_of_gt hr) (Nat.ne_of_gt hd) (.ref s.heap.objs.size) 0 hS₁
    (fun h' tk acc' c' hk hS' hacc => ⟨h', tk, acc', c', rfl, rfl, fun b o e => hk b o (Nat.ne_of_lt (Heap.lt_size e)) (Heap.get?_push_of_some _ e), hS', hacc⟩) hn
  refine wpAny_mono key (fun fin s' x => ?_) fun e s' x => ?_
  · cases fin with
    | done f =>
      obtain ⟨h', tk, acc', c', e, rfl, hk, hS', hacc⟩ := x
      cases e
      show wpAny _ A (load s.heap.objs.size >>= _) _ _ _
      refine wpAny_bind (wpAny_load hS' ?_)
      exact wpAny_pure (h h' tk acc' hk (Heap.lt_size hS') hacc)
    | again c₁ =>
      refine ⟨x.1, codeAny_mono x.2 fun q s₂ y => ?_⟩
      obtain ⟨h', tk, acc', c', rfl, rfl, hk, hS', hacc⟩ := y
      show wpAny _ A (load s.heap.objs.size >>= _) _ _ _
      refine wpAny_bind (wpAny_load hS' ?_)
      exact wpAny_pure (h h' tk acc' hk (Heap.lt_size hS') hacc)
  · obtain ⟨_, _, _, _, e', _⟩ := x
    cases e'
/-- sorted(..) of what is gathered first -/
theorem sorted_gath {ltv : Value → Value → Bool} {Q : Value → Shared → Prop} (O : SrtO.Swo ltv) (K : PySem.W.KdlSrc prog w T r d n P OK) (hh : A.handled = none) (hok : OK s.heap) (hn : n ≤ sizeLine) {vs : List Value}
    (hv : ∀ acc : Array Value, ItemsOf P acc n → acc.toList = vs)
    (hS : 2 ≤ vs.length → ∀ (h₁ : Heap) (a : Addr) (tk : Nat), h₁.get? a = some (seqObj "list" vs.toArray 0) → (∀ b o, s.heap.get? b = some o → b ≠ a ∧ h₁.get? b = some o) → SrtO.SortableO prog w A.in1.in1 { s with heap := h₁, toks := tk } a vs ltv)
    (h : ∀ (h' : Heap) (tk : Nat) (p : Addr) (out : List Value) (c : Nat), SrtO.Srtd ltv out → SrtO.Stb ltv out vs → (∀ b o, s.heap.get? b = some o → h'.get? b = some o) → s.heap.objs.size ≤ p → h'.get? p = some (seqObj "list" out.toArray c) → Q (.ref p) { s with heap := h', toks := tk }) :
    wpAny (model prog w) A (call (.builtin "sorted") [.ref r]) Q E s := by
  refine Calls.call_function_entry kind_sorted plain_sorted entry_sorted (args_sorted1 _) ?_
  unfold Builtin.«sorted»
  refine wpAny_bind (m := checkCount "sorted" 1 1 _) (wpAny_pure ?_)
  refine wpAny_bind (kdl_collect (A := A.in1) K hh hok hn fun h' tk acc hk hlt hacc => ?_)
  have ev := hv acc hacc
  have hz : vs.length ≤ sizeLine := by rw [← ev, Array.length_toList, hacc.1]; exact hn
  rw [ev]
  refine wpAny_bind (wpAny_newList ?_ hz)
  have hoL : (h'.push (seqObj "list" vs.toArray 0)).get? h'.objs.size = some (seqObj "list" vs.toArray 0) := Heap.get?_push_size _ rfl
  have keep : ∀ b o, s.heap.get? b = some o → b ≠ h'.objs.size ∧ (h'.push (seqObj "list" vs.toArray 0)).get? b = some o := fun b o q =>
    ⟨Nat.ne_of_lt (Heap.lt_size (hk b o q)), Heap.get?_push_of_some _ (hk b o q)⟩
  show wpAny _ _ _ _ _ { s with heap := h'.push (seqObj "list" vs.toArray 0), toks := tk }
  refine wpAny_bind (wpAny_holding (wpAny_call_entry slot_list_sort ⟨_, hoL, rfl⟩ entry_list_sort
    (SrtO.list_sort_ord (s := { s with heap := h'.push (seqObj "list" vs.toArray 0), toks := tk }) O hoL hz (fun h2 => hS h2 _ _ tk hoL keep) fun out hs hb => ⟨_, rfl, ?_⟩) (args_list_sort _)))
  obtain ⟨c, hc⟩ := sortedHeap_at (vs := vs) (out := out.toArray) hoL
  refine wpAny_pure ⟨_, rfl, h _ tk h'.objs.size out c hs hb (fun b o e => ?_) (Nat.le_of_lt hlt) hc⟩
  have q := keep b o e
  show (sortedHeap (h'.push (seqObj "list" vs.toArray 0)) h'.objs.size vs out.toArray).get? b = some o
  rw [sortedHeap_old q.1 (Heap.lt_size q.2)]
  exact q.2
end

theorem kV_ints (k : List Int) : (k.map Sum.inl : List Key).map kV = k.map V.int := by
  rw [List.map_map]; rfl
def vInts (h : Heap) : V → List Int
  | .ref t => TS.intsOf h (.ref t)
  | _ => []
theorem vInts_bk (h : Heap) (u : Value) : vInts h (bkV u) = TS.intsOf h u := by
  cases u <;> rfl
/-- sorted(d), d a dict whose keys are tuples of ints -/
def rSortDT : List V → Hp → VK → Prop := fun vs H Q => ∃ (d : Addr) (kvs : List (List Key × V)) (ks : List (List Int)), vs = [V.ref d] ∧ Rd H d (.dT kvs) ∧ kvs.map (·.1) = ks.map (·.map Sum.inl) ∧ (ks.length < 2 ∨ ∀ k ∈ ks, k ≠ []) ∧
  ∀ (ys : List V) (k : V → List Int) (p : Addr), (∀ y ∈ ys, ∃ t, y = .ref t ∧ H t = some (.tup ((k y).map V.int))) → (ys.map k).Perm ks → (ys.map k).Pairwise (fun x y => ltL y x = false) → H p = none → Q (.ref p) (upd H p (.lst ys))
theorem kt_keys {H : Hp} : ∀ {kvs : List (List Key × V)} {xs : List (List Key × Addr × Value)} {ks : List (List Int)}, KT H kvs xs → kvs.map (·.1) = ks.map (·.map Sum.inl) → ∀ (i : Nat) (x : List Key × Addr × Value), xs[i]? = some x → ∃ k : List Int, ks[i]? = some k ∧ H x.2.1 = some (.tup (k.map V.int))
  | [], [], _, _, _, i, x, h => by simp at h
  | kv :: kvs, y :: xs, [], .cons _ _, e, _, _, _ => by simp at e
  | kv :: kvs, y :: xs, k :: ks, .cons hh t, e, 0, x, h => by
    rw [List.map_cons, List.map_cons] at e
    injection e with e1 e2
    have ex : y = x := by simpa using h
    subst ex
    exact ⟨k, rfl, by rw [hh.2.1, e1, kV_ints]⟩
  | kv :: kvs, y :: xs, k :: ks, .cons hh t, e, i + 1, x, h => by
    rw [List.map_cons, List.map_cons] at e
    injection e with e1 e2
    exact kt_keys t e2 i x (by simpa using h)
theorem cr_sortDT {X : Cx} (hc : X.calm = true) : CallR X (.builtin "sorted") rSortDT := by
  intro pins s sg H vs us Q I r h
  obtain ⟨d, kvs, ks, rfl, hd, hk, hne, q⟩ := h
  rw [Vals.ref1 r]
  obtain ⟨z, hs, xs, pr, o, es, ep, ho, hx, hdt, he, hn⟩ := (show ObjOk X.prog X.w H s.heap d (.dT kvs) from rd_of I.hok hd)
  have l1 : es.size = xs.length := size_of_entries he
  have l2 : kvs.length = xs.length := Paired.length pr
  have l3 : kvs.length = ks.length := by
    have := congrArg List.length hk
    rw [List.length_map, List.length_map] at this
    exact this
  have key : ∀ (i : Nat) (x : List Key × Addr × Value), xs[i]? = some x → ∃ k : List Int, ks[i]? = some k ∧ H x.2.1 = some (.tup (k.map V.int)) := kt_keys pr hk
  have raw : ∀ {t : Addr} {k : List Int}, H t = some (.tup (k.map V.int)) → TS.TupInts s.heap (.ref t) k := fun e => tupI_raw I (.inl (.inl e))
  have ek : (xs.map fun x => Value.ref x.2.1).map (TS.intsOf s.heap) = ks := by
    apply List.ext_getElem?
    intro i
    rw [List.getElem?_map, List.getElem?_map]
    cases hi : xs[i]? with
    | none =>
      have h1 := List.getElem?_eq_none_iff.mp hi
      rw [List.getElem?_eq_none (by omega)]
      rfl
    | some x =>
      obtain ⟨k, e1, e2⟩ := key i x hi
      rw [e1]
      show some (TS.intsOf s.heap (.ref x.2.1)) = some k
      rw [(raw e2).ints]
  have mem : ∀ v ∈ xs.map (fun x => Value.ref x.2.1), ∃ t, v = .ref t ∧ H t = some (.tup ((TS.intsOf s.heap v).map V.int)) ∧ TS.intsOf s.heap v ∈ ks := fun v hv => by
    obtain ⟨x, hx, rfl⟩ := List.mem_map.mp hv
    obtain ⟨i, hi⟩ := List.getElem?_of_mem hx
    obtain ⟨k, e1, e2⟩ := key i x hi
    refine ⟨_, rfl, ?_, ?_⟩
    · rw [(raw e2).ints]; exact e2
    · rw [(raw e2).ints]; exact List.mem_of_getElem? e1
  refine sorted_gath (swoL fun v => TS.intsOf s.heap v) (kdl_raw hs hx hdt) (I.ok.hd hc) ho (by omega) (vs := xs.map fun x => Value.ref x.2.1) (fun acc it => ?_) (fun h2 h₁ a' tk ha' kk => ?_) fun h' tk p out c h1 h2 kk hp hg => ?_
  · have hl : acc.toList.length = xs.length := by rw [Array.length_toList, it.1]; exact l1
    apply List.ext_getElem?
    intro j
    rw [List.getElem?_map]
    cases hj : acc.toList[j]? with
    | none =>
      have h1 := List.getElem?_eq_none_iff.mp hj
      rw [List.getElem?_eq_none (by omega)]
      all_goals rfl
    | some v =>
      obtain ⟨en, hen, hv⟩ := it.2 j v (by rw [← Array.getElem?_toList]; exact hj)
      have qe := entry_at he j
      rw [hen] at qe
      cases hb : xs[j]? with
      | none =>
        rw [hb] at qe
        exact nomatch (show some en = none from qe)
      | some b =>
        rw [hb] at qe
        have e2 : en = entryOfKey (tupleKind (mixKind X.prog X.w)) b := Option.some.inj qe
        rw [hv, e2]
        all_goals rfl
  · have hne' : ∀ k ∈ ks, k ≠ [] := by
      rcases hne with c | c
      · rw [List.length_map] at h2
        omega
      · exact c
    refine tups_sortable (s := { s with heap := h₁, toks := tk }) (by omega) (fun v hm => ?_) fun o e => ?_
    · obtain ⟨t, rfl, e1, e2⟩ := mem v hm
      exact ⟨(raw e1).keeps fun b o e _ => (kk b o e).2, hne' _ e2⟩
    · have e' : some o = some (seqObj "list" (xs.map fun x => Value.ref x.2.1).toArray 0) := e.symm.trans ha'
      cases e'
      intro c
      exact absurd (Value.type.inj c) (by decide)
  · have h3 : ∀ u ∈ out, ∃ t, u = Value.ref t ∧ H t = some (.tup ((TS.intsOf s.heap u).map V.int)) := fun u hu => by
      obtain ⟨t, e1, e2, _⟩ := mem u (h2.perm.mem_iff.mp hu)
      exact ⟨t, e1, e2⟩
    have em : (out.map bkV).map (vInts s.heap) = out.map (TS.intsOf s.heap) := by
      rw [List.map_map]
      exact List.map_congr_left fun u _ => vInts_bk s.heap u
    have hlen : (out.map bkV).length ≤ sizeLine := by
      rw [List.length_map, h2.perm.length_eq, List.length_map, ← l2]
      exact z
    refine ⟨.ref p, upd H p (.lst (out.map bkV)), I.laid (t' := tk) kk hp ⟨hlen, out, c, bkV_vals (fun u hu => let ⟨t, e, _⟩ := h3 u hu; ⟨t, e⟩), hg⟩, rfl, q _ (vInts s.heap) p (fun y hy => ?_) ?_ ?_ (I.hok.fresh hp)⟩
    · obtain ⟨u, hu, rfl⟩ := List.mem_map.mp hy
      obtain ⟨t, e1, e2⟩ := h3 u hu
      refine ⟨t, by rw [e1]; rfl, ?_⟩
      rw [vInts_bk]; exact e2
    · rw [em, ← ek]
      exact h2.perm.map _
    · rw [em]
      exact List.pairwise_map.mpr h1
end Rr

set_option linter.all false
set_option Elab.async false
set_option maxRecDepth 100000
set_option maxHeartbeats 1000000
/-! sorted; dicts whose keys are tuples of ints. -/
namespace Rr
open PySem PySem.Spec PyProof.Rows L2

/-! ### all tracked tuples may be read -/
def addT (F H : Hp) : Hp := fun a => match F a with
  | some u => some u
  | none => match H a with
    | some (.tup xs) => some (.tup xs)
    | _ => none
theorem addT_ff (F H : Hp) : Same F (addT F H) := fun b u e => by
  unfold addT
  rw [e]
theorem addT_of {F H : Hp} {b : Addr} {u : HO} (e : addT F H b = some u) : F b = some u ∨ (F b = none ∧ ∃ xs, u = .tup xs ∧ H b = some (.tup xs)) := by
  unfold addT at e
  cases q : F b with
  | some w => rw [q] at e; exact .inl e
  | none =>
    rw [q] at e
    dsimp only at e
    split at e
    · rename_i xs h
      cases e
      exact .inr ⟨rfl, xs, rfl, h⟩
    · cases e
theorem addT_fh {F H : Hp} (s : Same F H) : Same (addT F H) H := fun b u e => by
  rcases addT_of e with q | ⟨_, xs, rfl, h⟩
  · exact s _ _ q
  · exact h
theorem addT_t {F H : Hp} (s : Same F H) {t : Addr} {xs : List V} (h : H t = some (.tup xs)) : addT F H t = some (.tup xs) := by
  unfold addT
  cases q : F t with
  | some w =>
    have := s _ _ q
    rw [h] at this
    cases this
    rfl
  | none => rw [h]
theorem Ext.tups {F H : Hp} (s : Same F H) : Ext F (addT F H) H H := ⟨addT_ff F H, addT_fh s, Same.refl _, fun a u e => by
  rcases addT_of e with q | ⟨_, xs, rfl, h⟩
  · exact .inl q
  · exact .inr (.inr ⟨xs, h⟩)⟩

/-! ### sorted -/
def vInt : V → Int
  | .int i => i
  | _ => 0
def kOf (F : Hp) : V → List Int
  | .ref t => match F t with
    | some (.tup xs) => xs.map vInt
    | _ => []
  | _ => []
theorem kOf_ref {F : Hp} {t : Addr} {k : List Int} (h : F t = some (.tup (k.map V.int))) : kOf F (.ref t) = k := by
  unfold kOf
  dsimp only
  rw [h]
  dsimp only
  rw [List.map_map]
  have e : (vInt ∘ V.int) = id := by funext i; rfl
  rw [e, List.map_id]
section
variable {K : PySem.W.Frag} {F H : Hp}
theorem dr_tups : ∀ {vs : List V} {ds : List D} {ks : List (List Int)}, DrAll K F vs ds → tupsOf ds = some ks → (∀ x ∈ vs, ∃ t, x = .ref t ∧ F t = some (.tup ((kOf F x).map V.int))) ∧ vs.map (kOf F) = ks
  | _, _, ks, .nil, e => by
    simp only [tupsOf, Option.some.injEq] at e
    subst e
    exact ⟨fun x hx => (nomatch hx), rfl⟩
  | _, _, ks, .cons h a, e => by
    cases h with
    | @tup t xs ts ht da =>
      simp only [tupsOf] at e
      split at e
      · rename_i k kr h1 h2
        cases e
        obtain ⟨r1, r2⟩ := dr_tups a h2
        obtain ⟨e1, _⟩ := da.ints h1
        rw [e1] at ht
        have hk := kOf_ref ht
        refine ⟨fun x hx => ?_, by rw [List.map_cons, r2, hk]⟩
        rcases List.mem_cons.mp hx with rfl | hx
        · exact ⟨t, rfl, by rw [hk]; exact ht⟩
        · exact r1 x hx
      · cases e
    | non => simp [tupsOf] at e
    | bl => simp [tupsOf] at e
    | int => simp [tupsOf] at e
    | str => simp [tupsOf] at e
    | lst => simp [tupsOf] at e
    | scr => simp [tupsOf, scrD] at e
    | kt => simp [tupsOf, ktD] at e
theorem drAll_tupI {k : V → List Int} : ∀ {ys : List V}, (∀ y ∈ ys, ∃ t, y = .ref t ∧ F t = some (.tup ((k y).map V.int))) → DrAll K F ys ((ys.map k).map tupI)
  | [], _ => .nil
  | y :: ys, h => by
    obtain ⟨t, rfl, ht⟩ := h y List.mem_cons_self
    exact .cons (.tup ht (DrAll.ofInts _)) (drAll_tupI fun z hz => h z (List.mem_cons_of_mem _ hz))
end
theorem ints_map : ∀ k : List Int, intsOf (k.map .int) = some k
  | [] => rfl
  | i :: r => by
    rw [List.map_cons]
    simp only [intsOf, ints_map r, Option.map_some]
theorem keyIs_tupI (k k' : List Int) : keyIs k (tupI k') = decide (k' = k) := by
  unfold keyIs tupI
  dsimp only
  rw [ints_map]
  simp
theorem inl_inj : ∀ {a b : List Int}, (a.map Sum.inl : List Key) = b.map Sum.inl → a = b
  | [], [], _ => rfl
  | [], _ :: _, e => by simp at e
  | _ :: _, [], e => by simp at e
  | x :: a, y :: b, e => by
    rw [List.map_cons, List.map_cons] at e
    injection e with e1 e2
    injection e1 with e1
    rw [e1, inl_inj e2]
theorem dicOk_keys : ∀ {kvs : List (List Key × V)} {es : List (D × D)}, DicOk kvs es → ∃ ks, tupsOf (es.map (·.1)) = some ks ∧ kvs.map (·.1) = ks.map (·.map Sum.inl) ∧ es.map (·.1) = ks.map tupI
  | _, _, .nil => ⟨[], rfl, rfl, rfl⟩
  | _, _, .cons (k := k) _ r => by
    obtain ⟨ks, h1, h2, h3⟩ := dicOk_keys r
    refine ⟨k :: ks, ?_, ?_, ?_⟩
    · rw [List.map_cons]
      unfold tupI
      simp only [tupsOf, ints_map, h1]
    · rw [List.map_cons, h2]; rfl
    · rw [List.map_cons, h3]; rfl
theorem dicOk_get {k : List Int} : ∀ {kvs : List (List Key × V)} {es : List (D × D)}, DicOk kvs es → (valV kvs (k.map Sum.inl) = none ∧ dGet k es = none) ∨ ∃ v d, valV kvs (k.map Sum.inl) = some v ∧ dGet k es = some d ∧ FlatR v d
  | _, _, .nil => .inl ⟨rfl, rfl⟩
  | _, _, .cons (k := k') (v := v) (d := d) f r => by
    have ih := dicOk_get (k := k) r
    by_cases e : k' = k
    · subst e
      refine .inr ⟨v, d, valV_pos rfl, ?_, f⟩
      unfold dGet
      rw [keyIs_tupI]
      simp
    · have n : ¬ (k'.map Sum.inl : List Key) = k.map Sum.inl := fun q => e (inl_inj q)
      rw [valV_neg (p := (k'.map Sum.inl, v)) n]
      unfold dGet
      rw [keyIs_tupI, decide_eq_false e]
      exact ih
theorem dicOk_repl {k : List Int} {v : V} {d : D} (f : FlatR v d) : ∀ {kvs : List (List Key × V)} {es : List (D × D)}, DicOk kvs es →
    DicOk (kvs.map fun kv => if kv.1 = k.map Sum.inl then (kv.1, v) else kv) (es.map fun e => if keyIs k e.1 then (e.1, d) else e)
  | _, _, .nil => .nil
  | _, _, .cons (k := k') g r => by
    have ih := dicOk_repl (k := k) f r
    rw [List.map_cons, List.map_cons]
    dsimp only
    rw [keyIs_tupI]
    by_cases e : k' = k
    · subst e
      rw [if_pos rfl, if_pos (by simp)]
      exact .cons f ih
    · rw [if_neg (fun q => e (inl_inj q)), if_neg (by simpa using e)]
      exact .cons g ih
theorem dicOk_snoc {k : List Int} {v : V} {d : D} (f : FlatR v d) : ∀ {kvs : List (List Key × V)} {es : List (D × D)}, DicOk kvs es → DicOk (kvs ++ [(k.map Sum.inl, v)]) (es ++ [(tupI k, d)])
  | _, _, .nil => .cons f .nil
  | _, _, .cons g r => .cons g (dicOk_snoc f r)
theorem dicOk_put {k : List Int} {v : V} {d : D} {kvs : List (List Key × V)} {es : List (D × D)} (f : FlatR v d) (h : DicOk kvs es) : DicOk (putK kvs (k.map Sum.inl) v) (dPut k d es) := by
  unfold putK dPut
  rw [valV_any]
  rcases dicOk_get (k := k) h with ⟨h1, h2⟩ | ⟨w, e, h1, h2, _⟩
  · rw [h1, h2]
    exact dicOk_snoc f h
  · rw [h1, h2]
    exact dicOk_repl f h

def rSortA (K : PySem.W.Frag) : List V → Hp → VK → Prop := fun vs H Q => rSortTI K vs H Q ∨ rSortDT vs H Q
theorem cr_sortA {X : Cx} (hc : X.calm = true) : CallR X (.builtin "sorted") (rSortA X.K) := cr_sortTI.or (cr_sortDT hc)
theorem dz_sorted {K : PySem.W.Frag} {l : Lv} (h : l ≠ .dt) : DoesN K (rSortA K) [l] .cl (biD .sorted) := by
  refine ⟨biD_noex .sorted, ?_⟩
  intro F H ps vs ds z Q ou s ra hz k
  obtain ⟨v, d, rfl, rfl, r⟩ := res1 ra
  cases d with
  | list m =>
    simp only [biD] at hz
    split at hz
    · rename_i ks hk
      split at hz
      · rename_i hc
        cases hz
        obtain ⟨a, xs, rfl, ha, da⟩ := res_list (by cases l <;> first | rfl | exact absurd rfl h | (obtain ⟨_, _, _, _, _, e, _⟩ := r; cases e)) s r
        obtain ⟨h1, h2⟩ := dr_tups da hk
        refine .inl ⟨a, xs, kOf F, rfl, .inl (.inl ha), fun x hx => ?_, ?_, fun ys p hp ho hn => ?_⟩
        · obtain ⟨t, rfl, ht⟩ := h1 x hx
          exact ⟨t, rfl, .inl (.inl (s _ _ ht))⟩
        · rcases hc.2 with c | c
          · left
            rw [← List.length_map (f := kOf F), h2]; exact c
          · right
            intro x hx e
            have := List.all_eq_true.mp c (kOf F x) (by rw [← h2]; exact List.mem_map.mpr ⟨x, hx, rfl⟩)
            rw [e] at this
            cases this
        · have e : ys.map (kOf F) = sortT ks := sortT_eq (by rw [← h2]; exact hp.map _) ho
          refine k _ _ _ (Ext.new s hn) (dr_lstN s hn ?_)
          rw [← e]
          exact drAll_tupI fun y hy => h1 y (hp.mem_iff.mp hy)
      · cases hz
    · cases hz
  | dict m =>
    cases l with
    | cl =>
      cases r with
      | scr hq => simp [biD, scrD, tupsOf] at hz
      | kt hq => simp [biD, ktD, tupsOf] at hz
    | sh => obtain ⟨_, _, _, _, _, e, _⟩ := r; cases e
    | dt => exact absurd rfl h
    | dd =>
      obtain ⟨p, kvs, es, rfl, hp, e, eh, r⟩ := r
      cases e
      obtain ⟨ks, h1, h2, _⟩ := dicOk_keys r
      simp only [biD, h1] at hz
      split at hz
      · rename_i hc
        cases hz
        refine .inr ⟨p, kvs, ks, rfl, eh, h2, ?_, fun ys f q hy hpm ho hn => ?_⟩
        · rcases hc.2 with c | c
          · exact .inl c
          · right
            intro x hx e
            have := List.all_eq_true.mp c x hx
            rw [e] at this
            cases this
        · have e : ys.map f = sortT ks := sortT_eq hpm ho
          have s' := addT_fh s
          refine k _ _ _ ((Ext.tups s).trans (Ext.new s' hn)) (dr_lstN s' hn ?_)
          rw [← e]
          exact drAll_tupI fun y hy' => by
            obtain ⟨t, e1, e2⟩ := hy y hy'
            exact ⟨t, e1, addT_t s e2⟩
      · cases hz
  | _ => cases hz

/-! ### in, [], []= -/
def rInT : R2 := fun y x H Q => ∃ a o, x = .ref a ∧ DGet H a y o ∧ Q (.bl o.isSome) H
def rNotInT : R2 := fun y x H Q => ∃ a o, x = .ref a ∧ DGet H a y o ∧ Q (.bl (!o.isSome)) H
def rIxD : R2 := fun x y H Q => ∃ a v, x = .ref a ∧ DGet H a y (some v) ∧ Q v H
section
variable {X : Cx}
theorem op_inT (hu : X.A.units + 1 < cLine) : OpR X (compareOp .In) rInT := by
  intro pins s sg H x y v u Q I rx ry h
  obtain ⟨a, o, rfl, g, q⟩ := h
  obtain rfl : u = Value.ref a := ry
  exact d_in hu I g rx fun s3 I3 => ⟨.bl o.isSome, H, I3, rfl, q⟩
theorem op_notInT (hu : X.A.units + 1 < cLine) : OpR X (compareOp .NotIn) rNotInT := by
  intro pins s sg H x y v u Q I rx ry h
  obtain ⟨a, o, rfl, g, q⟩ := h
  obtain rfl : u = Value.ref a := ry
  exact d_notIn hu I g rx fun s3 I3 => ⟨.bl (!o.isSome), H, I3, rfl, q⟩
end
section
variable {K : PySem.W.Frag} {la : Lv}
/-- a tuple of ints as a key -/
theorem key_at {F H : Hp} {ps : List Addr} {y : V} {t : List D} {k : List Int} (hl : la ≠ .dt) (s : Same F H) (r : Res K F H ps la y (.tuple t)) (hk : intsOf t = some k) : ∃ b, y = .ref b ∧ H b = some (.tup ((k.map Sum.inl : List Key).map kV)) := by
  obtain ⟨a, vs, rfl, _, da, fa⟩ := res_tup (by cases la <;> first | rfl | exact absurd rfl hl | (obtain ⟨_, _, _, _, _, e, _⟩ := r; cases e)) s r
  refine ⟨a, rfl, ?_⟩
  rw [kV_ints, ← (da.ints hk).1]
  exact s _ _ fa
theorem inD_dic {x : D} {kvs : List (List Key × V)} {es : List (D × D)} {b : Bool} (r : DicOk kvs es) (h : inD x (.dict es) = .ok b) : ∃ t k, x = .tuple t ∧ intsOf t = some k ∧ b = (dGet k es).isSome := by
  cases x with
  | tuple t =>
    have e : inD (.tuple t) (.dict es) = match intsOf t, tupsOf (es.map (·.1)) with
        | some k, some _ => .ok (dGet k es).isSome
        | _, _ => .bad := by
      cases r with
      | nil => rfl
      | cons f r => unfold tupI; cases r <;> rfl
    rw [e] at h
    split at h
    · rename_i k _ h1 _
      cases h
      exact ⟨t, k, rfl, h1, rfl⟩
    · cases h
  | _ =>
    exfalso
    cases r with
    | nil => simp [inD] at h
    | cons f r => simp [inD, tupI] at h
theorem dz_inT (h1 : la ≠ .dt) : Does2 K rInT la .dd .cl (cpV .inn) := by
  refine ⟨cpV_noex .inn, ?_⟩
  intro F H ps x y d e z Q o s rx ry hz k
  obtain ⟨b, hb, rfl⟩ := cpV_ok hz
  obtain ⟨p, kvs, es, rfl, hp, rfl, eh, r⟩ := ry
  obtain ⟨t, kk, rfl, hk, rfl⟩ := inD_dic r (inD_of_ok hb)
  obtain ⟨a, rfl, ha⟩ := key_at h1 s rx hk
  refine ⟨p, _, rfl, (.inr ⟨kvs, _, _, eh, rfl, ha, rfl⟩), ?_⟩
  have fin := k (.bl (dGet kk es).isSome) F H (Ext.refl s) (.bl _)
  rcases dicOk_get (k := kk) r with ⟨g1, g2⟩ | ⟨v, d, g1, g2, _⟩
  · rw [g1]; rw [g2] at fin; exact fin
  · rw [g1]; rw [g2] at fin; exact fin
theorem dz_ninT (h1 : la ≠ .dt) : Does2 K rNotInT la .dd .cl (cpV .nin) := by
  refine ⟨cpV_noex .nin, ?_⟩
  intro F H ps x y d e z Q o s rx ry hz k
  obtain ⟨b, hb, rfl⟩ := cpV_ok hz
  have hb : ((inD d e).bind fun x => .ok (!x)) = .ok b := hb
  cases q : inD d e with
  | ok b' =>
    rw [q] at hb
    cases hb
    obtain ⟨p, kvs, es, rfl, hp, rfl, eh, r⟩ := ry
    obtain ⟨t, kk, rfl, hk, rfl⟩ := inD_dic r q
    obtain ⟨a, rfl, ha⟩ := key_at h1 s rx hk
    refine ⟨p, _, rfl, (.inr ⟨kvs, _, _, eh, rfl, ha, rfl⟩), ?_⟩
    have fin := k (.bl (!(dGet kk es).isSome)) F H (Ext.refl s) (.bl _)
    rcases dicOk_get (k := kk) r with ⟨g1, g2⟩ | ⟨v, d, g1, g2, _⟩
    · rw [g1]; rw [g2] at fin; exact fin
    · rw [g1]; rw [g2] at fin; exact fin
  | ex c p => rw [q] at hb; cases hb
  | bad => rw [q] at hb; cases hb
theorem subD_dic {y z : D} {kvs : List (List Key × V)} {es : List (D × D)} (r : DicOk kvs es) (h : subD (.dict es) y = .ok z) : ∃ t k, y = .tuple t ∧ intsOf t = some k ∧ dGet k es = some z := by
  cases y with
  | tuple t =>
    have e : subD (.dict es) (.tuple t) = match intsOf t with
        | some k => R.ofOpt (dGet k es)
        | none => .bad := by
      cases r with
      | nil => rfl
      | cons f r => unfold tupI; cases r <;> rfl
    rw [e] at h
    split at h
    · rename_i k h1
      refine ⟨t, k, rfl, h1, ?_⟩
      cases q : dGet k es with
      | none => rw [q] at h; cases h
      | some w => rw [q] at h; cases h; rfl
    · cases h
  | _ =>
    exfalso
    cases r with
    | nil => simp [subD] at h
    | cons f r => simp [subD, tupI] at h
theorem dz_subT (h1 : la ≠ .dt) : Does2 K rIxD .dd la .cl subD := by
  refine ⟨subD_noex, ?_⟩
  intro F H ps x y d e z Q o s rx ry hz k
  obtain ⟨p, kvs, es, rfl, hp, rfl, eh, r⟩ := rx
  obtain ⟨t, kk, rfl, hk, hg⟩ := subD_dic r hz
  obtain ⟨a, rfl, ha⟩ := key_at h1 s ry hk
  rcases dicOk_get (k := kk) r with ⟨g1, g2⟩ | ⟨v, d, g1, g2, f⟩
  · rw [hg] at g2; cases g2
  · rw [hg] at g2
    cases g2
    refine ⟨p, v, rfl, ?_, k v F H (Ext.refl s) f.dr⟩
    rw [← g1]
    exact (.inr ⟨kvs, _, _, eh, rfl, ha, rfl⟩)
end
theorem noSl_of {b : Expr} (h : noSlice b = true) : NoSl b := by
  intro ov iv
  cases b <;> first | rfl | simp [noSlice] at h
section
variable {X : Cx} {cls : Str → Addr} {W : WX} {o : Own} {n : Nat} {P F0 H0 : Hp}
theorem j_ixD {a b : Expr} {pos : Pos} {lb : Lv} {f g : S → R D} (hu : X.A.units + 1 < cLine) (hs : noSlice b = true) (hl : lb ≠ .dt) (ha : PE X a (tE X.K cls W o .dd f)) (hb : PE X b (tE X.K cls W o lb g)) :
    PE X (.Subscript a b pos) (tE X.K cls W o .cl fun s => (f s).bind fun x => (g s).bind fun y => subD x y) :=
  pe_imp (pe_dget hu ha hb (noSl_of hs)) fun _ _ _ h => seq2 (dz_subT hl) h
theorem s_stiD {i : Nat} {x : Str} {k e : Expr} {p sp pos : Pos} {f g : S → R D} {lk : Lv} (hu : X.A.units + 1 < cLine) (hi : X.N[i]? = some x) (hv : Vis X.env.scope x) (hd : (x == ("__debug__" : Str)) = false) (hc : (x == ("__classdict__" : Str)) = false) (io : i ∈ o.d)
    (hk : noSlice k = true) (hlk : lk ≠ .dt) (pk : PE X k (tE X.K cls W o lk g)) (he : PE X e (tE X.K cls W o .cl f)) :
    PS X (.Assign [.Subscript (.Name x p) k sp] e pos) (tS X.K cls W n P F0 H0 o o fun s => (f s).go fun v => (getV s i).go fun y => (g s).go fun z => (putD y z v).go fun u => .nx (s.set i (some u))) := by
  refine ps_imp (ps_dput hu (pe_var hi hv hd hc) pk he (show swapsWith e (some (.Subscript (.Name x p) k sp)) pos.line X.env = pure false by cases e <;> rfl)) fun E sg H q => ?_
  obtain ⟨F, s, ps, A, hl, fr, q⟩ := q
  refine st_e (g := fun s v => (getV s i).go fun y => (g s).go fun z => (putD y z v).go fun u => .nx (s.set i (some u))) A hl fr q fun d v F1 H1 _ A1 x1 fr1 r q1 => ?_
  obtain ⟨y, hy, q2⟩ := (QOut.go (sg := sg) (H := H1) (r := getV s i) q1 hl fr1.hh).get (getV_noex s i)
  have gy := getV_get hy
  obtain ⟨p, kvs, es, ei, hp, rfl, eh, rd⟩ := A1.od i y gy io
  refine ⟨.ref p, ei, ?_⟩
  refine st_e (g := fun s z => (putD (.dict es) z d).go fun u => .nx (s.set i (some u))) A1 hl fr1 q2 fun z w F2 H2 _ A2 x2 fr2 r2 q3 => ?_
  obtain ⟨u, hu, q4⟩ := (QOut.go (sg := sg) (H := H2) (r := putD (.dict es) z d) q3 hl fr2.hh).get (putD_noex _ _ _)
  cases z with
  | tuple t =>
    simp only [putD] at hu
    split at hu
    · rename_i kk h1 h2
      split at hu
      · rename_i hl2
        cases hu
        obtain ⟨p', kvs', es', ei', hp', ed', eh', rd'⟩ := A2.od i _ gy io
        rw [ei] at ei'
        cases ei'
        cases ed'
        obtain ⟨b, rfl, hb⟩ := key_at hlk A2.sub r2 h1
        refine ⟨p, _, rfl, DPut.t ((fr2.uf p hp).rd eh') hb (by rw [dicOk_len rd']; exact lim_lt hl2), ?_⟩
        exact q4 sg F2 _ ps (A2.chgD gy io ei (dicOk_put (flatR_of r h2) rd')) hl (fr_chg fr2 hp)
      · cases hu
    · cases hu
  | _ => cases hu
end
end Rr

set_option linter.all false
set_option Elab.async false
set_option maxRecDepth 100000
set_option maxHeartbeats 1000000
/-! list.count; a comprehension over a dict's keys. -/
namespace Rr
open PySem PySem.Spec PyProof.Rows L2
/-! ### count -/
theorem cnt_eqU {x : V} : ∀ {xs : List V} {us : List Value}, Vals xs us → xs.all flatV = true → us.countP (eqU x) = xs.countP fun y => eqV y x
  | _, _, .nil, _ => rfl
  | y :: xs, u :: us, .cons r t, f => by
    rw [List.all_cons, Bool.and_eq_true] at f
    rw [List.countP_cons, List.countP_cons, eqU_of r f.1, cnt_eqU t f.2]
def rCntF (K : PySem.W.Frag) : V → List V → Hp → VK → Prop := fun x xs H Q => ∃ (p : Addr) (ys : List V) (z : V), x = .ref p ∧ xs = [z] ∧ SqL K H p ys ∧ flatV z = true ∧ ys.all flatV = true ∧ Q (.int ((ys.countP fun y => eqV y z : Nat) : Int)) H
theorem mt_countF {X : Cx} : MtR X "list.count" (rCntF X.K) := by
  intro pins s σ H x xs v us Q I rx rxs h
  obtain ⟨p, ys, z, rfl, rfl, hs, fz, fy, q⟩ := h
  cases rx
  obtain ⟨u, rfl, ru⟩ := rxs.one
  obtain ⟨its, rv, ⟨⟨cls, dd, data, sl⟩, n, ho, hc, hdn, hd⟩, hlen⟩ := I.list hs
  simp only at hc hd
  subst hc hd
  refine call_meets PySem.F.slot_list_count ⟨_, ho, rfl⟩ PySem.F.entry_list_count (PySem.F.args_list_count_2 _ _)
    (SeqAt.list_countAt p its.toArray n dd sl u (eqU z)) ⟨ho, fun y hy => mem_eqAt ru fz rv fy y (by simpa using hy), ?_⟩
  have ec : its.toArray.toList.countP (eqU z) = ys.countP fun y => eqV y z := cnt_eqU rv fy
  refine ⟨.int ((ys.countP fun y => eqV y z : Nat) : Int), H, I.tok _, ⟨s.toks, ?_⟩, q⟩
  rw [ec]
theorem drAll_cnt {K : PySem.W.Frag} {F : Hp} : ∀ {vs : List V} {ds : List D}, DrAll K F vs ds → ds.all flat = true → vs.all flatV = true ∧ ∀ {x : V} {d : D}, FlatR x d → (vs.countP fun y => eqV y x) = ds.countP fun y => PyData.eqv y d
  | _, _, .nil, _ => ⟨rfl, fun _ => rfl⟩
  | _, _, .cons h a, e => by
    rw [List.all_cons, Bool.and_eq_true] at e
    obtain ⟨h1, h2⟩ := drAll_cnt a e.2
    have hf := flatR_of h e.1
    refine ⟨by rw [List.all_cons, flatV_of hf, h1]; rfl, fun hx => ?_⟩
    rw [List.countP_cons, List.countP_cons, eqV_eqv hx hf, h2 hx]
section
variable {X : Cx} {cls : Str → Addr} {W : WX} {o : Own}
theorem j_count {e a : Expr} {apos cpos : Pos} {la lb : Lv} {f g : S → R D} (hla : la.fine = true) (hp : plainA a = true) (hb : noCall0 e = true) (hline : (apos.endLine == cpos.line) = true) (he : PE X e (tE X.K cls W o la f)) (ha : PE X a (tE X.K cls W o lb g)) :
    PE X (.Call (.Attribute e "count" apos) [a] [] cpos) (tE X.K cls W o .cl fun s => (f s).bind fun x => (g s).calm.bind fun y => mtD .count x y) := by
  refine pe_imp (pe_bm PySem.F.plainAttrs_list PySem.F.slot_list_count PySem.F.type_list_count mt_countF he (j_cons hp ha j_nil) (no_base hb _ _ _) (few_one hp) hline (star_plain hp _ _) rfl) fun sg H Q q => ?_
  obtain ⟨F, s, ps, A, q⟩ := q
  refine ⟨F, s, ps, A, q.bind.imp fun d _ q1 v F1 H1 E1 R1 => ?_⟩
  obtain ⟨y, hy, q2⟩ := calm_get q1
  cases d with
  | list l =>
    have q2 : Out cls W sg H (if flat y && l.all flat then R.ok (PyData.int (l.countP fun z => PyData.eqv z y : Nat)) else .bad) _ := q2
    split at q2
    · rename_i hs
      rw [Bool.and_eq_true] at hs
      obtain ⟨vs, ds, rfl, eh, rd⟩ := res_list hla E1.fh R1
      have A1 := A.mono E1
      refine ⟨.inl ⟨rfl, ds, .inl (.inl eh)⟩, F1, s, ps, A1, ?_⟩
      dsimp only
      rw [hy]
      intro ws F2 H2 E2 R2
      obtain ⟨w, y', rfl, hyy, r2⟩ := res1 R2
      cases hyy
      have fx := r2.flat hs.1
      obtain ⟨c1, c2⟩ := drAll_cnt rd hs.2
      refine ⟨vs, ds, w, rfl, rfl, .inl (.inl (E2.hh _ _ eh)), flatV_of fx, c1, ?_⟩
      rw [c2 fx]
      exact q2 _ F2 H2 (E1.trans E2) (.int _)
    · exact q2.elim
  | _ => exact q2.elim

/-! ### a comprehension over a dict's keys -/
/-- the dict is locked -/
theorem Ab.lock {K : PySem.W.Frag} {F H : Hp} {sg : L2.St} {s : S} {ps : List Addr} (a : Ab K F H sg o s ps) {p : Addr} {kvs : List (List Key × V)} (hp : p ∈ ps) (hH : H p = some (.dT kvs)) (ob : Obj) : Ab K F (upd H p (.frz ob (.dT kvs))) sg o s ps where
  sub := fun b u e => by
    have nb : b ≠ p := fun q => by rw [q, (a.out p hp).1] at e; cases e
    rw [upd_ne nb]; exact a.sub _ _ e
  len := a.len
  fz := a.fz
  ol := fun i d h h1 => by
    obtain ⟨q, vs, ds, e, hq, ed, eh, r⟩ := a.ol i d h h1
    have nq : q ≠ p := fun z => by rw [z, hH] at eh; cases eh
    exact ⟨q, vs, ds, e, hq, ed, by rw [upd_ne nq]; exact eh, r⟩
  od := fun i d h h1 => by
    obtain ⟨q, ws, es, e, hq, ed, eh, r⟩ := a.od i d h h1
    by_cases z : q = p
    · subst z
      have : ws = kvs := by
        rcases eh with eh | ⟨u, eh⟩
        · rw [hH] at eh; cases eh; rfl
        · rw [hH] at eh; cases eh
      subst this
      exact ⟨q, ws, es, e, hq, ed, .inr ⟨ob, upd_same⟩, r⟩
    · exact ⟨q, ws, es, e, hq, ed, rd_upd z eh, r⟩
  inj := a.inj
  out := fun q hq => by
    refine ⟨(a.out q hq).1, ?_⟩
    by_cases z : q = p
    · rw [z, upd_same]; exact ⟨_, rfl, rfl⟩
    · rw [upd_ne z]; exact (a.out q hq).2
/-- unlocked again -/
theorem Ext.unlock {F F' H H' : Hp} {p : Addr} {u : HO} {ob : Obj} (hF : F p = none) (hH : H p = some u) (x : Ext F F' (upd H p (.frz ob u)) H') : H' p = some (.frz ob u) ∧ Ext F F' H (upd H' p u) := by
  have e1 : H' p = some (.frz ob u) := x.hh _ _ upd_same
  have hF' : F' p = none := by
    cases e : F' p with
    | none => rfl
    | some v =>
      rcases x.nw p v e with q | q
      · rw [hF] at q; cases q
      · exact (q.no upd_same rfl).elim
  refine ⟨e1, x.ff, fun b v e => ?_, fun b v e => ?_, fun b v e => ?_⟩
  · have nb : b ≠ p := fun q => by rw [q, hF'] at e; cases e
    rw [upd_ne nb]; exact x.fh _ _ e
  · by_cases q : b = p
    · subst q; rw [upd_same]; rw [hH] at e; exact e
    · rw [upd_ne q]; exact x.hh _ _ (by rw [upd_ne q]; exact e)
  · have nb : b ≠ p := fun q => by rw [q, hF'] at e; cases e
    rcases x.nw b v e with q | q
    · exact .inl q
    · right
      rcases q with q | ⟨xs, q⟩
      · rw [upd_ne nb] at q; exact .inl q
      · rw [upd_ne nb] at q; exact .inr ⟨xs, q⟩
theorem walk_keys {K : PySem.W.Frag} {p : Addr} {ob : Obj} {kvs : List (List Key × V)} {es : List (D × D)} {ds : List D} {F B : Hp} (h : B p = some (.frz ob (.dT kvs))) (r : DicOk kvs es) (hd : keysD (.dict es) = .ok ds) : WalkD K (Itkt p ob kvs) ds F B := by
  obtain ⟨ks, k1, k2, k3⟩ := dicOk_keys r
  have e : ds = ks.map tupI := by
    simp only [keysD, k1] at hd
    cases hd
    exact k3
  subst e
  have l1 : kvs.length = ks.length := by
    have := congrArg List.length k2
    rw [List.length_map, List.length_map] at this
    exact this
  intro i F1 H1 s1 s2 s3
  have hq := s3 _ _ h
  refine ⟨fun hi => ?_, fun hi => ?_, fun x H2 d hd hy => ?_⟩
  · exact ⟨hq, by rw [l1]; simpa using hi⟩
  · exact ⟨hq, by rw [hi, List.length_map]; omega⟩
  · obtain ⟨rfl, k, v, q, hk, rfl, ht⟩ := hy
    refine ⟨addT F1 H2, Ext.tups s2, ?_⟩
    have hk2 : (kvs.map (·.1))[i]? = some k := by rw [List.getElem?_map, hk]; rfl
    rw [k2, List.getElem?_map] at hk2
    rw [List.getElem?_map] at hd
    cases hks : ks[i]? with
    | none => rw [hks] at hd; cases hd
    | some w =>
      rw [hks] at hd hk2
      have e1 : tupI w = d := Option.some.inj hd
      have e2 : w.map Sum.inl = k := Option.some.inj hk2
      subst e1 e2
      rw [kV_ints] at ht
      exact .tup (addT_t s2 ht) (DrAll.ofInts w)
theorem keysD_noex (d : D) : ∀ c p, keysD d ≠ .ex c p := by
  intro c p h
  unfold keysD at h
  split at h
  · split at h <;> cases h
  · cases h
/-- the keys of a locked dict -/
def tIk (K : PySem.W.Frag) (cls : Str → Addr) (W : WX) (o : Own) (i : Nat) : TI := fun sg H R => (∃ p ob kvs, sg[i]? = some (some (.ref p)) ∧ H p = some (.frz ob (.dT kvs))) ∧ tI K cls W o .sh (fun s => (getV s i).bind keysD) sg H R
theorem j_keysL {i : Nat} {x : Str} {pos : Pos} {tg : Expr} (hN : X.N[i]? = some x) (hv : Vis X.env.scope x) (hd : (x == ("__debug__" : Str)) = false) (hc : (x == ("__classdict__" : Str)) = false) (io : i ∈ o.d) :
    PI X tg (.Name x pos) (tIk X.K cls W o i) :=
  pi_imp (pi_keys (pe_var hN hv hd hc)) fun sg H RR q => by
    obtain ⟨⟨p, ob, kvs, e1, e2⟩, F, s, ps, A, q⟩ := q
    refine ⟨.ref p, e1, p, ob, rfl, .inr ⟨kvs, e2, ?_⟩⟩
    obtain ⟨d, hd, q1⟩ := q.bind.get (getV_noex s i)
    obtain ⟨p', ws, es, f1, hp, rfl, eh, r⟩ := A.od i d (getV_get hd) io
    rw [e1] at f1
    cases f1
    have : ws = kvs := by
      rcases eh with eh | ⟨u, eh⟩
      · rw [e2] at eh; cases eh
      · rw [e2] at eh; cases eh; rfl
    subst this
    obtain ⟨ds, hds, k⟩ := q1.get (keysD_noex _)
    exact k _ F H (Ext.refl A.sub) (walk_keys e2 r hds)
theorem lck_pe {i : Nat} {e : Expr} {t : Tg} {tst : S → R Bool} {el : S → R D} (io : i ∈ o.d) (ho : t.ok o = true) (P : PE X e (tLc (tIk X.K cls W o i) (gT X.K t) (tT X.K cls W0 o tst) (tE X.K cls W0 o .cl el) t.slots)) :
    PE X e (tE X.K cls W o .cl fun s => ((getV s i).bind keysD).bind fun ds => if ds.length ≤ LIM then (lcL (fun d => bindT t d s) tst el ds).bind fun ys => .ok (.list ys) else .bad) := by
  refine ⟨fun pins s sg H Q I q => ?_⟩
  obtain ⟨F, st, ps, A, q⟩ := q
  have q0 := q
  obtain ⟨dd, hg, q1⟩ := q.bind.bind.get (getV_noex st i)
  obtain ⟨ds, hds, q2⟩ := q1.get (keysD_noex dd)
  have hlim : ds.length ≤ LIM := by
    by_cases hlim : ds.length ≤ LIM
    · exact hlim
    · rw [if_neg hlim] at q2
      exact q2.elim
  rw [if_pos hlim] at q2
  obtain ⟨ys, hys, k⟩ := q2.bind.get (lcL_noex (fun d => bindT_noex t d st) ds)
  have hf : (((getV st i).bind keysD).bind fun ds => if ds.length ≤ LIM then (lcL (fun d => bindT t d st) tst el ds).bind fun ys => R.ok (PyData.list ys) else .bad) = .ok (.list ys) := by
    rw [hg, R.bind_ok, hds, R.bind_ok, if_pos hlim, hys, R.bind_ok]
  have k : ∀ v F' H', Ext F F' H H' → Dr X.K F' v (.list ys) → Q v H' := k
  obtain ⟨p, kvs, es, e1, hp, rfl, eh, r⟩ := A.od i dd (getV_get hg) io
  rcases eh with eh | ⟨u, eh⟩
  · have key : ∀ od, tLc (tI X.K cls W o .sh (fun s => (getV s i).bind keysD)) (gT X.K t) (tT X.K cls W0 o tst) (tE X.K cls W0 o .cl el) t.slots sg (upd H p (.frz od (.dT kvs))) (fun v H' => H' p = some (.frz od (.dT kvs)) ∧ Q v (upd H' p (.dT kvs))) := fun od => by
      refine lc_read ho ⟨F, st, ps, A.lock hp eh od, ?_⟩
      dsimp only
      rw [hf]
      intro v F' H' E R
      obtain ⟨a, b⟩ := Ext.unlock (A.out p hp).1 eh E
      exact ⟨a, k v F' _ b R⟩
    exact (pe_lock P).run pins s sg H Q I ⟨p, .dT kvs, eh, trivial, fun od => And.intro ⟨p, od, kvs, e1, upd_same⟩ (key od)⟩
  · have key : tLc (tI X.K cls W o .sh (fun s => (getV s i).bind keysD)) (gT X.K t) (tT X.K cls W0 o tst) (tE X.K cls W0 o .cl el) t.slots sg H Q := lc_read ho ⟨F, st, ps, A, q0⟩
    exact P.run pins s sg H Q I (And.intro ⟨p, u, kvs, e1, eh⟩ key)
end
end Rr

set_option linter.all false
set_option Elab.async false
set_option maxRecDepth 100000
set_option maxHeartbeats 3200000
/-! sorted(set(xs)), xs a list of small ints. -/
namespace Rr
open PySem PySem.Spec PyProof.Rows L2
section
variable {P : Program} {w : World} {A : Around} {E : Value → Shared → Prop} {s : Shared}
/-- a new set's object -/
abbrev newS (w : World) : Obj := { cls := .type "set", dict := none, data := .set #[] 0 (.fresh 0 0 (!w.params.followText "set-order")) }
/-- set(l), l a list of ints -/
theorem call_set_lstI {l : Addr} {items : Array Value} (ns : List Int) {Q : Value → Shared → Prop} (hh : A.handled = none) (hl : s.heap.IsList l items) (hit : IntsAre items.toList ns) (hb : ns.length + 1 < scanBound)
    (h : ∀ (h' : Heap) (tk c : Nat), SetR w h' s.heap.objs.size (fun j => decide (j ∈ ns)) c → (∀ b o, s.heap.get? b = some o → h'.get? b = some o) → Q (.ref s.heap.objs.size) { s with heap := h', toks := tk }) :
    wpAny (model P w) A (call (.type "set") [.ref l]) Q E s := by
  have hisz : items.size = ns.length := by
    have q := IntsAre.length hit
    rw [Array.length_toList] at q
    exact q
  obtain ⟨c, tl, hmro⟩ := F.called_set.mro
  have hmade := F.called_set.made
  have hsub := F.called_set.sub
  refine wpAny_call (codeAny_of_tree ?_)
  show wpAny _ _ (callAny (.type "set") _) _ _ _
  refine wpAny_pure ⟨Code.quiet_builtin _ (by decide +kernel), codeAny_builtin F.entry_type_call ?_⟩
  rw [Around.under_plain (weight_type_call_type "set" [.ref l] []) rfl]
  have h1 := F.called_set.notType
  have h2 := F.called_set.canCreate
  have hct := F.typeCall_set_1 (.ref l)
  repeat (any_goals (first | assumption | wp_step))
  refine codeAny_mono (code_set_led1 (.ref l) (E := E) (Q₁ := fun obj s₁ => obj = .ref s.heap.objs.size ∧ s₁ = { s with heap := s.heap.push (newS w) }) ⟨rfl, rfl⟩) fun r s₁ hr => ?_
  cases r with
  | error e => exact hr
  | ok fl =>
    cases fl with
    | ret obj =>
      obtain ⟨rfl, rfl⟩ := hr
      have hS : (s.heap.push (newS w)).get? s.heap.objs.size = some (newS w) := Heap.get?_push_size _ rfl
      have hT : Shared.TypeIs { s with heap := s.heap.push (newS w) } (.ref s.heap.objs.size) "set" := ⟨_, hS, rfl⟩
      have hli := F.called_set.init.lookup
      have hbi := F.called_set.init.bind (.ref s.heap.objs.size)
      repeat (any_goals (first | assumption | wp_step))
      refine codeAny_mono (codeAny_call_builtin (R := wants (fun r s₂ => r = .none ∧ ∃ h' tk c, s₂ = { s with heap := h', toks := tk } ∧ SetR w h' s.heap.objs.size (fun j => decide (j ∈ ns)) c ∧
          (∀ b o, s.heap.get? b = some o → h'.get? b = some o)) E) F.called_set.init.plain F.entry_set_init (check_set_init_1 hT ?_)) fun r₂ s₂ hr₂ => ?_
      · obtain ⟨⟨ocls, odict, odata, oslots⟩, hol, hcl, nl, hdl⟩ := hl
        simp only at hcl hdl
        subst hcl; subst hdl
        have hol' := Heap.get?_push_of_some (newS w) hol
        have hsls := F.sub_list_set
        have hslf := F.sub_list_frozenset
        have hne : (Value.type "list" == Value.type "dict") = false := by decide
        have hl1 : (s.heap.push (newS w)).IsList l items := ⟨_, hol', rfl, nl, rfl⟩
        unfold Builtin.«set.__init__» noKeywords Builtin.Frozenset.updateFrom
        generalize hPI : pyIter = PI
        wp_walk
        subst hPI
        refine wpAny_pyIter_list hl1 ?_
        refine wpAny_bind (wpAny_runValue ?_)
        have hlS : l < s.heap.objs.size := Heap.lt_size hol
        have hh3 : A.in1.in1.in1.handled = none := by simp [hh]
        have hz : (s.heap.push (newS w)).objs.size = s.heap.objs.size + 1 := Heap.size_push ..
        have hneI : l ≠ (s.heap.push (newS w)).objs.size := by rw [hz]; exact Nat.ne_of_lt (Nat.lt_succ_of_lt hlS)
        have hSf : s.heap.objs.size ∉ [(s.heap.push (newS w)).objs.size, l] := by
          rw [hz]
          simp only [List.mem_cons, List.not_mem_nil, or_false, not_or]
          exact ⟨Nat.ne_of_lt (Nat.lt_succ_self _), Nat.ne_of_gt hlS⟩
        have hval : ∀ (i : Nat) (v : Value), items[i]? = some v → ∃ k t, ns[i]? = some k ∧ v = .int k t := fun i v hv => by
          have hi : i < ns.length := by rw [← hisz]; exact (Array.getElem?_eq_some_iff.mp hv).1
          obtain ⟨t, e⟩ := IntsAre.int_at hit i v (by rw [Array.getElem?_toList]; exact hv)
          refine ⟨ns[i], t, List.getElem?_eq_getElem hi, ?_⟩
          rw [e, List.getD_eq_getElem?_getD, List.getElem?_eq_getElem hi] <;> rfl
        refine set_update_ints ((Walks.list hh3 _ l hneI items).toS) s.heap.objs.size hSf ns hisz hb hval (items.size - 0) 0 _ (by omega) (Nat.zero_le _)
          ⟨⟨_, Heap.get?_push_size _ rfl, rfl, rfl⟩, (hl1.push _)⟩ ⟨0, Nat.le_refl 0, setR_new_at (Heap.get?_push_of_some _ hS)⟩ ?_
        intro s' c' hm hc' hS'
        obtain ⟨h', g2, d', tk', os'⟩ := s'
        have eg : g2 = s.gens := hm.gens
        have ed : d' = s.drawn := hm.drawn
        have eo : os' = s.os := hm.os
        subst eg; subst ed; subst eo
        refine wpAny_pure ?_
        show wpAny _ _ (ret Value.none) _ _ _
        refine wpAny_pure ⟨rfl, h', tk', c', rfl, hS', fun b o e => ?_⟩
        have hb0 : b < s.heap.objs.size := Heap.lt_size e
        refine hm.heap b o ?_ (Heap.get?_push_of_some _ (Heap.get?_push_of_some _ e))
        simp only [List.mem_cons, List.not_mem_nil, or_false, not_or, hz]
        exact ⟨Nat.ne_of_lt hb0, Nat.ne_of_lt (Nat.lt_succ_of_lt hb0)⟩
      · cases r₂ with
        | error e => exact hr₂
        | ok fl₂ =>
          cases fl₂ with
          | ret r =>
            obtain ⟨rfl, h', tk, c', rfl, hS', hk'⟩ := hr₂
            repeat (any_goals (first | assumption | wp_step))
            exact h _ _ _ hS' hk'
          | _ => exact hr₂.elim
    | _ => exact hr.elim
end
def rSetI (K : PySem.W.Frag) (w : World) : List V → Hp → VK → Prop := fun vs H Q => ∃ (a : Addr) (ns : List Int), vs = [V.ref a] ∧ SqL K H a (ns.map V.int) ∧ ns.length + 1 < scanBound ∧ ∀ p c, H p = none → (ns.all (fun k => decide (0 ≤ k ∧ k < 63)) = true → c < 64) → Q (.ref p) (upd H p (SetO w p (fun j => decide (j ∈ ns)) c))
/-- few members -/
theorem setR_few {w : World} {h : Heap} {a : Addr} {ns : List Int} {c : Nat} (R : SetR w h a (fun j => decide (j ∈ ns)) c) (hs : ns.all (fun k => decide (0 ≤ k ∧ k < 63)) = true) : c < 64 := by
  obtain ⟨o, es, ep, t, ho, hex, hd, g, nd, hm, hb, hf, hn, hr, hl⟩ := R
  have key : ∀ (l m : List Int), l.Nodup → (∀ x ∈ l, x ∈ m) → l.length ≤ m.length := by
    intro l
    induction l with
    | nil => intro m _ _; exact Nat.zero_le _
    | cons x l ih =>
      intro m h hs
      obtain ⟨h1, h2⟩ := List.nodup_cons.mp h
      have hx : x ∈ m := hs x List.mem_cons_self
      have := ih (m.erase x) h2 fun y hy => (List.mem_erase_of_ne (fun e => h1 (by rw [← e]; exact hy))).mpr (hs y (List.mem_cons_of_mem _ hy))
      rw [List.length_erase_of_mem hx] at this
      have hp : 0 < m.length := List.length_pos_of_mem hx
      simp only [List.length_cons]
      omega
  have := key (es.toList.map keyOf) ((List.range 63).map fun n : Nat => (n : Int)) nd fun x hx => by
    have h1 := of_decide_eq_true ((hm x).mpr hx)
    have h2 := of_decide_eq_true (List.all_eq_true.mp hs x h1)
    exact List.mem_map.mpr ⟨x.toNat, List.mem_range.mpr (by omega), by omega⟩
  simp only [List.length_map, List.length_range, Array.length_toList] at this
  omega
theorem cr_setI {X : Cx} (hc : X.calm = true) : CallR X (.type "set") (rSetI X.K X.w) := by
  intro pins s σ H vs us Q I r h
  obtain ⟨a, ns, rfl, hs, hb, q⟩ := h
  obtain ⟨its, rv, hl, hz⟩ := I.list hs
  rw [Vals.ref1 r]
  refine call_set_lstI ns (I.ok.hd hc) hl.isList (by simpa using ints_of_vals rv) hb fun h' tk c R k => ?_
  exact ⟨.ref s.heap.objs.size, upd H s.heap.objs.size (SetO X.w s.heap.objs.size (fun j => decide (j ∈ ns)) c), I.laid (t' := tk) k (Nat.le_refl _) (setO_new R), rfl, q _ c (I.hok.fresh (Nat.le_refl _)) (setR_few R)⟩
theorem uniq_eq {ks ns : List Int} (hs : ks.all (fun k => decide (0 ≤ k ∧ k < 63)) = true) (h1 : ns.Pairwise (· < ·)) (h2 : ∀ k, k ∈ ns ↔ decide (k ∈ ks) = true) : ns = uniq ks := by
  have u1 : (uniq ks).Pairwise (· < ·) := by
    unfold uniq
    refine List.Pairwise.filterMap _ (S := fun a b => a < b) (R := fun a b : Nat => a < b) ?_ List.pairwise_lt_range
    intro a a' h b hb b' hb'
    simp only [Option.ite_none_right_eq_some, Option.some.injEq] at hb hb'
    omega
  have u2 : ∀ k, k ∈ uniq ks ↔ k ∈ ks := by
    intro k
    unfold uniq
    rw [List.mem_filterMap]
    constructor
    · rintro ⟨n, _, e⟩
      simp only [Option.ite_none_right_eq_some, Option.some.injEq] at e
      rw [← e.2]; exact e.1
    · intro hk
      have := of_decide_eq_true (List.all_eq_true.mp hs k hk)
      refine ⟨k.toNat, List.mem_range.mpr (by omega), ?_⟩
      have e : ((k.toNat : Nat) : Int) = k := by omega
      rw [e, if_pos hk]
  have key : ∀ (l m : List Int), l.Pairwise (· < ·) → m.Pairwise (· < ·) → (∀ k, k ∈ l ↔ k ∈ m) → l = m := by
    intro l
    induction l with
    | nil =>
      intro m _ _ h
      cases m with
      | nil => rfl
      | cons y m => exact absurd ((h y).mpr List.mem_cons_self) (by simp)
    | cons x l ih =>
      intro m hl hm h
      cases m with
      | nil => exact absurd ((h x).mp List.mem_cons_self) (by simp)
      | cons y m =>
        obtain ⟨a1, a2⟩ := List.pairwise_cons.mp hl
        obtain ⟨b1, b2⟩ := List.pairwise_cons.mp hm
        have e : x = y := by
          rcases List.mem_cons.mp ((h x).mp List.mem_cons_self) with e | q
          · exact e
          · rcases List.mem_cons.mp ((h y).mpr List.mem_cons_self) with e | q'
            · exact e.symm
            · have := b1 x q
              have := a1 y q'
              omega
        subst e
        rw [ih m a2 b2 fun k => ?_]
        constructor
        · intro hk
          rcases List.mem_cons.mp ((h k).mp (List.mem_cons_of_mem _ hk)) with e | q
          · have := a1 k hk; omega
          · exact q
        · intro hk
          rcases List.mem_cons.mp ((h k).mpr (List.mem_cons_of_mem _ hk)) with e | q
          · have := b1 k hk; omega
          · exact q
  exact key ns (uniq ks) h1 u1 fun k => by rw [u2, h2, decide_eq_true_eq]
section
variable {X : Cx} {cls : Str → Addr} {W : WX} {o : Own}
theorem j_sset {e : Expr} {p p2 pos pos2 : Pos} {l : Lv} {f : S → R D} (hc : X.calm = true) (hl : l.fine = true) (hg : Gl X "sorted") (hm : X.mg "sorted" = none) (hg2 : Gl X "set") (hm2 : X.mg "set" = none) (hp : plainA e = true) (he : PE X e (tE X.K cls W o l f)) :
    PE X (.Call (.Name "sorted" p) [.Call (.Name "set" p2) [e] [] pos2] [] pos) (tE X.K cls W o .cl fun s => (f s).bind fun x => biD .sortedSet [x]) := by
  refine pe_imp (pe_callB (cr_sortedSet hc) hg hm (by decide +kernel) (pa_cons (pe_callTy (cr_setI hc) hg2 hm2 (by decide +kernel) (pa_cons he pa_nil (star_plain hp _ _)) (by decide) (by decide) (star_plain hp _ _) rfl) pa_nil rfl) (by decide) (by decide) rfl rfl) fun sg H Q q => ?_
  obtain ⟨F, s, ps, A, q⟩ := q
  refine ⟨F, s, ps, A, q.bind.imp fun d _ q1 v F1 H1 E1 R1 => ?_⟩
  obtain ⟨z, hz, k⟩ := q1.get (biD_noex .sortedSet [d])
  cases d with
  | list m =>
    simp only [biD] at hz
    split at hz
    · rename_i ks hk
      split at hz
      · rename_i hcnd
        cases hz
        rw [Bool.and_eq_true, decide_eq_true_eq] at hcnd
        obtain ⟨a, xs, rfl, ha, da⟩ := res_list hl E1.fh R1
        obtain ⟨e1, _⟩ := da.ints hk
        rw [e1] at ha
        have A1 := A.mono E1
        refine ⟨a, ks, rfl, .inl (.inl ha), by unfold scanBound; omega, fun p' c hn hc' => ?_⟩
        have x1 := Ext.junk (o := SetO X.w p' (fun j => decide (j ∈ ks)) c) E1.fh hn
        refine ⟨p', _, c, rfl, upd_same, hc' hcnd.1, fun ns q hs hmm hlen hq => ?_⟩
        have e2 := uniq_eq hcnd.1 hs hmm
        subst e2
        exact k _ _ _ ((E1.trans x1).trans (Ext.new x1.fh hq)) (dr_lstN x1.fh hq (DrAll.ofInts _))
      · cases hz
    · cases hz
  | _ => cases hz
end
end Rr

set_option linter.all false
set_option Elab.async false
set_option maxRecDepth 100000
set_option maxHeartbeats 1000000
/-! x.append(y.pop(0) if c else e), x and y owned lists. -/
namespace Rr
open PySem PySem.Spec PyProof.Rows L2
section
variable {X : Cx} {cls : Str → Addr} {W : WX} {o : Own} {n : Nat} {P F0 H0 : Hp}
theorem zero_ix {n : Nat} (h : 0 < n) : seqIndex? 0 n = some 0 := by
  unfold seqIndex?
  simp [h]
theorem s_apop {i j : Nat} {x y : Str} {c e : Expr} {p py apos cpos apos2 cpos2 ip kp pos : Pos} {kk : Nat} {t f : S → R D} (hi : X.N[i]? = some x) (hv : Vis X.env.scope x) (hd : (x == ("__debug__" : Str)) = false) (hc : (x == ("__classdict__" : Str)) = false)
    (hj : X.N[j]? = some y) (hvj : Vis X.env.scope y) (hdj : (y == ("__debug__" : Str)) = false) (hcj : (y == ("__classdict__" : Str)) = false) (io : i ∈ o.l) (jo : j ∈ o.l) (hij : i ≠ j)
    (hline : (apos.endLine == cpos.line) = true) (hline2 : (apos2.endLine == cpos2.line) = true) (pc : PT X c (tT X.K cls W o fun s => (t s).bind truD)) (he : PE X e (tE X.K cls W o .cl f)) :
    PS X (.Expr (.Call (.Attribute (.Name x p) "append" apos) [.IfExp c (.Call (.Attribute (.Name y py) "pop" apos2) [.Constant (.int 0) kk kp] [] cpos2) e ip] [] cpos) pos)
      (tS X.K cls W n P F0 H0 o o fun s => (getV s i).go fun u => (t s).go fun k => (truD k).go fun b => if b then (getV s j).go fun q => match q with
        | .list (h :: r) => (appD u h).go fun z => .nx ((s.set j (some (.list r))).set i (some z))
        | _ => .bad
      else (f s).go fun w => (appD u w).go fun z => .nx (s.set i (some z))) := by
  have pp : PE X (.Call (.Attribute (.Name y py) "pop" apos2) [.Constant (.int 0) kk kp] [] cpos2) _ := pe_bm PySem.F.plainAttrs_list PySem.F.slot_list_pop PySem.F.type_list_pop mt_popAt (pe_var hj hvj hdj hcj) (pa_cons pe_int pa_nil rfl) rfl (few_one rfl) hline2 rfl rfl
  refine ps_imp (ps_expr (pe_bm PySem.F.plainAttrs_list PySem.F.slot_list_append PySem.F.type_list_append mt_append (pe_var hi hv hd hc) (pa_cons (pe_ifExp pc pp he) pa_nil rfl) rfl (few_one rfl) hline rfl rfl) rfl) fun E sg H q => ?_
  obtain ⟨F, s, ps, A, hl, fr, q⟩ := q
  obtain ⟨u, hu, q1⟩ := (QOut.go (r := getV s i) q hl fr.hh).get (getV_noex s i)
  have gi := getV_get hu
  obtain ⟨pi, vs, ds, ei, hpi, rfl, eh, rd⟩ := A.ol i u gi io
  refine ⟨.ref pi, ei, .inl ⟨rfl, vs, .inl (.inl eh)⟩, ?_⟩
  refine ⟨F, s, ps, A, ?_⟩
  dsimp only
  have q2 := QOut.go (r := t s) q1 hl fr.hh
  cases e1 : t s with
  | ok k =>
    rw [e1] at q2
    obtain ⟨b, hb, q3⟩ := (QOut.go (sg := sg) (H := H) (r := truD k) q2 hl fr.hh).get (truD_noex k)
    rw [R.bind_ok, hb]
    intro F1 H1 E1
    have A1 := A.mono E1
    have fr1 := fr.ext E1
    cases b with
    | true =>
      rw [if_pos rfl] at q3 ⊢
      obtain ⟨v, hv2, q4⟩ := (QOut.go (sg := sg) (H := H1) (r := getV s j) q3 hl fr1.hh).get (getV_noex s j)
      have gj := getV_get hv2
      obtain ⟨pj, ws, es, ej, hpj, rfl, ehj, rdj⟩ := A1.ol j v gj jo
      refine ⟨.ref pj, ej, .inl ⟨rfl, ws, .inl (.inl ehj)⟩, ?_⟩
      cases es with
      | nil => exact q4.elim
      | cons h r =>
        cases rdj with
        | @cons w wr _ _ rh rr =>
          refine ⟨pj, w :: wr, 0, 0, w, rfl, rfl, ehj, by decide, by decide, zero_ix (by simp), rfl, ?_⟩
          have npj : pi ≠ pj := fun z => hij (A1.inj i j pi _ _ gi gj (.inl io) (.inl jo) ei (z ▸ ej))
          have A2 := A1.chgL (vs := wr) gj jo ej rr
          have fr2 := fr_chg (ob := .lst wr) fr1 hpj
          have gi2 : (s.set j (some (PyData.list r)))[i]? = some (some (.list ds)) := by rw [List.getElem?_set_ne (fun z => hij z.symm)]; exact gi
          obtain ⟨z, hz, q5⟩ := (QOut.go (sg := sg) (H := H1) (r := appD (.list ds) h) q4 hl fr1.hh).get (appD_noex _ _)
          simp only [appD] at hz
          split at hz
          · rename_i hlim
            cases hz
            obtain ⟨p', vs', ds', ei', hp', ed', eh', rd'⟩ := A2.ol i _ gi2 io
            rw [ei] at ei'
            cases ei'
            cases ed'
            refine ⟨pi, vs', w, rfl, rfl, eh', by rw [rd'.length]; exact lim_lt hlim, ?_⟩
            exact q5 sg F1 _ ps (A2.chgL gi2 io ei (rd'.append (.cons rh .nil))) hl (fr_chg fr2 hpi)
          · cases hz
    | false =>
      rw [if_neg Bool.false_ne_true] at q3 ⊢
      refine st_e (g := fun s w => (appD (.list ds) w).go fun z => .nx (s.set i (some z))) A1 hl fr1 q3 fun d w F2 H2 _ A2 x2 fr2 r2 q4 => ?_
      obtain ⟨z, hz, q5⟩ := (QOut.go (sg := sg) (H := H2) (r := appD (.list ds) d) q4 hl fr2.hh).get (appD_noex _ _)
      simp only [appD] at hz
      split at hz
      · rename_i hlim
        cases hz
        obtain ⟨p', vs', ds', ei', hp', ed', eh', rd'⟩ := A2.ol i _ gi io
        rw [ei] at ei'
        cases ei'
        cases ed'
        refine ⟨pi, vs', w, rfl, rfl, eh', by rw [rd'.length]; exact lim_lt hlim, ?_⟩
        exact q5 sg F2 _ ps (A2.chgL gi io ei (rd'.append (.cons r2 .nil))) hl (fr_chg fr2 hpi)
      · cases hz
  | ex c p => rw [e1] at q2; exact q2
  | bad => rw [e1] at q2; exact q2
end
end Rr

set_option linter.all false
set_option Elab.async false
set_option maxRecDepth 100000
set_option maxHeartbeats 1000000
/-! Texts: f"..", str(i), join. -/
namespace Rr
open PySem PySem.Spec PyProof.Rows L2
theorem log_of {i : Int} (h : i.natAbs < 1000000000) : i.natAbs.log2 < 1920 := by
  rcases Nat.eq_zero_or_pos i.natAbs with q | q
  · rw [q]; decide
  · rw [Nat.log2_lt (by omega)]
    refine Nat.lt_of_lt_of_le h ?_
    exact Nat.le_trans (show 1000000000 ≤ 2 ^ 30 by decide) (Nat.pow_le_pow_right (by decide) (by decide))
theorem dz_str {K : PySem.W.Frag} {l : Lv} : DoesN K (fun xs H Q => ∃ i, xs = [V.int i] ∧ i.natAbs.log2 < 1920 ∧ Q (.str (toString i)) H) [l] .cl (biD .str) := by
  refine ⟨biD_noex .str, ?_⟩
  intro F H ps vs ds z Q ou s ra hz k
  obtain ⟨v, d, rfl, rfl, r⟩ := res1 ra
  cases d with
  | int i =>
    simp only [biD] at hz
    split at hz
    · rename_i h
      cases hz
      exact ⟨i, by rw [res_int r], log_of h, k _ F H (Ext.refl s) (.str _)⟩
    · cases hz
  | _ => cases hz
theorem DrAll.strs {K : PySem.W.Frag} {F : Hp} : ∀ {vs : List V} {ds : List D} {ks : List Str}, DrAll K F vs ds → strsOf ds = some ks → vs = ks.map V.str
  | _, _, ks, .nil, e => by
    simp [strsOf] at e; subst e; rfl
  | _, _, ks, .cons h a, e => by
    cases h with
    | str x =>
      simp only [strsOf, Option.map_eq_some_iff] at e
      obtain ⟨r, e, rfl⟩ := e
      rw [DrAll.strs a e]; rfl
    | non => simp [strsOf] at e
    | bl => simp [strsOf] at e
    | int => simp [strsOf] at e
    | lst => simp [strsOf] at e
    | tup => simp [strsOf] at e
    | scr => simp [strsOf, scrD] at e
    | kt => simp [strsOf, ktD] at e
theorem sum_le : ∀ {xs : List Str}, (∀ x ∈ xs, x.length ≤ 1000) → (xs.map (·.length)).sum ≤ 1000 * xs.length
  | [], _ => by simp
  | x :: xs, h => by
    have := sum_le (xs := xs) fun y hy => h y (List.mem_cons_of_mem _ hy)
    have := h x List.mem_cons_self
    simp only [List.map_cons, List.sum_cons, List.length_cons]
    omega
def fstD (p q : Str) : D → R D
  | .int i => if 0 ≤ i ∧ i < 1000000 ∧ (Str.empty ++ p).length ≤ LIM ∧ (Str.empty ++ p ++ toString i).length ≤ LIM ∧ (Str.empty ++ p ++ toString i ++ q).length ≤ LIM then .ok (.str (Str.empty ++ p ++ toString i ++ q)) else .bad
  | _ => .bad
theorem fstD_noex (p q : Str) (x : D) : ∀ c e, fstD p q x ≠ .ex c e := by
  intro c e h
  cases x <;> simp only [fstD] at h <;> first | (cases h; done) | (split at h <;> cases h)
section
variable {X : Cx} {cls : Str → Addr} {W : WX} {o : Own}
theorem j_fst {e : Expr} {s t : Str} {k1 k3 : Nat} {p1 p2 p3 p : Pos} {l : Lv} {f : S → R D} (hs : (Str.empty ++ s).length ≤ LIM) (he : PE X e (tE X.K cls W o l f)) :
    PE X (.JoinedStr [.Constant (.str s) k1 p1, .FormattedValue e (-1) none p2, .Constant (.str t) k3 p3] p) (tE X.K cls W o .cl fun st => (f st).bind (fstD s t)) := by
  refine pe_imp (pe_joined (.cons pe_str (.cons (pe_fmt he) (.cons pe_str .nil)))) fun sg H Q q => ?_
  obtain ⟨F, st, ps, A, q⟩ := q
  refine ⟨s, rfl, lim_line hs, ?_⟩
  refine ⟨F, st, ps, A, q.bind.imp fun d _ q1 v F1 H1 E1 R1 => ?_⟩
  obtain ⟨z, hz, k⟩ := q1.get (fstD_noex s t d)
  cases d with
  | int i =>
    simp only [fstD] at hz
    split at hz
    · rename_i hc
      cases hz
      exact .inr ⟨i, res_int R1, log_of (by omega), toString i, rfl, lim_line hc.2.2.2.1, t, rfl, lim_line hc.2.2.2.2, k _ F1 H1 E1 (.str _)⟩
    · cases hz
  | _ => cases hz
theorem j_join {e a : Expr} {apos cpos : Pos} {la lb : Lv} {f g : S → R D} (hlb : lb.fine = true) (hp : plainA a = true) (hb : noCall0 e = true) (hline : (apos.endLine == cpos.line) = true) (he : PE X e (tE X.K cls W o la f)) (ha : PE X a (tE X.K cls W o lb g)) :
    PE X (.Call (.Attribute e "join" apos) [a] [] cpos) (tE X.K cls W o .cl fun s => (f s).bind fun x => (g s).calm.bind fun y => mtD .join x y) := by
  refine pe_imp (pe_join he ha (star_plain hp _ _) (no_base hb _ _ _) hline) fun sg H Q q => ?_
  obtain ⟨F, s, ps, A, q⟩ := q
  refine ⟨F, s, ps, A, q.bind.imp fun d _ q1 v F1 H1 E1 R1 => ?_⟩
  obtain ⟨y, hy, q2⟩ := calm_get q1
  cases d with
  | str z =>
    refine ⟨⟨z, res_str R1⟩, F1, s, ps, A.mono E1, ?_⟩
    dsimp only
    rw [hy]
    intro w F2 H2 E2 R2
    cases y with
    | list l =>
      have q2 : Out cls W sg H (match strsOf l with
        | some xs => if xs.length ≤ 1000 ∧ z.length ≤ 10 ∧ xs.all (fun x => decide (x.length ≤ 1000)) then R.ok (PyData.str (Str.join z xs)) else .bad
        | none => .bad) _ := q2
      split at q2
      · rename_i xs hx
        split at q2
        · rename_i hc
          obtain ⟨b, vs, rfl, hb2, db⟩ := res_list hlb E2.fh R2
          have ev := db.strs hx
          subst ev
          have hsum := sum_le (xs := xs) fun x hx => of_decide_eq_true (List.all_eq_true.mp hc.2.2 x hx)
          have hm : xs.length * z.length ≤ 1000 * 10 := Nat.mul_le_mul hc.1 hc.2.1
          refine ⟨z, b, xs, res_str R1, rfl, .inl (.inl (.inl hb2)), by omega, ?_⟩
          rw [TL.join_eq]
          exact q2 _ F2 H2 (E1.trans E2) (.str _)
        · exact q2.elim
      · exact q2.elim
    | _ => exact q2.elim
  | _ => exact q2.elim
end
end Rr

set_option linter.all false
set_option Elab.async false
set_option maxRecDepth 100000
set_option maxHeartbeats 1000000
/-! The check of an expression of the language against the text. -/
namespace Rr
open PySem PySem.Spec PyProof.Rows L2

/-! ### taking syntax apart -/
def asName : Expr → Option Str
  | .Name x _ => some x
  | _ => none
theorem asName_eq {e : Expr} {x : Str} (h : asName e = some x) : ∃ p, e = .Name x p := by
  cases e <;> simp [asName] at h
  subst h
  exact ⟨_, rfl⟩
def asCon : Expr → Option Const
  | .Constant c _ _ => some c
  | _ => none
theorem asCon_eq {e : Expr} {x : Const} (h : asCon e = some x) : ∃ k p, e = .Constant x k p := by
  cases e <;> simp [asCon] at h
  subst h
  exact ⟨_, _, rfl⟩
def asBin : Expr → Option (Expr × Operator × Expr)
  | .BinOp a o b _ => some (a, o, b)
  | _ => none
theorem asBin_eq {e a b : Expr} {o : Operator} (h : asBin e = some (a, o, b)) : ∃ p, e = .BinOp a o b p := by
  cases e <;> simp [asBin] at h
  obtain ⟨rfl, rfl, rfl⟩ := h
  exact ⟨_, rfl⟩
def asUn : Expr → Option (UnaryOp × Expr)
  | .UnaryOp o a _ => some (o, a)
  | _ => none
theorem asUn_eq {e a : Expr} {o : UnaryOp} (h : asUn e = some (o, a)) : ∃ p, e = .UnaryOp o a p := by
  cases e <;> simp [asUn] at h
  obtain ⟨rfl, rfl⟩ := h
  exact ⟨_, rfl⟩
def asCmp : Expr → Option (Expr × List CmpOp × List Expr)
  | .Compare a os bs _ => some (a, os, bs)
  | _ => none
theorem asCmp_eq {e a : Expr} {os : List CmpOp} {bs : List Expr} (h : asCmp e = some (a, os, bs)) : ∃ p, e = .Compare a os bs p := by
  cases e <;> simp [asCmp] at h
  obtain ⟨rfl, rfl, rfl⟩ := h
  exact ⟨_, rfl⟩
def asBool : Expr → Option (BoolOp × List Expr × Pos)
  | .BoolOp o vs p => some (o, vs, p)
  | _ => none
theorem asBool_eq {e : Expr} {o : BoolOp} {vs : List Expr} {p : Pos} (h : asBool e = some (o, vs, p)) : e = .BoolOp o vs p := by
  cases e <;> simp [asBool] at h
  obtain ⟨rfl, rfl, rfl⟩ := h
  rfl
def asIte : Expr → Option (Expr × Expr × Expr)
  | .IfExp c a b _ => some (c, a, b)
  | _ => none
theorem asIte_eq {e c a b : Expr} (h : asIte e = some (c, a, b)) : ∃ p, e = .IfExp c a b p := by
  cases e <;> simp [asIte] at h
  obtain ⟨rfl, rfl, rfl⟩ := h
  exact ⟨_, rfl⟩
/-- f(..), f a name, without keywords -/
def asCall : Expr → Option (Str × List Expr)
  | .Call (.Name f _) es [] _ => some (f, es)
  | _ => none
theorem asCall_eq {e : Expr} {f : Str} {es : List Expr} (h : asCall e = some (f, es)) : ∃ p q, e = .Call (.Name f p) es [] q := by
  unfold asCall at h
  split at h
  · simp at h
    obtain ⟨rfl, rfl⟩ := h
    exact ⟨_, _, rfl⟩
  · cases h
/-- o.m(..) on one line -/
def asMeth : Expr → Option (Expr × Str × List Expr × Bool)
  | .Call (.Attribute o m ap) es [] cp => some (o, m, es, ap.endLine == cp.line)
  | _ => none
theorem asMeth_eq {e ob : Expr} {m : Str} {es : List Expr} {b : Bool} (h : asMeth e = some (ob, m, es, b)) : ∃ ap cp, e = .Call (.Attribute ob m ap) es [] cp ∧ (ap.endLine == cp.line) = b := by
  unfold asMeth at h
  split at h
  · simp at h
    obtain ⟨rfl, rfl, rfl, rfl⟩ := h
    exact ⟨_, _, rfl, by simp⟩
  · cases h
def asSub : Expr → Option (Expr × Expr)
  | .Subscript a i _ => some (a, i)
  | _ => none
theorem asSub_eq {e a i : Expr} (h : asSub e = some (a, i)) : ∃ p, e = .Subscript a i p := by
  cases e <;> simp [asSub] at h
  obtain ⟨rfl, rfl⟩ := h
  exact ⟨_, rfl⟩
def asSlice : Expr → Option (Option Expr × Option Expr × Option Expr)
  | .Slice a b c _ => some (a, b, c)
  | _ => none
theorem asSlice_eq {e : Expr} {a b c : Option Expr} (h : asSlice e = some (a, b, c)) : ∃ p, e = .Slice a b c p := by
  cases e <;> simp [asSlice] at h
  obtain ⟨rfl, rfl, rfl⟩ := h
  exact ⟨_, rfl⟩
def asTup : Expr → Option (List Expr)
  | .Tuple es _ _ => some es
  | _ => none
theorem asTup_eq {e : Expr} {es : List Expr} (h : asTup e = some es) : ∃ k p, e = .Tuple es k p := by
  cases e <;> simp [asTup] at h
  subst h
  exact ⟨_, _, rfl⟩
def asLst : Expr → Option (List Expr)
  | .List es _ => some es
  | _ => none
theorem asLst_eq {e : Expr} {es : List Expr} (h : asLst e = some es) : ∃ p, e = .List es p := by
  cases e <;> simp [asLst] at h
  subst h
  exact ⟨_, rfl⟩
def asLc : Expr → Option (Expr × Expr × Expr × List Expr × Scope)
  | .ListComp elt [⟨tg, it, ifs, 0⟩] sc _ => some (elt, tg, it, ifs, sc)
  | _ => none
theorem asLc_eq {e elt tg it : Expr} {ifs : List Expr} {sc : Scope} (h : asLc e = some (elt, tg, it, ifs, sc)) : ∃ p, e = .ListComp elt [⟨tg, it, ifs, 0⟩] sc p := by
  unfold asLc at h
  split at h
  · simp at h
    obtain ⟨rfl, rfl, rfl, rfl, rfl⟩ := h
    exact ⟨_, rfl⟩
  · cases h

/-- f"s{x}t" -/
def asFst : Expr → Option (Str × Expr × Str)
  | .JoinedStr [.Constant (.str s) _ _, .FormattedValue x (-1) none _, .Constant (.str t) _ _] _ => some (s, x, t)
  | _ => none
theorem asFst_eq {e x : Expr} {s t : Str} (h : asFst e = some (s, x, t)) : ∃ k1 p1 p2 k3 p3 p, e = .JoinedStr [.Constant (.str s) k1 p1, .FormattedValue x (-1) none p2, .Constant (.str t) k3 p3] p := by
  unfold asFst at h
  split at h
  · simp at h
    obtain ⟨rfl, rfl, rfl⟩ := h
    exact ⟨_, _, _, _, _, _, rfl⟩
  · cases h
/-! ### the check -/
structure Ck where
  N : List Str
  /-- defs that may be called; those whose values are flat -/
  fs : List Str
  fl : List Str
  gs : List Str
def conM : D → Const → Bool
  | .int i, .int j => decide (i = j)
  | .bool a, .bool b => a == b
  | .none, .none => true
  | .str x, .str y => decide (x = y)
  | _, _ => false
def opM : Op → Operator → Bool
  | .add, .Add => true
  | .sub, .Sub => true
  | .mul, .Mult => true
  | .fdiv, .FloorDiv => true
  | .mod, .Mod => true
  | .pow, .Pow => true
  | _, _ => false
def cpM : Cp → CmpOp → Bool
  | .eq, .Eq => true
  | .ne, .NotEq => true
  | .lt, .Lt => true
  | .le, .LtE => true
  | .gt, .Gt => true
  | .ge, .GtE => true
  | .isn, .Is => true
  | .isnn, .IsNot => true
  | .inn, .In => true
  | .nin, .NotIn => true
  | _, _ => false
def okName (x : Str) : Bool := !(x == ("__debug__" : Str)) && !(x == ("__classdict__" : Str)) && !(x == ("__name__" : Str))
def visB (sc : Scope) (x : Str) : Bool := match sc.names.lookup x with
  | some .local => true
  | some .cell => true
  | some .free => true
  | _ => false
def glB (sc : Scope) (x : Str) : Bool := match sc.names.lookup x with
  | some .globalImplicit => true
  | _ => false
/-- a name that a comprehension's block may store -/
def ownB (scope sc : Scope) (x : Str) : Bool := match (relS scope sc).names.lookup x with
  | some .local => true
  | some .cell => (match scope.names.lookup x with | some .cell => true | _ => false)
  | _ => false
/-- built-ins of one argument: name, level ok -/
def biN : Bi → Option (Str × Nat)
  | .len => some ("len", 1)
  | .sum => some ("sum", 1)
  | .max => some ("max", 1)
  | .min => some ("min", 1)
  | .max2 => some ("max", 2)
  | .min2 => some ("min", 2)
  | .list => some ("list", 1)
  | .tuple => some ("tuple", 1)
  | .sorted => some ("sorted", 1)
  | .str => some ("str", 1)
  | .int => some ("int", 1)
  | _ => none
def biL : Bi → List Lv → Bool
  | .len, [l] => l != .dt
  | .sum, [l] => l.fine
  | .max, [l] => l.fine
  | .min, [l] => l.fine
  | .max2, [_, _] => true
  | .min2, [_, _] => true
  | .list, [l] => l.fine
  | .tuple, [l] => l.fine
  | .sorted, [l] => l != .dt
  | .str, [_] => true
  | .int, [_] => true
  | _, _ => false
def tgM (C : Ck) (t : Tg) (e : Expr) (ok : Str → Bool) : Option (List (Str × Nat)) := match t with
  | .one i => match asName e with
    | some x => if ok x && decide (C.N[i]? = some x) then some [(x, i)] else none
    | none => none
  | .two i j => match asTup e with
    | some [a, b] => match asName a, asName b with
      | some x, some y => if ok x && ok y && decide (C.N[i]? = some x) && decide (C.N[j]? = some y) then some [(x, i), (y, j)] else none
      | _, _ => none
    | _ => none

/-- what may stand as a test -/
def tstOk : Ex → Bool
  | .ite _ _ _ => false
  | .and a b => tstOk a && tstOk b
  | .or a b => tstOk a && tstOk b
  | .not a => tstOk a
  | _ => true
def tstsOk : Es → Bool
  | .nil => true
  | .cons e r => tstOk e && tstsOk r
def binL : Op → Lv → Lv → Bool
  | .add, la, lb => la.fine && lb.fine
  | .mul, la, _ => la.fine
  | _, _, _ => true
def cpL : Cp → Lv → Lv → Bool
  | .eq, la, lb => la != .dd && lb != .dd
  | .ne, la, lb => la != .dd && lb != .dd
  | .inn, la, lb => (la != .dd && lb.fine) || (la != .dt && lb == .dd)
  | .nin, la, lb => (la != .dd && lb.fine) || (la != .dt && lb == .dd)
  | _, _, _ => true
def foldB (op : BoolOp) (y : Expr) (r : List Expr) (p : Pos) : Expr := match r with
  | [] => y
  | z :: q => .BoolOp op (y :: z :: q) p

/-- methods: name, levels -/
def mtN : Mt → Str → Bool
  | .index, nm => decide (nm = ("index" : Str))
  | .count, nm => decide (nm = ("count" : Str))
  | .join, nm => decide (nm = ("join" : Str))
  | _, _ => false
def mtL : Mt → Lv → Lv → Bool
  | .index, la, lb => la.fine && lb != .dd
  | .count, la, _ => la.fine
  | .join, _, lb => lb.fine
  | _, _, _ => false
mutual
def ckE (C : Ck) : Ex → Scope → Own → Expr → Option Lv
  | .var i, sc, o, e => match asName e with
    | some x => if visB sc x && okName x && decide (C.N[i]? = some x) then some (lvV o i) else none
    | none => none
  | .cst d, _, _, e => match asCon e with
    | some c => if conM d c then some .cl else none
    | none => none
  | .glb x, sc, _, e => match asName e with
    | some y => if decide (x = y) && glB sc x && okName x && decide (x ∈ C.gs) then some .cl else none
    | none => none
  | .bin p a b, sc, o, e => match asBin e with
    | some (x, q, y) => match ckE C a sc o x, ckE C b sc o y with
      | some la, some lb => if opM p q && binL p la lb then some .cl else none
      | _, _ => none
    | none => none
  | .neg i, _, _, e => match asUn e with
    | some (.USub, a) => match asCon a with
      | some (.int j) => if decide (j = (i : Int)) then some .cl else none
      | _ => none
    | _ => none
  | .cmp p a b, sc, o, e => match asCmp e with
    | some (x, [q], [y]) => match ckE C a sc o x, ckE C b sc o y with
      | some la, some lb => if cpM p q && noSet y && cpL p la lb then some .cl else none
      | _, _ => none
    | _ => none
  | .lele a b c, sc, o, e => match asCmp e with
    | some (x, [.LtE, .LtE], [y, z]) => match ckE C a sc o x, ckE C b sc o y, ckE C c sc o z with
      | some _, some _, some _ => if noSet y && noSet z then some .cl else none
      | _, _, _ => none
    | _ => none
  | .and a b, sc, o, e => match asBool e with
    | some (.And, x :: y :: r, p) => match ckE C a sc o x, ckE C b sc o (foldB .And y r p) with
      | some la, some lb => if la != .dd && lb != .dd then some .cl else none
      | _, _ => none
    | _ => none
  | .or a b, sc, o, e => match asBool e with
    | some (.Or, x :: y :: r, p) => match ckE C a sc o x, ckE C b sc o (foldB .Or y r p) with
      | some la, some lb => if la != .dd && lb != .dd then some .cl else none
      | _, _ => none
    | _ => none
  | .not a, sc, o, e => match asUn e with
    | some (.Not, x) => match ckE C a sc o x with
      | some la => if la != .dd then some .cl else none
      | none => none
    | _ => none
  | .ite c a b, sc, o, e => match asIte e with
    | some (z, x, y) => match ckE C c sc o z, ckE C a sc o x, ckE C b sc o y with
      | some lc, some la, some lb => if lc != .dd && la.meet lb != .dd && tstOk c then some (la.meet lb) else none
      | _, _, _ => none
    | none => none
  | .call f es, sc, o, e => match asCall e with
    | some (g, x :: xs) => match ckEs C es sc o (x :: xs) with
      | some ls => if decide (f = g) && glB sc f && okName f && decide (f ∈ C.fs) && ls.all (· != .dd) then some (lvC (decide (f ∈ C.fl)) ls) else none
      | none => none
    | _ => none
  | .bi f es, sc, o, e => match asCall e, biN f with
    | some (g, x :: xs), some (nm, k) => match ckEs C es sc o (x :: xs) with
      | some ls => if decide (nm = g) && glB sc g && decide ((x :: xs).length = k) && biL f ls then some .cl else none
      | none => none
    | _, _ => none
  | .mt m a b, sc, o, e => match asMeth e with
    | some (ob, nm, [x], true) => match ckE C a sc o ob, ckE C b sc o x with
      | some la, some lb => if mtN m nm && mtL m la lb && plainA x && noCall0 ob then some .cl else none
      | _, _ => none
    | _ => none
  | .isi a t, sc, o, e => match asCall e with
    | some (g, [x, y]) => match asName y, ckE C a sc o x with
      | some tn, some la => if decide (g = ("isinstance" : Str)) && glB sc g && decide (tn = Str.ofString t.nm) && glB sc tn && la != .dd && plainA x then some .cl else none
      | _, _ => none
    | _ => none
  | .sub a i, sc, o, e => match asSub e with
    | some (x, y) => match ckE C a sc o x, ckE C i sc o y with
      | some la, some lb => if (la.fine || (la == .dd && lb != .dt)) && noSlice y then some .cl else none
      | _, _ => none
    | none => none
  | .slc a l h, sc, o, e => match asSub e with
    | some (x, y) => match asSlice y with
      | some (some lo, some hi, none) => match ckE C a sc o x, ckE C l sc o lo, ckE C h sc o hi with
        | some la, some _, some _ => if la.fine then some .cl else none
        | _, _, _ => none
      | _ => none
    | none => none
  | .slo a l, sc, o, e => match asSub e with
    | some (x, y) => match asSlice y with
      | some (some lo, none, none) => match ckE C a sc o x, ckE C l sc o lo with
        | some la, some _ => if la.fine then some .cl else none
        | _, _ => none
      | _ => none
    | none => none
  | .shi a h, sc, o, e => match asSub e with
    | some (x, y) => match asSlice y with
      | some (none, some hi, none) => match ckE C a sc o x, ckE C h sc o hi with
        | some la, some _ => if la.fine then some .cl else none
        | _, _ => none
      | _ => none
    | none => none
  | .rev a, sc, o, e => match asSub e with
    | some (x, y) => match asSlice y with
      | some (none, none, some st) => match asUn st, ckE C a sc o x with
        | some (.USub, z), some la => match asCon z with
          | some (.int 1) => if la.fine then some .cl else none
          | _ => none
        | _, _ => none
      | _ => none
    | none => none
  | .stp a k, sc, o, e => match asSub e with
    | some (x, y) => match asSlice y with
      | some (none, none, some st) => match ckE C a sc o x, ckE C k sc o st with
        | some la, some _ => if la.fine then some .cl else none
        | _, _ => none
      | _ => none
    | none => none
  | .lrg a, sc, o, e => match asCall e with
    | some (g, [x]) => match asCall x with
      | some (g2, [y]) => match ckE C a sc o y with
        | some _ => if decide (g = ("list" : Str)) && decide (g2 = ("range" : Str)) && glB sc g && glB sc g2 && plainA y then some .cl else none
        | none => none
      | _ => none
    | _ => none
  | .tup es, sc, o, e => match asTup e with
    | some xs => match ckEs C es sc o xs with
      | some ls => if ls.all (· == .cl) && decide (xs.length ≤ 1000) then some .cl else none
      | none => none
    | none => none
  | .lst es, sc, o, e => match asLst e with
    | some xs => match ckEs C es sc o xs with
      | some ls => if ls.all (· == .cl) && decide (xs.length ≤ 1000) then some .cl else none
      | none => none
    | none => none
  | .dic, _, _, _ => none
  | .lc t it ifs elt, sc, o, e => match asLc e with
    | some (x, tg, src, cs, scope) => match tgM C t tg (ownB scope sc) with
      | some own => match ckI C it sc o tg src, ckEs C ifs (relS scope sc) o cs, ckE C elt (relS scope sc) o x with
        | some _, some ls, some lx => if lx == .cl && ls.all (· != .dd) && decide (cs.length ≤ 1) && t.ok o && blkC C.N sc scope own && noSet src && tstsOk ifs then some .cl else none
        | _, _, _ => none
      | none => none
    | none => none
  | .lck t i ifs elt, sc, o, e => match asLc e with
    | some (x, tg, src, cs, scope) => match asName src, tgM C t tg (ownB scope sc) with
      | some y, some own => match ckEs C ifs (relS scope sc) o cs, ckE C elt (relS scope sc) o x with
        | some ls, some lx => if lx == .cl && ls.all (· != .dd) && decide (cs.length ≤ 1) && t.ok o && blkC C.N sc scope own && tstsOk ifs && visB sc y && okName y && decide (C.N[i]? = some y) && decide (i ∈ o.d) then some .cl else none
        | _, _ => none
      | _, _ => none
    | none => none
  | .sset a, sc, o, e => match asCall e with
    | some (g, [x]) => match asCall x with
      | some (g2, [y]) => match ckE C a sc o y with
        | some la => if decide (g = ("sorted" : Str)) && decide (g2 = ("set" : Str)) && glB sc g && glB sc g2 && plainA y && la.fine then some .cl else none
        | none => none
      | _ => none
    | _ => none
  | .dvl _, _, _, _ => none
  | .fst pre a post, sc, o, e => match asFst e with
    | some (s, x, t) => match ckE C a sc o x with
      | some _ => if decide (s = pre) && decide (t = post) && decide ((Str.empty ++ s).length ≤ 1000) then some .cl else none
      | none => none
    | none => none
def ckEs (C : Ck) : Es → Scope → Own → List Expr → Option (List Lv)
  | .nil, _, _, [] => some []
  | .cons e es, sc, o, x :: xs => match ckE C e sc o x, ckEs C es sc o xs with
    | some l, some ls => if plainA x then some (l :: ls) else none
    | _, _ => none
  | _, _, _, _ => none
/-- the level of the walked thing -/
def ckI (C : Ck) : It → Scope → Own → Expr → Expr → Option Lv
  | .seq e, sc, o, _, x => match ckE C e sc o x with
    | some l => if l.fine then some l else none
    | none => none
  | .keys _, _, _, _, _ => none
  | .rng a, sc, o, _, x => match asCall x with
    | some (g, [y]) => match ckE C a sc o y with
      | some _ => if decide (g = ("range" : Str)) && glB sc g && plainA y then some .cl else none
      | none => none
    | _ => none
  | .rng2 a b, sc, o, _, x => match asCall x with
    | some (g, [y, z]) => match ckE C a sc o y, ckE C b sc o z with
      | some _, some _ => if decide (g = ("range" : Str)) && glB sc g && plainA y && plainA z then some .cl else none
      | _, _ => none
    | _ => none
  | .enm e, sc, o, tg, x => match asCall x, asTup tg with
    | some (g, [y]), some _ => match ckE C e sc o y with
      | some l => if decide (g = ("enumerate" : Str)) && glB sc g && plainA y && l.fine then some l else none
      | none => none
    | _, _ => none
  | .zip a b, sc, o, tg, x => match asCall x, asTup tg with
    | some (g, [y, z]), some _ => match ckE C a sc o y, ckE C b sc o z with
      | some l, some m => if decide (g = ("zip" : Str)) && glB sc g && plainA y && plainA z && l.fine && m.fine then some (l.meet m) else none
      | _, _ => none
    | _, _ => none
end
end Rr

set_option linter.all false
set_option Elab.async false
set_option maxRecDepth 100000
set_option maxHeartbeats 2000000
/-! The check is sound: expressions. -/
namespace Rr
open PySem PySem.Spec PyProof.Rows L2

def blNames : List Str := ["len", "sum", "max", "min", "list", "tuple", "sorted", "set", "int", "str", "bool", "range", "zip", "enumerate", "isinstance"]
structure WF (X : Cx) (C : Ck) (G : Env) (cls : Str → Addr) : Prop where
  N : X.N = C.N
  nd : X.N.Nodup
  calm : X.calm = true
  un : X.A.units + 65 < cLine
  bl : ∀ x ∈ blNames, X.mg x = none
  fn : ∀ f ∈ C.fs, ∃ g, G.fn f = some g ∧ FnK X cls f g ∧ (f ∈ C.fl → ∀ ds d, g ds = .ok d → flat d = true)
  gl : ∀ x ∈ C.gs, ∃ d v u, G.gl x = some d ∧ X.mg x = some u ∧ RelV v u ∧ Dr X.K (fun _ => none) v d
theorem WF.blk {X : Cx} {C : Ck} {G : Env} {cls : Str → Addr} (w : WF X C G cls) (s : Shared) (H : Hp) (scope : Scope) (env : PySem.Env) (fp : List Addr) : WF (X.blk s H scope env fp) C G cls := ⟨w.N, w.nd, w.calm, w.un, w.bl, w.fn, w.gl⟩
theorem WF.tr {X : Cx} {C : Ck} {G : Env} {cls : Str → Addr} (w : WF X C G cls) (pn : List (Addr × Obj)) (xe : Value → Shared → Prop) : WF (X.tr pn xe) C G cls := ⟨w.N, w.nd, w.calm, w.un, w.bl, w.fn, w.gl⟩

theorem visB_vis {sc : Scope} {x : Str} (h : visB sc x = true) : Vis sc x := by
  unfold visB at h
  split at h
  · rename_i e; exact .inl e
  · rename_i e; exact .inr (.inl e)
  · rename_i e; exact .inr (.inr e)
  · cases h
theorem glB_gl {X : Cx} {sc : Scope} {x : Str} (hs : X.env.scope = sc) (h : glB sc x = true) : Gl X x := by
  unfold glB at h
  split at h
  · rename_i e
    show X.env.scope.names.lookup x = _
    rw [hs]; exact e
  · cases h
theorem okName_d {x : Str} (h : okName x = true) : (x == ("__debug__" : Str)) = false ∧ (x == ("__classdict__" : Str)) = false ∧ x ≠ "__name__" := by
  unfold okName at h
  simp only [Bool.and_eq_true, Bool.not_eq_true'] at h
  exact ⟨h.1.1, h.1.2, by simpa using h.2⟩
theorem conM_pe {X : Cx} {d : D} {c : Const} {k : Nat} {p : Pos} (h : conM d c = true) : ∃ v, PE X (.Constant c k p) (tC v) ∧ FlatR v d := by
  cases d <;> cases c <;> simp [conM] at h
  · exact ⟨_, pe_non, .non⟩
  · subst h; exact ⟨_, pe_bl, .bl _⟩
  · subst h; exact ⟨_, pe_int, .int _⟩
  · subst h; exact ⟨_, pe_str, .str _⟩
section
variable {C : Ck} {G : Env} {cls : Str → Addr}
theorem op_case {X : Cx} {p : Op} {q : Operator} {la lb : Lv} (h : opM p q = true) (hl : binL p la lb = true) : ∃ r, OpR X (binaryOp q) r ∧ Does2 X.K r la lb .cl (opD p) := by
  cases p <;> cases q <;> simp [opM] at h
  · simp only [binL, cpL, Bool.and_eq_true] at hl
    exact ⟨_, op_addAll, dz_add hl.1 hl.2⟩
  · exact ⟨_, op_sub, dz_sub⟩
  · exact ⟨_, op_mulAll, dz_mul hl⟩
  · exact ⟨_, op_fdiv, dz_fdiv⟩
  · exact ⟨_, op_mod, dz_mod⟩
  · exact ⟨_, op_pow, dz_pow⟩
theorem ne_of_bne {a b : Lv} (h : (a != b) = true) : a ≠ b := by
  intro e
  subst e
  simp at h
theorem cp_case {X : Cx} {p : Cp} {q : CmpOp} {la lb : Lv} (hu : X.A.units + 65 < cLine) (h : cpM p q = true)
    (hl : cpL p la lb = true) : ∃ r, OpR X (compareOp q) r ∧ Does2 X.K r la lb .cl (cpV p) := by
  cases p <;> cases q <;> simp only [cpM] at h <;> try (exact absurd h (by decide))
  · simp only [binL, cpL, Bool.and_eq_true] at hl
    exact ⟨_, op_eqD (by omega), dz_eq (ne_of_bne hl.1) (ne_of_bne hl.2)⟩
  · simp only [binL, cpL, Bool.and_eq_true] at hl
    exact ⟨_, op_neD (by omega), dz_ne (ne_of_bne hl.1) (ne_of_bne hl.2)⟩
  · exact ⟨_, op_lt, dz_lt⟩
  · exact ⟨_, op_le, dz_le⟩
  · exact ⟨_, op_gt, dz_gt⟩
  · exact ⟨_, op_ge, dz_ge⟩
  · exact ⟨_, op_isN, dz_isn⟩
  · exact ⟨_, op_notN, dz_isnn⟩
  · simp only [binL, cpL, Bool.or_eq_true, Bool.and_eq_true] at hl
    rcases hl with hl | hl
    · exact ⟨_, op_inAll hu, dz_in (ne_of_bne hl.1) hl.2⟩
    · have e : lb = .dd := by simpa using hl.2
      subst e
      exact ⟨_, op_inT (by omega), dz_inT (ne_of_bne hl.1)⟩
  · simp only [binL, cpL, Bool.or_eq_true, Bool.and_eq_true] at hl
    rcases hl with hl | hl
    · exact ⟨_, op_notAll hu, dz_nin (ne_of_bne hl.1) hl.2⟩
    · have e : lb = .dd := by simpa using hl.2
      subst e
      exact ⟨_, op_notInT (by omega), dz_ninT (ne_of_bne hl.1)⟩
theorem mem_bl {x : Str} (h : decide (x ∈ blNames) = true) : x ∈ blNames := of_decide_eq_true h
/-- the call of a built-in -/
theorem bi_case {X : Cx} {W : WX} {o : Own} (wf : WF X C G cls) {f : Bi} {nm : Str} {k : Nat} {x : Expr} {xs : List Expr} {ls : List Lv} {h : S → R (List D)} {p pos : Pos} (hn : biN f = some (nm, k)) (hl : biL f ls = true) (hg : Gl X nm) (hp : (x :: xs).all plainA = true)
    (ha : PA X (x :: xs) (tAs X.K cls W o ls h)) : PE X (.Call (.Name nm p) (x :: xs) [] pos) (tE X.K cls W o .cl fun s => (h s).bind (biD f)) := by
  cases f <;> simp only [biN, Option.some.injEq, Prod.mk.injEq, reduceCtorEq] at hn
  all_goals (obtain ⟨rfl, rfl⟩ := hn)
  · match ls, hl with
    | [l], hl => exact j_callB call_lenAll (dz_len (ne_of_bne hl)) PySem.boot_len hg (wf.bl _ (mem_bl (by decide +kernel))) (by decide) (by decide) hp ha
  · match ls, hl with
    | [l], hl => exact j_callB (cr_sumA wf.calm) (dz_sum hl) PyProof.Rows.boot_sum hg (wf.bl _ (mem_bl (by decide +kernel))) (by decide) (by decide) hp ha
  · match ls, hl with
    | [l], hl => exact j_callB (cr_max wf.calm) (dz_max hl) PyProof.Rows.boot_max hg (wf.bl _ (mem_bl (by decide +kernel))) (by decide) (by decide) hp ha
  · match ls, hl with
    | [l], hl => exact j_callB (cr_min wf.calm) (dz_min hl) (by decide +kernel) hg (wf.bl _ (mem_bl (by decide +kernel))) (by decide) (by decide) hp ha
  · match ls, hl with
    | [l, m], hl => exact j_callB (call_max2 wf.calm) dz_max2 PyProof.Rows.boot_max hg (wf.bl _ (mem_bl (by decide +kernel))) (by decide) (by decide) hp ha
  · match ls, hl with
    | [l, m], hl => exact j_callB (call_min2 wf.calm) dz_min2 (by decide +kernel) hg (wf.bl _ (mem_bl (by decide +kernel))) (by decide) (by decide) hp ha
  · match ls, hl with
    | [l], hl => exact j_callTy call_list_of (dz_list hl) PyProof.Rows.boot_list hg (wf.bl _ (mem_bl (by decide +kernel))) (by decide) (by decide) hp ha
  · match ls, hl with
    | [l], hl => exact j_callTy call_tuple_of (dz_tuple hl) PyProof.Rows.boot_tuple hg (wf.bl _ (mem_bl (by decide +kernel))) (by decide) (by decide) hp ha
  · match ls, hl with
    | [l], hl => exact j_callB (cr_sortA wf.calm) (dz_sorted (ne_of_bne hl)) (by decide +kernel) hg (wf.bl _ (mem_bl (by decide +kernel))) (by decide) (by decide) hp ha
  · match ls, hl with
    | [l], hl => exact j_callTy call_int1 dz_int PyProof.Rows.boot_int hg (wf.bl _ (mem_bl (by decide +kernel))) (by decide) (by decide) hp ha
  · match ls, hl with
    | [l], hl => exact j_callTy call_str_int dz_str (by decide +kernel) hg (wf.bl _ (mem_bl (by decide +kernel))) (by decide) (by decide) hp ha
theorem mt_case {X : Cx} {W : WX} {o : Own} (wf : WF X C G cls) {m : Mt} {nm : Str} {ob x : Expr} {la lb : Lv} {f g : S → R D} {ap cp : Pos} (hn : mtN m nm = true) (hl : mtL m la lb = true) (hp : plainA x = true) (hb : noCall0 ob = true) (hline : (ap.endLine == cp.line) = true)
    (ha : PE X ob (tE X.K cls W o la f)) (hx : PE X x (tE X.K cls W o lb g)) : PE X (.Call (.Attribute ob nm ap) [x] [] cp) (tE X.K cls W o .cl fun s => (f s).bind fun x => (g s).calm.bind fun y => mtD m x y) := by
  cases m <;> simp only [mtN, Bool.false_eq_true, decide_eq_true_eq] at hn
  · subst hn
    simp only [mtL, Bool.and_eq_true] at hl
    exact j_index wf.un hl.1 (ne_of_bne hl.2) hp hb hline ha hx
  · subst hn
    exact j_count hl hp hb hline ha hx
  · subst hn
    exact j_join hl hp hb hline ha hx
theorem es_len : ∀ {es : Es} {sc : Scope} {o : Own} {xs : List Expr} {ls : List Lv}, ckEs C es sc o xs = some ls → ∀ s ds, evEs G es s = .ok ds → ds.length = xs.length
  | .nil, sc, o, xs, ls, h, s, ds, e => by
    cases xs with
    | nil =>
      simp only [evEs] at e
      cases e; rfl
    | cons x xs => simp [ckEs] at h
  | .cons e es, sc, o, [], ls, h, s, ds, q => by simp [ckEs] at h
  | .cons e es, sc, o, x :: xs, ls, h, s, ds, q => by
    simp only [ckEs] at h
    split at h
    · rename_i l ms h1 h2
      simp only [evEs] at q
      cases e1 : evE G e s with
      | ok d =>
        rw [e1] at q
        simp only [R.bind_ok] at q
        cases e2 : evEs G es s with
        | ok ds2 =>
          rw [e2] at q
          cases q
          simp [es_len h2 s ds2 e2]
        | ex c p => rw [e2] at q; cases q
        | bad => rw [e2] at q; cases q
      | ex c p => rw [e1] at q; cases q
      | bad => rw [e1] at q; cases q
    · cases h
theorem es_plain : ∀ {es : Es} {sc : Scope} {o : Own} {xs : List Expr} {ls : List Lv}, ckEs C es sc o xs = some ls → xs.all plainA = true
  | .nil, sc, o, [], ls, h => rfl
  | .nil, sc, o, x :: xs, ls, h => by simp [ckEs] at h
  | .cons e es, sc, o, [], ls, h => by simp [ckEs] at h
  | .cons e es, sc, o, x :: xs, ls, h => by
    simp only [ckEs] at h
    split at h
    · rename_i l ms h1 h2
      split at h
      · rename_i hp
        rw [List.all_cons, hp, es_plain h2]; rfl
      · cases h
    · cases h
end
end Rr

set_option linter.all false
set_option Elab.async false
set_option maxRecDepth 100000
set_option maxHeartbeats 4000000
/-! The check is sound: expressions, by induction. -/
namespace Rr
open PySem PySem.Spec PyProof.Rows L2
section
variable {C : Ck} {G : Env} {cls : Str → Addr}
theorem pts_imp {X : Cx} {es : List Expr} {t t' : TT} (h : PTs X es t) (i : ∀ sg H Q, t' sg H Q → t sg H Q) : PTs X es t' := ⟨fun pins s sg H Q I q => h.run pins s sg H Q I (i _ _ _ q)⟩
theorem tgM_pg {X : Cx} {t : Tg} {e : Expr} {own : List (Str × Nat)} {ok : Str → Bool} (wf : WF X C G cls) (hok : ∀ x, ok x = true → Loc X.env.scope x ∧ (X.fn x = true ∨ X.env.scope.names.lookup x = some .local)) (h : tgM C t e ok = some own) : PG X e (gT X.K t) ∧ own.map (·.2) = t.slots := by
  cases t with
  | one i =>
    simp only [tgM] at h
    split at h
    · rename_i x hx
      split at h
      · rename_i hc
        cases h
        simp only [Bool.and_eq_true, decide_eq_true_eq] at hc
        obtain ⟨p, rfl⟩ := asName_eq hx
        obtain ⟨h1, h2⟩ := hok x hc.1
        exact ⟨j_one wf.nd (by rw [wf.N]; exact hc.2) h1 h2, rfl⟩
      · cases h
    · cases h
  | two i j =>
    simp only [tgM] at h
    split at h
    · rename_i a b hx
      split at h
      · rename_i x y hx1 hy1
        split at h
        · rename_i hc
          cases h
          simp only [Bool.and_eq_true, decide_eq_true_eq] at hc
          obtain ⟨k, p, rfl⟩ := asTup_eq hx
          obtain ⟨p1, rfl⟩ := asName_eq hx1
          obtain ⟨p2, rfl⟩ := asName_eq hy1
          obtain ⟨h1, h2⟩ := hok x hc.1.1.1
          obtain ⟨h3, h4⟩ := hok y hc.1.1.2
          exact ⟨j_two wf.calm wf.nd (by rw [wf.N]; exact hc.1.2) (by rw [wf.N]; exact hc.2) h1 h3 h2 h4, rfl⟩
        · cases h
      · cases h
    · cases h
theorem tgM_slots {t : Tg} {e : Expr} {own : List (Str × Nat)} {ok : Str → Bool} (h : tgM C t e ok = some own) : own.map (·.2) = t.slots := by
  cases t with
  | one i =>
    simp only [tgM] at h
    split at h
    · split at h
      · cases h; rfl
      · cases h
    · cases h
  | two i j =>
    simp only [tgM] at h
    split at h
    · split at h
      · split at h
        · cases h; rfl
        · cases h
      · cases h
    · cases h
theorem ownB_ok {X : Cx} {s : Shared} {H : Hp} {scope sc : Scope} {cl : List (Str × Addr)} {A : Addr} {fp : List Addr} {x : Str} (hs : X.env.scope = sc) (h : ownB scope sc x = true) :
    Loc (X.blk s H scope (compEnvC scope cl A X.env) fp).env.scope x ∧ ((X.blk s H scope (compEnvC scope cl A X.env) fp).fn x = true ∨ (X.blk s H scope (compEnvC scope cl A X.env) fp).env.scope.names.lookup x = some .local) := by
  have e : (X.blk s H scope (compEnvC scope cl A X.env) fp).env.scope = relS scope sc := by rw [← hs]; rfl
  rw [e]
  unfold ownB at h
  split at h
  · rename_i q; exact ⟨.inl q, .inr q⟩
  · rename_i q
    split at h
    · rename_i q2
      refine ⟨.inr q, .inl ?_⟩
      show (scope.names.lookup x == some .cell) = true
      rw [q2]; rfl
    · cases h
  · cases h
theorem bool_pw {X : Cx} {op : BoolOp} {y : Expr} {r : List Expr} {p : Pos} {t : TT}
    (h1 : PT X (foldB op y r p) t) (h2 : ∀ op' vs q, (foldB op y r p) = .BoolOp op' vs q → PW X (foldB op y r p) t) : PW X (.BoolOp op (y :: r) p) t := by
  cases r with
  | nil =>
    cases op with
    | And => exact pw_and1 h1
    | Or => exact pw_or1 h1
  | cons z r => exact h2 op (y :: z :: r) p rfl

/-- expressions whose text is no and, or, not, comparison, conditional -/
def plX : Ex → Bool
  | .ite _ _ _ => false
  | .and _ _ => false
  | .or _ _ => false
  | .not _ => false
  | .cmp _ _ _ => false
  | .lele _ _ _ => false
  | _ => true
theorem pl_case {X : Cx} {W : WX} {o : Own} {e : Expr} {lv : Lv} {f : S → R D} (hp : plainT e = true) (hn : lv ≠ .dd) (h : PE X e (tE X.K cls W o lv f)) :
    PT X e (tT X.K cls W o fun s => (f s).bind truD) ∧ ∀ op vs q, e = .BoolOp op vs q → PW X e (tT X.K cls W o fun s => (f s).bind truD) :=
  ⟨j_truth hp hn h, fun _ _ _ he => by subst he; cases hp⟩
theorem ck_plain {ir : Ex} {sc : Scope} {o : Own} {e : Expr} {lv : Lv} (hp : plX ir = true) (h : ckE C ir sc o e = some lv) : plainT e = true := by
  cases e with
  | BoolOp => cases ir <;> simp_all [ckE, plX, asName, asCon, asBin, asUn, asCall, asMeth, asSub, asTup, asLst, asLc, asFst]
  | UnaryOp op x p => cases op with
    | Not => cases ir <;> simp_all [ckE, plX, asName, asCon, asBin, asUn, asCall, asMeth, asSub, asTup, asLst, asLc, asFst]
    | _ => rfl
  | IfExp => cases ir <;> simp_all [ckE, plX, asName, asCon, asBin, asUn, asCall, asMeth, asSub, asTup, asLst, asLc, asFst]
  | Compare => cases ir <;> simp_all [ckE, plX, asName, asCon, asBin, asUn, asCall, asMeth, asSub, asTup, asLst, asLc, asFst]
  | _ => rfl

mutual
theorem sE : ∀ (ir : Ex) {X : Cx} (wf : WF X C G cls) {W : WX} (tk : Takes X W) {o : Own} {sc : Scope} {e : Expr} {lv : Lv} (hsc : X.env.scope = sc) (h : ckE C ir sc o e = some lv), PE X e (tE X.K cls W o lv fun s => evE G ir s)
  | .var i, X, wf, W, tk, o, sc, e, lv, hsc, h => by
    simp only [ckE] at h
    split at h
    · rename_i x hx
      split at h
      · rename_i hc
        cases h
        simp only [Bool.and_eq_true, decide_eq_true_eq] at hc
        obtain ⟨p, rfl⟩ := asName_eq hx
        obtain ⟨n1, n2, n3⟩ := okName_d hc.1.2
        have q := j_var (X := X) (cls := cls) (W := W) (o := o) (pos := p) (by rw [wf.N]; exact hc.2) (by rw [hsc]; exact visB_vis hc.1.1) n1 n2
        have e : (fun s => evE G (.var i) s) = fun s => getV s i := by funext s; rw [evE]; rfl
        rw [e]
        exact q
      · cases h
    · cases h
  | .cst d, X, wf, W, tk, o, sc, e, lv, hsc, h => by
    simp only [ckE] at h
    split at h
    · rename_i c hx
      split at h
      · rename_i hc
        cases h
        obtain ⟨k, p, rfl⟩ := asCon_eq hx
        obtain ⟨v, pv, r⟩ := conM_pe (X := X) (k := k) (p := p) hc
        have e : (fun s => evE G (.cst d) s) = fun _ => .ok d := by funext s; rw [evE]
        rw [e]
        exact j_cst pv r
      · cases h
    · cases h
  | .glb x, X, wf, W, tk, o, sc, e, lv, hsc, h => by
    simp only [ckE] at h
    split at h
    · rename_i y hx
      split at h
      · rename_i hc
        cases h
        simp only [Bool.and_eq_true, decide_eq_true_eq] at hc
        obtain ⟨⟨⟨rfl, hg⟩, hn⟩, hm⟩ := hc
        obtain ⟨p, rfl⟩ := asName_eq hx
        obtain ⟨d, v, u, g1, g2, g3, g4⟩ := wf.gl x hm
        exact j_glb (glB_gl hsc hg) g2 g3 (okName_d hn).1 g4 fun s => by rw [evE, g1]; rfl
      · cases h
    · cases h
  | .bin p a b, X, wf, W, tk, o, sc, e, lv, hsc, h => by
    simp only [ckE] at h
    split at h
    · rename_i x q y hx
      split at h
      · rename_i la lb h1 h2
        split at h
        · rename_i hc
          cases h
          rw [Bool.and_eq_true] at hc
          obtain ⟨pp, rfl⟩ := asBin_eq hx
          obtain ⟨r, ho, dz⟩ := op_case (X := X) hc.1 hc.2
          have e : (fun s => evE G (.bin p a b) s) = fun s => (evE G a s).bind fun x => (evE G b s).bind fun y => opD p x y := by funext s; rw [evE]
          rw [e]
          exact j_bin ho dz (sE a wf tk hsc h1) (sE b wf tk hsc h2)
        · cases h
      · cases h
    · cases h
  | .neg i, X, wf, W, tk, o, sc, e, lv, hsc, h => by
    simp only [ckE] at h
    split at h
    · rename_i a hx
      split at h
      · rename_i j hy
        split at h
        · rename_i hc
          cases h
          have hc := of_decide_eq_true hc
          subst hc
          obtain ⟨p, rfl⟩ := asUn_eq hx
          obtain ⟨k, p2, rfl⟩ := asCon_eq hy
          refine pe_imp (pe_un un_neg pe_int) fun sg H Q q => ?_
          obtain ⟨F, s, ps, A, q⟩ := q
          dsimp only at q
          rw [evE] at q
          exact ⟨_, rfl, q _ F H (Ext.refl A.sub) (.int _)⟩
        · cases h
      · cases h
    · cases h
  | .cmp p a b, X, wf, W, tk, o, sc, e, lv, hsc, h => by
    simp only [ckE] at h
    split at h
    · rename_i x q y hx
      split at h
      · rename_i la lb h1 h2
        split at h
        · rename_i hc
          cases h
          rw [Bool.and_eq_true, Bool.and_eq_true] at hc
          obtain ⟨pp, rfl⟩ := asCmp_eq hx
          obtain ⟨r, ho, dz⟩ := cp_case (X := X) wf.un hc.1.1 hc.2
          have e : (fun s => evE G (.cmp p a b) s) = fun s => (evE G a s).bind fun x => (evE G b s).bind fun y => cpV p x y := by funext s; rw [evE]; rfl
          rw [e]
          exact j_cmp ho hc.1.2 dz (sE a wf tk hsc h1) (sE b wf tk hsc h2)
        · cases h
      · cases h
    · cases h
  | .lele a b c, X, wf, W, tk, o, sc, e, lv, hsc, h => by
    simp only [ckE] at h
    split at h
    · rename_i x y z hx
      split at h
      · rename_i h1 h2 h3
        split at h
        · rename_i hc
          cases h
          rw [Bool.and_eq_true] at hc
          obtain ⟨pp, rfl⟩ := asCmp_eq hx
          have e : (fun s => evE G (.lele a b c) s) = fun s => (evE G a s).bind fun x => (evE G b s).bind fun y => (cpD .le x y).bind fun k => if k then (evE G c s).bind fun z => (cpD .le y z).bind fun l => .ok (.bool l) else .ok (.bool false) := by funext s; rw [evE]
          rw [e]
          exact j_lele hc.1 hc.2 (sE a wf tk hsc h1) (sE b wf tk hsc h2) (sE c wf tk hsc h3)
        · cases h
      · cases h
    · cases h
  | .and a b, X, wf, W, tk, o, sc, e, lv, hsc, h => by
    simp only [ckE] at h
    split at h
    · rename_i x y r p hx
      split at h
      · rename_i la lb h1 h2
        split at h
        · rename_i hc
          cases h
          have he := asBool_eq hx
          subst he
          have e : (fun s => evE G (.and a b) s) = fun s => andD (evE G a s) (evE G b s) := by funext s; rw [evE]; rfl
          rw [e]
          have p1 := sE a wf tk hsc h1
          have p2 := sE b wf tk hsc h2
          cases r with
          | nil => exact j_and p1 (pe_one p2)
          | cons z r => exact j_and p1 p2
        · cases h
      · cases h
    · cases h
  | .or a b, X, wf, W, tk, o, sc, e, lv, hsc, h => by
    simp only [ckE] at h
    split at h
    · rename_i x y r p hx
      split at h
      · rename_i la lb h1 h2
        split at h
        · rename_i hc
          cases h
          have he := asBool_eq hx
          subst he
          have e : (fun s => evE G (.or a b) s) = fun s => orD (evE G a s) (evE G b s) := by funext s; rw [evE]; rfl
          rw [e]
          have p1 := sE a wf tk hsc h1
          have p2 := sE b wf tk hsc h2
          cases r with
          | nil => exact j_or p1 (pe_one p2)
          | cons z r => exact j_or p1 p2
        · cases h
      · cases h
    · cases h
  | .not a, X, wf, W, tk, o, sc, e, lv, hsc, h => by
    simp only [ckE] at h
    split at h
    · rename_i x hx
      split at h
      · rename_i la h1
        split at h
        · rename_i hc
          cases h
          obtain ⟨pp, rfl⟩ := asUn_eq hx
          have e : (fun s => evE G (.not a) s) = fun s => (evE G a s).bind fun x => (truD x).bind fun k => .ok (.bool (!k)) := by funext s; rw [evE]
          rw [e]
          exact j_notE (ne_of_bne hc) (sE a wf tk hsc h1)
        · cases h
      · cases h
    · cases h
  | .ite c a b, X, wf, W, tk, o, sc, e, lv, hsc, h => by
    simp only [ckE] at h
    split at h
    · rename_i z x y hx
      split at h
      · rename_i lc la lb h1 h2 h3
        split at h
        · rename_i hc
          cases h
          rw [Bool.and_eq_true, Bool.and_eq_true] at hc
          obtain ⟨pp, rfl⟩ := asIte_eq hx
          have e : (fun s => evE G (.ite c a b) s) = fun s => (evE G c s).bind fun x => (truD x).bind fun k => if k then evE G a s else evE G b s := by funext s; rw [evE]
          rw [e]
          exact j_ite (ne_of_bne hc.1.2) (sT c wf tk hsc h1 (ne_of_bne hc.1.1) hc.2).1 (sE a wf tk hsc h2) (sE b wf tk hsc h3)
        · cases h
      · cases h
    · cases h
  | .call f es, X, wf, W, tk, o, sc, e, lv, hsc, h => by
    simp only [ckE] at h
    split at h
    · rename_i g x xs hx
      split at h
      · rename_i ls h1
        split at h
        · rename_i hc
          cases h
          simp only [Bool.and_eq_true, decide_eq_true_eq] at hc
          obtain ⟨⟨⟨⟨rfl, hg⟩, hn⟩, hm⟩, hd⟩ := hc
          obtain ⟨p, q, rfl⟩ := asCall_eq hx
          obtain ⟨φ, g1, g2, g3⟩ := wf.fn f hm
          have e : (fun s => evE G (.call f es) s) = fun s => (evEs G es s).bind φ := by funext s; rw [evE, g1]
          rw [e]
          exact j_call tk g2 (fun hf => g3 (of_decide_eq_true hf)) (glB_gl hsc hg) (okName_d hn).1 (es_plain h1) hd (sEs es wf tk hsc h1)
        · cases h
      · cases h
    · cases h
  | .bi f es, X, wf, W, tk, o, sc, e, lv, hsc, h => by
    simp only [ckE] at h
    split at h
    · rename_i g x xs nm k hx hb
      split at h
      · rename_i ls h1
        split at h
        · rename_i hc
          cases h
          simp only [Bool.and_eq_true, decide_eq_true_eq] at hc
          obtain ⟨⟨⟨rfl, hg⟩, hk⟩, hl⟩ := hc
          obtain ⟨p, q, rfl⟩ := asCall_eq hx
          have e : (fun s => evE G (.bi f es) s) = fun s => (evEs G es s).bind (biD f) := by funext s; rw [evE]
          rw [e]
          exact bi_case wf hb hl (glB_gl hsc hg) (es_plain h1) (sEs es wf tk hsc h1)
        · cases h
      · cases h
    · cases h
  | .mt m a b, X, wf, W, tk, o, sc, e, lv, hsc, h => by
    simp only [ckE] at h
    split at h
    · rename_i ob nm x hx
      split at h
      · rename_i la lb h1 h2
        split at h
        · rename_i hc
          cases h
          simp only [Bool.and_eq_true] at hc
          obtain ⟨⟨⟨c1, c2⟩, c3⟩, c4⟩ := hc
          obtain ⟨ap, cp, rfl, hl⟩ := asMeth_eq hx
          have e : (fun s => evE G (.mt m a b) s) = fun s => (evE G a s).bind fun x => (evE G b s).calm.bind fun y => mtD m x y := by funext s; rw [evE]
          rw [e]
          exact mt_case wf c1 c2 c3 c4 hl (sE a wf tk hsc h1) (sE b wf tk hsc h2)
        · cases h
      · cases h
    · cases h
  | .isi a t, X, wf, W, tk, o, sc, e, lv, hsc, h => by
    simp only [ckE] at h
    split at h
    · rename_i g x y hx
      split at h
      · rename_i tn la h1 h2
        split at h
        · rename_i hc
          cases h
          simp only [Bool.and_eq_true, decide_eq_true_eq] at hc
          obtain ⟨⟨⟨⟨⟨rfl, hg⟩, rfl⟩, ht⟩, hl⟩, hp⟩ := hc
          obtain ⟨p, q, rfl⟩ := asCall_eq hx
          obtain ⟨p2, rfl⟩ := asName_eq h1
          have e : (fun s => evE G (.isi a t) s) = fun s => (evE G a s).bind fun x => (isiD x t).bind fun k => .ok (.bool k) := by funext s; rw [evE]
          rw [e]
          refine j_isi (ne_of_bne hl) (glB_gl hsc hg) (wf.bl _ (mem_bl (by decide +kernel))) (glB_gl hsc ht) (wf.bl _ ?_) hp (sE a wf tk hsc h2)
          cases t <;> exact mem_bl (by decide +kernel)
        · cases h
      · cases h
    · cases h
  | .sub a i, X, wf, W, tk, o, sc, e, lv, hsc, h => by
    simp only [ckE] at h
    split at h
    · rename_i x y hx
      split at h
      · rename_i la lb h1 h2
        split at h
        · rename_i hc
          cases h
          rw [Bool.and_eq_true] at hc
          obtain ⟨pp, rfl⟩ := asSub_eq hx
          have e : (fun s => evE G (.sub a i) s) = fun s => (evE G a s).bind fun x => (evE G i s).bind fun y => subD x y := by funext s; rw [evE]
          rw [e]
          rcases Bool.or_eq_true _ _ |>.mp hc.1 with c | c
          · exact j_ix ix_all hc.2 (dz_sub2 c) (sE a wf tk hsc h1) (sE i wf tk hsc h2)
          · rw [Bool.and_eq_true] at c
            have q : la = .dd := by simpa using c.1
            subst q
            exact j_ixD (by have := wf.un; omega) hc.2 (ne_of_bne c.2) (sE a wf tk hsc h1) (sE i wf tk hsc h2)
        · cases h
      · cases h
    · cases h
  | .slc a l u, X, wf, W, tk, o, sc, e, lv, hsc, h => by
    simp only [ckE] at h
    split at h
    · rename_i x y hx
      split at h
      · rename_i lo hi hy
        split at h
        · rename_i la ll lu h1 h2 h3
          split at h
          · rename_i hc
            cases h
            obtain ⟨pp, rfl⟩ := asSub_eq hx
            obtain ⟨p2, rfl⟩ := asSlice_eq hy
            have e : (fun s => evE G (.slc a l u) s) = fun s => (evE G a s).bind fun x => (evE G l s).bind fun y => (intD y).bind fun i => (evE G u s).bind fun z => (intD z).bind fun j => slcD (some i) (some j) x := by funext s; rw [evE]
            rw [e]
            exact j_slc hc (sE a wf tk hsc h1) (sE l wf tk hsc h2) (sE u wf tk hsc h3)
          · cases h
        · cases h
      · cases h
    · cases h
  | .slo a l, X, wf, W, tk, o, sc, e, lv, hsc, h => by
    simp only [ckE] at h
    split at h
    · rename_i x y hx
      split at h
      · rename_i lo hy
        split at h
        · rename_i la ll h1 h2
          split at h
          · rename_i hc
            cases h
            obtain ⟨pp, rfl⟩ := asSub_eq hx
            obtain ⟨p2, rfl⟩ := asSlice_eq hy
            have e : (fun s => evE G (.slo a l) s) = fun s => (evE G a s).bind fun x => (evE G l s).bind fun y => (intD y).bind fun i => slcD (some i) none x := by funext s; rw [evE]
            rw [e]
            exact j_slo hc (sE a wf tk hsc h1) (sE l wf tk hsc h2)
          · cases h
        · cases h
      · cases h
    · cases h
  | .shi a u, X, wf, W, tk, o, sc, e, lv, hsc, h => by
    simp only [ckE] at h
    split at h
    · rename_i x y hx
      split at h
      · rename_i hi hy
        split at h
        · rename_i la lu h1 h2
          split at h
          · rename_i hc
            cases h
            obtain ⟨pp, rfl⟩ := asSub_eq hx
            obtain ⟨p2, rfl⟩ := asSlice_eq hy
            have e : (fun s => evE G (.shi a u) s) = fun s => (evE G a s).bind fun x => (evE G u s).bind fun z => (intD z).bind fun j => slcD none (some j) x := by funext s; rw [evE]
            rw [e]
            exact j_shi hc (sE a wf tk hsc h1) (sE u wf tk hsc h2)
          · cases h
        · cases h
      · cases h
    · cases h
  | .rev a, X, wf, W, tk, o, sc, e, lv, hsc, h => by
    simp only [ckE] at h
    split at h
    · rename_i x y hx
      split at h
      · rename_i st hy
        split at h
        · rename_i z la h1 h2
          split at h
          · rename_i h3
            split at h
            · rename_i hc
              cases h
              obtain ⟨pp, rfl⟩ := asSub_eq hx
              obtain ⟨p2, rfl⟩ := asSlice_eq hy
              obtain ⟨p3, rfl⟩ := asUn_eq h1
              obtain ⟨k, p4, rfl⟩ := asCon_eq h3
              have e : (fun s => evE G (.rev a) s) = fun s => (evE G a s).bind revD := by funext s; rw [evE]
              rw [e]
              exact j_rev hc (sE a wf tk hsc h2)
            · cases h
          · cases h
        · cases h
      · cases h
    · cases h
  | .stp a k, X, wf, W, tk, o, sc, e, lv, hsc, h => by
    simp only [ckE] at h
    split at h
    · rename_i x y hx
      split at h
      · rename_i st hy
        split at h
        · rename_i la lk h1 h2
          split at h
          · rename_i hl
            cases h
            obtain ⟨p, rfl⟩ := asSub_eq hx
            obtain ⟨p2, rfl⟩ := asSlice_eq hy
            have e : (fun s => evE G (.stp a k) s) = fun s => (evE G a s).bind fun x => (evE G k s).bind fun y => (intD y).bind fun i => stpD x i := by funext s; rw [evE]
            rw [e]
            exact j_stp hl (sE a wf tk hsc h1) (sE k wf tk hsc h2)
          · cases h
        · cases h
      · cases h
    · cases h
  | .lrg a, X, wf, W, tk, o, sc, e, lv, hsc, h => by
    simp only [ckE] at h
    split at h
    · rename_i g x hx
      split at h
      · rename_i g2 y hy
        split at h
        · rename_i la h1
          split at h
          · rename_i hc
            cases h
            simp only [Bool.and_eq_true, decide_eq_true_eq] at hc
            obtain ⟨⟨⟨⟨rfl, rfl⟩, c3⟩, c4⟩, c5⟩ := hc
            obtain ⟨p, q, rfl⟩ := asCall_eq hx
            obtain ⟨p2, q2, rfl⟩ := asCall_eq hy
            have e : (fun s => evE G (.lrg a) s) = fun s => (evE G a s).bind fun x => biD .listRange [x] := by funext s; rw [evE]
            rw [e]
            exact j_listRg wf.calm (glB_gl hsc c3) (wf.bl _ (mem_bl (by decide +kernel))) (glB_gl hsc c4) (wf.bl _ (mem_bl (by decide +kernel))) c5 (sE a wf tk hsc h1)
          · cases h
        · cases h
      · cases h
    · cases h
  | .tup es, X, wf, W, tk, o, sc, e, lv, hsc, h => by
    simp only [ckE] at h
    split at h
    · rename_i xs hx
      split at h
      · rename_i ls h1
        split at h
        · rename_i hc
          cases h
          rw [Bool.and_eq_true] at hc
          obtain ⟨k, p, rfl⟩ := asTup_eq hx
          have e : (fun s => evE G (.tup es) s) = fun s => (evEs G es s).bind fun xs => .ok (.tuple xs) := by funext s; rw [evE]
          rw [e]
          exact j_tup (fun l hl => by simpa using List.all_eq_true.mp hc.1 l hl) (of_decide_eq_true hc.2) (sEs es wf tk hsc h1) (es_len h1)
        · cases h
      · cases h
    · cases h
  | .lst es, X, wf, W, tk, o, sc, e, lv, hsc, h => by
    simp only [ckE] at h
    split at h
    · rename_i xs hx
      split at h
      · rename_i ls h1
        split at h
        · rename_i hc
          cases h
          rw [Bool.and_eq_true] at hc
          obtain ⟨p, rfl⟩ := asLst_eq hx
          have e : (fun s => evE G (.lst es) s) = fun s => (evEs G es s).bind fun xs => .ok (.list xs) := by funext s; rw [evE]
          rw [e]
          exact j_lst (fun l hl => by simpa using List.all_eq_true.mp hc.1 l hl) (of_decide_eq_true hc.2) (sEs es wf tk hsc h1) (es_len h1)
        · cases h
      · cases h
    · cases h
  | .dic, X, wf, W, tk, o, sc, e, lv, hsc, h => by simp [ckE] at h
  | .lc t it ifs elt, X, wf, W, tk, o, sc, e, lv, hsc, h => by
    simp only [ckE] at h
    split at h
    · rename_i x tg src cs scope hx
      split at h
      · rename_i own h0
        split at h
        · rename_i li ls lx h1 h2 h3
          split at h
          · rename_i hc
            cases h
            simp only [Bool.and_eq_true, decide_eq_true_eq, beq_iff_eq] at hc
            obtain ⟨⟨⟨⟨⟨⟨hlx, hls⟩, hcs⟩, hto⟩, hblk⟩, hns⟩, hts⟩ := hc
            subst hlx
            obtain ⟨p, rfl⟩ := asLc_eq hx
            have e : (fun s => evE G (.lc t it ifs elt) s) = fun s => (evI G it s).bind fun ds => if ds.length ≤ LIM then (lcL (fun d => bindT t d s) (fun s' => evT G ifs s') (fun s' => evE G elt s') ds).bind fun ys => .ok (.list ys) else .bad := by funext s; rw [evE]
            rw [e]
            have hsl := tgM_slots h0
            have P := pe_lc (pos := p) (elt := x) (ifs := cs) (g := gT X.K t) wf.calm wf.nd (sI it wf tk hsc h1) (blkOk_by (by rw [wf.N, hsc]; exact hblk)) (fun s H A cl fp => (tgM_pg (wf.blk s H scope _ fp) (fun x hx => ownB_ok hsc hx) h0).1)
              (tt := tT X.K cls W0 o fun s => evT G ifs s) (fun s H A cl fp => sTs ifs (wf.blk s H scope (compEnvC scope cl A X.env) fp) takes0 (by rw [← hsc]; rfl) h2 (fun l hl => ne_of_bne (List.all_eq_true.mp hls l hl)) hcs hts) (te := tE X.K cls W0 o .cl fun s => evE G elt s) (fun s H A cl fp => sE elt (wf.blk s H scope (compEnvC scope cl A X.env) fp) takes0 (by rw [← hsc]; rfl) h3) (no_fold hns _)
            rw [hsl] at P
            exact pe_imp P fun sg H Q q => lc_read hto q
          · cases h
        · cases h
      · cases h
    · cases h
  | .lck t i ifs elt, X, wf, W, tk, o, sc, e, lv, hsc, h => by
    simp only [ckE] at h
    split at h
    · rename_i x tg src cs scope hx
      split at h
      · rename_i y own hy h0
        split at h
        · rename_i ls lx h2 h3
          split at h
          · rename_i hc
            cases h
            simp only [Bool.and_eq_true, decide_eq_true_eq, beq_iff_eq] at hc
            obtain ⟨⟨⟨⟨⟨⟨⟨⟨⟨hlx, hls⟩, hcs⟩, hto⟩, hblk⟩, hts⟩, hvis⟩, hok⟩, hN⟩, hod⟩ := hc
            subst hlx
            obtain ⟨p, rfl⟩ := asLc_eq hx
            obtain ⟨p2, rfl⟩ := asName_eq hy
            obtain ⟨n1, n2, n3⟩ := okName_d hok
            have e : (fun s => evE G (.lck t i ifs elt) s) = fun s => ((getV s i).bind keysD).bind fun ds => if ds.length ≤ LIM then (lcL (fun d => bindT t d s) (fun s' => evT G ifs s') (fun s' => evE G elt s') ds).bind fun ys => .ok (.list ys) else .bad := by funext s; rw [evE]
            rw [e]
            have hsl := tgM_slots h0
            have P := pe_lc (pos := p) (elt := x) (ifs := cs) (g := gT X.K t) wf.calm wf.nd (j_keysL (cls := cls) (W := W) (o := o) (tg := tg) (pos := p2) (by rw [wf.N]; exact hN) (by rw [hsc]; exact visB_vis hvis) n1 n2 hod) (blkOk_by (by rw [wf.N, hsc]; exact hblk)) (fun s H A cl fp => (tgM_pg (wf.blk s H scope _ fp) (fun x hx => ownB_ok hsc hx) h0).1)
              (tt := tT X.K cls W0 o fun s => evT G ifs s) (fun s H A cl fp => sTs ifs (wf.blk s H scope (compEnvC scope cl A X.env) fp) takes0 (by rw [← hsc]; rfl) h2 (fun l hl => ne_of_bne (List.all_eq_true.mp hls l hl)) hcs hts) (te := tE X.K cls W0 o .cl fun s => evE G elt s) (fun s H A cl fp => sE elt (wf.blk s H scope (compEnvC scope cl A X.env) fp) takes0 (by rw [← hsc]; rfl) h3)
            rw [hsl] at P
            exact lck_pe hod hto P
          · cases h
        · cases h
      · cases h
    · cases h
  | .sset a, X, wf, W, tk, o, sc, e, lv, hsc, h => by
    simp only [ckE] at h
    split at h
    · rename_i g x hx
      split at h
      · rename_i g2 y hy
        split at h
        · rename_i la h1
          split at h
          · rename_i hc
            cases h
            simp only [Bool.and_eq_true, decide_eq_true_eq] at hc
            obtain ⟨⟨⟨⟨⟨rfl, rfl⟩, hg⟩, hg2⟩, hp⟩, hl⟩ := hc
            obtain ⟨p, q, rfl⟩ := asCall_eq hx
            obtain ⟨p2, q2, rfl⟩ := asCall_eq hy
            have e : (fun s => evE G (.sset a) s) = fun s => (evE G a s).bind fun x => biD .sortedSet [x] := by funext s; rw [evE]
            rw [e]
            exact j_sset wf.calm hl (glB_gl hsc hg) (wf.bl _ (mem_bl (by decide +kernel))) (glB_gl hsc hg2) (wf.bl _ (mem_bl (by decide +kernel))) hp (sE a wf tk hsc h1)
          · cases h
        · cases h
      · cases h
    · cases h
  | .dvl _, X, wf, W, tk, o, sc, e, lv, hsc, h => by simp [ckE] at h
  | .fst pre a post, X, wf, W, tk, o, sc, e, lv, hsc, h => by
    simp only [ckE] at h
    split at h
    · rename_i s x t hx
      split at h
      · rename_i l h1
        split at h
        · rename_i hc
          cases h
          simp only [Bool.and_eq_true, decide_eq_true_eq] at hc
          obtain ⟨⟨rfl, rfl⟩, hs⟩ := hc
          obtain ⟨k1, p1, p2, k3, p3, p, rfl⟩ := asFst_eq hx
          have e : (fun s' => evE G (.fst s a t) s') = fun s' => (evE G a s').bind (fstD s t) := by
            funext s'
            rw [evE]
            first | rfl | (congr 1; funext x; cases x <;> rfl)
          rw [e]
          exact j_fst (Nat.le_trans hs (by decide)) (sE a wf tk hsc h1)
        · cases h
      · cases h
    · cases h
theorem sEs : ∀ (es : Es) {X : Cx} (wf : WF X C G cls) {W : WX} (tk : Takes X W) {o : Own} {sc : Scope} {xs : List Expr} {ls : List Lv} (hsc : X.env.scope = sc) (h : ckEs C es sc o xs = some ls), PA X xs (tAs X.K cls W o ls fun s => evEs G es s)
  | .nil, X, wf, W, tk, o, sc, [], ls, hsc, h => by
    simp only [ckEs] at h
    cases h
    have e : (fun s => evEs G .nil s) = fun _ => .ok [] := by funext s; rw [evEs]
    rw [e]
    exact j_nil
  | .nil, X, wf, W, tk, o, sc, x :: xs, ls, hsc, h => by simp [ckEs] at h
  | .cons e es, X, wf, W, tk, o, sc, [], ls, hsc, h => by simp [ckEs] at h
  | .cons e es, X, wf, W, tk, o, sc, x :: xs, ls, hsc, h => by
    simp only [ckEs] at h
    split at h
    · rename_i l ms h1 h2
      split at h
      · rename_i hp
        cases h
        have q : (fun s => evEs G (.cons e es) s) = fun s => (evE G e s).bind fun x => (evEs G es s).bind fun xs => .ok (x :: xs) := by funext s; rw [evEs]
        rw [q]
        exact j_cons hp (sE e wf tk hsc h1) (sEs es wf tk hsc h2)
      · cases h
    · cases h
theorem sTs : ∀ (es : Es) {X : Cx} (wf : WF X C G cls) {W : WX} (tk : Takes X W) {o : Own} {sc : Scope} {xs : List Expr} {ls : List Lv} (hsc : X.env.scope = sc) (h : ckEs C es sc o xs = some ls) (hl : ∀ l ∈ ls, l ≠ .dd) (hn : xs.length ≤ 1) (hts : tstsOk es = true), PTs X xs (tT X.K cls W o fun s => evT G es s)
  | .nil, X, wf, W, tk, o, sc, [], ls, hsc, h, hl, hn, hts => pts_imp pts_nil fun sg H Q q => by
    obtain ⟨F, s, ps, A, q⟩ := q
    dsimp only at q
    rw [evT] at q
    exact q F H (Ext.refl A.sub)
  | .nil, X, wf, W, tk, o, sc, x :: xs, ls, hsc, h, hl, hn, hts => by simp [ckEs] at h
  | .cons e es, X, wf, W, tk, o, sc, [], ls, hsc, h, hl, hn, hts => by simp [ckEs] at h
  | .cons e es, X, wf, W, tk, o, sc, x :: xs, ls, hsc, h, hl, hn, hts => by
    have hxs : xs = [] := by
      cases xs with
      | nil => rfl
      | cons y r => simp at hn
    subst hxs
    simp only [ckEs] at h
    split at h
    · rename_i l ms h1 h2
      split at h
      · cases h
        cases es with
        | cons e2 es2 => simp [ckEs] at h2
        | nil =>
          simp only [tstsOk, Bool.and_eq_true] at hts
          refine pts_imp (pts_one (sT e wf tk hsc h1 (hl l List.mem_cons_self) hts.1).1) fun sg H Q q => ?_
          obtain ⟨F, s, ps, A, q⟩ := q
          refine ⟨F, s, ps, A, ?_⟩
          dsimp only at q ⊢
          rw [evT, ← bind_assoc] at q
          refine q.bind.imp fun k _ q1 => ?_
          cases k with
          | true => rw [if_pos rfl, evT] at q1; exact q1
          | false => rw [if_neg Bool.false_ne_true] at q1; exact q1
      · cases h
    · cases h
theorem sT : ∀ (ir : Ex) {X : Cx} (wf : WF X C G cls) {W : WX} (tk : Takes X W) {o : Own} {sc : Scope} {e : Expr} {lv : Lv} (hsc : X.env.scope = sc) (h : ckE C ir sc o e = some lv) (hn : lv ≠ .dd) (ht : tstOk ir = true),
    PT X e (tT X.K cls W o fun s => (evE G ir s).bind truD) ∧ ∀ op vs q, e = .BoolOp op vs q → PW X e (tT X.K cls W o fun s => (evE G ir s).bind truD)
  | .var i, X, wf, W, tk, o, sc, e, lv, hsc, h, hn, ht => pl_case (ck_plain rfl h) hn (sE (.var i) wf tk hsc h)
  | .cst d, X, wf, W, tk, o, sc, e, lv, hsc, h, hn, ht => pl_case (ck_plain rfl h) hn (sE (.cst d) wf tk hsc h)
  | .glb x, X, wf, W, tk, o, sc, e, lv, hsc, h, hn, ht => pl_case (ck_plain rfl h) hn (sE (.glb x) wf tk hsc h)
  | .bin p a b, X, wf, W, tk, o, sc, e, lv, hsc, h, hn, ht => pl_case (ck_plain rfl h) hn (sE (.bin p a b) wf tk hsc h)
  | .neg i, X, wf, W, tk, o, sc, e, lv, hsc, h, hn, ht => pl_case (ck_plain rfl h) hn (sE (.neg i) wf tk hsc h)
  | .call f es, X, wf, W, tk, o, sc, e, lv, hsc, h, hn, ht => pl_case (ck_plain rfl h) hn (sE (.call f es) wf tk hsc h)
  | .bi f es, X, wf, W, tk, o, sc, e, lv, hsc, h, hn, ht => pl_case (ck_plain rfl h) hn (sE (.bi f es) wf tk hsc h)
  | .mt m a b, X, wf, W, tk, o, sc, e, lv, hsc, h, hn, ht => pl_case (ck_plain rfl h) hn (sE (.mt m a b) wf tk hsc h)
  | .isi a t, X, wf, W, tk, o, sc, e, lv, hsc, h, hn, ht => pl_case (ck_plain rfl h) hn (sE (.isi a t) wf tk hsc h)
  | .sub a i, X, wf, W, tk, o, sc, e, lv, hsc, h, hn, ht => pl_case (ck_plain rfl h) hn (sE (.sub a i) wf tk hsc h)
  | .slc a l u, X, wf, W, tk, o, sc, e, lv, hsc, h, hn, ht => pl_case (ck_plain rfl h) hn (sE (.slc a l u) wf tk hsc h)
  | .slo a l, X, wf, W, tk, o, sc, e, lv, hsc, h, hn, ht => pl_case (ck_plain rfl h) hn (sE (.slo a l) wf tk hsc h)
  | .shi a u, X, wf, W, tk, o, sc, e, lv, hsc, h, hn, ht => pl_case (ck_plain rfl h) hn (sE (.shi a u) wf tk hsc h)
  | .rev a, X, wf, W, tk, o, sc, e, lv, hsc, h, hn, ht => pl_case (ck_plain rfl h) hn (sE (.rev a) wf tk hsc h)
  | .stp a b, X, wf, W, tk, o, sc, e, lv, hsc, h, hn, ht => pl_case (ck_plain rfl h) hn (sE (.stp a b) wf tk hsc h)
  | .lrg a, X, wf, W, tk, o, sc, e, lv, hsc, h, hn, ht => pl_case (ck_plain rfl h) hn (sE (.lrg a) wf tk hsc h)
  | .tup es, X, wf, W, tk, o, sc, e, lv, hsc, h, hn, ht => pl_case (ck_plain rfl h) hn (sE (.tup es) wf tk hsc h)
  | .lst es, X, wf, W, tk, o, sc, e, lv, hsc, h, hn, ht => pl_case (ck_plain rfl h) hn (sE (.lst es) wf tk hsc h)
  | .dic, X, wf, W, tk, o, sc, e, lv, hsc, h, hn, ht => pl_case (ck_plain rfl h) hn (sE (.dic) wf tk hsc h)
  | .lc t it ifs elt, X, wf, W, tk, o, sc, e, lv, hsc, h, hn, ht => pl_case (ck_plain rfl h) hn (sE (.lc t it ifs elt) wf tk hsc h)
  | .lck t i ifs elt, X, wf, W, tk, o, sc, e, lv, hsc, h, hn, ht => pl_case (ck_plain rfl h) hn (sE (.lck t i ifs elt) wf tk hsc h)
  | .sset a, X, wf, W, tk, o, sc, e, lv, hsc, h, hn, ht => pl_case (ck_plain rfl h) hn (sE (.sset a) wf tk hsc h)
  | .dvl i, X, wf, W, tk, o, sc, e, lv, hsc, h, hn, ht => pl_case (ck_plain rfl h) hn (sE (.dvl i) wf tk hsc h)
  | .fst p a q, X, wf, W, tk, o, sc, e, lv, hsc, h, hn, ht => pl_case (ck_plain rfl h) hn (sE (.fst p a q) wf tk hsc h)
  | .ite c a b, X, wf, W, tk, o, sc, e, lv, hsc, h, hn, ht => by cases ht
  | .cmp p a b, X, wf, W, tk, o, sc, e, lv, hsc, h, hn, ht => by
    simp only [ckE] at h
    split at h
    · rename_i x q y hx
      split at h
      · rename_i la lb h1 h2
        split at h
        · rename_i hc
          cases h
          simp only [Bool.and_eq_true] at hc
          obtain ⟨r, ho, dz⟩ := cp_case (X := X) wf.un hc.1.1 hc.2
          obtain ⟨pp, rfl⟩ := asCmp_eq hx
          have e : (fun s => (evE G (.cmp p a b) s).bind truD) = fun s => ((evE G a s).bind fun x => (evE G b s).bind fun y => cpV p x y).bind truD := by funext s; rw [evE]; rfl
          rw [e]
          exact ⟨j_cmpT ho hc.1.2 dz (sE a wf tk hsc h1) (sE b wf tk hsc h2), fun _ _ _ e => by cases e⟩
        · cases h
      · cases h
    · cases h
  | .lele a b c, X, wf, W, tk, o, sc, e, lv, hsc, h, hn, ht => by
    simp only [ckE] at h
    split at h
    · rename_i x y z hx
      split at h
      · rename_i l1 l2 l3 h1 h2 h3
        split at h
        · rename_i hc
          cases h
          simp only [Bool.and_eq_true] at hc
          obtain ⟨pp, rfl⟩ := asCmp_eq hx
          have e : (fun s => (evE G (.lele a b c) s).bind truD) = fun s => ((evE G a s).bind fun x => (evE G b s).bind fun y => (cpD .le x y).bind fun k => if k then (evE G c s).bind fun z => (cpD .le y z).bind fun l => .ok (.bool l) else .ok (.bool false) : R D).bind truD := by funext s; rw [evE]
          rw [e]
          exact ⟨j_leleT hc.1 hc.2 (sE a wf tk hsc h1) (sE b wf tk hsc h2) (sE c wf tk hsc h3), fun _ _ _ e => by cases e⟩
        · cases h
      · cases h
    · cases h
  | .and a b, X, wf, W, tk, o, sc, e, lv, hsc, h, hn, ht => by
    simp only [ckE] at h
    split at h
    · rename_i x y r p hx
      split at h
      · rename_i la lb h1 h2
        split at h
        · rename_i hc
          cases h
          simp only [Bool.and_eq_true] at hc
          simp only [tstOk, Bool.and_eq_true] at ht
          have he := asBool_eq hx
          subst he
          have e : (fun s => (evE G (.and a b) s).bind truD) = fun s => (andD (evE G a s) (evE G b s)).bind truD := by funext s; rw [evE]; rfl
          rw [e]
          have p1 := (sT a wf tk hsc h1 (ne_of_bne hc.1) ht.1).1
          have p2 := sT b wf tk hsc h2 (ne_of_bne hc.2) ht.2
          have pw := j_andT p1 (bool_pw p2.1 p2.2)
          exact ⟨pw.pt, fun _ _ _ _ => pw⟩
        · cases h
      · cases h
    · cases h
  | .or a b, X, wf, W, tk, o, sc, e, lv, hsc, h, hn, ht => by
    simp only [ckE] at h
    split at h
    · rename_i x y r p hx
      split at h
      · rename_i la lb h1 h2
        split at h
        · rename_i hc
          cases h
          simp only [Bool.and_eq_true] at hc
          simp only [tstOk, Bool.and_eq_true] at ht
          have he := asBool_eq hx
          subst he
          have e : (fun s => (evE G (.or a b) s).bind truD) = fun s => (orD (evE G a s) (evE G b s)).bind truD := by funext s; rw [evE]; rfl
          rw [e]
          have p1 := (sT a wf tk hsc h1 (ne_of_bne hc.1) ht.1).1
          have p2 := sT b wf tk hsc h2 (ne_of_bne hc.2) ht.2
          have pw := j_orT p1 (bool_pw p2.1 p2.2)
          exact ⟨pw.pt, fun _ _ _ _ => pw⟩
        · cases h
      · cases h
    · cases h
  | .not a, X, wf, W, tk, o, sc, e, lv, hsc, h, hn, ht => by
    simp only [ckE] at h
    split at h
    · rename_i x hx
      split at h
      · rename_i la h1
        split at h
        · rename_i hc
          cases h
          obtain ⟨pp, rfl⟩ := asUn_eq hx
          have e : (fun s => (evE G (.not a) s).bind truD) = fun s => ((evE G a s).bind fun x => (truD x).bind fun k => .ok (.bool (!k)) : R D).bind truD := by funext s; rw [evE]
          rw [e]
          exact ⟨j_notT (sT a wf tk hsc h1 (ne_of_bne hc) ht).1, fun _ _ _ e => by cases e⟩
        · cases h
      · cases h
    · cases h
theorem sI : ∀ (it : It) {X : Cx} (wf : WF X C G cls) {W : WX} (tk : Takes X W) {o : Own} {sc : Scope} {tg e : Expr} {lv : Lv} (hsc : X.env.scope = sc) (h : ckI C it sc o tg e = some lv), PI X tg e (tI X.K cls W o lv fun s => evI G it s)
  | .seq e, X, wf, W, tk, o, sc, tg, x, lv, hsc, h => by
    simp only [ckI] at h
    split at h
    · rename_i l h1
      split at h
      · rename_i hc
        cases h
        have e : (fun s => evI G (.seq e) s) = fun s => (evE G e s).bind seqE := by funext s; rw [evI]
        rw [e]
        exact j_seq hc (sE _ wf tk hsc h1)
      · cases h
    · cases h
  | .keys _, X, wf, W, tk, o, sc, tg, x, lv, hsc, h => by simp [ckI] at h
  | .rng a, X, wf, W, tk, o, sc, tg, x, lv, hsc, h => by
    simp only [ckI] at h
    split at h
    · rename_i g y hx
      split at h
      · rename_i l h1
        split at h
        · rename_i hc
          cases h
          simp only [Bool.and_eq_true, decide_eq_true_eq] at hc
          obtain ⟨⟨rfl, hg⟩, hp⟩ := hc
          obtain ⟨p, q, rfl⟩ := asCall_eq hx
          have e : (fun s => evI G (.rng a) s) = fun s => (evE G a s).bind fun x => (intD x).bind fun j => rngD 0 j := by funext s; rw [evI]
          rw [e]
          exact j_rng (glB_gl hsc hg) (wf.bl _ (mem_bl (by decide +kernel))) hp (sE a wf tk hsc h1)
        · cases h
      · cases h
    · cases h
  | .rng2 a b, X, wf, W, tk, o, sc, tg, x, lv, hsc, h => by
    simp only [ckI] at h
    split at h
    · rename_i g y z hx
      split at h
      · rename_i l m h1 h2
        split at h
        · rename_i hc
          cases h
          simp only [Bool.and_eq_true, decide_eq_true_eq] at hc
          obtain ⟨⟨⟨rfl, hg⟩, hp⟩, hp2⟩ := hc
          obtain ⟨p, q, rfl⟩ := asCall_eq hx
          have e : (fun s => evI G (.rng2 a b) s) = fun s => (evE G a s).bind fun x => (evE G b s).bind fun y => (intD x).bind fun i => (intD y).bind fun j => rngD i j := by funext s; rw [evI]
          rw [e]
          exact j_rng2 (glB_gl hsc hg) (wf.bl _ (mem_bl (by decide +kernel))) hp hp2 (sE a wf tk hsc h1) (sE b wf tk hsc h2)
        · cases h
      · cases h
    · cases h
  | .enm e, X, wf, W, tk, o, sc, tg, x, lv, hsc, h => by
    simp only [ckI] at h
    split at h
    · rename_i g y ts hx ht
      split at h
      · rename_i l h1
        split at h
        · rename_i hc
          cases h
          simp only [Bool.and_eq_true, decide_eq_true_eq] at hc
          obtain ⟨⟨⟨rfl, hg⟩, hp⟩, hl⟩ := hc
          obtain ⟨p, q, rfl⟩ := asCall_eq hx
          obtain ⟨k, p2, rfl⟩ := asTup_eq ht
          have e : (fun s => evI G (.enm e) s) = fun s => (evE G e s).bind fun x => (seqE x).bind fun l => .ok (enumL 0 l) := by funext s; rw [evI]
          rw [e]
          exact j_enm (glB_gl hsc hg) (wf.bl _ (mem_bl (by decide +kernel))) hp hl (sE _ wf tk hsc h1)
        · cases h
      · cases h
    · cases h
  | .zip a b, X, wf, W, tk, o, sc, tg, x, lv, hsc, h => by
    simp only [ckI] at h
    split at h
    · rename_i g y z ts hx ht
      split at h
      · rename_i l m h1 h2
        split at h
        · rename_i hc
          cases h
          simp only [Bool.and_eq_true, decide_eq_true_eq] at hc
          obtain ⟨⟨⟨⟨⟨rfl, hg⟩, hp⟩, hp2⟩, hl⟩, hl2⟩ := hc
          obtain ⟨p, q, rfl⟩ := asCall_eq hx
          obtain ⟨k, p2, rfl⟩ := asTup_eq ht
          have e : (fun s => evI G (.zip a b) s) = fun s => (evE G a s).bind fun x => (evE G b s).bind fun y => (seqE x).bind fun l => (seqE y).bind fun m => .ok (zipL l m) := by funext s; rw [evI]
          rw [e]
          exact j_zip (glB_gl hsc hg) (wf.bl _ (mem_bl (by decide +kernel))) hp hp2 hl hl2 (sE _ wf tk hsc h1) (sE _ wf tk hsc h2)
        · cases h
      · cases h
    · cases h
end
end
end Rr

set_option linter.all false
set_option Elab.async false
set_option maxRecDepth 100000
set_option maxHeartbeats 1000000
/-! The check of a statement of the language against the text. -/
namespace Rr
open PySem PySem.Spec PyProof.Rows L2

def asAsg : Stmt → Option (Expr × Expr)
  | .Assign [t] e _ => some (t, e)
  | _ => none
theorem asAsg_eq {st : Stmt} {t e : Expr} (h : asAsg st = some (t, e)) : ∃ p, st = .Assign [t] e p := by
  unfold asAsg at h
  split at h
  · cases h; exact ⟨_, rfl⟩
  · cases h
def asAug : Stmt → Option (Expr × Operator × Expr)
  | .AugAssign t o e _ => some (t, o, e)
  | _ => none
theorem asAug_eq {st : Stmt} {t e : Expr} {o : Operator} (h : asAug st = some (t, o, e)) : ∃ p, st = .AugAssign t o e p := by
  unfold asAug at h
  split at h
  · cases h; exact ⟨_, rfl⟩
  · cases h
def asExp : Stmt → Option Expr
  | .Expr e _ => some e
  | _ => none
theorem asExp_eq {st : Stmt} {e : Expr} (h : asExp st = some e) : ∃ p, st = .Expr e p := by
  unfold asExp at h
  split at h
  · cases h; exact ⟨_, rfl⟩
  · cases h
def asIf : Stmt → Option (Expr × List Stmt × List Stmt)
  | .If c a b _ => some (c, a, b)
  | _ => none
theorem asIf_eq {st : Stmt} {c : Expr} {a b : List Stmt} (h : asIf st = some (c, a, b)) : ∃ p, st = .If c a b p := by
  unfold asIf at h
  split at h
  · cases h; exact ⟨_, rfl⟩
  · cases h
def asWhl : Stmt → Option (Expr × List Stmt)
  | .While c a [] _ => some (c, a)
  | _ => none
theorem asWhl_eq {st : Stmt} {c : Expr} {a : List Stmt} (h : asWhl st = some (c, a)) : ∃ p, st = .While c a [] p := by
  unfold asWhl at h
  split at h
  · cases h; exact ⟨_, rfl⟩
  · cases h
def asFor : Stmt → Option (Expr × Expr × List Stmt)
  | .For t i a [] _ => some (t, i, a)
  | _ => none
theorem asFor_eq {st : Stmt} {t i : Expr} {a : List Stmt} (h : asFor st = some (t, i, a)) : ∃ p, st = .For t i a [] p := by
  unfold asFor at h
  split at h
  · cases h; exact ⟨_, rfl⟩
  · cases h
def asRet : Stmt → Option Expr
  | .Return (some e) _ => some e
  | _ => none
theorem asRet_eq {st : Stmt} {e : Expr} (h : asRet st = some e) : ∃ p, st = .Return (some e) p := by
  unfold asRet at h
  split at h
  · cases h; exact ⟨_, rfl⟩
  · cases h
def asRse : Stmt → Option Expr
  | .Raise (some e) none _ => some e
  | _ => none
theorem asRse_eq {st : Stmt} {e : Expr} (h : asRse st = some e) : ∃ p, st = .Raise (some e) none p := by
  unfold asRse at h
  split at h
  · cases h; exact ⟨_, rfl⟩
  · cases h
def asTry : Stmt → Option (List Stmt × ExceptHandler × List ExceptHandler)
  | .Try b (h :: hs) [] [] _ => some (b, h, hs)
  | _ => none
theorem asTry_eq {st : Stmt} {b : List Stmt} {h : ExceptHandler} {hs : List ExceptHandler} (q : asTry st = some (b, h, hs)) : ∃ p, st = .Try b (h :: hs) [] [] p := by
  unfold asTry at q
  split at q
  · cases q; exact ⟨_, rfl⟩
  · cases q
def asPass : Stmt → Bool
  | .Pass _ => true
  | _ => false
theorem asPass_eq {st : Stmt} (h : asPass st = true) : ∃ p, st = .Pass p := by
  cases st <;> first | exact ⟨_, rfl⟩ | cases h
def asDic : Expr → Bool
  | .Dict [] [] _ => true
  | _ => false
theorem asDic_eq {e : Expr} (h : asDic e = true) : ∃ p, e = .Dict [] [] p := by
  unfold asDic at h
  split at h
  · exact ⟨_, rfl⟩
  · cases h
/-- a clause of a try: except C as n: return 'a' if isinstance(n, Y) and not isinstance(n, M) else 'b' -/
structure HdP where
  c : Str
  n : Str
  n1 : Str
  y : Str
  n2 : Str
  m : Str
  a : Str
  b : Str
  i1 : Str
  i2 : Str
def asHd : ExceptHandler → Option HdP
  | .ExceptHandler (some (.Name c _)) (some n) [.Return (some (.IfExp (.BoolOp .And [.Call (.Name i1 _) [.Name n1 _, .Name y _] [] _, .UnaryOp .Not (.Call (.Name i2 _) [.Name n2 _, .Name m _] [] _) _] _) (.Constant (.str a) _ _) (.Constant (.str b) _ _) _)) _] _ => some ⟨c, n, n1, y, n2, m, a, b, i1, i2⟩
  | _ => none
theorem asHd_eq {h : ExceptHandler} {r : HdP} (e : asHd h = some r) : ∃ p0 p1 p2 p3 p4 p5 p6 p7 p8 p9 p10 p11 k1 p12 k2 p13 p14 p15,
    h = .ExceptHandler (some (.Name r.c p0)) (some r.n) [.Return (some (.IfExp (.BoolOp .And [.Call (.Name r.i1 p1) [.Name r.n1 p2, .Name r.y p3] [] p4, .UnaryOp .Not (.Call (.Name r.i2 p5) [.Name r.n2 p6, .Name r.m p7] [] p8) p9] p10) (.Constant (.str r.a) k1 p11) (.Constant (.str r.b) k2 p12) p13)) p14] p15 := by
  unfold asHd at e
  split at e
  · cases e
    exact ⟨_, _, _, _, _, _, _, _, _, _, _, _, _, _, _, _, _, _, rfl⟩
  · cases e

def locB (sc : Scope) (x : Str) : Bool := match sc.names.lookup x with
  | some .local => true
  | some .cell => true
  | _ => false
def localB (sc : Scope) (x : Str) : Bool := match sc.names.lookup x with
  | some .local => true
  | _ => false
def cellB (sc : Scope) (x : Str) : Bool := match sc.names.lookup x with
  | some .cell => true
  | _ => false
/-- the one comprehension that may be stored into a name -/
def lcB (sc : Scope) (x : Str) (t v : Expr) : Bool := match v with
  | .ListComp _ _ scope pos => localB sc x && (t.pos.line == pos.line) && !(scope.names.any fun (n, k) => n == x && (k == .local || k == .cell))
  | _ => false
def Ex.isLc : Ex → Bool
  | .lc _ _ _ _ => true
  | _ => false

/-- owned sets: equal; one frozen to the other -/
def ownEq (a b : Own) : Bool := a.l.all (fun i => decide (i ∈ b.l)) && b.l.all (fun i => decide (i ∈ a.l)) && a.d.all (fun i => decide (i ∈ b.d)) && b.d.all (fun i => decide (i ∈ a.d))
def frzOk : Own → List Nat → Bool
  | _, [] => true
  | o, i :: is => decide (i ∈ o.l) && frzOk (o.drop i) is
def ownLe (a b : Own) : Bool := frzOk b (b.l.filter fun i => !decide (i ∈ a.l)) && ownEq (dropAll b (b.l.filter fun i => !decide (i ∈ a.l))) a
def merge : Option Own → Option Own → Option (Option Own)
  | none, r => some r
  | r, none => some r
  | some a, some b => if ownLe ⟨a.l.filter fun i => decide (i ∈ b.l), a.d⟩ a && ownLe ⟨a.l.filter fun i => decide (i ∈ b.l), a.d⟩ b then some (some ⟨a.l.filter fun i => decide (i ∈ b.l), a.d⟩) else none
def loopOk (o : Own) : Option Own → Bool
  | none => true
  | some a => ownLe o a

def hdM (C : Ck) (cs : List Str) (sc : Scope) (h : Hd) (x : ExceptHandler) : Bool := match asHd x with
  | some r => decide (h.c = r.c) && decide (C.N[h.i]? = some r.n) && decide (r.n1 = r.n) && decide (r.n2 = r.n) && decide (h.y = r.y) && decide (h.m = r.m) && (match h.a with | .str a => decide (a = r.a) | _ => false) && (match h.b with | .str b => decide (b = r.b) | _ => false)
    && decide (r.i1 = ("isinstance" : Str)) && decide (r.i2 = ("isinstance" : Str)) && glB sc "isinstance" && localB sc r.n && okName r.n && glB sc r.c && okName r.c && glB sc r.y && okName r.y && glB sc r.m && okName r.m && decide (r.c ∈ cs) && decide (r.y ∈ cs) && decide (r.m ∈ cs)
  | none => false
def hdsM (C : Ck) (cs : List Str) (sc : Scope) : List Hd → List ExceptHandler → Bool
  | [], [] => true
  | h :: hs, x :: xs => hdM C cs sc h x && hdsM C cs sc hs xs
  | _, _ => false
def namesM (C : Ck) (sc : Scope) : List Nat → List Expr → Bool
  | [], [] => true
  | i :: is, e :: es => (match asName e with | some x => locB sc x && decide (C.N[i]? = some x) | none => false) && namesM C sc is es
  | _, _ => false
/-- the value makes a new list -/
def ckF (C : Ck) : Ex → Scope → Own → Expr → Bool
  | .bin p a b, sc, o, e => match asBin e with
    | some (x, q, y) => match ckE C a sc o x, ckE C b sc o y with
      | some la, some lb => opM p q && binL p la lb && (match p with | .add => true | .mul => true | _ => false)
      | _, _ => false
    | none => false
  | .lst es, sc, o, e => match asLst e with
    | some xs => match ckEs C es sc o xs with
      | some ls => ls.all (· == .cl) && decide (xs.length ≤ 1000)
      | none => false
    | none => false
  | .bi .list es, sc, o, e => match asCall e with
    | some (g, [x]) => match ckEs C es sc o [x] with
      | some [l] => decide (g = ("list" : Str)) && glB sc g && l.fine && plainA x
      | _ => false
    | _ => false
  | _, _, _, _ => false
def augM : Op → Operator → Bool
  | .add, .Add => true
  | .mul, .Mult => true
  | .sub, .Sub => true
  | _, _ => false
def rseM (cs : List Str) (sc : Scope) (c m : Str) (e : Expr) : Bool := match asCall e with
  | some (g, [x]) => match asCon x with
    | some (.str s) => decide (g = c) && decide (s = m) && decide (c ∈ cs) && glB sc c && okName c
    | _ => false
  | _ => false
/-- x.m(e) on one line, x a local -/
def methM (C : Ck) (sc : Scope) (i : Nat) (m : Str) (e : Expr) : Option Expr := match asMeth e with
  | some (ob, n, [a], true) => match asName ob with
    | some x => if decide (n = m) && visB sc x && okName x && decide (C.N[i]? = some x) && plainA a then some a else none
    | none => none
  | _ => none

/-- two names; whether they stand on one line -/
def asName2 : List Expr → Option (Str × Str × Bool)
  | [.Name x p, .Name y q] => some (x, y, q.line == p.line)
  | _ => none
theorem asName2_eq {ts : List Expr} {x y : Str} {l : Bool} (h : asName2 ts = some (x, y, l)) : ∃ p q, ts = [.Name x p, .Name y q] ∧ (q.line == p.line) = l := by
  unfold asName2 at h
  split at h
  · cases h; exact ⟨_, _, rfl, rfl⟩
  · cases h
def asName3 : List Expr → Option (Str × Str × Str × Bool)
  | [.Name x p, .Name y q, .Name z r] => some (x, y, z, q.line == p.line && r.line == p.line)
  | _ => none
theorem asName3_eq {ts : List Expr} {x y z : Str} {l : Bool} (h : asName3 ts = some (x, y, z, l)) : ∃ p q r, ts = [.Name x p, .Name y q, .Name z r] ∧ (q.line == p.line && r.line == p.line) = l := by
  unfold asName3 at h
  split at h
  · cases h; exact ⟨_, _, _, rfl, rfl⟩
  · cases h
def asSub2 : List Expr → Option (Str × Expr × Str × Expr)
  | [.Subscript (.Name x _) y _, .Subscript (.Name x2 _) y2 _] => some (x, y, x2, y2)
  | _ => none
theorem asSub2_eq {ts : List Expr} {x x2 : Str} {y y2 : Expr} (h : asSub2 ts = some (x, y, x2, y2)) : ∃ p q r u, ts = [.Subscript (.Name x p) y q, .Subscript (.Name x2 r) y2 u] := by
  unfold asSub2 at h
  split at h
  · cases h; exact ⟨_, _, _, _, rfl⟩
  · cases h
def pickN : Bool → Str → Str → Str
  | true, x, _ => x
  | false, _, y => y
/-- a, [] or [], a -/
def asNewPair : Bool → List Expr → Option Expr
  | false, [a, .List [] _] => some a
  | true, [.List [] _, a] => some a
  | _, _ => none
theorem asNewPair_eq {sw : Bool} {vs : List Expr} {a : Expr} (h : asNewPair sw vs = some a) : ∃ p, (sw = false ∧ vs = [a, .List [] p]) ∨ (sw = true ∧ vs = [.List [] p, a]) := by
  unfold asNewPair at h
  split at h
  · cases h; exact ⟨_, .inl ⟨rfl, rfl⟩⟩
  · cases h; exact ⟨_, .inr ⟨rfl, rfl⟩⟩
  · cases h
def St.asFrz : St → Option Nat
  | .frz i => some i
  | _ => none
theorem asFrz_eq {s : St} {i : Nat} (h : s.asFrz = some i) : s = .frz i := by
  cases s <;> cases h
  rfl
mutual
def ckS (C : Ck) (cs : List Str) : St → Scope → Own → Stmt → Option (Option Own)
  | .asg i e, sc, o, st => match asAsg st with
    | some (t, v) => match asName t, ckE C e sc o v with
      | some x, some .cl => if locB sc x && decide (C.N[i]? = some x) && ((noComp v || cellB sc x) || (e.isLc && lcB sc x t v)) then some (some (o.drop i)) else none
      | _, _ => none
    | none => none
  | .own i e, sc, o, st => match asAsg st with
    | some (t, v) => match asName t with
      | some x => if locB sc x && decide (C.N[i]? = some x) && noComp v && ckF C e sc o v then some (some (o.addL i)) else none
      | none => none
    | none => none
  | .dnew i, sc, o, st => match asAsg st with
    | some (t, v) => match asName t with
      | some x => if locB sc x && decide (C.N[i]? = some x) && asDic v then some (some (o.addD i)) else none
      | none => none
    | none => none
  | .frz _, _, _, _ => none
  | .unp is e, sc, o, st => match asAsg st with
    | some (t, v) => match asTup t, ckE C e sc o v with
      | some ts, some .cl => if namesM C sc is ts && (noTuple v || cstTup v || ts.any (notLoc sc)) && noComp v then some (some (dropAll o is)) else none
      | _, _ => none
    | none => none
  | .par2 i j a b, sc, o, st => match asAsg st with
    | some (t, v) => match asTup t, asTup v with
      | some ts, some vs => match asName2 ts, ckEs C (.cons a (.cons b .nil)) sc o vs with
        | some (x, y, l), some ls => if decide (C.N[i]? = some x) && decide (C.N[j]? = some y) && localB sc x && localB sc y && l && decide (x ≠ y) && decide (i ≠ j) && vsOk vs && ls.all (· == .cl) && noComp v then some (some (dropAll o [i, j])) else none
        | _, _ => none
      | _, _ => none
    | none => none
  | .par3 i j k a b c, sc, o, st => match asAsg st with
    | some (t, v) => match asTup t, asTup v with
      | some ts, some vs => match asName3 ts, ckEs C (.cons a (.cons b (.cons c .nil))) sc o vs with
        | some (x, y, z, l), some ls => if decide (C.N[i]? = some x) && decide (C.N[j]? = some y) && decide (C.N[k]? = some z) && localB sc x && localB sc y && localB sc z && l && decide (x ≠ y) && decide (x ≠ z) && decide (y ≠ z) && decide (i ≠ j) && decide (i ≠ k) && decide (j ≠ k) && vsOk vs && ls.all (· == .cl) && noComp v then some (some (dropAll o [i, j, k])) else none
        | _, _ => none
      | _, _ => none
    | none => none
  | .paro i j a sw, sc, o, st => match asAsg st with
    | some (t, v) => match asTup t, asTup v with
      | some ts, some vs => match asName2 ts, asNewPair sw vs with
        | some (x, y, l), some va => match ckE C a sc o va with
          | some .cl => if decide (C.N[i]? = some (pickN sw y x)) && decide (C.N[j]? = some (pickN sw x y)) && localB sc x && localB sc y && l && decide (x ≠ y) && decide (i ≠ j) && vsOk vs && plainA va then some (some ((o.drop i).addL j)) else none
          | _ => none
        | _, _ => none
      | _, _ => none
    | none => none
  | .aug p i e, sc, o, st => match asAug st with
    | some (t, q, v) => match asName t, ckE C e sc o v with
      | some x, some _ => if augM p q && locB sc x && decide (C.N[i]? = some x) && !decide (i ∈ o.l) && !decide (i ∈ o.d) then some (some o) else none
      | _, _ => none
    | none => none
  | .sti i k e, sc, o, st => match asAsg st with
    | some (t, v) => match asSub t with
      | some (ob, y) => match asName ob, ckE C k sc o y, ckE C e sc o v with
        | some x, some lk, some .cl => if visB sc x && okName x && decide (C.N[i]? = some x) && (decide (i ∈ o.l) || (decide (i ∈ o.d) && lk != .dt)) && noSlice y then some (some o) else none
        | _, _, _ => none
      | none => none
    | none => none
  | .st2 i k l a b, sc, o, st => match asAsg st with
    | some (t, v) => match asTup t with
      | some ts => match asSub2 ts, ckE C (.tup (.cons a (.cons b .nil))) sc o v with
        | some (x, y, x2, y2), some .cl => match ckE C k sc o y, ckE C l sc o y2 with
          | some _, some _ => if decide (x = x2) && visB sc x && okName x && decide (C.N[i]? = some x) && decide (i ∈ o.l) && noSlice y && noSlice y2 && noComp v then some (some o) else none
          | _, _ => none
        | _, _ => none
      | none => none
    | none => none
  | .app i e, sc, o, st => match asExp st with
    | some x => match methM C sc i "append" x with
      | some a => match ckE C e sc o a with
        | some .cl => if decide (i ∈ o.l) then some (some o) else none
        | _ => none
      | none => none
    | none => none
  | .ext i e, sc, o, st => match asExp st with
    | some x => match methM C sc i "extend" x with
      | some a => match ckE C e sc o a with
        | some .cl => if decide (i ∈ o.l) then some (some o) else none
        | _ => none
      | none => none
    | none => none
  | .apop i j c e, sc, o, st => match asExp st with
    | some x => match methM C sc i "append" x with
      | some a => match asIte a with
        | some (z, b, y) => match methM C sc j "pop" b, ckE C c sc o z, ckE C e sc o y with
          | some k, some lc, some .cl => match asCon k with
            | some (.int 0) => if decide (i ∈ o.l) && decide (j ∈ o.l) && decide (i ≠ j) && lc != .dd && tstOk c then some (some o) else none
            | _ => none
          | _, _, _ => none
        | none => none
      | none => none
    | none => none
  | .exp e, sc, o, st => match asExp st with
    | some x => match ckE C e sc o x with
      | some _ => if noComp x then some (some o) else none
      | none => none
    | none => none
  | .iff c a b, sc, o, st => match asIf st with
    | some (x, as, bs) => match ckE C c sc o x with
      | some l => if l != .dd && tstOk c then match ckSs C cs a sc o as, ckSs C cs b sc o bs with
        | some r1, some r2 => merge r1 r2
        | _, _ => none
        else none
      | none => none
    | none => none
  | .whl c a, sc, o, st => match asWhl st with
    | some (x, as) => match ckE C c sc o x with
      | some l => if l != .dd && tstOk c then match ckSs C cs a sc o as with
        | some r => if loopOk o r then some (some o) else none
        | none => none
        else none
      | none => none
    | none => none
  | .fr t it a, sc, o, st => match asFor st with
    | some (tg, src, as) => match ckI C it sc o tg src, tgM C t tg (locB sc) with
      | some .cl, some _ => if t.ok o && noSet src then match ckSs C cs a sc o as with
        | some r => if loopOk o r then some (some o) else none
        | none => none
        else none
      | _, _ => none
    | none => none
  | .ret e, sc, o, st => match asRet st with
    | some x => match ckE C e sc o x with
      | some l => if l != .dd then some none else none
      | none => none
    | none => none
  | .rse c m, sc, _, st => match asRse st with
    | some x => if rseM cs sc c m x then some none else none
    | none => none
  | .trh a hs, sc, o, st => match asTry st with
    | some (as, x, xs) => match ckSs C cs a sc o as with
      | some r => if hdsM C cs sc hs (x :: xs) then some r else none
      | none => none
    | none => none
  | .pass, _, o, st => if asPass st then some (some o) else none
def ckSs (C : Ck) (cs : List Str) : Ss → Scope → Own → List Stmt → Option (Option Own)
  | .nil, _, o, sts => match sts with
    | [] => some (some o)
    | _ :: _ => none
  | .cons s r, sc, o, sts => match s.asFrz with
    | some i => if decide (i ∈ o.l) then ckSs C cs r sc (o.drop i) sts else none
    | none => match sts with
      | [] => none
      | st :: sts => match ckS C cs s sc o st with
        | some (some o') => ckSs C cs r sc o' sts
        | some none => (match r, sts with
          | .nil, [] => some none
          | _, _ => none)
        | none => none
end
end Rr

set_option linter.all false
set_option Elab.async false
set_option maxRecDepth 100000
set_option maxHeartbeats 2000000
/-! The check of statements is sound: helpers. -/
namespace Rr
open PySem PySem.Spec PyProof.Rows L2

theorem ownEq_iff {a b : Own} (h : ownEq a b = true) : (∀ i, i ∈ a.l ↔ i ∈ b.l) ∧ ∀ i, i ∈ a.d ↔ i ∈ b.d := by
  unfold ownEq at h
  simp only [Bool.and_eq_true, List.all_eq_true, decide_eq_true_eq] at h
  exact ⟨fun i => ⟨h.1.1.1 i, h.1.1.2 i⟩, fun i => ⟨h.1.2 i, h.2 i⟩⟩
section
variable {K : PySem.W.Frag} {F H : Hp} {sg : L2.St} {o o' : Own} {s : S} {ps : List Addr}
theorem Ab.eqv (a : Ab K F H sg o s ps) (h : ownEq o o' = true) : Ab K F H sg o' s ps := by
  obtain ⟨h1, h2⟩ := ownEq_iff h
  exact
  { sub := a.sub
    len := a.len
    fz := fun i d e n1 n2 => a.fz i d e (fun q => n1 ((h1 i).mp q)) fun q => n2 ((h2 i).mp q)
    ol := fun i d e n1 => a.ol i d e ((h1 i).mpr n1)
    od := fun i d e n1 => a.od i d e ((h2 i).mpr n1)
    inj := fun i j p d e hi hj oi oj => a.inj i j p d e hi hj (oi.imp (h1 i).mpr (h2 i).mpr) (oj.imp (h1 j).mpr (h2 j).mpr)
    out := a.out }
variable {cls : Str → Addr} {W : WX} {n : Nat} {P F0 H0 : Hp}
theorem Fr0.frz {i : Nat} (a : Ab K F H sg o s ps) (fr : Fr0 P F0 H0 F H ps) (io : i ∈ o.l) : ∃ F' ps', Ab K F' H sg (o.drop i) s ps' ∧ Fr0 P F0 H0 F' H ps' := by
  obtain ⟨F', ps', A', sF, sp, nw, _⟩ := a.frz io
  refine ⟨F', ps', A', ⟨fr.pf.trans sF, fr.hh, fr.ff.trans sF, fun b u e => ?_, fun p hp => fr.pn p (sp p hp), fun p hp => fr.uf p (sp p hp)⟩⟩
  rcases nw b u e with e | e
  · exact fr.nw b u e
  · exact .inr (.inl (fr.pn b e))
theorem Fr0.frzAll : ∀ {is : List Nat} {F : Hp} {o : Own} {ps : List Addr}, Ab K F H sg o s ps → Fr0 P F0 H0 F H ps → frzOk o is = true → ∃ F' ps', Ab K F' H sg (dropAll o is) s ps' ∧ Fr0 P F0 H0 F' H ps'
  | [], F, o, ps, a, fr, _ => ⟨F, ps, a, fr⟩
  | i :: is, F, o, ps, a, fr, h => by
    simp only [frzOk, Bool.and_eq_true, decide_eq_true_eq] at h
    obtain ⟨F1, ps1, a1, fr1⟩ := Fr0.frz a fr h.1
    have r := Fr0.frzAll (is := is) (o := o.drop i) a1 fr1 h.2
    exact r
theorem QOut.weak {q : Q} {E : Ends} (h : ownLe o' o = true) (q1 : QOut K cls W n P F0 H0 o' E q) : QOut K cls W n P F0 H0 o E q := by
  cases q with
  | nx s =>
    intro sg F H ps A l fr
    unfold ownLe at h
    rw [Bool.and_eq_true] at h
    obtain ⟨F', ps', A', fr'⟩ := Fr0.frzAll A fr h.1
    exact q1 sg F' H ps' (A'.eqv h.2) l fr'
  | rt d => exact q1
  | ex c p => exact q1
  | bad => exact q1
variable {X : Cx} {oa : Own} {f : S → Q}
theorem ps_weak {st : Stmt} (h : ownLe o' o = true) (p : PS X st (tS X.K cls W n P F0 H0 oa o f)) : PS X st (tS X.K cls W n P F0 H0 oa o' f) :=
  ps_imp p fun E sg H q => by
    obtain ⟨F, s, ps, A, l, fr, q⟩ := q
    exact ⟨F, s, ps, A, l, fr, q.weak h⟩
theorem pss_weak {st : List Stmt} (h : ownLe o' o = true) (p : PSs X st (tS X.K cls W n P F0 H0 oa o f)) : PSs X st (tS X.K cls W n P F0 H0 oa o' f) :=
  pss_imp p fun E sg H q => by
    obtain ⟨F, s, ps, A, l, fr, q⟩ := q
    exact ⟨F, s, ps, A, l, fr, q.weak h⟩
end

/-- what a statement needs of its context -/
structure SW (X : Cx) (C : Ck) (G : Env) (cls : Str → Addr) : Prop extends WF X C G cls where
  st : X.stack = X.env :: X.outer
  fm : X.env.frame = some X.env.locals
  po : PassesOwn (model X.prog X.w) X.A X.env X.xe
  ek : ExK X cls G.sub G.cs
  fa : ∀ x, X.fn x = true
  kd : X.env.scope.kind = .function
theorem ExK.tr {X : Cx} {cls : Str → Addr} {sub : Str → Str → Bool} {cs : List Str} (h : ExK X cls sub cs) (pn : List (Addr × Obj)) (xe : Value → Shared → Prop) : ExK (X.tr pn xe) cls sub cs := ⟨h.mg, h.kp, h.exc, h.bs, h.ty, h.ec, h.exm, h.kit⟩
theorem SW.tr' {X : Cx} {C : Ck} {G : Env} {cls : Str → Addr} (w : SW X C G cls) {pn : List (Addr × Obj)} {xe : Value → Shared → Prop} (h : PassesOwn (model X.prog X.w) X.A X.env xe) : SW (X.tr pn xe) C G cls :=
  { toWF := w.toWF.tr pn xe, st := w.st, fm := w.fm, po := h, ek := w.ek.tr pn xe, fa := w.fa, kd := w.kd }

section
variable {C : Ck} {G : Env} {cls : Str → Addr} {X : Cx} {W : WX} {o : Own}
theorem locB_loc {sc : Scope} {x : Str} (h : locB sc x = true) : Loc sc x := by
  unfold locB at h
  split at h
  · rename_i e; exact .inl e
  · rename_i e; exact .inr e
  · cases h
theorem sw_cell {sc : Scope} {x : Str} (h : cellB sc x = true) {env : PySem.Env} (hs : env.scope = sc) (v : Expr) (p : Pos) (n : Nat) : swapsWith v (some (.Name x p)) n env = pure false := by
  have e : env.kindOf x = some .cell := by
    unfold cellB at h
    split at h
    · rename_i q
      show env.scope.names.lookup x = _
      rw [hs]; exact q
    · cases h
  have e2 : (env.kindOf x == some NameKind.local) = false := by rw [e]; rfl
  unfold swapsWith
  cases v <;> first
    | rfl
    | (show (pure (env.blockKind == .function && env.kindOf x == some .local && _ && _) : Sem Bool) = pure false
       rw [e2, Bool.and_false, Bool.false_and, Bool.false_and])
theorem localB_eq {sc : Scope} {x : Str} (h : localB sc x = true) : sc.names.lookup x = some .local := by
  unfold localB at h
  split at h
  · rename_i e; exact e
  · cases h
/-- a comprehension taken apart -/
theorem lc_parts {t : Tg} {it : It} {ifs : Es} {elt : Ex} {sc : Scope} {e : Expr} {lv : Lv} (wf : WF X C G cls) (tk : Takes X W) (hsc : X.env.scope = sc) (h : ckE C (.lc t it ifs elt) sc o e = some lv) :
    ∃ x tg src cs scope p own li, e = .ListComp x [⟨tg, src, cs, 0⟩] scope p ∧ lv = .cl ∧ own.map (·.2) = t.slots ∧ t.ok o = true ∧ PI X tg src (tI X.K cls W o li fun s => evI G it s) ∧ BlkOk X.N X.env.scope scope own ∧
      (∀ (s : Shared) (H : Hp) (A : Addr) (cl : List (Str × Addr)) (fp : List Addr), PG (X.blk s H scope (compEnvC scope cl A X.env) fp) tg (gT X.K t)) ∧
      (∀ (s : Shared) (H : Hp) (A : Addr) (cl : List (Str × Addr)) (fp : List Addr), PTs (X.blk s H scope (compEnvC scope cl A X.env) fp) cs (tT X.K cls W0 o fun s => evT G ifs s)) ∧
      (∀ (s : Shared) (H : Hp) (A : Addr) (cl : List (Str × Addr)) (fp : List Addr), PE (X.blk s H scope (compEnvC scope cl A X.env) fp) x (tE X.K cls W0 o .cl fun s => evE G elt s)) ∧
      (∀ x, foldedSetIterable src X.env x = pure x) := by
  simp only [ckE] at h
  split at h
  · rename_i x tg src cs scope hx
    split at h
    · rename_i own h0
      split at h
      · rename_i li ls lx h1 h2 h3
        split at h
        · rename_i hc
          cases h
          simp only [Bool.and_eq_true, decide_eq_true_eq, beq_iff_eq] at hc
          obtain ⟨⟨⟨⟨⟨⟨hlx, hls⟩, hcs⟩, hto⟩, hblk⟩, hns⟩, hts⟩ := hc
          subst hlx
          obtain ⟨p, rfl⟩ := asLc_eq hx
          exact ⟨x, tg, src, cs, scope, p, own, li, rfl, rfl, tgM_slots h0, hto, sI it wf tk hsc h1, blkOk_by (by rw [wf.N, hsc]; exact hblk), fun s H A cl fp => (tgM_pg (wf.blk s H scope _ fp) (fun x hx => ownB_ok hsc hx) h0).1,
            fun s H A cl fp => sTs ifs (wf.blk s H scope (compEnvC scope cl A X.env) fp) takes0 (by rw [← hsc]; rfl) h2 (fun l hl => ne_of_bne (List.all_eq_true.mp hls l hl)) hcs hts,
            fun s H A cl fp => sE elt (wf.blk s H scope (compEnvC scope cl A X.env) fp) takes0 (by rw [← hsc]; rfl) h3, no_fold hns _⟩
        · cases h
      · cases h
    · cases h
  · cases h
theorem isLc_eq {e : Ex} (h : e.isLc = true) : ∃ t it ifs elt, e = .lc t it ifs elt := by
  cases e <;> first | exact ⟨_, _, _, _, rfl⟩ | cases h
/-- a new list -/
theorem ckF_ok {ir : Ex} {sc : Scope} {e : Expr} (wf : WF X C G cls) (tk : Takes X W) (hsc : X.env.scope = sc) (h : ckF C ir sc o e = true) : PE X e (tF X.K cls W o fun s => (evE G ir s).bind listD) := by
  cases ir with
  | bin p a b =>
    simp only [ckF] at h
    split at h
    · rename_i x q y hx
      split at h
      · rename_i la lb h1 h2
        simp only [Bool.and_eq_true] at h
        obtain ⟨⟨h3, h4⟩, h5⟩ := h
        obtain ⟨pp, rfl⟩ := asBin_eq hx
        have e : (fun s => (evE G (.bin p a b) s).bind listD) = fun s => ((evE G a s).bind fun x => (evE G b s).bind fun y => opD p x y).bind listD := by funext s; rw [evE]
        rw [e]
        cases p <;> first | (exact absurd h5 (by decide)) | skip
        · cases q <;> simp [opM] at h3
          simp only [binL, Bool.and_eq_true] at h4
          exact jF_bin op_addAll (dzF_add h4.1 h4.2) (sE a wf tk hsc h1) (sE b wf tk hsc h2)
        · cases q <;> simp [opM] at h3
          exact jF_bin op_mulAll (dzF_mul h4) (sE a wf tk hsc h1) (sE b wf tk hsc h2)
      · cases h
    · cases h
  | lst es =>
    simp only [ckF] at h
    split at h
    · rename_i xs hx
      split at h
      · rename_i ls h1
        simp only [Bool.and_eq_true] at h
        obtain ⟨p, rfl⟩ := asLst_eq hx
        have e : (fun s => (evE G (.lst es) s).bind listD) = fun s => ((evEs G es s).bind fun xs => .ok (.list xs) : R D).bind listD := by funext s; rw [evE]
        rw [e]
        exact jF_lst (fun l hl => by simpa using List.all_eq_true.mp h.1 l hl) (of_decide_eq_true h.2) (sEs es wf tk hsc h1) (es_len h1)
      · cases h
    · cases h
  | bi f es =>
    cases f with
    | list =>
      simp only [ckF] at h
      split at h
      · rename_i g x hx
        split at h
        · rename_i l h1
          simp only [Bool.and_eq_true, decide_eq_true_eq] at h
          obtain ⟨⟨⟨rfl, hg⟩, hl⟩, hp⟩ := h
          obtain ⟨p, q, rfl⟩ := asCall_eq hx
          have e : (fun s => (evE G (.bi .list es) s).bind listD) = fun s => ((evEs G es s).bind (biD .list)).bind listD := by funext s; rw [evE]
          rw [e]
          exact jF_list hl (glB_gl hsc hg) (wf.bl _ (mem_bl (by decide +kernel))) hp (sEs es wf tk hsc h1)
        · cases h
      · cases h
    | _ => simp [ckF] at h
  | _ => simp [ckF] at h
theorem methM_eq {sc : Scope} {i : Nat} {m : Str} {e a : Expr} (h : methM C sc i m e = some a) : ∃ x p ap cp, e = .Call (.Attribute (.Name x p) m ap) [a] [] cp ∧ (ap.endLine == cp.line) = true ∧ visB sc x = true ∧ okName x = true ∧ C.N[i]? = some x ∧ plainA a = true := by
  unfold methM at h
  split at h
  · rename_i ob n a' hx
    split at h
    · rename_i x hn
      split at h
      · rename_i hc
        cases h
        simp only [Bool.and_eq_true, decide_eq_true_eq] at hc
        obtain ⟨⟨⟨⟨rfl, h1⟩, h2⟩, h3⟩, h4⟩ := hc
        obtain ⟨ap, cp, rfl, hl⟩ := asMeth_eq hx
        obtain ⟨p, rfl⟩ := asName_eq hn
        exact ⟨x, p, ap, cp, rfl, hl, h1, h2, h3, h4⟩
      · cases h
    · cases h
  · cases h
theorem namesM_at {sc : Scope} (wf : SW X C G cls) (hsc : X.env.scope = sc) : ∀ {is : List Nat} {es : List Expr}, namesM C sc is es = true → NamesAt X es is
  | [], [], _ => .nil
  | [], _ :: _, h => by cases h
  | _ :: _, [], h => by cases h
  | i :: is, e :: es, h => by
    simp only [namesM, Bool.and_eq_true] at h
    obtain ⟨h1, h2⟩ := h
    split at h1
    · rename_i x hx
      simp only [Bool.and_eq_true, decide_eq_true_eq] at h1
      obtain ⟨p, rfl⟩ := asName_eq hx
      exact .cons (by rw [wf.N]; exact h1.2) (by rw [hsc]; exact locB_loc h1.1) (.inl (wf.fa x)) (namesM_at wf hsc h2)
    · cases h1
theorem hdM_eq {sc : Scope} {h : Hd} {x : ExceptHandler} (wf : SW X C G cls) (hsc : X.env.scope = sc) (e : hdM C G.cs sc h x = true) : (h.c ∈ G.cs ∧ h.i < C.N.length ∧ (∃ x, h.a = .str x) ∧ ∃ x, h.b = .str x) ∧
    ∀ {hds : List ExceptHandler} {l : List ClA}, HdsA X hds l → HdsA X (x :: hds) (clA X.K cls G h :: l) := by
  unfold hdM at e
  split at e
  · rename_i r hr
    simp only [Bool.and_eq_true, decide_eq_true_eq] at e
    obtain ⟨⟨⟨⟨⟨⟨⟨⟨⟨⟨⟨⟨⟨⟨⟨⟨⟨⟨⟨⟨⟨e1, e2⟩, e3⟩, e4⟩, e5⟩, e6⟩, e7⟩, e8⟩, e9⟩, e10⟩, e11⟩, e12⟩, e13⟩, e14⟩, e15⟩, e16⟩, e17⟩, e18⟩, e19⟩, e20⟩, e21⟩, e22⟩ := e
    obtain ⟨p0, p1, p2, p3, p4, p5, p6, p7, p8, p9, p10, p11, k1, p12, k2, p13, p14, p15, rfl⟩ := asHd_eq hr
    obtain ⟨rc, rn, rn1, ry, rn2, rm, ra, rb, ri1, ri2⟩ := r
    dsimp only at *
    subst e3 e4 e9 e10
    have ha : h.a = .str ra := by
      split at e7
      · rename_i a q; rw [q, of_decide_eq_true e7]
      · cases e7
    have hb : h.b = .str rb := by
      split at e8
      · rename_i a q; rw [q, of_decide_eq_true e8]
      · cases e8
    have hi : X.N[h.i]? = some rn2 := by rw [wf.N]; exact e2
    have hl : h.i < C.N.length := by
      rcases Nat.lt_or_ge h.i C.N.length with q | q
      · exact q
      · rw [List.getElem?_eq_none q] at e2; cases e2
    obtain ⟨n1, n2, _⟩ := okName_d e13
    subst e1 e5 e6
    refine ⟨⟨e20, hl, ⟨_, ha⟩, _, hb⟩, fun r => ?_⟩
    refine .cons ⟨glB_gl hsc e14, (okName_d e15).1, .inl (wf.ek.mg _ e20)⟩ hi ?_ ?_ r
    · show X.env.scope.names.lookup rn2 = _
      rw [hsc]; exact localB_eq e12
    · exact fun a oe cl d pn hz hf => j_suite wf.ek e21 e22 ha hb hi (.inl (by rw [hsc]; exact localB_eq e12)) n1 n2 (glB_gl hsc e11) (wf.bl _ (mem_bl (by decide +kernel))) (glB_gl hsc e16) (okName_d e17).1 (glB_gl hsc e18) (okName_d e19).1 a oe cl d pn hz hf
  · cases e
theorem hdsM_eq {sc : Scope} (wf : SW X C G cls) (hsc : X.env.scope = sc) : ∀ {hs : List Hd} {xs : List ExceptHandler}, hdsM C G.cs sc hs xs = true → (∀ h ∈ hs, h.c ∈ G.cs ∧ h.i < C.N.length ∧ (∃ x, h.a = .str x) ∧ ∃ x, h.b = .str x) ∧ HdsA X xs (hs.map (clA X.K cls G))
  | [], [], _ => by
    refine ⟨fun _ h => ?_, ?_⟩
    · cases h
    · exact HdsA.nil
  | [], _ :: _, h => by cases h
  | _ :: _, [], h => by cases h
  | h :: hs, x :: xs, e => by
    simp only [hdsM, Bool.and_eq_true] at e
    obtain ⟨a1, a2⟩ := hdM_eq wf hsc e.1
    obtain ⟨b1, b2⟩ := hdsM_eq wf hsc e.2
    refine ⟨fun k hk => ?_, a2 b2⟩
    rcases List.mem_cons.mp hk with rfl | hk
    · exact a1
    · exact b1 k hk
end
end Rr

set_option linter.all false
set_option Elab.async false
set_option maxRecDepth 100000
set_option maxHeartbeats 4000000
/-! The check of statements is sound. -/
namespace Rr
open PySem PySem.Spec PyProof.Rows L2
section
variable {C : Ck} {G : Env} {cls : Str → Addr} {N : Nat} {F0 H0 : Hp}
theorem getV_var {G : Env} {i : Nat} : (fun s => evE G (.var i) s) = fun s => getV s i := by funext s; rw [evE]; rfl
theorem merge_none {r r' : Option Own} {m : Option Own} (h : merge r r' = some m) : (∀ k, m = some k → (∀ a, r = some a → a = k ∨ ownLe k a = true) ∧ ∀ a, r' = some a → a = k ∨ ownLe k a = true) ∧ (m = none → r = none ∧ r' = none) := by
  cases r with
  | none =>
    cases r' with
    | none =>
      cases h
      exact ⟨fun k e => (by cases e), fun _ => ⟨rfl, rfl⟩⟩
    | some b =>
      cases h
      exact ⟨fun k e => ⟨fun a q => (by cases q), fun a q => (by cases q; cases e; exact .inl rfl)⟩, fun e => (by cases e)⟩
  | some a =>
    cases r' with
    | none =>
      cases h
      exact ⟨fun k e => ⟨fun a q => (by cases q; cases e; exact .inl rfl), fun a q => (by cases q)⟩, fun e => (by cases e)⟩
    | some b =>
      simp only [merge] at h
      split at h
      · rename_i hc
        rw [Bool.and_eq_true] at hc
        cases h
        exact ⟨fun k e => (by cases e; exact ⟨fun a q => (by cases q; exact .inr hc.1), fun a q => (by cases q; exact .inr hc.2)⟩), fun e => (by cases e)⟩
      · cases h
theorem ckEs_len {C : Ck} {sc : Scope} {o : Own} : ∀ {es : Es} {vs : List Expr} {ls : List Lv}, ckEs C es sc o vs = some ls → vs.length = (match es with | .nil => 0 | .cons _ .nil => 1 | .cons _ (.cons _ .nil) => 2 | .cons _ (.cons _ (.cons _ .nil)) => 3 | _ => vs.length) := by
  intro es vs ls h
  match es, vs with
  | .nil, [] => rfl
  | .nil, _ :: _ => simp [ckEs] at h
  | .cons _ _, [] => simp [ckEs] at h
  | .cons _ .nil, [_] => rfl
  | .cons _ .nil, _ :: _ :: _ => simp [ckEs] at h
  | .cons _ (.cons _ .nil), [_] => simp [ckEs] at h
  | .cons _ (.cons _ .nil), [_, _] => rfl
  | .cons _ (.cons _ .nil), _ :: _ :: _ :: _ => simp [ckEs] at h
  | .cons _ (.cons _ (.cons _ .nil)), [_] => simp [ckEs] at h
  | .cons _ (.cons _ (.cons _ .nil)), [_, _] => simp [ckEs] at h
  | .cons _ (.cons _ (.cons _ .nil)), [_, _, _] => rfl
  | .cons _ (.cons _ (.cons _ .nil)), _ :: _ :: _ :: _ :: _ => simp [ckEs] at h
  | .cons _ (.cons _ (.cons _ (.cons _ _))), v :: r => rfl
theorem tup2_eq {C : Ck} {sc : Scope} {o : Own} {a b : Ex} {v : Expr} {l : Lv} (h : ckE C (.tup (.cons a (.cons b .nil))) sc o v = some l) : ∃ va vb k p, v = .Tuple [va, vb] k p := by
  simp only [ckE] at h
  split at h
  · rename_i xs hx
    split at h
    · rename_i ls h1
      obtain ⟨k, p, rfl⟩ := asTup_eq hx
      have hlen := ckEs_len h1
      match xs, hlen with
      | [va, vb], _ => exact ⟨va, vb, k, p, rfl⟩
    · cases h
  · cases h
mutual
theorem sS : ∀ (ir : St) {X : Cx} (wf : SW X C G cls) {W : WX} (tk : Takes X W) {o : Own} {sc : Scope} {st : Stmt} {r : Option Own} (hsc : X.env.scope = sc) (hF : Same F0 H0) (h : ckS C G.cs ir sc o st = some r) (m : Own) (hm : r = none ∨ r = some m) (P : Hp),
    PS X st (tS X.K cls W C.N.length P F0 H0 o m fun s => evS G N ir s)
  | .asg i e, X, wf, W, tk, o, sc, st, r, hsc, hF, h, m, hm, P => by
    simp only [ckS] at h
    split at h
    · rename_i t v hx
      split at h
      · rename_i x hn h1
        split at h
        · rename_i hc
          cases h
          rcases hm with hm | hm
          · cases hm
          cases hm
          simp only [Bool.and_eq_true, decide_eq_true_eq, Bool.or_eq_true] at hc
          obtain ⟨⟨h2, h3⟩, h4⟩ := hc
          obtain ⟨p, rfl⟩ := asAsg_eq hx
          obtain ⟨p2, rfl⟩ := asName_eq hn
          have q : (fun s => evS G N (.asg i e) s) = fun s => (evE G e s).go fun d => .nx (s.set i (some d)) := by funext s; rw [evS]
          rw [q]
          rcases h4 with (h4 | h4) | h4
          · exact s_asg wf.nd (by rw [wf.N]; exact h3) (by rw [hsc]; exact locB_loc h2) (.inl (wf.fa x)) (no_swap h4 _ _ _) (sE e wf.toWF tk hsc h1)
          · exact s_asg wf.nd (by rw [wf.N]; exact h3) (by rw [hsc]; exact locB_loc h2) (.inl (wf.fa x)) (sw_cell h4 hsc _ _ _) (sE e wf.toWF tk hsc h1)
          · obtain ⟨t, it, ifs, elt, rfl⟩ := isLc_eq h4.1
            obtain ⟨x', tg, src, cs, scope, pp, own, li, rfl, _, hsl, hto, a1, a2, a3, a4, a5, a6⟩ := lc_parts wf.toWF tk hsc h1
            have hl := h4.2
            simp only [lcB, Bool.and_eq_true, Bool.not_eq_true'] at hl
            have P1 := ps_setLc (pos := pp) (spos := p) (py := p2) wf.calm wf.nd (by rw [wf.N]; exact h3) (by rw [hsc]; exact localB_eq hl.1.1) (sw_true wf.kd (by rw [hsc]; exact localB_eq hl.1.1) hl.1.2 hl.2) a1 a2 a3 a4 a5 a6
            rw [hsl] at P1
            refine ps_imp P1 fun E sg H q => ?_
            have q2 := asg_read q
            have e : evE G (.lc t it ifs elt) = fun s => (evI G it s).bind fun ds => if ds.length ≤ LIM then (lcL (fun d => bindT t d s) (fun s' => evT G ifs s') (fun s' => evE G elt s') ds).bind fun ys => .ok (.list ys) else .bad := by funext s; rw [evE]
            rw [e] at q2
            exact lc_read hto q2
        · cases h
      · cases h
    · cases h
  | .own i e, X, wf, W, tk, o, sc, st, r, hsc, hF, h, m, hm, P => by
    simp only [ckS] at h
    split at h
    · rename_i t v hx
      split at h
      · rename_i x hn
        split at h
        · rename_i hc
          cases h
          rcases hm with hm | hm
          · cases hm
          cases hm
          simp only [Bool.and_eq_true, decide_eq_true_eq] at hc
          obtain ⟨⟨⟨h2, h3⟩, h4⟩, h5⟩ := hc
          obtain ⟨p, rfl⟩ := asAsg_eq hx
          obtain ⟨p2, rfl⟩ := asName_eq hn
          have q : (fun s => evS G N (.own i e) s) = fun s => ((evE G e s).bind listD).go fun d => .nx (s.set i (some d)) := by funext s; rw [evS]
          rw [q]
          exact s_own wf.nd (by rw [wf.N]; exact h3) (by rw [hsc]; exact locB_loc h2) (.inl (wf.fa x)) (no_swap h4 _ _ _) (ckF_ok wf.toWF tk hsc h5)
        · cases h
      · cases h
    · cases h
  | .dnew i, X, wf, W, tk, o, sc, st, r, hsc, hF, h, m, hm, P => by
    simp only [ckS] at h
    split at h
    · rename_i t v hx
      split at h
      · rename_i x hn
        split at h
        · rename_i hc
          cases h
          rcases hm with hm | hm
          · cases hm
          cases hm
          simp only [Bool.and_eq_true, decide_eq_true_eq] at hc
          obtain ⟨⟨h2, h3⟩, h4⟩ := hc
          obtain ⟨p, rfl⟩ := asAsg_eq hx
          obtain ⟨p2, rfl⟩ := asName_eq hn
          obtain ⟨p3, rfl⟩ := asDic_eq h4
          have q : (fun s => evS G N (.dnew i) s) = fun s => (R.ok (PyData.dict [])).go fun d => .nx (s.set i (some d)) := by funext s; rw [evS] <;> rfl
          rw [q]
          exact s_ownD wf.nd (by rw [wf.N]; exact h3) (by rw [hsc]; exact locB_loc h2) (.inl (wf.fa x))
        · cases h
      · cases h
    · cases h
  | .frz _, X, wf, W, tk, o, sc, st, r, hsc, hF, h, m, hm, P => by simp [ckS] at h
  | .unp is e, X, wf, W, tk, o, sc, st, r, hsc, hF, h, m, hm, P => by
    simp only [ckS] at h
    split at h
    · rename_i t v hx
      split at h
      · rename_i ts hn h1
        split at h
        · rename_i hc
          cases h
          rcases hm with hm | hm
          · cases hm
          cases hm
          simp only [Bool.and_eq_true, Bool.or_eq_true, decide_eq_true_eq] at hc
          obtain ⟨⟨h2, h3⟩, h4⟩ := hc
          obtain ⟨p, rfl⟩ := asAsg_eq hx
          obtain ⟨k, p2, rfl⟩ := asTup_eq hn
          have q : (fun s => evS G N (.unp is e) s) = fun s => (evE G e s).go fun d => unpQ is s d := by funext s; rw [evS] <;> rfl
          rw [q]
          exact s_unpG wf.calm wf.nd (namesM_at wf hsc h2) (by rcases h3 with (h3 | h3) | h3; exact no_swapped h3 _ _ _ _; exact cst_swapped h3 _ _ _ _; exact cell_swapped (by rw [hsc]; exact h3) _ _) h4 (sE e wf.toWF tk hsc h1)
        · cases h
      · cases h
    · cases h
  | .par2 i j a b, X, wf, W, tk, o, sc, st, r, hsc, hF, h, m, hm, P => by
    simp only [ckS] at h
    split at h
    · rename_i t v hx
      split at h
      · rename_i ts vs ht hv
        split at h
        · rename_i x y l ls hn h1
          split at h
          · rename_i hc
            cases h
            rcases hm with hm | hm
            · cases hm
            cases hm
            simp only [Bool.and_eq_true, decide_eq_true_eq] at hc
            obtain ⟨⟨⟨⟨⟨⟨⟨⟨⟨c1, c2⟩, c3⟩, c4⟩, c5⟩, c6⟩, c7⟩, c8⟩, c9⟩, c10⟩ := hc
            obtain ⟨p, rfl⟩ := asAsg_eq hx
            obtain ⟨k1, p1, rfl⟩ := asTup_eq ht
            obtain ⟨k2, p2, rfl⟩ := asTup_eq hv
            obtain ⟨q1, q2, rfl, hq⟩ := asName2_eq hn
            have q : (fun s => evS G N (.par2 i j a b) s) = fun s => ((evEs G (.cons a (.cons b .nil)) s).bind fun xs => .ok (.tuple xs)).go fun d => unpQ [i, j] s d := by
              funext s
              rw [evS, evEs, evEs, evEs]
              cases evE G a s <;> cases evE G b s <;> rfl
            rw [q]
            have hlen := ckEs_len h1
            match vs, hlen with
            | [va, vb], _ =>
              exact s_par2 wf.calm wf.nd (by rw [wf.N]; exact c1) (by rw [wf.N]; exact c2) c7 (by rw [hsc]; exact localB_eq c3) (by rw [hsc]; exact localB_eq c4)
                (par2_sw wf.kd (by rw [hsc]; exact localB_eq c3) (by rw [hsc]; exact localB_eq c4) (by rw [hq]; exact c5) c6 rfl c8) (fun l hl => by simpa using List.all_eq_true.mp c9 l hl) (sEs _ wf.toWF tk hsc h1)
          · cases h
        · cases h
      · cases h
    · cases h
  | .par3 i j k a b c, X, wf, W, tk, o, sc, st, r, hsc, hF, h, m, hm, P => by
    simp only [ckS] at h
    split at h
    · rename_i t v hx
      split at h
      · rename_i ts vs ht hv
        split at h
        · rename_i x y z l ls hn h1
          split at h
          · rename_i hc
            cases h
            rcases hm with hm | hm
            · cases hm
            cases hm
            simp only [Bool.and_eq_true, decide_eq_true_eq] at hc
            obtain ⟨⟨⟨⟨⟨⟨⟨⟨⟨⟨⟨⟨⟨⟨⟨c1, c2⟩, c3⟩, c4⟩, c5⟩, c6⟩, c7⟩, c8⟩, c9⟩, c10⟩, c11⟩, c12⟩, c13⟩, c14⟩, c15⟩, c16⟩ := hc
            obtain ⟨p, rfl⟩ := asAsg_eq hx
            obtain ⟨k1, p1, rfl⟩ := asTup_eq ht
            obtain ⟨k2, p2, rfl⟩ := asTup_eq hv
            obtain ⟨q1, q2, q3, rfl, hq⟩ := asName3_eq hn
            rw [← hq, Bool.and_eq_true] at c7
            have q : (fun s => evS G N (.par3 i j k a b c) s) = fun s => ((evEs G (.cons a (.cons b (.cons c .nil))) s).bind fun xs => .ok (.tuple xs)).go fun d => unpQ [i, j, k] s d := by
              funext s
              rw [evS, evEs, evEs, evEs, evEs]
              cases evE G a s <;> cases evE G b s <;> cases evE G c s <;> rfl
            rw [q]
            have hlen := ckEs_len h1
            match vs, hlen with
            | [va, vb, vc], _ =>
              exact s_par3 wf.calm wf.nd (by rw [wf.N]; exact c1) (by rw [wf.N]; exact c2) (by rw [wf.N]; exact c3) c11 c12 c13 (by rw [hsc]; exact localB_eq c4) (by rw [hsc]; exact localB_eq c5) (by rw [hsc]; exact localB_eq c6)
                (par3_sw wf.kd (by rw [hsc]; exact localB_eq c4) (by rw [hsc]; exact localB_eq c5) (by rw [hsc]; exact localB_eq c6) c7.1 c7.2 c8 c9 c10 rfl c14) (fun l hl => by simpa using List.all_eq_true.mp c15 l hl) (sEs _ wf.toWF tk hsc h1)
          · cases h
        · cases h
      · cases h
    · cases h
  | .paro i j a sw, X, wf, W, tk, o, sc, st, r, hsc, hF, h, m, hm, P => by
    simp only [ckS] at h
    split at h
    · rename_i t v hx
      split at h
      · rename_i ts vs ht hv
        split at h
        · rename_i x y l va hn hp
          split at h
          · rename_i h1
            split at h
            · rename_i hc
              cases h
              rcases hm with hm | hm
              · cases hm
              cases hm
              simp only [Bool.and_eq_true, decide_eq_true_eq] at hc
              obtain ⟨⟨⟨⟨⟨⟨⟨⟨c1, c2⟩, c3⟩, c4⟩, c5⟩, c6⟩, c7⟩, c8⟩, c9⟩ := hc
              obtain ⟨p, rfl⟩ := asAsg_eq hx
              obtain ⟨k1, p1, rfl⟩ := asTup_eq ht
              obtain ⟨k2, p2, rfl⟩ := asTup_eq hv
              obtain ⟨q1, q2, rfl, hq⟩ := asName2_eq hn
              have q : (fun s => evS G N (.paro i j a sw) s) = fun s => (evE G a s).go fun d => .nx ((s.set i (some d)).set j (some (.list []))) := by funext s; rw [evS]
              rw [q]
              obtain ⟨pl, ⟨rfl, rfl⟩ | ⟨rfl, rfl⟩⟩ := asNewPair_eq hp
              · exact s_paro wf.calm wf.nd (by rw [wf.N]; exact c1) (by rw [wf.N]; exact c2) c7 (by rw [hsc]; exact localB_eq c3) (by rw [hsc]; exact localB_eq c4)
                  (par2_sw wf.kd (by rw [hsc]; exact localB_eq c3) (by rw [hsc]; exact localB_eq c4) (by rw [hq]; exact c5) c6 rfl c8) c9 (sE a wf.toWF tk hsc h1)
              · exact s_parw wf.calm wf.nd (by rw [wf.N]; exact c1) (by rw [wf.N]; exact c2) (fun e => c7 e.symm) (by rw [hsc]; exact localB_eq c4) (by rw [hsc]; exact localB_eq c3)
                  (par2_sw wf.kd (by rw [hsc]; exact localB_eq c3) (by rw [hsc]; exact localB_eq c4) (by rw [hq]; exact c5) c6 rfl c8) c9 (sE a wf.toWF tk hsc h1)
            · cases h
          · cases h
        · cases h
      · cases h
    · cases h
  | .aug p i e, X, wf, W, tk, o, sc, st, r, hsc, hF, h, m, hm, P => by
    simp only [ckS] at h
    split at h
    · rename_i t q v hx
      split at h
      · rename_i x lv hn h1
        split at h
        · rename_i hc
          cases h
          rcases hm with hm | hm
          · cases hm
          cases hm
          simp only [Bool.and_eq_true, decide_eq_true_eq, Bool.not_eq_true', decide_eq_false_iff_not] at hc
          obtain ⟨⟨⟨⟨h2, h3⟩, h4⟩, h5⟩, h6⟩ := hc
          obtain ⟨pp, rfl⟩ := asAug_eq hx
          obtain ⟨p2, rfl⟩ := asName_eq hn
          have eq : (fun s => evS G N (.aug p i e) s) = fun s => (getV s i).go fun y => (evE G e s).go fun z => augQ p i s y z := by funext s; rw [evS] <;> rfl
          rw [eq]
          have pe := sE e wf.toWF tk hsc h1
          cases p <;> cases q <;> simp [augM] at h2
          · exact s_aug wf.nd (by rw [wf.N]; exact h4) (by rw [hsc]; exact locB_loc h3) (.inl (wf.fa x)) h5 h6 ip_add (fun a b z H Q e q => by cases e; exact ⟨_, _, rfl, rfl, q⟩) pe
          · exact s_aug wf.nd (by rw [wf.N]; exact h4) (by rw [hsc]; exact locB_loc h3) (.inl (wf.fa x)) h5 h6 ip_sub (fun a b z H Q e q => by cases e; exact ⟨_, _, rfl, rfl, q⟩) pe
          · refine s_aug wf.nd (by rw [wf.N]; exact h4) (by rw [hsc]; exact locB_loc h3) (.inl (wf.fa x)) h5 h6 iop_mul (fun a b z H Q e q => ?_) pe
            simp only [opD] at e
            split at e
            · rename_i hb
              cases e
              refine ⟨_, _, rfl, rfl, ?_, q⟩
              rcases hb with hb | hb
              · exact .inl ⟨by omega, by omega⟩
              · exact .inr ⟨by omega, by omega⟩
            · cases e
        · cases h
      · cases h
    · cases h
  | .sti i k e, X, wf, W, tk, o, sc, st, r, hsc, hF, h, m, hm, P => by
    simp only [ckS] at h
    split at h
    · rename_i t v hx
      split at h
      · rename_i ob y hy
        split at h
        · rename_i x lk hn h1 h2
          split at h
          · rename_i hc
            cases h
            rcases hm with hm | hm
            · cases hm
            cases hm
            simp only [Bool.and_eq_true, Bool.or_eq_true, decide_eq_true_eq] at hc
            obtain ⟨⟨⟨⟨h3, h4⟩, h5⟩, h6⟩, h7⟩ := hc
            obtain ⟨pp, rfl⟩ := asAsg_eq hx
            obtain ⟨p2, rfl⟩ := asSub_eq hy
            obtain ⟨p3, rfl⟩ := asName_eq hn
            obtain ⟨n1, n2, _⟩ := okName_d h4
            have eq : (fun s => evS G N (.sti i k e) s) = fun s => (evE G e s).go fun v => (getV s i).go fun x => (evE G k s).go fun y => (putD x y v).go fun z => .nx (s.set i (some z)) := by funext s; rw [evS]
            rw [eq]
            rcases h6 with h6 | h6
            · exact s_sti (by rw [wf.N]; exact h5) (by rw [hsc]; exact visB_vis h3) n1 n2 h6 h7 (sE k wf.toWF tk hsc h1) (sE e wf.toWF tk hsc h2)
            · exact s_stiD (by have := wf.un; omega) (by rw [wf.N]; exact h5) (by rw [hsc]; exact visB_vis h3) n1 n2 h6.1 h7 (ne_of_bne h6.2) (sE k wf.toWF tk hsc h1) (sE e wf.toWF tk hsc h2)
          · cases h
        · cases h
      · cases h
    · cases h
  | .st2 i k l a b, X, wf, W, tk, o, sc, st, r, hsc, hF, h, m, hm, P => by
    simp only [ckS] at h
    split at h
    · rename_i t v hx
      split at h
      · rename_i ts ht
        split at h
        · rename_i x y x2 y2 hn h1
          split at h
          · rename_i lk ll h2 h3
            split at h
            · rename_i hc
              cases h
              rcases hm with hm | hm
              · cases hm
              cases hm
              simp only [Bool.and_eq_true, decide_eq_true_eq] at hc
              obtain ⟨⟨⟨⟨⟨⟨⟨c1, c2⟩, c3⟩, c4⟩, c5⟩, c6⟩, c7⟩, c8⟩ := hc
              obtain ⟨p, rfl⟩ := asAsg_eq hx
              obtain ⟨k1, p1, rfl⟩ := asTup_eq ht
              obtain ⟨q1, q2, q3, q4, rfl⟩ := asSub2_eq hn
              subst c1
              obtain ⟨n1, n2, _⟩ := okName_d c3
              obtain ⟨va, vb, k2, p2, rfl⟩ := tup2_eq h1
              have q : (fun s => evS G N (.st2 i k l a b) s) = fun s => (evE G (.tup (.cons a (.cons b .nil))) s).go fun d => st2Q i (fun s => evE G k s) (fun s => evE G l s) s d := by
                funext s
                rw [evS, evE, evEs, evEs, evEs]
                cases evE G a s <;> cases evE G b s <;> rfl
              rw [q]
              exact s_st2 wf.calm (by rw [wf.N]; exact c4) (by rw [hsc]; exact visB_vis c2) n1 n2 c5 c6 c7 (sE k wf.toWF tk hsc h2) (sE l wf.toWF tk hsc h3) (sE (.tup (.cons a (.cons b .nil))) wf.toWF tk hsc h1)
            · cases h
          · cases h
        · cases h
      · cases h
    · cases h
  | .app i e, X, wf, W, tk, o, sc, st, r, hsc, hF, h, m, hm, P => by
    simp only [ckS] at h
    split at h
    · rename_i x hx
      split at h
      · rename_i a ha
        split at h
        · rename_i h1
          split at h
          · rename_i hc
            cases h
            rcases hm with hm | hm
            · cases hm
            cases hm
            obtain ⟨pp, rfl⟩ := asExp_eq hx
            obtain ⟨y, p, ap, cp, rfl, hl, h2, h3, h4, h5⟩ := methM_eq ha
            obtain ⟨n1, n2, _⟩ := okName_d h3
            have eq : (fun s => evS G N (.app i e) s) = fun s => (getV s i).go fun x => (evE G e s).go fun y => (appD x y).go fun z => .nx (s.set i (some z)) := by funext s; rw [evS]
            rw [eq]
            exact s_app (by rw [wf.N]; exact h4) (by rw [hsc]; exact visB_vis h2) n1 n2 (of_decide_eq_true hc) h5 hl (sE e wf.toWF tk hsc h1)
          · cases h
        · cases h
      · cases h
    · cases h
  | .ext i e, X, wf, W, tk, o, sc, st, r, hsc, hF, h, m, hm, P => by
    simp only [ckS] at h
    split at h
    · rename_i x hx
      split at h
      · rename_i a ha
        split at h
        · rename_i h1
          split at h
          · rename_i hc
            cases h
            rcases hm with hm | hm
            · cases hm
            cases hm
            obtain ⟨pp, rfl⟩ := asExp_eq hx
            obtain ⟨y, p, ap, cp, rfl, hl, h2, h3, h4, h5⟩ := methM_eq ha
            obtain ⟨n1, n2, _⟩ := okName_d h3
            have eq : (fun s => evS G N (.ext i e) s) = fun s => (getV s i).go fun x => (evE G e s).go fun y => (extD x y).go fun z => .nx (s.set i (some z)) := by funext s; rw [evS]
            rw [eq]
            exact s_ext (by rw [wf.N]; exact h4) (by rw [hsc]; exact visB_vis h2) n1 n2 (of_decide_eq_true hc) h5 hl (sE e wf.toWF tk hsc h1)
          · cases h
        · cases h
      · cases h
    · cases h
  | .apop i j c e, X, wf, W, tk, o, sc, st, r, hsc, hF, h, m, hm, P => by
    simp only [ckS] at h
    split at h
    · rename_i x hx
      split at h
      · rename_i a ha
        split at h
        · rename_i z b y hite
          split at h
          · rename_i k lc hk h1 h2
            split at h
            · rename_i h0
              split at h
              · rename_i hc
                cases h
                rcases hm with hm | hm
                · cases hm
                cases hm
                simp only [Bool.and_eq_true, decide_eq_true_eq] at hc
                obtain ⟨⟨⟨⟨c1, c2⟩, c3⟩, c4⟩, c5⟩ := hc
                obtain ⟨pp, rfl⟩ := asExp_eq hx
                obtain ⟨xn, p, ap, cp, rfl, hl, x2, x3, x4, x5⟩ := methM_eq ha
                obtain ⟨ip, rfl⟩ := asIte_eq hite
                obtain ⟨yn, py, ap2, cp2, rfl, hl2, y2, y3, y4, y5⟩ := methM_eq hk
                obtain ⟨kk, kp, rfl⟩ := asCon_eq h0
                obtain ⟨n1, n2, _⟩ := okName_d x3
                obtain ⟨n3, n4, _⟩ := okName_d y3
                have eq : (fun s => evS G N (.apop i j c e) s) = fun s => (getV s i).go fun u => (evE G c s).go fun k => (truD k).go fun b => if b then (getV s j).go fun q => match q with
                    | .list (h :: r) => (appD u h).go fun z => .nx ((s.set j (some (.list r))).set i (some z))
                    | _ => .bad
                  else (evE G e s).go fun w => (appD u w).go fun z => .nx (s.set i (some z)) := by funext s; rw [evS] <;> rfl
                rw [eq]
                exact s_apop (by rw [wf.N]; exact x4) (by rw [hsc]; exact visB_vis x2) n1 n2 (by rw [wf.N]; exact y4) (by rw [hsc]; exact visB_vis y2) n3 n4 c1 c2 c3 hl hl2 (sT c wf.toWF tk hsc h1 (ne_of_bne c4) c5).1 (sE e wf.toWF tk hsc h2)
              · cases h
            · cases h
          · cases h
        · cases h
      · cases h
    · cases h
  | .exp e, X, wf, W, tk, o, sc, st, r, hsc, hF, h, m, hm, P => by
    simp only [ckS] at h
    split at h
    · rename_i x hx
      split at h
      · rename_i l h1
        split at h
        · rename_i hc
          cases h
          rcases hm with hm | hm
          · cases hm
          cases hm
          obtain ⟨pp, rfl⟩ := asExp_eq hx
          have eq : (fun s => evS G N (.exp e) s) = fun s => (evE G e s).go fun _ => .nx s := by funext s; rw [evS]
          rw [eq]
          exact s_exp hc (sE e wf.toWF tk hsc h1)
        · cases h
      · cases h
    · cases h
  | .iff c a b, X, wf, W, tk, o, sc, st, r, hsc, hF, h, m, hm, P => by
    simp only [ckS] at h
    split at h
    · rename_i x as bs hx
      split at h
      · rename_i l h1
        split at h
        · rename_i hc
          split at h
          · rename_i r1 r2 h2 h3
            rw [Bool.and_eq_true] at hc
            obtain ⟨pp, rfl⟩ := asIf_eq hx
            have eq : (fun s => evS G N (.iff c a b) s) = fun s => (evE G c s).go fun x => (truD x).go fun k => if k then evSs G N a s else evSs G N b s := by funext s; rw [evS]
            rw [eq]
            obtain ⟨k1, k2⟩ := merge_none h
            have pc := (sT c wf.toWF tk hsc h1 (ne_of_bne hc.1) hc.2).1
            rcases hm with hm | hm
            · obtain ⟨e1, e2⟩ := k2 hm
              exact s_if pc (sSs a wf tk hsc hF h2 m (.inl e1) P) (sSs b wf tk hsc hF h3 m (.inl e2) P)
            · obtain ⟨g1, g2⟩ := k1 m hm
              refine s_if pc ?_ ?_
              · cases r1 with
                | none => exact sSs a wf tk hsc hF h2 m (.inl rfl) P
                | some u =>
                  rcases g1 u rfl with rfl | g
                  · exact sSs a wf tk hsc hF h2 u (.inr rfl) P
                  · exact pss_weak g (sSs a wf tk hsc hF h2 u (.inr rfl) P)
              · cases r2 with
                | none => exact sSs b wf tk hsc hF h3 m (.inl rfl) P
                | some u =>
                  rcases g2 u rfl with rfl | g
                  · exact sSs b wf tk hsc hF h3 u (.inr rfl) P
                  · exact pss_weak g (sSs b wf tk hsc hF h3 u (.inr rfl) P)
          · cases h
        · cases h
      · cases h
    · cases h
  | .whl c a, X, wf, W, tk, o, sc, st, r, hsc, hF, h, m, hm, P => by
    simp only [ckS] at h
    split at h
    · rename_i x as hx
      split at h
      · rename_i l h1
        split at h
        · rename_i hc
          split at h
          · rename_i r1 h2
            split at h
            · rename_i hl
              cases h
              rcases hm with hm | hm
              · cases hm
              cases hm
              rw [Bool.and_eq_true] at hc
              obtain ⟨pp, rfl⟩ := asWhl_eq hx
              have eq : (fun s => evS G N (.whl c a) s) = fun s => whL (fun s' => (evE G c s').bind truD) (fun s' => evSs G N a s') N s := by funext s; rw [evS]
              rw [eq]
              refine s_while wf.po (sT c wf.toWF tk hsc h1 (ne_of_bne hc.1) hc.2).1 ?_
              cases r1 with
              | none => exact sSs a wf tk hsc hF h2 o (.inl rfl) P
              | some u => exact pss_weak hl (sSs a wf tk hsc hF h2 u (.inr rfl) P)
            · cases h
          · cases h
        · cases h
      · cases h
    · cases h
  | .fr t it a, X, wf, W, tk, o, sc, st, r, hsc, hF, h, m, hm, P => by
    simp only [ckS] at h
    split at h
    · rename_i tg src as hx
      split at h
      · rename_i own h1 h0
        split at h
        · rename_i hc
          split at h
          · rename_i r1 h2
            split at h
            · rename_i hl
              cases h
              rcases hm with hm | hm
              · cases hm
              cases hm
              rw [Bool.and_eq_true] at hc
              obtain ⟨pp, rfl⟩ := asFor_eq hx
              have eq : (fun s => evS G N (.fr t it a) s) = fun s => (evI G it s).go fun ds => forL (fun d s' => bindT t d s') (fun s' => evSs G N a s') ds s := by funext s; rw [evS]
              rw [eq]
              refine s_for wf.po wf.calm hc.1 (sI it wf.toWF tk hsc h1) (tgM_pg wf.toWF (fun x hx => ⟨by rw [hsc]; exact locB_loc hx, .inl (wf.fa x)⟩) h0).1 hc.2 fun P' => ?_
              cases r1 with
              | none => exact sSs a wf tk hsc hF h2 o (.inl rfl) P'
              | some u => exact pss_weak hl (sSs a wf tk hsc hF h2 u (.inr rfl) P')
            · cases h
          · cases h
        · cases h
      · cases h
    · cases h
  | .ret e, X, wf, W, tk, o, sc, st, r, hsc, hF, h, m, hm, P => by
    simp only [ckS] at h
    split at h
    · rename_i x hx
      split at h
      · rename_i l h1
        split at h
        · rename_i hc
          obtain ⟨pp, rfl⟩ := asRet_eq hx
          have eq : (fun s => evS G N (.ret e) s) = fun s => (evE G e s).go fun d => .rt d := by funext s; rw [evS]
          rw [eq]
          exact s_ret (ne_of_bne hc) (sE e wf.toWF tk hsc h1)
        · cases h
      · cases h
    · cases h
  | .rse c msg, X, wf, W, tk, o, sc, st, r, hsc, hF, h, m, hm, P => by
    simp only [ckS] at h
    split at h
    · rename_i x hx
      split at h
      · rename_i hc
        obtain ⟨pp, rfl⟩ := asRse_eq hx
        unfold rseM at hc
        split at hc
        · rename_i g y hy
          split at hc
          · rename_i s hs
            simp only [Bool.and_eq_true, decide_eq_true_eq] at hc
            obtain ⟨⟨⟨⟨rfl, rfl⟩, h1⟩, h2⟩, h3⟩ := hc
            obtain ⟨p1, p2, rfl⟩ := asCall_eq hy
            obtain ⟨k, p3, rfl⟩ := asCon_eq hs
            have eq : (fun s' => evS G N (.rse g s) s') = fun _ => .ex g none := by funext s; rw [evS]
            rw [eq]
            exact s_raise wf.calm tk wf.ek h1 (glB_gl hsc h2) (okName_d h3).1
          · cases hc
        · cases hc
      · cases h
    · cases h
  | .trh a hs, X, wf, W, tk, o, sc, st, r, hsc, hF, h, m, hm, P => by
    simp only [ckS] at h
    split at h
    · rename_i as x xs hx
      split at h
      · rename_i r1 h1
        split at h
        · rename_i hc
          cases h
          obtain ⟨pp, rfl⟩ := asTry_eq hx
          have eq : (fun s => evS G N (.trh a hs) s) = fun s => match evSs G N a s with | .ex c p => hdQ G c p hs | q => q := by funext s; rw [evS] <;> rfl
          rw [eq]
          obtain ⟨k1, k2⟩ := hdsM_eq wf hsc hc
          exact s_try wf.st wf.fm wf.nd tk wf.ek hF k1 k2 fun W' pn xe tk' po' => sSs a (wf.tr' po') tk' hsc hF h1 m hm P
        · cases h
      · cases h
    · cases h
  | .pass, X, wf, W, tk, o, sc, st, r, hsc, hF, h, m, hm, P => by
    simp only [ckS] at h
    split at h
    · rename_i hc
      cases h
      rcases hm with hm | hm
      · cases hm
      cases hm
      obtain ⟨pp, rfl⟩ := asPass_eq hc
      have eq : (fun s => evS G N .pass s) = fun s => .nx s := by funext s; rw [evS]
      rw [eq]
      exact ps_imp ps_pass fun E sg H q => by
        obtain ⟨F, s, ps, A, l, fr, q⟩ := q
        exact q sg F H ps A l fr
    · cases h
theorem sSs : ∀ (ir : Ss) {X : Cx} (wf : SW X C G cls) {W : WX} (tk : Takes X W) {o : Own} {sc : Scope} {sts : List Stmt} {r : Option Own} (hsc : X.env.scope = sc) (hF : Same F0 H0) (h : ckSs C G.cs ir sc o sts = some r) (m : Own) (hm : r = none ∨ r = some m) (P : Hp),
    PSs X sts (tS X.K cls W C.N.length P F0 H0 o m fun s => evSs G N ir s)
  | .nil, X, wf, W, tk, o, sc, sts, r, hsc, hF, h, m, hm, P => by
    cases sts with
    | cons x xs => simp [ckSs] at h
    | nil =>
      simp only [ckSs] at h
      cases h
      rcases hm with hm | hm
      · cases hm
      cases hm
      have eq : (fun s => evSs G N .nil s) = fun s => .nx s := by funext s; rw [evSs]
      rw [eq]
      exact b_nil
  | .cons x rest, X, wf, W, tk, o, sc, sts, r, hsc, hF, h, m, hm, P => by
    simp only [ckSs] at h
    split at h
    · rename_i i hi
      have hi := asFrz_eq hi
      subst hi
      split at h
      · rename_i hc
        have eq : (fun s => evSs G N (.cons (.frz i) rest) s) = fun s => (Q.nx s).go fun s' => evSs G N rest s' := by funext s; rw [evSs, evS]
        rw [eq]
        exact b_frz (of_decide_eq_true hc) (sSs rest wf tk hsc hF h m hm P)
      · cases h
    · split at h
      · cases h
      · rename_i st sts
        have eq : (fun s => evSs G N (.cons x rest) s) = fun s => (evS G N x s).go fun s' => evSs G N rest s' := by funext s; rw [evSs]
        rw [eq]
        split at h
        · rename_i o' h1
          exact b_cons (sS x wf tk hsc hF h1 o' (.inr rfl) P) (sSs rest wf tk hsc hF h m hm P)
        · rename_i h1
          split at h
          · cases h
            have p1 : PSs X [] (tS X.K cls W C.N.length P F0 H0 m m fun s => evSs G N .nil s) := by
              have eq : (fun s => evSs G N .nil s) = fun s => .nx s := by funext s; rw [evSs]
              rw [eq]
              exact b_nil
            exact b_cons (sS x wf tk hsc hF h1 m (.inl rfl) P) p1
          · cases h
        · cases h
end
end
end Rr

set_option linter.all false
set_option Elab.async false
set_option maxRecDepth 100000
set_option maxHeartbeats 2000000
/-! Defs. -/
namespace Rr
open PySem PySem.Spec PyProof.Rows L2

/-! ### values that are flat -/
mutual
def flE : Ex → Bool
  | .cst d => flat d
  | .bin .sub _ _ => true
  | .bin .fdiv _ _ => true
  | .bin .mod _ _ => true
  | .bin .pow _ _ => true
  | .neg _ => true
  | .cmp _ _ _ => true
  | .lele _ _ _ => true
  | .and _ _ => true
  | .or _ _ => true
  | .not _ => true
  | .isi _ _ => true
  | .bi .len _ => true
  | .bi .sum _ => true
  | .ite _ a b => flE a && flE b
  | _ => false
end
mutual
def flS : St → Bool
  | .ret e => flE e
  | .iff _ a b => flSs a && flSs b
  | .whl _ a => flSs a
  | .fr _ _ a => flSs a
  | .trh a hs => flSs a && hs.all fun h => flat h.a && flat h.b
  | _ => true
def flSs : Ss → Bool
  | .nil => true
  | .cons x r => flS x && flSs r
end
theorem bind_is {a b : Type} {r : R a} {f : a → R b} {y : b} (h : r.bind f = .ok y) : ∃ x, r = .ok x ∧ f x = .ok y := by
  cases r with
  | ok x => exact ⟨x, rfl, h⟩
  | ex c p => cases h
  | bad => cases h
theorem go_rt {a : Type} {r : R a} {f : a → Q} {d : D} (h : r.go f = .rt d) : ∃ x, r = .ok x ∧ f x = .rt d := by
  cases r with
  | ok x => exact ⟨x, rfl, h⟩
  | ex c p => cases h
  | bad => cases h
def flO : Op → Bool
  | .add => false
  | .mul => false
  | _ => true
theorem ite_ok {c : Prop} [Decidable c] {a d : D} (q : (if c then R.ok a else R.bad) = .ok d) : a = d := by
  split at q
  · cases q; rfl
  · cases q
theorem opD_flat {o : Op} {x y d : D} (ho : flO o = true) (q : opD o x y = .ok d) : flat d = true := by
  cases x with
  | int i =>
    cases y with
    | int j =>
      cases o <;> first | (cases ho; done) | skip
      · cases q; rfl
      · rw [← ite_ok q]; rfl
      · rw [← ite_ok q]; rfl
      · rw [← ite_ok q]; rfl
    | _ => cases o <;> first | (cases ho; done) | cases q
  | _ => cases o <;> first | (cases ho; done) | (cases y <;> cases q)
theorem biL_flat {xs : List D} {d : D} (q : biD .len xs = .ok d) : flat d = true := by
  match xs, q with
  | [.list l], q => cases q; rfl
  | [.tuple l], q => cases q; rfl
  | [.str z], q => rw [← ite_ok q]; rfl
  | [.dict l], q =>
    unfold biD at q
    split at q <;> first | (cases q; rfl) | (simp_all; done) | skip
    all_goals (simp_all)
  | [.none], q => cases q
  | [.bool _], q => cases q
  | [.int _], q => cases q
  | [], q => cases q
  | .none :: _ :: _, q => cases q
  | .bool _ :: _ :: _, q => cases q
  | .int _ :: _ :: _, q => cases q
  | .str _ :: _ :: _, q => cases q
  | .list _ :: _ :: _, q => cases q
  | .tuple _ :: _ :: _, q => cases q
  | .dict _ :: _ :: _, q => simp [biD] at q
theorem biS_flat {xs : List D} {d : D} (q : biD .sum xs = .ok d) : flat d = true := by
  match xs, q with
  | [.list l], q =>
    simp only [biD] at q
    split at q
    · cases q; rfl
    · cases q
  | [.tuple l], q =>
    simp only [biD] at q
    split at q
    · cases q; rfl
    · cases q
  | [.str z], q => cases q
  | [.dict l], q => cases q
  | [.none], q => cases q
  | [.bool _], q => cases q
  | [.int _], q => cases q
  | [], q => cases q
  | .none :: _ :: _, q => cases q
  | .bool _ :: _ :: _, q => cases q
  | .int _ :: _ :: _, q => cases q
  | .str _ :: _ :: _, q => cases q
  | .list _ :: _ :: _, q => cases q
  | .tuple _ :: _ :: _, q => cases q
  | .dict _ :: _ :: _, q => cases q
theorem flE_ok {G : Env} : ∀ (e : Ex) {s : S} {d : D}, flE e = true → evE G e s = .ok d → flat d = true
  | .cst c, s, d, h, q => by rw [evE] at q; cases q; exact h
  | .bin o a b, s, d, h, q => by
    rw [evE] at q
    obtain ⟨x, _, q⟩ := bind_is q
    obtain ⟨y, _, q⟩ := bind_is q
    exact opD_flat (by cases o <;> first | rfl | (simp [flE] at h)) q
  | .neg i, s, d, h, q => by rw [evE] at q; cases q; rfl
  | .cmp o a b, s, d, h, q => by
    rw [evE] at q
    obtain ⟨x, _, q⟩ := bind_is q
    obtain ⟨y, _, q⟩ := bind_is q
    obtain ⟨z, _, q⟩ := bind_is q
    cases q; rfl
  | .lele a b c, s, d, h, q => by
    rw [evE] at q
    obtain ⟨x, _, q⟩ := bind_is q
    obtain ⟨y, _, q⟩ := bind_is q
    obtain ⟨k, _, q⟩ := bind_is q
    cases k with
    | true =>
      rw [if_pos rfl] at q
      obtain ⟨z, _, q⟩ := bind_is q
      obtain ⟨l, _, q⟩ := bind_is q
      cases q; rfl
    | false => rw [if_neg Bool.false_ne_true] at q; cases q; rfl
  | .and a b, s, d, h, q => by
    rw [evE] at q
    obtain ⟨x, _, q⟩ := bind_is q
    obtain ⟨k, _, q⟩ := bind_is q
    cases k with
    | true =>
      rw [if_pos rfl] at q
      obtain ⟨z, _, q⟩ := bind_is q
      obtain ⟨l, _, q⟩ := bind_is q
      cases q; rfl
    | false => rw [if_neg Bool.false_ne_true] at q; cases q; rfl
  | .or a b, s, d, h, q => by
    rw [evE] at q
    obtain ⟨x, _, q⟩ := bind_is q
    obtain ⟨k, _, q⟩ := bind_is q
    cases k with
    | false =>
      rw [if_neg Bool.false_ne_true] at q
      obtain ⟨z, _, q⟩ := bind_is q
      obtain ⟨l, _, q⟩ := bind_is q
      cases q; rfl
    | true => rw [if_pos rfl] at q; cases q; rfl
  | .not a, s, d, h, q => by
    rw [evE] at q
    obtain ⟨x, _, q⟩ := bind_is q
    obtain ⟨k, _, q⟩ := bind_is q
    cases q; rfl
  | .isi a t, s, d, h, q => by
    rw [evE] at q
    obtain ⟨x, _, q⟩ := bind_is q
    obtain ⟨k, _, q⟩ := bind_is q
    cases q; rfl
  | .bi f es, s, d, h, q => by
    rw [evE] at q
    obtain ⟨x, _, q⟩ := bind_is q
    cases f <;> first | (simp [flE] at h; done) | skip
    · exact biL_flat q
    · exact biS_flat q
  | .ite c a b, s, d, h, q => by
    rw [evE] at q
    obtain ⟨x, _, q⟩ := bind_is q
    obtain ⟨k, _, q⟩ := bind_is q
    simp only [flE, Bool.and_eq_true] at h
    cases k with
    | true => rw [if_pos rfl] at q; exact flE_ok a h.1 q
    | false => rw [if_neg Bool.false_ne_true] at q; exact flE_ok b h.2 q
  | .var _, s, d, h, q => by simp [flE] at h
  | .glb _, s, d, h, q => by simp [flE] at h
  | .call _ _, s, d, h, q => by simp [flE] at h
  | .mt _ _ _, s, d, h, q => by simp [flE] at h
  | .sub _ _, s, d, h, q => by simp [flE] at h
  | .slc _ _ _, s, d, h, q => by simp [flE] at h
  | .slo _ _, s, d, h, q => by simp [flE] at h
  | .shi _ _, s, d, h, q => by simp [flE] at h
  | .rev _, s, d, h, q => by simp [flE] at h
  | .stp _ _, s, d, h, q => by simp [flE] at h
  | .lrg _, s, d, h, q => by simp [flE] at h
  | .tup _, s, d, h, q => by simp [flE] at h
  | .lst _, s, d, h, q => by simp [flE] at h
  | .dic, s, d, h, q => by simp [flE] at h
  | .lc _ _ _ _, s, d, h, q => by simp [flE] at h
  | .fst _ _ _, s, d, h, q => by simp [flE] at h

theorem hdQ_flat {G : Env} {c : Str} {p : Option D} {d : D} : ∀ {hs : List Hd}, (hs.all fun h => flat h.a && flat h.b) = true → hdQ G c p hs = .rt d → flat d = true
  | [], _, q => by cases q
  | h :: r, hh, q => by
    simp only [List.all_cons, Bool.and_eq_true] at hh
    unfold hdQ at q
    split at q
    · cases q
    · split at q
      · split at q
        · cases q; exact hh.1.1
        · cases q; exact hh.1.2
      · exact hdQ_flat hh.2 q
theorem qgo_rt {q : Q} {f : S → Q} {d : D} (h : q.go f = .rt d) : q = .rt d ∨ ∃ s, q = .nx s ∧ f s = .rt d := by
  cases q with
  | nx s => exact .inr ⟨s, rfl, h⟩
  | rt e => exact .inl h
  | ex c p => cases h
  | bad => cases h
theorem forL_rt {bind : D → S → R S} {body : S → Q} {d : D} (hb : ∀ s, body s = .rt d → flat d = true) : ∀ {l : List D} {s : S}, forL bind body l s = .rt d → flat d = true
  | [], s, q => by cases q
  | x :: r, s, q => by
    unfold forL at q
    obtain ⟨s1, _, q⟩ := go_rt q
    rcases qgo_rt q with q | ⟨s2, _, q⟩
    · exact hb s1 q
    · exact forL_rt hb q
theorem whL_rt {test : S → R Bool} {body : S → Q} {d : D} (hb : ∀ s, body s = .rt d → flat d = true) : ∀ {n : Nat} {s : S}, whL test body n s = .rt d → flat d = true
  | 0, s, q => by cases q
  | n + 1, s, q => by
    unfold whL at q
    obtain ⟨k, _, q⟩ := go_rt q
    split at q
    · rcases qgo_rt q with q | ⟨s2, _, q⟩
      · exact hb s q
      · exact whL_rt hb q
    · cases q
theorem unpL_rt {d : D} : ∀ {is : List Nat} {ds : List D} {s : S}, unpL is ds s ≠ .rt d
  | [], [], _, h => by cases h
  | [], _ :: _, _, h => by cases h
  | _ :: _, [], _, h => by cases h
  | i :: is, x :: ds, s, h => unpL_rt (is := is) (ds := ds) h
mutual
theorem flS_ok {G : Env} {N : Nat} : ∀ (x : St) {s : S} {d : D}, flS x = true → evS G N x s = .rt d → flat d = true
  | .ret e, s, d, h, q => by
    rw [evS] at q
    obtain ⟨y, e1, q⟩ := go_rt q
    cases q
    exact flE_ok e h e1
  | .iff c a b, s, d, h, q => by
    rw [evS] at q
    obtain ⟨y, _, q⟩ := go_rt q
    obtain ⟨k, _, q⟩ := go_rt q
    simp only [flS, Bool.and_eq_true] at h
    cases k with
    | true => rw [if_pos rfl] at q; exact flSs_ok a h.1 q
    | false => rw [if_neg Bool.false_ne_true] at q; exact flSs_ok b h.2 q
  | .whl c a, s, d, h, q => by
    rw [evS] at q
    exact whL_rt (fun s' q' => flSs_ok a h q') q
  | .fr t it a, s, d, h, q => by
    rw [evS] at q
    obtain ⟨ds, _, q⟩ := go_rt q
    exact forL_rt (fun s' q' => flSs_ok a h q') q
  | .trh a hs, s, d, h, q => by
    simp only [flS, Bool.and_eq_true] at h
    rw [evS] at q
    cases e : evSs G N a s with
    | nx s' => rw [e] at q; cases q
    | rt d' => rw [e] at q; cases q; exact flSs_ok a h.1 e
    | ex c p => rw [e] at q; exact hdQ_flat h.2 q
    | bad => rw [e] at q; cases q
  | .asg i e, s, d, h, q => by rw [evS] at q; obtain ⟨y, _, q⟩ := go_rt q; cases q
  | .own i e, s, d, h, q => by rw [evS] at q; obtain ⟨y, _, q⟩ := go_rt q; cases q
  | .dnew i, s, d, h, q => by rw [evS] at q; cases q
  | .frz i, s, d, h, q => by rw [evS] at q; cases q
  | .unp is e, s, d, h, q => by
    rw [evS] at q
    obtain ⟨y, _, q⟩ := go_rt q
    cases y <;> first | (cases q; done) | exact absurd q unpL_rt
  | .par2 i j a b, s, d, h, q => by rw [evS] at q; obtain ⟨y, _, q⟩ := go_rt q; obtain ⟨y, _, q⟩ := go_rt q; cases q
  | .par3 i j k a b c, s, d, h, q => by rw [evS] at q; obtain ⟨y, _, q⟩ := go_rt q; obtain ⟨y, _, q⟩ := go_rt q; obtain ⟨y, _, q⟩ := go_rt q; cases q
  | .paro i j a sw, s, d, h, q => by rw [evS] at q; obtain ⟨y, _, q⟩ := go_rt q; cases q
  | .aug o i e, s, d, h, q => by
    rw [evS] at q; obtain ⟨y, _, q⟩ := go_rt q; obtain ⟨z, _, q⟩ := go_rt q
    split at q
    · obtain ⟨w, _, q⟩ := go_rt q; cases q
    · cases q
  | .sti i k e, s, d, h, q => by rw [evS] at q; obtain ⟨y, _, q⟩ := go_rt q; obtain ⟨y, _, q⟩ := go_rt q; obtain ⟨y, _, q⟩ := go_rt q; obtain ⟨y, _, q⟩ := go_rt q; cases q
  | .st2 i k l a b, s, d, h, q => by
    rw [evS] at q; obtain ⟨y, _, q⟩ := go_rt q; obtain ⟨y, _, q⟩ := go_rt q; obtain ⟨y, _, q⟩ := go_rt q; obtain ⟨y, _, q⟩ := go_rt q; obtain ⟨y, _, q⟩ := go_rt q; obtain ⟨y, _, q⟩ := go_rt q; obtain ⟨y, _, q⟩ := go_rt q; cases q
  | .app i e, s, d, h, q => by rw [evS] at q; obtain ⟨y, _, q⟩ := go_rt q; obtain ⟨y, _, q⟩ := go_rt q; obtain ⟨y, _, q⟩ := go_rt q; cases q
  | .ext i e, s, d, h, q => by rw [evS] at q; obtain ⟨y, _, q⟩ := go_rt q; obtain ⟨y, _, q⟩ := go_rt q; obtain ⟨y, _, q⟩ := go_rt q; cases q
  | .apop i j c e, s, d, h, q => by
    rw [evS] at q; obtain ⟨y, _, q⟩ := go_rt q; obtain ⟨z, _, q⟩ := go_rt q; obtain ⟨w, _, q⟩ := go_rt q
    split at q
    · obtain ⟨u, _, q⟩ := go_rt q
      split at q
      · obtain ⟨v, _, q⟩ := go_rt q; cases q
      · cases q
    · obtain ⟨u, _, q⟩ := go_rt q; obtain ⟨v, _, q⟩ := go_rt q; cases q
  | .exp e, s, d, h, q => by rw [evS] at q; obtain ⟨y, _, q⟩ := go_rt q; cases q
  | .rse c m, s, d, h, q => by rw [evS] at q; cases q
  | .pass, s, d, h, q => by rw [evS] at q; cases q
theorem flSs_ok {G : Env} {N : Nat} : ∀ (x : Ss) {s : S} {d : D}, flSs x = true → evSs G N x s = .rt d → flat d = true
  | .nil, s, d, h, q => by rw [evSs] at q; cases q
  | .cons x r, s, d, h, q => by
    simp only [flSs, Bool.and_eq_true] at h
    rw [evSs] at q
    rcases qgo_rt q with q | ⟨s2, _, q⟩
    · exact flS_ok x h.1 q
    · exact flSs_ok r h.2 q
end
theorem runD_flat {G : Env} {N : Nat} {d : Def} (h : flSs d.body = true) : ∀ ds v, runD G N d ds = .ok v → flat v = true := by
  intro ds v q
  unfold runD at q
  split at q
  · cases e : evSs G N d.body (start d ds) with
    | nx s => rw [e] at q; cases q; rfl
    | rt x => rw [e] at q; cases q; exact flSs_ok d.body h e
    | ex c p => rw [e] at q; cases q
    | bad => rw [e] at q; cases q
  · cases q

/-! ### the program -/
section
variable (P : Program) (w : World) (K : PySem.W.Frag) (mg : Str → Option Value) (base : Heap) (cls : Str → Addr)
/-- a def that keeps its promise -/
def FnP (k : Nat) (f : Str) (g : List D → R D) : Prop :=
  ∃ (fa : Addr) (fd : FuncData) (ps : List Str), FnOk P w K mg base (L2.CX P w) k fa fd ps (spG K cls ps.length g) ∧ mg f = some (.ref fa) ∧ PySem.W.keepIn K (.ref fa) = true ∧
    Binds K fd ps [] ∧ ∀ ds, g ds ≠ .bad → ds.length = ps.length
structure ExP (sub : Str → Str → Bool) (cs : List Str) : Prop where
  mg : ∀ c ∈ cs, mg c = some (.ref (cls c))
  kp : ∀ c ∈ cs, PySem.W.keepIn K (.ref (cls c)) = true
  exc : ∀ c ∈ cs, PySem.W.excIn K (cls c) [.type "ValueError", .type "Exception", .type "BaseException", .type "object"] "ValueError.__new__" = true
  bs : ∀ c ∈ cs, PySem.W.subIn K (.ref (cls c)) (.type "BaseException") = some true
  ty : ∀ c ∈ cs, PySem.W.typeIn K (.ref (cls c)) = some (.type "type")
  ec : ∀ c ∈ cs, ExcC K (cls c)
  exm : ∀ c ∈ cs, ∀ d ∈ cs, PySem.W.exmOne K (.ref (cls c)) (.ref (cls d)) = some (sub c d)
  kit : ∀ c ∈ cs, ∀ d ∈ cs, PySem.W.kitOne K (.ref (cls c)) (.ref (cls d)) = some (sub c d)
structure PWX (G : Env) (fs fl gs : List Str) (k : Nat) : Prop where
  bl : ∀ x ∈ blNames, mg x = none
  gl : ∀ x ∈ gs, ∃ d v u, G.gl x = some d ∧ mg x = some u ∧ RelV v u ∧ Dr K (fun _ => none) v d
  ek : ExP K mg cls G.sub G.cs
  fn : ∀ f ∈ fs, ∃ g, G.fn f = some g ∧ FnP P w K mg base cls k f g ∧ (f ∈ fl → ∀ ds d, g ds = .ok d → flat d = true)
end
def Env.add (G : Env) (f : Str) (g : List D → R D) : Env := { G with fn := fun x => if x = f then some g else G.fn x }
def scB (N ps : List Str) (sc : Scope) : Bool := decide (sc.kind = .function) && !sc.isCoroutine && !sc.isGenerator && decide N.Nodup && decide (N.take ps.length = ps) && ps.all (fun x => locB sc x) && sc.names.all fun y => !decide (y.2 = .free)
theorem scB_ok {N ps : List Str} {sc : Scope} (h : scB N ps sc = true) : FnScope N ps sc := by
  unfold scB at h
  simp only [Bool.and_eq_true, Bool.not_eq_true', decide_eq_true_eq, List.all_eq_true, decide_eq_false_iff_not] at h
  obtain ⟨⟨⟨⟨⟨⟨h1, h2⟩, h3⟩, h4⟩, h5⟩, h6⟩, h7⟩ := h
  exact ⟨h1, h2, h3, h4, h5, fun x hx => locB_loc (h6 x hx), h7⟩
def defM (fs fl gs cs : List Str) (d : Def) (st : Stmt) : Bool := (match ckSs ⟨d.names, fs, fl, gs⟩ cs d.body (defScope st) ⟨[], []⟩ (defBody st) with
  | some _ => true
  | none => false) && scB d.names (d.names.take d.np) (defScope st) && decide (d.np ≤ d.names.length)
section
variable {P : Program} {w : World} {K : PySem.W.Frag} {mg : Str → Option Value} {base : Heap} {cls : Str → Addr} {G : Env} {fs fl gs : List Str} {k : Nat}
theorem start_ab {F0 H : Hp} {N : List Str} {vs : List V} {ds : List D} {d : Def} (hN : d.names = N) (sm : Same F0 H) (r : DrAll K F0 vs ds) : Ab K F0 H (L2.start N vs) ⟨[], []⟩ (start d ds) [] where
  sub := sm
  len := by
    unfold start L2.start
    simp [r.length, hN]
  fz := fun i e h _ _ => by
    unfold start at h
    unfold L2.start
    have hl := r.length
    rcases Nat.lt_or_ge i ds.length with q | q
    · rw [List.getElem?_append_left (by simpa using q), List.getElem?_map] at h
      rw [List.getElem?_append_left (by simpa [hl] using q), List.getElem?_map]
      cases e1 : ds[i]? with
      | none => rw [e1] at h; cases h
      | some d' =>
        rw [e1] at h
        cases h
        obtain ⟨v, e2, rr⟩ := r.get e1
        exact ⟨v, by rw [e2]; rfl, rr⟩
    · rw [List.getElem?_append_right (by simpa using q), List.getElem?_replicate] at h
      split at h <;> cases h
  ol := fun i e h hi => by cases hi
  od := fun i e h hi => by cases hi
  inj := fun i j p d e _ _ hi => by rcases hi with hi | hi <;> cases hi
  out := fun p hp => by cases hp
theorem def_ok {x : Str} {st : Stmt} {f : Addr} {fd : FuncData} {d : Def} {N : Nat} (F : Fun K x x st f fd) (pw : PWX P w K mg base cls G fs fl gs k) (hck : defM fs fl gs G.cs d st = true) :
    FnOk P w K mg base (L2.CX P w) (k + 1) f fd (d.names.take d.np) (spG K cls (d.names.take d.np).length (runD G N d)) := by
  unfold defM at hck
  simp only [Bool.and_eq_true, decide_eq_true_eq] at hck
  obtain ⟨⟨h1, h2⟩, h3⟩ := hck
  have S := scB_ok h2
  refine F.okX S (fun vs H Q E h => h.1) (fun cdv A outer s H vs Q E hr h => ?_)
  obtain ⟨hl, F0, ds, sm, r, q⟩ := h
  split at h1
  · rename_i m hm
    let X : Cx := cxOf (L2.CX P w) P w K mg base d.names x (defScope st) f cdv A outer s H E
    let C : Ck := ⟨d.names, fs, fl, gs⟩
    have wf : SW X C G cls :=
      { N := rfl
        nd := S.nd
        calm := rfl
        un := by
          have := hr.un
          show (A.deeper _).units + 65 < cLine
          omega
        bl := pw.bl
        fn := fun g hg => by
          obtain ⟨φ, a1, ⟨fa, fd', ps, b1, b2, b3, b4, b5⟩, a3⟩ := pw.fn g hg
          exact ⟨φ, a1, ⟨k, fa, fd', ps, b1, hr, b2, b3, b4, b5⟩, a3⟩
        gl := pw.gl
        st := rfl
        fm := rfl
        po := passes_of rfl
        ek := ⟨pw.ek.mg, pw.ek.kp, pw.ek.exc, pw.ek.bs, pw.ek.ty, pw.ek.ec, pw.ek.exm, pw.ek.kit⟩
        fa := fun _ => rfl
        kd := S.kind }
    have tk : Takes X (fun cls d _ H => E cls d H) := takes_of rfl rfl rfl rfl
    obtain ⟨m', hm'⟩ : ∃ m' : Own, m = none ∨ m = some m' := by
      cases m with
      | none => exact ⟨⟨[], []⟩, .inl rfl⟩
      | some u => exact ⟨u, .inr rfl⟩
    refine ⟨_, sSs (N := N) (F0 := F0) (H0 := H) d.body wf tk rfl sm hm m' hm' F0, F0, start d ds, [], start_ab rfl sm r, ?_, ⟨Same.refl _, Same.refl _, Same.refl _, fun a u e => .inl e, fun p hp => (by cases hp), fun p hp => (by cases hp)⟩, ?_⟩
    · unfold L2.start
      have hl2 : vs.length ≤ d.names.length := by
        rw [hl, List.length_take]; exact Nat.min_le_right _ _
      show _ = d.names.length
      simp
      omega
    · have hd : ds.length = d.np := by rw [← r.length, hl, List.length_take]; omega
      unfold runD at q
      rw [if_pos hd] at q
      show QOut K cls (fun cls d _ H => E cls d H) C.N.length F0 F0 H m' { nx := fun _ H' => Q V.non H', rt := Q } (evSs G N d.body (start d ds))
      cases e : evSs G N d.body (start d ds) with
      | nx s' =>
        rw [e] at q
        exact fun sg F' H' ps A' l fr => q .non F' H' ⟨fr.ff, A'.sub, fr.hh, fr.nw⟩ .non
      | rt v => rw [e] at q; exact q
      | ex c p =>
        rw [e] at q
        exact fun sg H' x' _ sm' xp => q H' x' sm' xp
      | bad => rw [e] at q; exact q
  · cases h1
theorem PWX.step {x : Str} {st : Stmt} {f : Addr} {fd : FuncData} {d : Def} (N : Nat) (pw : PWX P w K mg base cls G fs fl gs k) (F : Fun K x x st f fd) (hm : mg x = some (.ref f)) (hb : Binds K fd (d.names.take d.np) []) (hck : defM fs fl gs G.cs d st = true) (fl' : Bool) (hfl : fl' = true → flSs d.body = true) (hx : x ∉ fl) :
    PWX P w K mg base cls (G.add x (runD G N d)) (x :: fs) (if fl' then x :: fl else fl) gs (k + 1) where
  bl := pw.bl
  gl := pw.gl
  ek := pw.ek
  fn := fun y hy => by
    by_cases e : y = x
    · subst e
      refine ⟨runD G N d, if_pos rfl, ⟨f, fd, d.names.take d.np, def_ok F pw hck, hm, F.kp, hb, fun ds h => ?_⟩, fun h => ?_⟩
      · unfold runD at h
        unfold defM at hck
        simp only [Bool.and_eq_true, decide_eq_true_eq] at hck
        split at h
        · rename_i e; rw [e, List.length_take]; omega
        · exact absurd rfl h
      · cases fl' with
        | true => exact runD_flat (hfl rfl)
        | false => exact absurd h hx
    · have hy : y ∈ fs := by
        rcases List.mem_cons.mp hy with h | h
        · exact absurd h e
        · exact h
      obtain ⟨g, a1, ⟨fa, fd', ps, b1, b2, b3, b4, b5⟩, a3⟩ := pw.fn y hy
      refine ⟨g, (if_neg e).trans a1, ⟨fa, fd', ps, b1.mono (by omega), b2, b3, b4, b5⟩, fun h => a3 ?_⟩
      cases fl' with
      | true =>
        rw [if_pos rfl] at h
        rcases List.mem_cons.mp h with h | h
        · exact absurd h e
        · exact h
      | false => exact h
end
end Rr

set_option linter.all false
set_option Elab.async false
set_option maxRecDepth 100000
set_option maxHeartbeats 2000000
/-! What the module's top has written, as one check; the law's end. -/
namespace Rr
open PySem PySem.Spec PyProof.Rows L2 He

def intsV (ks : List Int) (us : List Value) : Bool := match ks, us with
  | [], [] => true
  | k :: r, .int j _ :: q => decide (j = k) && intsV r q
  | _, _ => false
theorem intsV_ok : ∀ {ks : List Int} {us : List Value}, intsV ks us = true → Vals (ks.map V.int) us
  | [], [], _ => .nil
  | [], _ :: _, h => by simp [intsV] at h
  | _ :: _, [], h => by simp [intsV] at h
  | k :: r, u :: q, h => by
    cases u <;> simp [intsV] at h
    obtain ⟨rfl, h2⟩ := h
    exact .cons ⟨_, rfl⟩ (intsV_ok h2)
def tupB (K : PySem.W.Frag) (a : Addr) (ks : List Int) : Bool := match K.lookup a with
  | some o => (match o.cls, o.data with
    | .type "tuple", .seq its _ => decide (its.size ≤ 1000) && intsV ks its.toList
    | _, _ => false)
  | none => false
theorem tupB_ok {K : PySem.W.Frag} {a : Addr} {ks : List Int} {F : Hp} (h : tupB K a ks = true) : SqT K F a (ks.map V.int) := by
  unfold tupB at h
  split at h
  · rename_i o ho
    split at h
    · rename_i its n hc hd
      rw [Bool.and_eq_true] at h
      exact .inr ⟨o, its, n, ho, hc, hd, Nat.le_trans (of_decide_eq_true h.1) (by decide), intsV_ok h.2⟩
    · cases h
  · cases h
def glB1 (K : PySem.W.Frag) (p : Str × D) : Bool := match p.2 with
  | .int i => (Fa.int p.1 i).ok K
  | .str z => (Fa.str p.1 z).ok K
  | .dict [(.bool true, .tuple l)] => (match intsOf l with
    | some ks => (Fa.glo p.1).ok K && tupB K (ga K p.1) ks
    | none => false)
  | _ => false
theorem intsOf_eq : ∀ {l : List D} {ks : List Int}, intsOf l = some ks → l = ks.map .int
  | [], ks, e => by cases e; rfl
  | .int i :: r, ks, e => by
    simp only [intsOf, Option.map_eq_some_iff] at e
    obtain ⟨q, e, rfl⟩ := e
    rw [intsOf_eq e]; rfl
  | .none :: _, _, e => by cases e
  | .bool _ :: _, _, e => by cases e
  | .str _ :: _, _, e => by cases e
  | .list _ :: _, _, e => by cases e
  | .tuple _ :: _, _, e => by cases e
  | .dict _ :: _, _, e => by cases e
section
variable {K : PySem.W.Frag} {h : Heap} {mg : Str → Option Value}
theorem glB1_ok (X : K.In h) (G : h.Ns mainGlobals mg) {x : Str} {d : D} (c : glB1 K (x, d) = true) : ∃ v u, mg x = some u ∧ RelV v u ∧ Dr K (fun _ => none) v d := by
  unfold glB1 at c
  dsimp only at c
  split at c
  · rename_i i
    obtain ⟨t, e⟩ := int_ok X G c
    exact ⟨.int i, _, e, ⟨t, rfl⟩, .int i⟩
  · rename_i z
    obtain ⟨t, e⟩ := str_ok X G c
    exact ⟨.str z, _, e, ⟨t, rfl⟩, .str z⟩
  · rename_i l
    split at c
    · rename_i ks hk
      rw [Bool.and_eq_true] at c
      rw [intsOf_eq hk]
      exact ⟨.ref (ga K x), _, glo_ok X G c.1, rfl, .kt (tupB_ok c.2)⟩
    · cases c
  · cases c
def ecB (K : PySem.W.Frag) (a : Addr) : Bool := eqO (PySem.W.findIn K (.ref a) "__getattribute__") (some (some (.builtin "BaseException.__getattribute__"))) && eqO (PySem.W.findIn K (.ref a) "__getattr__") (some none) && PySem.W.hasDictIn K a
  && eqO (PySem.W.findIn K (.ref a) "__class__") (some (some (.builtin "object.__class__"))) && eqO (PySem.W.specialIn K (.builtin "object.__class__") "__get__") (some (some (.builtin "getset_descriptor.__get__")))
  && decide (PySem.W.takesIn K (.builtin "object.__class__") = some true) && decide (PySem.W.mroIn K a (.type "object") = some true)
def exB (K : PySem.W.Frag) (sub : Str → Str → Bool) (cs : List Str) : Bool := cs.all (fun c => (Fa.glo c).ok K && (Fa.exc c).ok K && ecB K (ga K c)) && cs.all fun c => cs.all fun d => (Fa.exm c d (sub c d)).ok K && decide (PySem.W.kitOne K (.ref (ga K c)) (.ref (ga K d)) = some (sub c d))
theorem exB_ok (X : K.In h) (G : h.Ns mainGlobals mg) {sub : Str → Str → Bool} {cs : List Str} (c : exB K sub cs = true) : ExP K mg (ga K) sub cs := by
  unfold exB at c
  simp only [Bool.and_eq_true, List.all_eq_true, decide_eq_true_eq] at c
  obtain ⟨c1, c2⟩ := c
  refine ⟨fun x hx => glo_ok X G (c1 x hx).1.1, fun x hx => (exc_ok (c1 x hx).1.2).2.1, fun x hx => (exc_ok (c1 x hx).1.2).1, fun x hx => (exc_ok (c1 x hx).1.2).2.2.1, fun x hx => (exc_ok (c1 x hx).1.2).2.2.2, fun x hx => ?_, fun x hx y hy => exm_ok (c2 x hx y hy).1, fun x hx y hy => (c2 x hx y hy).2⟩
  have e := (c1 x hx).2
  unfold ecB at e
  simp only [Bool.and_eq_true, decide_eq_true_eq] at e
  obtain ⟨⟨⟨⟨⟨⟨e1, e2⟩, e3⟩, e4⟩, e5⟩, e6⟩, e7⟩ := e
  exact ⟨eqO_ok e1, eqO_ok e2, (exc_ok (c1 x hx).1.2).2.2.1, e3, eqO_ok e4, eqO_ok e5, e6, e7⟩
/-- the globals, the classes, the names of built-ins -/
def topB (K : PySem.W.Frag) (sub : Str → Str → Bool) (cs : List Str) (gls : List (Str × D)) : Bool := blNames.all (fun x => (Fa.free x).ok K) && exB K sub cs && gls.all (glB1 K)
def Env0 (sub : Str → Str → Bool) (cs : List Str) (gls : List (Str × D)) : Env := ⟨fun _ => none, fun x => (gls.find? fun p => p.1 == x).map (·.2), sub, cs⟩
theorem pwx0 {P : Program} {w : World} {base : Heap} (X : K.In h) (G : h.Ns mainGlobals mg) {sub : Str → Str → Bool} {cs : List Str} {gls : List (Str × D)} (c : topB K sub cs gls = true) : PWX P w K mg base (ga K) (Env0 sub cs gls) [] [] (gls.map (·.1)) 0 := by
  unfold topB at c
  simp only [Bool.and_eq_true, List.all_eq_true] at c
  obtain ⟨⟨c1, c2⟩, c3⟩ := c
  refine ⟨fun x hx => free_ok X G (c1 x hx), fun x hx => ?_, exB_ok X G c2, fun f hf => by cases hf⟩
  obtain ⟨p, hp, rfl⟩ := List.mem_map.mp hx
  have : ((gls.find? fun q => q.1 == p.1)).isSome = true := List.find?_isSome.mpr ⟨p, hp, by simp⟩
  obtain ⟨q, hq⟩ := Option.isSome_iff_exists.mp this
  have q1 : q.1 = p.1 := by simpa using List.find?_some hq
  have q2 := c3 q (List.mem_of_find?_eq_some hq)
  obtain ⟨v, u, e1, e2, e3⟩ := glB1_ok (x := q.1) (d := q.2) X G q2
  rw [q1] at e1
  exact ⟨q.2, v, u, by show (gls.find? fun r => r.1 == p.1).map (·.2) = _; rw [hq]; rfl, e1, e2, e3⟩
/-- a def of the top -/
def fnD (x : Str) (st : Stmt) : FnD := ⟨(x, none), x, x, defArgs st, defBody st, defScope st⟩
def Bnd (x : Str) (st : Stmt) (ps : List Str) : Prop := ∀ (kV doc pm : Value) (an : Option Addr) (cdv ct : Value) (us : List Value), us.length = ps.length → bindArgs (PySem.W.fnOf x x (defArgs st) (defBody st) (defScope st) .none kV doc pm an cdv ct) ⟨us, []⟩ = pure (ps.zip us)
def DefAt (K : PySem.W.Frag) (x : Str) (st : Stmt) : Prop := fnObs K (x, none) = (fnD x st).val ∧ ((Fa.code (x, none) x).ok K && (Fa.glo x).ok K && (Fa.keep x).ok K) = true
theorem DefAt.fn {x : Str} {st : Stmt} (c : DefAt K x st) : ∃ fd, Fun K x x st (ga K x) fd ∧ ∀ ps, Bnd x st ps → Binds K fd ps [] := by
  obtain ⟨c1, c2⟩ := c
  simp only [Bool.and_eq_true] at c2
  obtain ⟨oc, od, osl, kV, doc, pm, an, cdv, ct, l, cd⟩ := fn_ok (d := fnD x st) c1 c2.1.1
  have F : Fun K x x st (ga K x) (PySem.W.fnOf x x (defArgs st) (defBody st) (defScope st) .none kV doc pm an cdv ct) := fun_mk l cd (keep_ok c2.2)
  exact ⟨_, F, fun ps b => F.binds b⟩
variable {P : Program} {w : World} {base : Heap} {G : Env} {fs fl gs : List Str} {k : Nat}
theorem PWX.next {x : Str} {st : Stmt} {d : Def} (X : K.In h) (Gm : h.Ns mainGlobals mg) (N : Nat) (pw : PWX P w K mg base (ga K) G fs fl gs k) (c : DefAt K x st) (hb : Bnd x st (d.names.take d.np)) (hck : defM fs fl gs G.cs d st = true) (fl' : Bool) (hfl : (!fl' || flSs d.body) = true) (hx : decide (x ∉ fl) = true) :
    PWX P w K mg base (ga K) (G.add x (runD G N d)) (x :: fs) (if fl' then x :: fl else fl) gs (k + 1) := by
  obtain ⟨fd, F, b⟩ := c.fn
  have c2 := c.2
  simp only [Bool.and_eq_true] at c2
  exact pw.step N F (glo_ok X Gm c2.1.2) (b _ hb) hck fl' (fun e => by rw [e] at hfl; simpa using hfl) (of_decide_eq_true hx)
/-- the law's own promise -/
theorem law_is {st : Stmt} {d : Def} {fa : Addr} (X : K.In h) (Gm : h.Ns mainGlobals mg) (N : Nat) (hfa : mg "law" = some (.ref fa)) (c : DefAt K "law" st) (hb : Bnd "law" st ["script"]) (hn : d.names.take d.np = (["script"] : List Str))
    (pw : ∀ base : Heap, PWX P w K mg base (ga K) G fs fl gs k) (hck : defM fs fl gs G.cs d st = true) :
    ∃ fd : FuncData, (∀ (s : Shared) (u : Value), BindsTo s fd ⟨[u], []⟩ [("script", u)]) ∧ ∀ base : Heap, K.In base → base.Ns mainGlobals mg → FnOk P w K mg base (L2.CX P w) (k + 1) fa fd ["script"] (spG K (ga K) 1 (runD G N d)) := by
  have c2 := c.2
  simp only [Bool.and_eq_true] at c2
  have e := hfa.symm.trans (glo_ok X Gm c2.1.2)
  cases e
  obtain ⟨oc, od, osl, kV, doc, pm, an, cdv, ct, l, cd⟩ := fn_ok (d := fnD "law" st) c.1 c2.1.1
  have F : Fun K "law" "law" st (ga K "law") (PySem.W.fnOf "law" "law" (defArgs st) (defBody st) (defScope st) .none kV doc pm an cdv ct) := fun_mk l cd (keep_ok c2.2)
  refine ⟨_, fun s u => .of_eq (hb kV doc pm an cdv ct [u] rfl), fun base _ _ => ?_⟩
  have := def_ok (N := N) F (pw base) hck
  rw [hn] at this
  exact this
/-- the script -/
theorem law_sp {K : PySem.W.Frag} {cls : Str → Addr} {g : List D → R D} {H : Hp} {a : Addr} {ns : List Int} {E : XK} (hS : SqL K H a (ns.map V.int)) (hg : g [scrD ns] = .ok (.bool true)) : spG K cls 1 g [.ref a] H (fun v _ => v = .bl true) E := by
  refine ⟨rfl, H, [scrD ns], Same.refl _, .cons (.scr hS) .nil, ?_⟩
  rw [hg]
  intro v F' H' _ r
  cases r
  rfl
theorem law_cx {P : Program} {w : World} {H : Hp} {s : Shared} {e : Value} {s' : Shared} (h : L2.CX P w [] H s (fun _ _ _ => False) e s') : False := by
  obtain ⟨_, _, _, _, _, _, _, _, _, _, _, _, z⟩ := h
  exact z
theorem walk_mine {l : PySem.W.OpenLaw} {n k : Nat} {q : Program} {loose : List Str} {XP : (Str → Option Value) → Heap → Prop} {YP : World → Heap → Prop} {dr : DefRec} {K : Params → PySem.W.Frag} {g : List D → R D} (hn : l.most = some n) (hn2 : n ≤ sizeLine) (hdf : dr.params.defaults = []) (hr : Room k callerA)
    (hY : ∀ (w : World) (h : Heap), YP w h → (K w.params).In h) (hg : ∀ ns : List Int, ns.length ≤ n → g [scrD ns] = .ok (.bool true))
    (hF : ∀ (w : World) (mg : Str → Option Value) (fa : Addr) (h : Heap), (K w.params).In h → h.Ns mainGlobals mg → mg dr.name = some (.ref fa) → ∃ fd : FuncData, (∀ (s : Shared) (u : Value), BindsTo s fd ⟨[u], []⟩ [("script", u)]) ∧
      ∀ base : Heap, (K w.params).In base → base.Ns mainGlobals mg → FnOk l.prog w (K w.params) mg base (L2.CX l.prog w) k fa fd ["script"] (spG (K w.params) (ga (K w.params)) 1 g)) :
    PySem.W.WalkO q loose XP YP l.row.toRowW dr [] (fun f vs => PySem.call f vs) :=
  L2.walk_of (l := l) (n := n) (k := k) (x := "script") (K := K) (CX := fun w => L2.CX l.prog w) (sp := fun w => spG (K w.params) (ga (K w.params)) 1 g) hn hn2 hdf hr hY hF (fun w H a ns hl _ hS => law_sp hS (hg ns hl)) fun _ _ _ _ _ z => law_cx z
end
end Rr

set_option linter.all false
set_option maxRecDepth 100000
namespace Rr
def d_in_range : Def := ⟨["value", "low", "high"], 3,
    (.cons (.ret (.and (.isi (.var 0) .int) (.and (.not (.isi (.var 0) .bool)) (.lele (.var 1) (.var 0) (.var 2)))))
    .nil)⟩
def d_check_prime : Def := ⟨["prime"], 1,
    (.cons (.iff (.or (.not (.call "in_range" (.cons (.var 0) (.cons (.cst (.int 2)) (.cons (.cst (.int 7)) .nil))))) (.cmp .nin (.var 0) (.glb "PRIMES")))
    (.cons (.rse "InvalidPrime" "invalid prime")
    .nil)
    .nil)
    .nil)⟩
def d_are_numbers : Def := ⟨["prime", "value", "number"], 2,
    (.cons (.iff (.or (.not (.isi (.var 1) .tuple)) (.cmp .gt (.bi .len (.cons (.var 1) .nil)) (.glb "MAX_ROW")))
    (.cons (.ret (.cst (.bool false)))
    .nil)
    .nil)
    (.cons (.ret (.not (.lc (.one 2) (.seq (.var 1)) (.cons (.not (.call "in_range" (.cons (.var 2) (.cons (.cst (.int 0)) (.cons (.bin .sub (.var 0) (.cst (.int 1))) .nil))))) .nil) (.var 2))))
    .nil))⟩
def d_check_row : Def := ⟨["prime", "row"], 2,
    (.cons (.exp (.call "check_prime" (.cons (.var 0) .nil)))
    (.cons (.iff (.not (.call "are_numbers" (.cons (.var 0) (.cons (.var 1) .nil))))
    (.cons (.rse "InvalidRow" "invalid row")
    .nil)
    .nil)
    .nil))⟩
def d_check_rule : Def := ⟨["prime", "rule"], 2,
    (.cons (.iff (.not (.call "are_numbers" (.cons (.var 0) (.cons (.var 1) .nil))))
    (.cons (.rse "InvalidRule" "invalid rule")
    .nil)
    .nil)
    .nil)⟩
def d_check_length : Def := ⟨["length", "most"], 2,
    (.cons (.iff (.not (.call "in_range" (.cons (.var 0) (.cons (.cst (.int 0)) (.cons (.var 1) .nil)))))
    (.cons (.rse "InvalidLength" "invalid length")
    .nil)
    .nil)
    .nil)⟩
def d_predicted : Def := ⟨["prime", "rule", "numbers", "factor", "number"], 3,
    (.cons (.ret (.bin .mod (.bi .sum (.cons (.lc (.two 3 4) (.zip (.var 1) (.rev (.var 2))) .nil (.bin .mul (.var 3) (.var 4))) .nil)) (.var 0)))
    .nil)⟩
def d_fits : Def := ⟨["prime", "rule", "row", "place"], 3,
    (.cons (.fr (.one 3) (.rng2 (.bi .len (.cons (.var 1) .nil)) (.bi .len (.cons (.var 2) .nil)))
    (.cons (.iff (.cmp .ne (.call "predicted" (.cons (.var 0) (.cons (.var 1) (.cons (.shi (.var 2) (.var 3)) .nil)))) (.sub (.var 2) (.var 3)))
    (.cons (.ret (.cst (.bool false)))
    .nil)
    .nil)
    .nil))
    (.cons (.ret (.cst (.bool true)))
    .nil))⟩
def d_makes : Def := ⟨["prime", "rule", "row"], 3,
    (.cons (.exp (.call "check_row" (.cons (.var 0) (.cons (.var 2) .nil))))
    (.cons (.exp (.call "check_rule" (.cons (.var 0) (.cons (.var 1) .nil))))
    (.cons (.ret (.call "fits" (.cons (.var 0) (.cons (.var 1) (.cons (.var 2) .nil)))))
    .nil)))⟩
def d_check_pair : Def := ⟨["prime", "one", "other"], 3,
    (.cons (.exp (.call "check_row" (.cons (.var 0) (.cons (.var 1) .nil))))
    (.cons (.exp (.call "check_row" (.cons (.var 0) (.cons (.var 2) .nil))))
    (.cons (.iff (.cmp .ne (.bi .len (.cons (.var 1) .nil)) (.bi .len (.cons (.var 2) .nil)))
    (.cons (.rse "InvalidRow" "the rows differ in count")
    .nil)
    .nil)
    .nil)))⟩
def d_add : Def := ⟨["prime", "one", "other", "left", "right"], 3,
    (.cons (.exp (.call "check_pair" (.cons (.var 0) (.cons (.var 1) (.cons (.var 2) .nil)))))
    (.cons (.ret (.bi .tuple (.cons (.lc (.two 3 4) (.zip (.var 1) (.var 2)) .nil (.bin .mod (.bin .add (.var 3) (.var 4)) (.var 0))) .nil)))
    .nil))⟩
def d_inverse : Def := ⟨["prime", "number", "one"], 2,
    (.cons (.ret (.sub (.lc (.one 2) (.rng2 (.cst (.int 1)) (.var 0)) (.cons (.cmp .eq (.bin .mod (.bin .mul (.var 2) (.var 1)) (.var 0)) (.cst (.int 1))) .nil) (.var 2)) (.cst (.int 0))))
    .nil)⟩
def d_reduce_line : Def := ⟨["prime", "line", "other", "factor", "one", "two"], 4,
    (.cons (.ret (.lc (.two 4 5) (.zip (.var 1) (.var 2)) .nil (.bin .mod (.bin .sub (.var 4) (.bin .mul (.var 3) (.var 5))) (.var 0))))
    .nil)⟩
def d_solve : Def := ⟨["prime", "equations", "unknowns", "count", "lines", "used", "column", "line", "result", "number", "equation", "free", "place", "factor", "other"], 3,
    (.cons (.asg 3 (.bi .len (.cons (.var 1) .nil)))
    (.cons (.own 4 (.lst .nil))
    (.cons (.fr (.two 9 10) (.enm (.var 1))
    (.cons (.app 4 (.bin .add (.bi .list (.cons (.var 10) .nil)) (.lc (.one 14) (.rng (.var 3)) .nil (.bi .int (.cons (.cmp .eq (.var 9) (.var 14)) .nil)))))
    .nil))
    (.cons (.own 5 (.lst .nil))
    (.cons (.fr (.one 6) (.rng (.var 2))
    (.cons (.asg 11 (.lc (.one 7) (.rng2 (.bi .len (.cons (.var 5) .nil)) (.var 3)) (.cons (.cmp .ne (.sub (.sub (.var 4) (.var 7)) (.var 6)) (.cst (.int 0))) .nil) (.var 7)))
    (.cons (.iff (.var 11)
    (.cons (.asg 12 (.bi .len (.cons (.var 5) .nil)))
    (.cons (.st2 4 (.var 12) (.sub (.var 11) (.cst (.int 0))) (.sub (.var 4) (.sub (.var 11) (.cst (.int 0)))) (.sub (.var 4) (.var 12)))
    (.cons (.asg 13 (.call "inverse" (.cons (.var 0) (.cons (.sub (.sub (.var 4) (.var 12)) (.var 6)) .nil))))
    (.cons (.sti 4 (.var 12) (.lc (.one 9) (.seq (.sub (.var 4) (.var 12))) .nil (.bin .mod (.bin .mul (.var 9) (.var 13)) (.var 0))))
    (.cons (.fr (.one 7) (.rng (.var 3))
    (.cons (.iff (.and (.cmp .ne (.var 7) (.var 12)) (.cmp .ne (.sub (.sub (.var 4) (.var 7)) (.var 6)) (.cst (.int 0))))
    (.cons (.sti 4 (.var 7) (.call "reduce_line" (.cons (.var 0) (.cons (.sub (.var 4) (.var 7)) (.cons (.sub (.var 4) (.var 12)) (.cons (.sub (.sub (.var 4) (.var 7)) (.var 6)) .nil))))))
    .nil)
    .nil)
    .nil))
    (.cons (.app 5 (.var 6))
    .nil))))))
    .nil)
    .nil)))
    (.cons (.fr (.one 7) (.seq (.slo (.var 4) (.bi .len (.cons (.var 5) .nil))))
    (.cons (.iff (.cmp .ne (.sub (.var 7) (.var 2)) (.cst (.int 0)))
    (.cons (.ret (.tup (.cons (.cst .none) (.cons (.cst .none) (.cons (.slo (.var 7) (.bin .add (.var 2) (.cst (.int 1)))) .nil)))))
    .nil)
    .nil)
    .nil))
    (.cons (.own 8 (.bin .mul (.lst (.cons (.cst (.int 0)) .nil)) (.var 2)))
    (.cons (.frz 5)
    (.cons (.fr (.two 12 6) (.enm (.var 5))
    (.cons (.sti 8 (.var 6) (.sub (.sub (.var 4) (.var 12)) (.var 2)))
    .nil))
    (.cons (.frz 8)
    (.cons (.ret (.tup (.cons (.var 8) (.cons (.lc (.one 6) (.rng (.var 2)) (.cons (.cmp .nin (.var 6) (.var 5)) .nil) (.var 6)) (.cons (.cst .none) .nil)))))
    .nil)))))))))))⟩
def d_equations_of : Def := ⟨["row", "length", "place"], 2,
    (.cons (.ret (.lc (.one 2) (.rng2 (.var 1) (.bi .len (.cons (.var 0) .nil))) .nil (.bin .add (.bi .list (.cons (.rev (.slc (.var 0) (.bin .sub (.var 2) (.var 1)) (.var 2))) .nil)) (.lst (.cons (.sub (.var 0) (.var 2)) .nil)))))
    .nil)⟩
def d_attempt : Def := ⟨["prime", "rows", "length", "equations", "row"], 3,
    (.cons (.own 3 (.lst .nil))
    (.cons (.fr (.one 4) (.seq (.var 1))
    (.cons (.ext 3 (.call "equations_of" (.cons (.var 4) (.cons (.var 2) .nil))))
    .nil))
    (.cons (.ret (.call "solve" (.cons (.var 0) (.cons (.var 3) (.cons (.var 2) .nil)))))
    .nil)))⟩
def d_least_length : Def := ⟨["prime", "rows", "length"], 2,
    (.cons (.asg 2 (.cst (.int 0)))
    (.cons (.whl (.cmp .isn (.sub (.call "attempt" (.cons (.var 0) (.cons (.var 1) (.cons (.var 2) .nil)))) (.cst (.int 0))) (.cst .none))
    (.cons (.aug .add 2 (.cst (.int 1)))
    .nil))
    (.cons (.ret (.var 2))
    .nil)))⟩
def d_length_of : Def := ⟨["prime", "row"], 2,
    (.cons (.exp (.call "check_row" (.cons (.var 0) (.cons (.var 1) .nil))))
    (.cons (.ret (.call "least_length" (.cons (.var 0) (.cons (.lst (.cons (.var 1) .nil)) .nil))))
    .nil))⟩
def d_profile : Def := ⟨["prime", "row", "count"], 2,
    (.cons (.exp (.call "check_row" (.cons (.var 0) (.cons (.var 1) .nil))))
    (.cons (.ret (.lc (.one 2) (.rng (.bin .add (.bi .len (.cons (.var 1) .nil)) (.cst (.int 1)))) .nil (.call "least_length" (.cons (.var 0) (.cons (.lst (.cons (.shi (.var 1) (.var 2)) .nil)) .nil)))))
    .nil))⟩
def d_next_numbers : Def := ⟨["prime", "row", "length", "number"], 2,
    (.cons (.exp (.call "check_row" (.cons (.var 0) (.cons (.var 1) .nil))))
    (.cons (.iff (.cmp .eq (.bi .len (.cons (.var 1) .nil)) (.glb "MAX_ROW"))
    (.cons (.rse "InvalidRow" "the row is full")
    .nil)
    .nil)
    (.cons (.asg 2 (.call "least_length" (.cons (.var 0) (.cons (.lst (.cons (.var 1) .nil)) .nil))))
    (.cons (.ret (.lc (.one 3) (.rng (.var 0)) (.cons (.cmp .eq (.call "least_length" (.cons (.var 0) (.cons (.lst (.cons (.bin .add (.var 1) (.tup (.cons (.var 3) .nil))) .nil)) .nil))) (.var 2)) .nil) (.var 3)))
    .nil))))⟩
def d_check_rows : Def := ⟨["prime", "rows", "row"], 2,
    (.cons (.exp (.call "check_prime" (.cons (.var 0) .nil)))
    (.cons (.iff (.or (.not (.isi (.var 1) .tuple)) (.not (.lele (.cst (.int 1)) (.bi .len (.cons (.var 1) .nil)) (.glb "MAX_ROWS"))))
    (.cons (.rse "InvalidRow" "not a tuple of rows")
    .nil)
    .nil)
    (.cons (.fr (.one 2) (.seq (.var 1))
    (.cons (.iff (.not (.call "are_numbers" (.cons (.var 0) (.cons (.var 2) .nil))))
    (.cons (.rse "InvalidRow" "invalid row")
    .nil)
    .nil)
    .nil))
    .nil)))⟩
def d_common_rule : Def := ⟨["prime", "rows"], 2,
    (.cons (.exp (.call "check_rows" (.cons (.var 0) (.cons (.var 1) .nil))))
    (.cons (.ret (.bi .tuple (.cons (.sub (.call "attempt" (.cons (.var 0) (.cons (.var 1) (.cons (.call "least_length" (.cons (.var 0) (.cons (.var 1) .nil))) .nil)))) (.cst (.int 0))) .nil)))
    .nil))⟩
def d_suspects : Def := ⟨["prime", "row", "length", "result", "place", "number", "found", "other"], 3,
    (.cons (.exp (.call "check_row" (.cons (.var 0) (.cons (.var 1) .nil))))
    (.cons (.exp (.call "check_length" (.cons (.var 2) (.cons (.glb "MAX_ROW") .nil))))
    (.cons (.own 3 (.lst .nil))
    (.cons (.fr (.two 4 5) (.enm (.var 1))
    (.cons (.own 6 (.lst .nil))
    (.cons (.fr (.one 7) (.rng (.var 0))
    (.cons (.iff (.and (.cmp .ne (.var 7) (.var 5)) (.cmp .le (.call "least_length" (.cons (.var 0) (.cons (.lst (.cons (.bin .add (.bin .add (.shi (.var 1) (.var 4)) (.tup (.cons (.var 7) .nil))) (.slo (.var 1) (.bin .add (.var 4) (.cst (.int 1))))) .nil)) .nil))) (.var 2)))
    (.cons (.app 6 (.var 7))
    .nil)
    .nil)
    .nil))
    (.cons (.iff (.var 6)
    (.cons (.app 3 (.tup (.cons (.var 4) (.cons (.bi .tuple (.cons (.var 6) .nil)) .nil))))
    .nil)
    .nil)
    .nil))))
    (.cons (.ret (.var 3))
    .nil)))))⟩
def d_format_row : Def := ⟨["prime", "row", "number"], 2,
    (.cons (.exp (.call "check_row" (.cons (.var 0) (.cons (.var 1) .nil))))
    (.cons (.ret (.mt .join (.cst (.str " ")) (.bin .add (.lst (.cons (.fst "mod " (.var 0) ":") .nil)) (.lc (.one 2) (.seq (.var 1)) .nil (.bi .str (.cons (.var 2) .nil))))))
    .nil))⟩
def d_longest_ending : Def := ⟨["prime", "row", "length", "count"], 3,
    (.cons (.exp (.call "check_row" (.cons (.var 0) (.cons (.var 1) .nil))))
    (.cons (.exp (.call "check_length" (.cons (.var 2) (.cons (.glb "MAX_ROW") .nil))))
    (.cons (.asg 3 (.cst (.int 0)))
    (.cons (.whl (.and (.cmp .lt (.var 3) (.bi .len (.cons (.var 1) .nil))) (.cmp .le (.call "least_length" (.cons (.var 0) (.cons (.lst (.cons (.slo (.var 1) (.bin .sub (.bin .sub (.bi .len (.cons (.var 1) .nil)) (.var 3)) (.cst (.int 1)))) .nil)) .nil))) (.var 2)))
    (.cons (.aug .add 3 (.cst (.int 1)))
    .nil))
    (.cons (.ret (.var 3))
    .nil)))))⟩
def d__law_cell : Def := ⟨["script", "k"], 2,
    (.cons (.iff (.cmp .lt (.var 1) (.bi .len (.cons (.var 0) .nil)))
    (.cons (.ret (.sub (.var 0) (.var 1)))
    .nil)
    .nil)
    (.cons (.ret (.cst (.int 0)))
    .nil))⟩
def d__law_whole : Def := ⟨["found"], 1,
    (.cons (.ret (.and (.isi (.var 0) .int) (.not (.isi (.var 0) .bool))))
    .nil)⟩
def d__law_row : Def := ⟨["script", "at", "cell", "found", "time"], 2,
    (.cons (.asg 2 (.call "_law_cell" (.cons (.var 0) (.cons (.var 1) .nil))))
    (.cons (.own 3 (.lst .nil))
    (.cons (.fr (.one 4) (.rng (.cst (.int 60)))
    (.cons (.iff (.cmp .lt (.call "_law_cell" (.cons (.var 0) (.cons (.var 1) .nil))) (.bin .pow (.cst (.int 10)) (.cst (.int 18))))
    (.cons (.asg 2 (.bin .mod (.bin .add (.bin .add (.bin .add (.bin .mul (.var 2) (.cst (.int 48271))) (.bin .mul (.cst (.int 131)) (.var 4))) (.cst (.int 7))) (.call "_law_cell" (.cons (.var 0) (.cons (.bin .mod (.bin .add (.bin .add (.var 1) (.cst (.int 1))) (.var 4)) (.cst (.int 20))) .nil)))) (.cst (.int 2147483647))))
    (.cons (.app 3 (.bin .mod (.bin .fdiv (.var 2) (.cst (.int 11))) (.cst (.int 1000))))
    .nil))
    (.cons (.app 3 (.bin .mod (.var 2) (.cst (.int 1000))))
    (.cons (.asg 2 (.bin .fdiv (.var 2) (.cst (.int 1000))))
    .nil)))
    .nil))
    (.cons (.ret (.var 3))
    .nil))))⟩
def d__law_in : Def := ⟨["thing", "low", "high"], 3,
    (.cons (.ret (.and (.call "_law_whole" (.cons (.var 0) .nil)) (.lele (.var 1) (.var 0) (.var 2))))
    .nil)⟩
def d__law_made : Def := ⟨["prime", "rule", "start", "count", "found", "total", "back"], 4,
    (.cons (.own 4 (.bi .list (.cons (.var 2) .nil)))
    (.cons (.whl (.cmp .lt (.bi .len (.cons (.var 4) .nil)) (.var 3))
    (.cons (.asg 5 (.cst (.int 0)))
    (.cons (.fr (.one 6) (.rng (.bi .len (.cons (.var 1) .nil)))
    (.cons (.asg 5 (.bin .add (.var 5) (.bin .mul (.sub (.var 1) (.var 6)) (.sub (.var 4) (.bin .sub (.bin .sub (.bi .len (.cons (.var 4) .nil)) (.cst (.int 1))) (.var 6))))))
    .nil))
    (.cons (.app 4 (.bin .mod (.var 5) (.var 0)))
    .nil))))
    (.cons (.ret (.bi .tuple (.cons (.shi (.var 4) (.var 3)) .nil)))
    .nil)))⟩
def d__law_case : Def := ⟨["script", "at", "most", "long", "draws", "prime", "size", "count", "rule", "start", "row", "place"], 4,
    (.cons (.asg 4 (.call "_law_row" (.cons (.var 0) (.cons (.var 1) .nil))))
    (.cons (.asg 5 (.sub (.lst (.cons (.cst (.int 2)) (.cons (.cst (.int 3)) (.cons (.cst (.int 5)) (.cons (.cst (.int 7)) .nil))))) (.bin .mod (.sub (.var 4) (.cst (.int 0))) (.cst (.int 4)))))
    (.cons (.asg 6 (.bin .mod (.sub (.var 4) (.cst (.int 1))) (.bin .add (.var 2) (.cst (.int 1)))))
    (.cons (.asg 7 (.bin .mod (.sub (.var 4) (.cst (.int 2))) (.bin .add (.var 3) (.cst (.int 1)))))
    (.cons (.asg 8 (.bi .tuple (.cons (.lc (.one 11) (.rng (.var 6)) .nil (.bin .mod (.sub (.var 4) (.bin .add (.cst (.int 5)) (.var 11))) (.var 5))) .nil)))
    (.cons (.asg 9 (.bi .tuple (.cons (.lc (.one 11) (.rng (.var 6)) .nil (.bin .mod (.sub (.var 4) (.bin .add (.cst (.int 12)) (.var 11))) (.var 5))) .nil)))
    (.cons (.asg 10 (.call "_law_made" (.cons (.var 5) (.cons (.var 8) (.cons (.var 9) (.cons (.var 7) .nil))))))
    (.cons (.iff (.cmp .eq (.bin .mod (.sub (.var 4) (.cst (.int 3))) (.cst (.int 4))) (.cst (.int 0)))
    (.cons (.asg 10 (.bi .tuple (.cons (.lc (.one 11) (.rng (.var 7)) .nil (.bin .mod (.sub (.var 4) (.bin .add (.cst (.int 20)) (.var 11))) (.var 5))) .nil)))
    .nil)
    .nil)
    (.cons (.ret (.tup (.cons (.var 5) (.cons (.var 10) .nil))))
    .nil)))))))))⟩
def d__law_is_row : Def := ⟨["prime", "value", "one"], 2,
    (.cons (.iff (.or (.not (.isi (.var 1) .tuple)) (.cmp .gt (.bi .len (.cons (.var 1) .nil)) (.cst (.int 24))))
    (.cons (.ret (.cst (.bool false)))
    .nil)
    .nil)
    (.cons (.ret (.cmp .eq (.lc (.one 2) (.seq (.var 1)) (.cons (.not (.call "_law_in" (.cons (.var 2) (.cons (.cst (.int 0)) (.cons (.bin .sub (.var 0) (.cst (.int 1))) .nil))))) .nil) (.var 2)) (.lst .nil)))
    .nil))⟩
def d__law_asked : Def := ⟨["mode", "prime", "row", "e"], 3,
    (.cons (.trh (.cons (.iff (.cmp .eq (.var 0) (.cst (.int 0)))
    (.cons (.exp (.call "makes" (.cons (.var 1) (.cons (.tup .nil) (.cons (.var 2) .nil)))))
    .nil)
    (.cons (.iff (.cmp .eq (.var 0) (.cst (.int 1)))
    (.cons (.exp (.call "length_of" (.cons (.var 1) (.cons (.var 2) .nil))))
    .nil)
    (.cons (.iff (.cmp .eq (.var 0) (.cst (.int 2)))
    (.cons (.exp (.call "profile" (.cons (.var 1) (.cons (.var 2) .nil))))
    .nil)
    (.cons (.iff (.cmp .eq (.var 0) (.cst (.int 3)))
    (.cons (.exp (.call "next_numbers" (.cons (.var 1) (.cons (.var 2) .nil))))
    .nil)
    (.cons (.iff (.cmp .eq (.var 0) (.cst (.int 4)))
    (.cons (.exp (.call "add" (.cons (.var 1) (.cons (.var 2) (.cons (.var 2) .nil)))))
    .nil)
    (.cons (.iff (.cmp .eq (.var 0) (.cst (.int 5)))
    (.cons (.exp (.call "suspects" (.cons (.var 1) (.cons (.var 2) (.cons (.cst (.int 1)) .nil)))))
    .nil)
    (.cons (.iff (.cmp .eq (.var 0) (.cst (.int 6)))
    (.cons (.exp (.call "longest_ending" (.cons (.var 1) (.cons (.var 2) (.cons (.cst (.int 1)) .nil)))))
    .nil)
    (.cons (.iff (.cmp .eq (.var 0) (.cst (.int 7)))
    (.cons (.exp (.call "format_row" (.cons (.var 1) (.cons (.var 2) .nil))))
    .nil)
    (.cons (.exp (.call "common_rule" (.cons (.var 1) (.cons (.tup (.cons (.var 2) .nil)) .nil))))
    .nil))
    .nil))
    .nil))
    .nil))
    .nil))
    .nil))
    .nil))
    .nil))
    .nil) [⟨"InvalidPrime", 3, "RuleError", "InvalidRow", (.str "prime"), (.str "other")⟩, ⟨"InvalidRow", 3, "RuleError", "InvalidPrime", (.str "row"), (.str "other")⟩])
    (.cons (.ret (.cst (.str "none")))
    .nil))⟩
def d_continued : Def := ⟨["prime", "rule", "start", "count"], 4,
    (.cons (.exp (.call "check_prime" (.cons (.var 0) .nil)))
    (.cons (.exp (.call "check_rule" (.cons (.var 0) (.cons (.var 1) .nil))))
    (.cons (.iff (.or (.not (.call "are_numbers" (.cons (.var 0) (.cons (.var 2) .nil)))) (.cmp .ne (.bi .len (.cons (.var 2) .nil)) (.bi .len (.cons (.var 1) .nil))))
    (.cons (.rse "InvalidRow" "invalid start")
    .nil)
    .nil)
    (.cons (.exp (.call "check_length" (.cons (.var 3) (.cons (.glb "MAX_ROW") .nil))))
    (.cons (.ret (.call "extended" (.cons (.var 0) (.cons (.var 1) (.cons (.var 2) (.cons (.var 3) .nil))))))
    .nil)))))⟩
def d_extended : Def := ⟨["prime", "rule", "start", "count", "result"], 4,
    (.cons (.own 4 (.bi .list (.cons (.var 2) .nil)))
    (.cons (.whl (.cmp .lt (.bi .len (.cons (.var 4) .nil)) (.var 3))
    (.cons (.app 4 (.call "predicted" (.cons (.var 0) (.cons (.var 1) (.cons (.var 4) .nil)))))
    .nil))
    (.cons (.ret (.bi .tuple (.cons (.shi (.var 4) (.var 3)) .nil)))
    .nil)))⟩
def d__law_fits : Def := ⟨["prime", "rule", "row", "place", "total", "back"], 3,
    (.cons (.fr (.one 3) (.rng2 (.bi .len (.cons (.var 1) .nil)) (.bi .len (.cons (.var 2) .nil)))
    (.cons (.asg 4 (.cst (.int 0)))
    (.cons (.fr (.one 5) (.rng (.bi .len (.cons (.var 1) .nil)))
    (.cons (.asg 4 (.bin .add (.var 4) (.bin .mul (.sub (.var 1) (.var 5)) (.sub (.var 2) (.bin .sub (.bin .sub (.var 3) (.cst (.int 1))) (.var 5))))))
    .nil))
    (.cons (.iff (.cmp .ne (.bin .mod (.var 4) (.var 0)) (.sub (.var 2) (.var 3)))
    (.cons (.ret (.cst (.bool false)))
    .nil)
    .nil)
    .nil))))
    (.cons (.ret (.cst (.bool true)))
    .nil))⟩
def d__law_ruled : Def := ⟨["mode", "prime", "rule", "other", "e"], 4,
    (.cons (.trh (.cons (.iff (.cmp .eq (.var 0) (.cst (.int 0)))
    (.cons (.ret (.call "makes" (.cons (.var 1) (.cons (.var 2) (.cons (.var 3) .nil)))))
    .nil)
    .nil)
    (.cons (.ret (.ite (.cmp .eq (.var 0) (.cst (.int 1))) (.call "continued" (.cons (.var 1) (.cons (.var 2) (.cons (.var 3) (.cons (.cst (.int 9)) .nil))))) (.call "continued" (.cons (.var 1) (.cons (.var 2) (.cons (.bin .mul (.tup (.cons (.cst (.int 0)) .nil)) (.bi .len (.cons (.var 2) .nil))) (.cons (.var 3) .nil)))))))
    .nil)) [⟨"InvalidRule", 4, "RuleError", "InvalidRow", (.str "rule"), (.str "other")⟩, ⟨"InvalidRow", 4, "RuleError", "InvalidRule", (.str "row"), (.str "other")⟩, ⟨"InvalidLength", 4, "RuleError", "InvalidRow", (.str "length"), (.str "other")⟩])
    .nil)⟩
def d_shortest_rule : Def := ⟨["prime", "row"], 2,
    (.cons (.exp (.call "check_row" (.cons (.var 0) (.cons (.var 1) .nil))))
    (.cons (.ret (.bi .tuple (.cons (.sub (.call "attempt" (.cons (.var 0) (.cons (.lst (.cons (.var 1) .nil)) (.cons (.call "least_length" (.cons (.var 0) (.cons (.lst (.cons (.var 1) .nil)) .nil))) .nil)))) (.cst (.int 0))) .nil)))
    .nil))⟩
def d_paper : Def := ⟨["prime", "row", "length", "multipliers"], 3,
    (.cons (.exp (.call "check_row" (.cons (.var 0) (.cons (.var 1) .nil))))
    (.cons (.exp (.call "check_length" (.cons (.var 2) (.cons (.glb "MAX_ROW") .nil))))
    (.cons (.asg 3 (.sub (.call "attempt" (.cons (.var 0) (.cons (.lst (.cons (.var 1) .nil)) (.cons (.var 2) .nil)))) (.cst (.int 2))))
    (.cons (.iff (.cmp .isn (.var 3) (.cst .none))
    (.cons (.rse "RuleExists" "there is a rule of this length")
    .nil)
    .nil)
    (.cons (.ret (.bi .tuple (.cons (.var 3) .nil)))
    .nil)))))⟩
def d_is_paper : Def := ⟨["prime", "row", "length", "value", "back", "products", "place", "one"], 4,
    (.cons (.exp (.call "check_row" (.cons (.var 0) (.cons (.var 1) .nil))))
    (.cons (.exp (.call "check_length" (.cons (.var 2) (.cons (.glb "MAX_ROW") .nil))))
    (.cons (.iff (.or (.not (.call "are_numbers" (.cons (.var 0) (.cons (.var 3) .nil)))) (.cmp .ne (.bi .len (.cons (.var 3) .nil)) (.bi .max2 (.cons (.bin .sub (.bi .len (.cons (.var 1) .nil)) (.var 2)) (.cons (.cst (.int 0)) .nil)))))
    (.cons (.ret (.cst (.bool false)))
    .nil)
    .nil)
    (.cons (.fr (.one 4) (.rng2 (.cst (.int 1)) (.bin .add (.var 2) (.cst (.int 1))))
    (.cons (.asg 5 (.lc (.two 6 7) (.enm (.var 3)) .nil (.bin .mul (.var 7) (.sub (.var 1) (.bin .sub (.bin .add (.var 2) (.var 6)) (.var 4))))))
    (.cons (.iff (.cmp .ne (.bin .mod (.bi .sum (.cons (.var 5) .nil)) (.var 0)) (.cst (.int 0)))
    (.cons (.ret (.cst (.bool false)))
    .nil)
    .nil)
    .nil)))
    (.cons (.ret (.cmp .ne (.bin .mod (.bi .sum (.cons (.lc (.two 6 7) (.enm (.var 3)) .nil (.bin .mul (.var 7) (.sub (.var 1) (.bin .add (.var 2) (.var 6))))) .nil)) (.var 0)) (.cst (.int 0))))
    .nil)))))⟩
def d__law_length : Def := ⟨["prime", "row", "place", "now", "old", "length", "shift", "last", "error", "back", "factor", "longer", "at", "one"], 2,
    (.cons (.par2 3 4 (.lst (.cons (.cst (.int 1)) .nil)) (.lst (.cons (.cst (.int 1)) .nil)))
    (.cons (.unp [5, 6, 7] (.tup (.cons (.cst (.int 0)) (.cons (.cst (.int 1)) (.cons (.cst (.int 1)) .nil)))))
    (.cons (.fr (.one 2) (.rng (.bi .len (.cons (.var 1) .nil)))
    (.cons (.asg 8 (.cst (.int 0)))
    (.cons (.fr (.one 9) (.rng (.bi .min2 (.cons (.bi .len (.cons (.var 3) .nil)) (.cons (.bin .add (.var 2) (.cst (.int 1))) .nil))))
    (.cons (.asg 8 (.bin .add (.var 8) (.bin .mul (.sub (.var 3) (.var 9)) (.sub (.var 1) (.bin .sub (.var 2) (.var 9))))))
    .nil))
    (.cons (.asg 8 (.bin .mod (.var 8) (.var 0)))
    (.cons (.asg 6 (.bin .add (.var 6) (.cst (.int 1))))
    (.cons (.iff (.cmp .ne (.var 8) (.cst (.int 0)))
    (.cons (.asg 10 (.bin .mul (.var 8) (.sub (.lc (.one 13) (.rng2 (.cst (.int 1)) (.var 0)) (.cons (.cmp .eq (.bin .mod (.bin .mul (.var 13) (.var 7)) (.var 0)) (.cst (.int 1))) .nil) (.var 13)) (.cst (.int 0)))))
    (.cons (.own 11 (.bin .add (.var 3) (.bin .mul (.lst (.cons (.cst (.int 0)) .nil)) (.bi .max2 (.cons (.cst (.int 0)) (.cons (.bin .sub (.bin .sub (.bin .add (.bi .len (.cons (.var 4) .nil)) (.var 6)) (.cst (.int 1))) (.bi .len (.cons (.var 3) .nil))) .nil))))))
    (.cons (.fr (.one 9) (.rng (.bi .len (.cons (.var 4) .nil)))
    (.cons (.asg 12 (.bin .sub (.bin .add (.var 9) (.var 6)) (.cst (.int 1))))
    (.cons (.sti 11 (.var 12) (.bin .mod (.bin .sub (.sub (.var 11) (.var 12)) (.bin .mul (.var 10) (.sub (.var 4) (.var 9)))) (.var 0)))
    .nil)))
    (.cons (.iff (.cmp .le (.bin .mul (.cst (.int 2)) (.var 5)) (.var 2))
    (.cons (.unp [4, 7, 6] (.tup (.cons (.var 3) (.cons (.var 8) (.cons (.cst (.int 1)) .nil)))))
    (.cons (.asg 5 (.bin .sub (.bin .add (.var 2) (.cst (.int 1))) (.var 5)))
    .nil))
    .nil)
    (.cons (.frz 11)
    (.cons (.asg 3 (.var 11))
    .nil))))))
    .nil)
    .nil))))))
    (.cons (.ret (.var 5))
    .nil))))⟩
def d__law_is_paper : Def := ⟨["prime", "row", "length", "value", "back", "total", "place"], 4,
    (.cons (.iff (.or (.not (.call "_law_is_row" (.cons (.var 0) (.cons (.var 3) .nil)))) (.cmp .ne (.bi .len (.cons (.var 3) .nil)) (.bi .max2 (.cons (.bin .sub (.bi .len (.cons (.var 1) .nil)) (.var 2)) (.cons (.cst (.int 0)) .nil)))))
    (.cons (.ret (.cst (.bool false)))
    .nil)
    .nil)
    (.cons (.fr (.one 4) (.rng (.bin .add (.var 2) (.cst (.int 1))))
    (.cons (.asg 5 (.cst (.int 0)))
    (.cons (.fr (.one 6) (.rng (.bi .len (.cons (.var 3) .nil)))
    (.cons (.asg 5 (.bin .add (.var 5) (.bin .mul (.sub (.var 3) (.var 6)) (.sub (.var 1) (.bin .sub (.bin .add (.var 2) (.var 6)) (.var 4))))))
    .nil))
    (.cons (.iff (.cmp .eq (.cmp .eq (.bin .mod (.var 5) (.var 0)) (.cst (.int 0))) (.cmp .eq (.var 4) (.cst (.int 0))))
    (.cons (.ret (.cst (.bool false)))
    .nil)
    .nil)
    .nil))))
    (.cons (.ret (.cst (.bool true)))
    .nil)))⟩
def d__law_paper : Def := ⟨["prime", "row", "length", "e"], 3,
    (.cons (.trh (.cons (.ret (.call "paper" (.cons (.var 0) (.cons (.var 1) (.cons (.var 2) .nil)))))
    .nil) [⟨"RuleExists", 3, "RuleError", "InvalidLength", (.str "exists"), (.str "other")⟩, ⟨"InvalidLength", 3, "RuleError", "RuleExists", (.str "length"), (.str "other")⟩])
    .nil)⟩
def d_tuples : Def := ⟨["prime", "count", "result", "time", "longer", "one", "number"], 2,
    (.cons (.asg 2 (.lst (.cons (.tup .nil) .nil)))
    (.cons (.fr (.one 3) (.rng (.var 1))
    (.cons (.own 4 (.lst .nil))
    (.cons (.fr (.one 5) (.seq (.var 2))
    (.cons (.ext 4 (.lc (.one 6) (.rng (.var 0)) .nil (.bin .add (.var 5) (.tup (.cons (.var 6) .nil)))))
    .nil))
    (.cons (.frz 4)
    (.cons (.asg 2 (.var 4))
    .nil)))))
    (.cons (.ret (.var 2))
    .nil)))⟩
def d_power : Def := ⟨["prime", "exponent", "result", "time"], 2,
    (.cons (.asg 2 (.cst (.int 1)))
    (.cons (.fr (.one 3) (.rng (.var 1))
    (.cons (.aug .mul 2 (.var 0))
    .nil))
    (.cons (.ret (.var 2))
    .nil)))⟩
def d_rule_count : Def := ⟨["prime", "row", "length", "found", "free", "multipliers"], 3,
    (.cons (.exp (.call "check_row" (.cons (.var 0) (.cons (.var 1) .nil))))
    (.cons (.exp (.call "check_length" (.cons (.var 2) (.cons (.glb "MAX_ROW") .nil))))
    (.cons (.unp [3, 4, 5] (.call "attempt" (.cons (.var 0) (.cons (.lst (.cons (.var 1) .nil)) (.cons (.var 2) .nil)))))
    (.cons (.ret (.ite (.cmp .isn (.var 3) (.cst .none)) (.cst (.int 0)) (.call "power" (.cons (.var 0) (.cons (.bi .len (.cons (.var 4) .nil)) .nil)))))
    .nil))))⟩
def d_all_rules : Def := ⟨["prime", "row", "length", "equations", "result", "numbers", "found", "free", "multipliers", "more", "column", "number", "other"], 3,
    (.cons (.exp (.call "check_row" (.cons (.var 0) (.cons (.var 1) .nil))))
    (.cons (.exp (.call "check_length" (.cons (.var 2) (.cons (.glb "MAX_ROW") .nil))))
    (.cons (.asg 3 (.call "equations_of" (.cons (.var 1) (.cons (.var 2) .nil))))
    (.cons (.unp [6, 7, 8] (.call "solve" (.cons (.var 0) (.cons (.var 3) (.cons (.var 2) .nil)))))
    (.cons (.iff (.cmp .isn (.var 6) (.cst .none))
    (.cons (.ret (.lst .nil))
    .nil)
    .nil)
    (.cons (.iff (.cmp .gt (.call "rule_count" (.cons (.var 0) (.cons (.var 1) (.cons (.var 2) .nil)))) (.glb "MAX_RULES"))
    (.cons (.rse "TooMany" "too many rules")
    .nil)
    .nil)
    (.cons (.own 4 (.lst .nil))
    (.cons (.fr (.one 5) (.seq (.call "tuples" (.cons (.var 0) (.cons (.bi .len (.cons (.var 7) .nil)) .nil))))
    (.cons (.own 9 (.lst .nil))
    (.cons (.fr (.two 10 11) (.zip (.var 7) (.var 5))
    (.cons (.app 9 (.bin .add (.lc (.one 12) (.rng (.var 2)) .nil (.bi .int (.cons (.cmp .eq (.var 10) (.var 12)) .nil))) (.lst (.cons (.var 11) .nil))))
    .nil))
    (.cons (.app 4 (.bi .tuple (.cons (.sub (.call "solve" (.cons (.var 0) (.cons (.bin .add (.var 3) (.var 9)) (.cons (.var 2) .nil)))) (.cst (.int 0))) .nil)))
    .nil))))
    (.cons (.ret (.bi .sorted (.cons (.var 4) .nil)))
    .nil)))))))))⟩
def d__law_tuples : Def := ⟨["prime", "count", "found", "time", "longer", "one", "number"], 2,
    (.cons (.asg 2 (.lst (.cons (.tup .nil) .nil)))
    (.cons (.fr (.one 3) (.rng (.var 1))
    (.cons (.asg 4 (.lst .nil))
    (.cons (.fr (.one 5) (.seq (.var 2))
    (.cons (.asg 4 (.bin .add (.var 4) (.lc (.one 6) (.rng (.var 0)) .nil (.bin .add (.var 5) (.tup (.cons (.var 6) .nil))))))
    .nil))
    (.cons (.asg 2 (.var 4))
    .nil))))
    (.cons (.ret (.var 2))
    .nil)))⟩
def d__law_rules_told : Def := ⟨["mode", "prime", "row", "length", "e"], 4,
    (.cons (.trh (.cons (.ret (.ite (.cmp .eq (.var 0) (.cst (.int 0))) (.call "all_rules" (.cons (.var 1) (.cons (.var 2) (.cons (.var 3) .nil)))) (.call "rule_count" (.cons (.var 1) (.cons (.var 2) (.cons (.var 3) .nil))))))
    .nil) [⟨"TooMany", 4, "RuleError", "InvalidLength", (.str "many"), (.str "other")⟩, ⟨"InvalidLength", 4, "RuleError", "TooMany", (.str "length"), (.str "other")⟩])
    .nil)⟩
def d__law_common : Def := ⟨["prime", "rows", "e"], 2,
    (.cons (.trh (.cons (.ret (.call "common_rule" (.cons (.var 0) (.cons (.var 1) .nil))))
    .nil) [⟨"InvalidRow", 2, "RuleError", "InvalidPrime", (.str "row"), (.str "other")⟩])
    .nil)⟩
def d_multiply : Def := ⟨["prime", "one", "other", "left", "right"], 3,
    (.cons (.exp (.call "check_pair" (.cons (.var 0) (.cons (.var 1) (.cons (.var 2) .nil)))))
    (.cons (.ret (.bi .tuple (.cons (.lc (.two 3 4) (.zip (.var 1) (.var 2)) .nil (.bin .mod (.bin .mul (.var 3) (.var 4)) (.var 0))) .nil)))
    .nil))⟩
def d_partial_sums : Def := ⟨["prime", "row", "place"], 2,
    (.cons (.exp (.call "check_row" (.cons (.var 0) (.cons (.var 1) .nil))))
    (.cons (.ret (.bi .tuple (.cons (.lc (.one 2) (.rng (.bi .len (.cons (.var 1) .nil))) .nil (.bin .mod (.bi .sum (.cons (.shi (.var 1) (.bin .add (.var 2) (.cst (.int 1)))) .nil)) (.var 0))) .nil)))
    .nil))⟩
def d_every : Def := ⟨["prime", "row", "step"], 3,
    (.cons (.exp (.call "check_row" (.cons (.var 0) (.cons (.var 1) .nil))))
    (.cons (.iff (.not (.call "in_range" (.cons (.var 2) (.cons (.cst (.int 1)) (.cons (.cst (.int 24)) .nil)))))
    (.cons (.rse "InvalidLength" "invalid step")
    .nil)
    .nil)
    (.cons (.ret (.stp (.var 1) (.var 2)))
    .nil)))⟩
def d__law_combined : Def := ⟨["mode", "prime", "one", "other", "e"], 4,
    (.cons (.trh (.cons (.iff (.cmp .eq (.var 0) (.cst (.int 0)))
    (.cons (.ret (.call "add" (.cons (.var 1) (.cons (.var 2) (.cons (.var 3) .nil)))))
    .nil)
    .nil)
    (.cons (.ret (.ite (.cmp .eq (.var 0) (.cst (.int 1))) (.call "multiply" (.cons (.var 1) (.cons (.var 3) (.cons (.var 2) .nil)))) (.call "every" (.cons (.var 1) (.cons (.var 2) (.cons (.var 3) .nil))))))
    .nil)) [⟨"InvalidRow", 4, "RuleError", "InvalidLength", (.str "row"), (.str "other")⟩, ⟨"InvalidLength", 4, "RuleError", "InvalidRow", (.str "length"), (.str "other")⟩])
    .nil)⟩
def d_period : Def := ⟨["prime", "rule", "start", "seen", "state"], 3,
    (.cons (.exp (.call "check_prime" (.cons (.var 0) .nil)))
    (.cons (.exp (.call "check_rule" (.cons (.var 0) (.cons (.var 1) .nil))))
    (.cons (.iff (.or (.not (.call "are_numbers" (.cons (.var 0) (.cons (.var 2) .nil)))) (.cmp .ne (.bi .len (.cons (.var 2) .nil)) (.bi .len (.cons (.var 1) .nil))))
    (.cons (.rse "InvalidRow" "invalid start")
    .nil)
    .nil)
    (.cons (.iff (.cmp .gt (.call "power" (.cons (.var 0) (.cons (.bi .len (.cons (.var 1) .nil)) .nil))) (.glb "MAX_STATES"))
    (.cons (.rse "TooMany" "too many states")
    .nil)
    .nil)
    (.cons (.dnew 3)
    (.cons (.asg 4 (.var 2))
    (.cons (.whl (.cmp .nin (.var 4) (.var 3))
    (.cons (.sti 3 (.var 4) (.bi .len (.cons (.var 3) .nil)))
    (.cons (.asg 4 (.slo (.bin .add (.var 4) (.tup (.cons (.call "predicted" (.cons (.var 0) (.cons (.var 1) (.cons (.var 4) .nil)))) .nil))) (.cst (.int 1))))
    .nil)))
    (.cons (.ret (.tup (.cons (.sub (.var 3) (.var 4)) (.cons (.bin .sub (.bi .len (.cons (.var 3) .nil)) (.sub (.var 3) (.var 4))) .nil))))
    .nil))))))))⟩
def d__law_periodic : Def := ⟨["prime", "rule", "start", "e"], 3,
    (.cons (.trh (.cons (.ret (.call "period" (.cons (.var 0) (.cons (.var 1) (.cons (.var 2) .nil)))))
    .nil) [⟨"TooMany", 3, "RuleError", "InvalidRow", (.str "many"), (.str "other")⟩, ⟨"InvalidRow", 3, "RuleError", "TooMany", (.str "row"), (.str "other")⟩])
    .nil)⟩
def d_check_gaps : Def := ⟨["prime", "row", "one"], 2,
    (.cons (.exp (.call "check_prime" (.cons (.var 0) .nil)))
    (.cons (.iff (.or (.not (.isi (.var 1) .tuple)) (.not (.call "are_numbers" (.cons (.var 0) (.cons (.bi .tuple (.cons (.lc (.one 2) (.seq (.var 1)) .nil (.ite (.cmp .isn (.var 2) (.cst .none)) (.cst (.int 0)) (.var 2))) .nil)) .nil)))))
    (.cons (.rse "InvalidRow" "invalid row")
    .nil)
    .nil)
    (.cons (.iff (.cmp .gt (.call "power" (.cons (.var 0) (.cons (.mt .tcount (.var 1) (.cst .none)) .nil))) (.glb "MAX_FILLED"))
    (.cons (.rse "TooMany" "too many completions")
    .nil)
    .nil)
    .nil)))⟩
def d_filled : Def := ⟨["row", "numbers", "result", "rest", "one"], 2,
    (.cons (.own 2 (.lst .nil))
    (.cons (.own 3 (.bi .list (.cons (.var 1) .nil)))
    (.cons (.fr (.one 4) (.seq (.var 0))
    (.cons (.apop 2 3 (.cmp .isn (.var 4) (.cst .none)) (.var 4))
    .nil))
    (.cons (.ret (.bi .tuple (.cons (.var 2) .nil)))
    .nil))))⟩
def d_completions : Def := ⟨["prime", "row", "length", "every", "numbers", "one"], 3,
    (.cons (.exp (.call "check_gaps" (.cons (.var 0) (.cons (.var 1) .nil))))
    (.cons (.exp (.call "check_length" (.cons (.var 2) (.cons (.glb "MAX_ROW") .nil))))
    (.cons (.asg 3 (.lc (.one 4) (.seq (.call "tuples" (.cons (.var 0) (.cons (.mt .tcount (.var 1) (.cst .none)) .nil)))) .nil (.call "filled" (.cons (.var 1) (.cons (.var 4) .nil)))))
    (.cons (.ret (.bi .sorted (.cons (.lc (.one 5) (.seq (.var 3)) (.cons (.cmp .le (.call "least_length" (.cons (.var 0) (.cons (.lst (.cons (.var 5) .nil)) .nil))) (.var 2)) .nil) (.var 5)) .nil)))
    .nil))))⟩
def d_best_completions : Def := ⟨["prime", "row", "lengths", "numbers", "least", "one"], 2,
    (.cons (.exp (.call "check_gaps" (.cons (.var 0) (.cons (.var 1) .nil))))
    (.cons (.dnew 2)
    (.cons (.fr (.one 3) (.seq (.call "tuples" (.cons (.var 0) (.cons (.mt .tcount (.var 1) (.cst .none)) .nil))))
    (.cons (.asg 5 (.call "filled" (.cons (.var 1) (.cons (.var 3) .nil))))
    (.cons (.sti 2 (.var 5) (.call "least_length" (.cons (.var 0) (.cons (.lst (.cons (.var 5) .nil)) .nil))))
    .nil)))
    (.cons (.asg 4 (.bi .min (.cons (.dvl 2) .nil)))
    (.cons (.ret (.tup (.cons (.var 4) (.cons (.bi .sorted (.cons (.lck (.one 5) 2 (.cons (.cmp .eq (.sub (.var 2) (.var 5)) (.var 4)) .nil) (.var 5)) .nil)) .nil))))
    .nil)))))⟩
def d__law_filled : Def := ⟨["prime", "row", "found", "number", "longer", "one", "other"], 2,
    (.cons (.asg 2 (.lst (.cons (.tup .nil) .nil)))
    (.cons (.fr (.one 3) (.seq (.var 1))
    (.cons (.asg 4 (.lst .nil))
    (.cons (.fr (.one 5) (.seq (.var 2))
    (.cons (.asg 4 (.bin .add (.var 4) (.lc (.one 6) (.seq (.ite (.cmp .isnn (.var 3) (.cst .none)) (.lst (.cons (.var 3) .nil)) (.lrg (.var 0)))) .nil (.bin .add (.var 5) (.tup (.cons (.var 6) .nil))))))
    .nil))
    (.cons (.asg 2 (.var 4))
    .nil))))
    (.cons (.ret (.bi .sorted (.cons (.var 2) .nil)))
    .nil)))⟩
def d__law_gapped : Def := ⟨["script", "at", "prime", "row", "most", "low", "draws", "found", "time"], 6,
    (.cons (.asg 6 (.call "_law_row" (.cons (.var 0) (.cons (.var 1) .nil))))
    (.cons (.own 7 (.bi .list (.cons (.var 3) .nil)))
    (.cons (.fr (.one 8) (.rng (.bin .mod (.sub (.var 6) (.cst (.int 30))) (.bin .add (.var 4) (.cst (.int 1)))))
    (.cons (.iff (.cmp .gt (.bi .len (.cons (.var 3) .nil)) (.var 5))
    (.cons (.sti 7 (.bin .add (.var 5) (.bin .mod (.sub (.var 6) (.bin .add (.cst (.int 31)) (.var 8))) (.bin .sub (.bi .len (.cons (.var 3) .nil)) (.var 5)))) (.cst .none))
    .nil)
    .nil)
    .nil))
    (.cons (.ret (.bi .tuple (.cons (.var 7) .nil)))
    .nil))))⟩
def d__law_completed : Def := ⟨["mode", "prime", "row", "length", "e"], 4,
    (.cons (.trh (.cons (.ret (.ite (.cmp .eq (.var 0) (.cst (.int 0))) (.call "completions" (.cons (.var 1) (.cons (.var 2) (.cons (.var 3) .nil)))) (.call "best_completions" (.cons (.var 1) (.cons (.var 2) .nil)))))
    .nil) [⟨"InvalidRow", 4, "RuleError", "InvalidLength", (.str "row"), (.str "other")⟩, ⟨"TooMany", 4, "RuleError", "InvalidRow", (.str "many"), (.str "other")⟩, ⟨"InvalidLength", 4, "RuleError", "TooMany", (.str "length"), (.str "other")⟩])
    .nil)⟩
def d_short_rows : Def := ⟨["prime", "count", "length", "found", "rule", "start"], 3,
    (.cons (.dnew 3)
    (.cons (.fr (.one 4) (.seq (.call "tuples" (.cons (.var 0) (.cons (.var 2) .nil))))
    (.cons (.fr (.one 5) (.seq (.call "tuples" (.cons (.var 0) (.cons (.var 2) .nil))))
    (.cons (.sti 3 (.call "extended" (.cons (.var 0) (.cons (.var 4) (.cons (.var 5) (.cons (.var 1) .nil))))) (.cst (.bool true)))
    .nil))
    .nil))
    (.cons (.ret (.bi .sorted (.cons (.var 3) .nil)))
    .nil)))⟩
def d_differences : Def := ⟨["one", "other", "left", "right"], 2,
    (.cons (.ret (.bi .len (.cons (.lc (.two 2 3) (.zip (.var 0) (.var 1)) (.cons (.cmp .ne (.var 2) (.var 3)) .nil) (.cst (.int 1))) .nil)))
    .nil)⟩
def d_nearest_rows : Def := ⟨["prime", "row", "length", "every", "least", "one"], 3,
    (.cons (.exp (.call "check_row" (.cons (.var 0) (.cons (.var 1) .nil))))
    (.cons (.exp (.call "check_length" (.cons (.var 2) (.cons (.glb "MAX_ROW") .nil))))
    (.cons (.iff (.cmp .gt (.call "power" (.cons (.var 0) (.cons (.bin .mul (.cst (.int 2)) (.var 2)) .nil))) (.glb "MAX_TRIED"))
    (.cons (.rse "TooMany" "too many rows")
    .nil)
    .nil)
    (.cons (.asg 3 (.call "short_rows" (.cons (.var 0) (.cons (.bi .len (.cons (.var 1) .nil)) (.cons (.var 2) .nil)))))
    (.cons (.asg 4 (.bi .min (.cons (.lc (.one 5) (.seq (.var 3)) .nil (.call "differences" (.cons (.var 1) (.cons (.var 5) .nil)))) .nil)))
    (.cons (.ret (.tup (.cons (.var 4) (.cons (.lc (.one 5) (.seq (.var 3)) (.cons (.cmp .eq (.call "differences" (.cons (.var 1) (.cons (.var 5) .nil))) (.var 4)) .nil) (.var 5)) .nil))))
    .nil))))))⟩
def d__law_short_rows : Def := ⟨["prime", "count", "length", "row"], 3,
    (.cons (.ret (.lc (.one 3) (.seq (.call "_law_tuples" (.cons (.var 0) (.cons (.var 1) .nil)))) (.cons (.cmp .le (.call "_law_length" (.cons (.var 0) (.cons (.var 3) .nil))) (.var 2)) .nil) (.var 3)))
    .nil)⟩
def d__law_gap : Def := ⟨["one", "other", "place"], 2,
    (.cons (.ret (.bi .len (.cons (.lc (.one 2) (.rng (.bi .len (.cons (.var 0) .nil))) (.cons (.cmp .ne (.sub (.var 0) (.var 2)) (.sub (.var 1) (.var 2))) .nil) (.var 2)) .nil)))
    .nil)⟩
def d__law_near : Def := ⟨["prime", "row", "length", "e"], 3,
    (.cons (.trh (.cons (.ret (.call "nearest_rows" (.cons (.var 0) (.cons (.var 1) (.cons (.var 2) .nil)))))
    .nil) [⟨"TooMany", 3, "RuleError", "InvalidLength", (.str "many"), (.str "other")⟩])
    .nil)⟩
def d_longest_beginning : Def := ⟨["prime", "row", "length", "count"], 3,
    (.cons (.exp (.call "check_row" (.cons (.var 0) (.cons (.var 1) .nil))))
    (.cons (.exp (.call "check_length" (.cons (.var 2) (.cons (.glb "MAX_ROW") .nil))))
    (.cons (.asg 3 (.cst (.int 0)))
    (.cons (.whl (.and (.cmp .lt (.var 3) (.bi .len (.cons (.var 1) .nil))) (.cmp .le (.call "least_length" (.cons (.var 0) (.cons (.lst (.cons (.shi (.var 1) (.bin .add (.var 3) (.cst (.int 1)))) .nil)) .nil))) (.var 2)))
    (.cons (.aug .add 3 (.cst (.int 1)))
    .nil))
    (.cons (.ret (.var 3))
    .nil)))))⟩
def d_count_rows : Def := ⟨["prime", "count", "length"], 3,
    (.cons (.exp (.call "check_prime" (.cons (.var 0) .nil)))
    (.cons (.exp (.call "check_length" (.cons (.var 1) (.cons (.glb "MAX_ROW") .nil))))
    (.cons (.exp (.call "check_length" (.cons (.var 2) (.cons (.glb "MAX_ROW") .nil))))
    (.cons (.iff (.cmp .gt (.var 2) (.var 1))
    (.cons (.ret (.cst (.int 0)))
    .nil)
    .nil)
    (.cons (.iff (.cmp .eq (.var 2) (.cst (.int 0)))
    (.cons (.ret (.cst (.int 1)))
    .nil)
    .nil)
    (.cons (.iff (.cmp .le (.bin .mul (.cst (.int 2)) (.var 2)) (.var 1))
    (.cons (.ret (.bin .mul (.bin .sub (.var 0) (.cst (.int 1))) (.call "power" (.cons (.var 0) (.cons (.bin .sub (.bin .mul (.cst (.int 2)) (.var 2)) (.cst (.int 1))) .nil)))))
    .nil)
    .nil)
    (.cons (.ret (.bin .mul (.bin .sub (.var 0) (.cst (.int 1))) (.call "power" (.cons (.var 0) (.cons (.bin .mul (.cst (.int 2)) (.bin .sub (.var 1) (.var 2))) .nil)))))
    .nil)))))))⟩
def d__law_counted : Def := ⟨["prime", "count", "length", "e"], 3,
    (.cons (.trh (.cons (.ret (.call "count_rows" (.cons (.var 0) (.cons (.var 1) (.cons (.var 2) .nil)))))
    .nil) [⟨"InvalidLength", 3, "RuleError", "InvalidPrime", (.str "length"), (.str "other")⟩])
    .nil)⟩
def d_check_answers : Def := ⟨["prime", "count", "length", "answers", "answer"], 4,
    (.cons (.exp (.call "check_prime" (.cons (.var 0) .nil)))
    (.cons (.exp (.call "check_length" (.cons (.var 1) (.cons (.glb "MAX_ROW") .nil))))
    (.cons (.exp (.call "check_length" (.cons (.var 2) (.cons (.glb "MAX_ROW") .nil))))
    (.cons (.iff (.cmp .gt (.call "power" (.cons (.var 0) (.cons (.bin .mul (.cst (.int 2)) (.var 2)) .nil))) (.glb "MAX_LISTED"))
    (.cons (.rse "TooMany" "too many rows")
    .nil)
    .nil)
    (.cons (.iff (.not (.isi (.var 3) .tuple))
    (.cons (.rse "InvalidAnswers" "invalid answers")
    .nil)
    .nil)
    (.cons (.fr (.one 4) (.seq (.var 3))
    (.cons (.iff (.or (.not (.isi (.var 4) .tuple)) (.or (.cmp .ne (.bi .len (.cons (.var 4) .nil)) (.cst (.int 2))) (.not (.call "in_range" (.cons (.sub (.var 4) (.cst (.int 0))) (.cons (.cst (.int 0)) (.cons (.bin .sub (.var 1) (.cst (.int 1))) .nil)))))))
    (.cons (.rse "InvalidAnswers" "invalid answer")
    .nil)
    .nil)
    (.cons (.iff (.not (.call "in_range" (.cons (.sub (.var 4) (.cst (.int 1))) (.cons (.cst (.int 0)) (.cons (.bin .sub (.var 0) (.cst (.int 1))) .nil)))))
    (.cons (.rse "InvalidAnswers" "invalid answer")
    .nil)
    .nil)
    .nil)))
    .nil))))))⟩
def d_agreeing_rows : Def := ⟨["prime", "count", "length", "answers", "result", "row", "place", "number"], 4,
    (.cons (.exp (.call "check_answers" (.cons (.var 0) (.cons (.var 1) (.cons (.var 2) (.cons (.var 3) .nil))))))
    (.cons (.own 4 (.lst .nil))
    (.cons (.fr (.one 5) (.seq (.call "short_rows" (.cons (.var 0) (.cons (.var 1) (.cons (.var 2) .nil)))))
    (.cons (.iff (.not (.lc (.two 6 7) (.seq (.var 3)) (.cons (.cmp .ne (.sub (.var 5) (.var 6)) (.var 7)) .nil) (.var 6)))
    (.cons (.app 4 (.var 5))
    .nil)
    .nil)
    .nil))
    (.cons (.ret (.var 4))
    .nil))))⟩
def d_found_rows : Def := ⟨["prime", "count", "length", "answers", "result"], 4,
    (.cons (.asg 4 (.call "agreeing_rows" (.cons (.var 0) (.cons (.var 1) (.cons (.var 2) (.cons (.var 3) .nil))))))
    (.cons (.iff (.not (.var 4))
    (.cons (.rse "InvalidAnswers" "no row agrees")
    .nil)
    .nil)
    (.cons (.ret (.var 4))
    .nil)))⟩
def d_known_numbers : Def := ⟨["prime", "count", "length", "answers", "rows", "result", "place", "here", "row"], 4,
    (.cons (.asg 4 (.call "found_rows" (.cons (.var 0) (.cons (.var 1) (.cons (.var 2) (.cons (.var 3) .nil))))))
    (.cons (.own 5 (.lst .nil))
    (.cons (.fr (.one 6) (.rng (.var 1))
    (.cons (.asg 7 (.sset (.lc (.one 8) (.seq (.var 4)) .nil (.sub (.var 8) (.var 6)))))
    (.cons (.app 5 (.ite (.cmp .eq (.bi .len (.cons (.var 7) .nil)) (.cst (.int 1))) (.sub (.var 7) (.cst (.int 0))) (.cst .none)))
    .nil)))
    (.cons (.ret (.var 5))
    .nil))))⟩
def d_best_place : Def := ⟨["prime", "count", "length", "answers", "rows", "best", "place", "here", "worst", "row", "number"], 4,
    (.cons (.asg 4 (.call "found_rows" (.cons (.var 0) (.cons (.var 1) (.cons (.var 2) (.cons (.var 3) .nil))))))
    (.cons (.asg 5 (.cst .none))
    (.cons (.fr (.one 6) (.rng (.var 1))
    (.cons (.asg 7 (.lc (.one 9) (.seq (.var 4)) .nil (.sub (.var 9) (.var 6))))
    (.cons (.asg 8 (.bi .max (.cons (.lc (.one 10) (.rng (.var 0)) .nil (.mt .count (.var 7) (.var 10))) .nil)))
    (.cons (.iff (.and (.cmp .lt (.var 8) (.bi .len (.cons (.var 4) .nil))) (.or (.cmp .isn (.var 5) (.cst .none)) (.cmp .lt (.var 8) (.sub (.var 5) (.cst (.int 0))))))
    (.cons (.asg 5 (.tup (.cons (.var 8) (.cons (.var 6) .nil))))
    .nil)
    .nil)
    .nil))))
    (.cons (.ret (.ite (.cmp .isn (.var 5) (.cst .none)) (.cst .none) (.sub (.var 5) (.cst (.int 1)))))
    .nil))))⟩
def d__law_hidden : Def := ⟨["mode", "prime", "count", "length", "answers", "e"], 5,
    (.cons (.trh (.cons (.iff (.cmp .eq (.var 0) (.cst (.int 0)))
    (.cons (.ret (.call "agreeing_rows" (.cons (.var 1) (.cons (.var 2) (.cons (.var 3) (.cons (.var 4) .nil))))))
    .nil)
    .nil)
    (.cons (.iff (.cmp .eq (.var 0) (.cst (.int 1)))
    (.cons (.ret (.call "known_numbers" (.cons (.var 1) (.cons (.var 2) (.cons (.var 3) (.cons (.var 4) .nil))))))
    .nil)
    .nil)
    (.cons (.ret (.call "best_place" (.cons (.var 1) (.cons (.var 2) (.cons (.var 3) (.cons (.var 4) .nil))))))
    .nil))) [⟨"InvalidAnswers", 5, "RuleError", "InvalidLength", (.str "answers"), (.str "other")⟩, ⟨"TooMany", 5, "RuleError", "InvalidAnswers", (.str "many"), (.str "other")⟩, ⟨"InvalidLength", 5, "RuleError", "TooMany", (.str "length"), (.str "other")⟩])
    .nil)⟩
def d__law_answers : Def := ⟨["script", "at", "prime", "row", "draws", "found", "time", "place", "wrong"], 4,
    (.cons (.asg 4 (.call "_law_row" (.cons (.var 0) (.cons (.var 1) .nil))))
    (.cons (.own 5 (.lst .nil))
    (.cons (.fr (.one 6) (.rng (.bin .mod (.sub (.var 4) (.cst (.int 0))) (.cst (.int 5))))
    (.cons (.iff (.cmp .ne (.var 3) (.tup .nil))
    (.cons (.asg 7 (.bin .mod (.sub (.var 4) (.bin .add (.cst (.int 1)) (.var 6))) (.bi .len (.cons (.var 3) .nil))))
    (.cons (.asg 8 (.bi .int (.cons (.cmp .eq (.bin .mod (.sub (.var 4) (.bin .add (.cst (.int 10)) (.var 6))) (.cst (.int 10))) (.cst (.int 0))) .nil)))
    (.cons (.app 5 (.tup (.cons (.var 7) (.cons (.bin .mod (.bin .add (.sub (.var 3) (.var 7)) (.var 8)) (.var 2)) .nil))))
    .nil)))
    .nil)
    .nil))
    (.cons (.ret (.bi .tuple (.cons (.var 5) .nil)))
    .nil))))⟩
def d__wall : Def := ⟨["k"], 1,
    (.cons (.whl (.cst (.bool true))
    (.cons (.pass)
    .nil))
    .nil)⟩
def d_replacements : Def := ⟨["prime", "row", "length", "place", "size", "rest", "gapped", "every", "numbers", "one"], 5,
    (.cons (.asg 5 (.slo (.var 1) (.bin .add (.var 3) (.var 4))))
    (.cons (.iff (.or (.cmp .gt (.call "least_length" (.cons (.var 0) (.cons (.lst (.cons (.shi (.var 1) (.var 3)) .nil)) .nil))) (.var 2)) (.cmp .gt (.call "least_length" (.cons (.var 0) (.cons (.lst (.cons (.var 5) .nil)) .nil))) (.var 2)))
    (.cons (.ret (.lst .nil))
    .nil)
    .nil)
    (.cons (.asg 6 (.bin .add (.bin .add (.shi (.var 1) (.var 3)) (.bin .mul (.tup (.cons (.cst .none) .nil)) (.var 4))) (.var 5)))
    (.cons (.asg 7 (.lc (.one 8) (.seq (.call "tuples" (.cons (.var 0) (.cons (.var 4) .nil)))) .nil (.call "filled" (.cons (.var 6) (.cons (.var 8) .nil)))))
    (.cons (.ret (.bi .sorted (.cons (.lc (.one 9) (.seq (.var 7)) (.cons (.cmp .le (.call "least_length" (.cons (.var 0) (.cons (.lst (.cons (.var 9) .nil)) .nil))) (.var 2)) .nil) (.var 9)) .nil)))
    .nil)))))⟩
def d_shortest_stretch : Def := ⟨["prime", "row", "length", "size", "place", "found"], 3,
    (.cons (.exp (.call "check_row" (.cons (.var 0) (.cons (.var 1) .nil))))
    (.cons (.exp (.call "check_length" (.cons (.var 2) (.cons (.glb "MAX_ROW") .nil))))
    (.cons (.asg 3 (.cst (.int 0)))
    (.cons (.whl (.cmp .le (.call "power" (.cons (.var 0) (.cons (.var 3) .nil))) (.glb "MAX_REPLACED"))
    (.cons (.fr (.one 4) (.rng (.bin .add (.bin .sub (.bi .len (.cons (.var 1) .nil)) (.var 3)) (.cst (.int 1))))
    (.cons (.asg 5 (.call "replacements" (.cons (.var 0) (.cons (.var 1) (.cons (.var 2) (.cons (.var 4) (.cons (.var 3) .nil)))))))
    (.cons (.iff (.var 5)
    (.cons (.ret (.tup (.cons (.var 3) (.cons (.var 4) (.cons (.var 5) .nil)))))
    .nil)
    .nil)
    .nil)))
    (.cons (.aug .add 3 (.cst (.int 1)))
    .nil)))
    (.cons (.rse "TooMany" "the stretch is too long")
    .nil)))))⟩
def d__law_stretch : Def := ⟨["prime", "row", "length", "e"], 3,
    (.cons (.trh (.cons (.ret (.call "shortest_stretch" (.cons (.var 0) (.cons (.var 1) (.cons (.var 2) .nil)))))
    .nil) [⟨"TooMany", 3, "RuleError", "InvalidLength", (.str "many"), (.str "other")⟩])
    .nil)⟩
end Rr

set_option linter.all false
set_option Elab.async false
set_option maxRecDepth 100000
set_option maxHeartbeats 1000000
/-! The defs' contracts over the evaluator: general lemmas. -/
namespace Rr
open PySem

theorem lcL_ok {bind : D → R S} {tst : S → R Bool} {el : S → R D} (sf : D → S) (p : D → Bool) (f : D → D) : ∀ (l : List D), (∀ d ∈ l, bind d = .ok (sf d) ∧ tst (sf d) = .ok (p d) ∧ (p d = true → el (sf d) = .ok (f d))) → lcL bind tst el l = .ok ((l.filter p).map f)
  | [], _ => rfl
  | d :: r, h => by
    obtain ⟨h1, h2, h3⟩ := h d List.mem_cons_self
    have ih := lcL_ok sf p f r fun x hx => h x (List.mem_cons_of_mem _ hx)
    unfold lcL
    rw [h1, R.bind_ok, h2, R.calm_ok, R.bind_ok, ih]
    cases e : p d with
    | true => rw [if_pos rfl, h3 e, R.calm_ok, R.bind_ok, R.bind_ok, List.filter_cons_of_pos e]; rfl
    | false => rw [if_neg Bool.false_ne_true, List.filter_cons_of_neg (by simp [e])]
theorem lcL_all {bind : D → R S} {tst : S → R Bool} {el : S → R D} (sf : D → S) (f : D → D) (l : List D) (h : ∀ d ∈ l, bind d = .ok (sf d) ∧ tst (sf d) = .ok true ∧ el (sf d) = .ok (f d)) : lcL bind tst el l = .ok (l.map f) := by
  rw [lcL_ok sf (fun _ => true) f l fun d hd => ⟨(h d hd).1, (h d hd).2.1, fun _ => (h d hd).2.2⟩]
  congr 2
  exact List.filter_eq_self.mpr fun _ _ => rfl
theorem rangeI_zero (lo : Int) : rangeI lo 0 = [] := rfl
theorem rangeI_succ (lo : Int) (n : Nat) : rangeI lo (n + 1) = lo :: rangeI (lo + 1) n := by
  unfold rangeI
  rw [List.range_succ_eq_map]
  simp only [List.map_cons, List.map_map]
  congr 1
  · simp
  · apply List.map_congr_left
    intro k _
    simp only [Function.comp]
    omega
theorem rangeI_len (lo : Int) (n : Nat) : (rangeI lo n).length = n := by simp [rangeI]
theorem rangeI_mem {lo k : Int} {n : Nat} : k ∈ rangeI lo n ↔ lo ≤ k ∧ k < lo + n := by
  unfold rangeI
  simp only [List.mem_map, List.mem_range]
  constructor
  · rintro ⟨j, h, rfl⟩; omega
  · rintro ⟨h1, h2⟩; exact ⟨(k - lo).toNat, by omega, by omega⟩
theorem rngD_is {lo hi : Int} (h1 : -1000000 ≤ lo) (h2 : lo ≤ 1000000) (h3 : -1000000 ≤ hi) (h4 : hi ≤ 1000000) : rngD lo hi = .ok ((rangeI lo (hi - lo).toNat).map .int) := by
  unfold rngD
  rw [if_pos ⟨by omega, by omega, by omega, by omega⟩]
/-! ### lists of ints -/
theorem intsOf_map : ∀ ks : List Int, intsOf (ks.map .int) = some ks
  | [] => rfl
  | k :: r => by simp [intsOf, intsOf_map r]
theorem ixI_nat {n j : Nat} (h : j < n) : ixI n (j : Int) = some j := by
  unfold ixI
  rw [if_pos (by omega), if_pos (by omega)]
  simp
theorem nth_int {ks : List Int} {j : Nat} (h : j < ks.length) : nthD (ks.map .int) (j : Int) = .ok (.int ks[j]) := by
  unfold nthD
  rw [List.length_map, ixI_nat h]
  simp [h]
theorem nth_of {l : List D} {j : Nat} (h : j < l.length) : nthD l (j : Int) = .ok l[j] := by
  unfold nthD
  rw [ixI_nat h]
  simp [h]
theorem sum_map : ∀ ks : List Int, biD .sum [.list (ks.map .int)] = .ok (.int ks.sum) := fun ks => by
  simp [biD, intsOf_map]
theorem eqv_ints : ∀ a b : List Int, PyData.eqvAll (a.map .int) (b.map .int) = decide (a = b)
  | [], [] => by simp [PyData.eqvAll]
  | [], _ :: _ => by simp [PyData.eqvAll]
  | _ :: _, [] => by simp [PyData.eqvAll]
  | x :: a, y :: b => by
    simp only [List.map_cons, PyData.eqvAll, eqv_ints a b, PyData.eqv]
    by_cases h : x = y
    · simp [h]
    · simp [h]
theorem shp_ints (n : Nat) (l : List Int) : (l.map PyData.int).all (shp n) = true := by
  simp [List.all_eq_true]
  intro k _
  cases n <;> rfl
theorem eqD_tups (a b : List Int) : eqD (tupI a) (tupI b) = .ok (decide (a = b)) := by
  unfold eqD tupI
  rw [if_pos (by simp only [shp, shp_ints]; rfl)]
  simp only [PyData.eqv, eqv_ints]
theorem eqD_int (a b : Int) : eqD (.int a) (.int b) = .ok (decide (a = b)) := by
  unfold eqD
  rw [if_pos (by rfl)]
  simp only [PyData.eqv]
  congr 1
theorem eqD_bool (a b : Bool) : eqD (.bool a) (.bool b) = .ok (a == b) := rfl

/-! ### the evaluator, form by form (loops and comprehensions aside) -/
section
variable (G : Env) (N : Nat) (s : S)
@[simp] theorem ev_var (i : Nat) : evE G (.var i) s = getV s i := by rw [evE] <;> rfl
@[simp] theorem ev_cst (d : D) : evE G (.cst d) s = .ok d := by rw [evE]
@[simp] theorem ev_glb (x : Str) : evE G (.glb x) s = R.ofOpt (G.gl x) := by rw [evE]
@[simp] theorem ev_bin (o : Op) (a b : Ex) : evE G (.bin o a b) s = (evE G a s).bind fun x => (evE G b s).bind fun y => opD o x y := by rw [evE]
@[simp] theorem ev_neg (i : Nat) : evE G (.neg i) s = .ok (.int (-(i : Int))) := by rw [evE]
@[simp] theorem ev_cmp (o : Cp) (a b : Ex) : evE G (.cmp o a b) s = (evE G a s).bind fun x => (evE G b s).bind fun y => (cpD o x y).bind fun k => .ok (.bool k) := by rw [evE]
@[simp] theorem ev_lele (a b c : Ex) : evE G (.lele a b c) s = (evE G a s).bind fun x => (evE G b s).bind fun y => (cpD .le x y).bind fun k => if k then (evE G c s).bind fun z => (cpD .le y z).bind fun l => .ok (.bool l) else .ok (.bool false) := by rw [evE]
@[simp] theorem ev_and (a b : Ex) : evE G (.and a b) s = (evE G a s).bind fun x => (boolD x).bind fun k => if k then (evE G b s).bind fun y => (boolD y).bind fun l => .ok (.bool l) else .ok (.bool false) := by rw [evE]
@[simp] theorem ev_or (a b : Ex) : evE G (.or a b) s = (evE G a s).bind fun x => (boolD x).bind fun k => if k then .ok (.bool true) else (evE G b s).bind fun y => (boolD y).bind fun l => .ok (.bool l) := by rw [evE]
@[simp] theorem ev_not (a : Ex) : evE G (.not a) s = (evE G a s).bind fun x => (truD x).bind fun k => .ok (.bool (!k)) := by rw [evE]
@[simp] theorem ev_ite (c a b : Ex) : evE G (.ite c a b) s = (evE G c s).bind fun x => (truD x).bind fun k => if k then evE G a s else evE G b s := by rw [evE]
theorem ev_call {f : Str} {g : List D → R D} (h : G.fn f = some g) (es : Es) : evE G (.call f es) s = (evEs G es s).bind g := by rw [evE, h]
@[simp] theorem ev_bi (f : Bi) (es : Es) : evE G (.bi f es) s = (evEs G es s).bind fun xs => biD f xs := by rw [evE]
@[simp] theorem ev_mt (m : Mt) (a b : Ex) : evE G (.mt m a b) s = (evE G a s).bind fun x => (evE G b s).calm.bind fun y => mtD m x y := by rw [evE]
@[simp] theorem ev_isi (a : Ex) (t : Ty) : evE G (.isi a t) s = (evE G a s).bind fun x => (isiD x t).bind fun k => .ok (.bool k) := by rw [evE]
@[simp] theorem ev_sub (a i : Ex) : evE G (.sub a i) s = (evE G a s).bind fun x => (evE G i s).bind fun y => subD x y := by rw [evE]
@[simp] theorem ev_slc (a lo hi : Ex) : evE G (.slc a lo hi) s = (evE G a s).bind fun x => (evE G lo s).bind fun l => (intD l).bind fun i => (evE G hi s).bind fun h => (intD h).bind fun j => slcD (some i) (some j) x := by rw [evE]
@[simp] theorem ev_slo (a lo : Ex) : evE G (.slo a lo) s = (evE G a s).bind fun x => (evE G lo s).bind fun l => (intD l).bind fun i => slcD (some i) none x := by rw [evE]
@[simp] theorem ev_shi (a hi : Ex) : evE G (.shi a hi) s = (evE G a s).bind fun x => (evE G hi s).bind fun h => (intD h).bind fun j => slcD none (some j) x := by rw [evE]
@[simp] theorem ev_rev (a : Ex) : evE G (.rev a) s = (evE G a s).bind revD := by rw [evE]
@[simp] theorem ev_tup (es : Es) : evE G (.tup es) s = (evEs G es s).bind fun xs => .ok (.tuple xs) := by rw [evE]
@[simp] theorem ev_lst (es : Es) : evE G (.lst es) s = (evEs G es s).bind fun xs => .ok (.list xs) := by rw [evE]
theorem ev_lc (t : Tg) (it : It) (ifs : Es) (e : Ex) : evE G (.lc t it ifs e) s = (evI G it s).bind fun ds => if ds.length ≤ LIM then (lcL (fun d => bindT t d s) (fun s' => evT G ifs s') (fun s' => evE G e s') ds).bind fun ys => .ok (.list ys) else .bad := by rw [evE]
@[simp] theorem ev_nil : evEs G .nil s = .ok [] := by rw [evEs]
@[simp] theorem ev_cons (e : Ex) (r : Es) : evEs G (.cons e r) s = (evE G e s).bind fun x => (evEs G r s).bind fun xs => .ok (x :: xs) := by rw [evEs]
@[simp] theorem et_nil : evT G .nil s = .ok true := by rw [evT]
@[simp] theorem et_cons (e : Ex) (r : Es) : evT G (.cons e r) s = (evE G e s).bind fun x => (truD x).bind fun k => if k then evT G r s else .ok false := by rw [evT]
@[simp] theorem ei_seq (e : Ex) : evI G (.seq e) s = (evE G e s).bind seqE := by rw [evI]
@[simp] theorem ei_keys (e : Ex) : evI G (.keys e) s = (evE G e s).bind keysD := by rw [evI]
@[simp] theorem ei_rng (a : Ex) : evI G (.rng a) s = (evE G a s).bind fun x => (intD x).bind fun j => rngD 0 j := by rw [evI]
@[simp] theorem ei_rng2 (a b : Ex) : evI G (.rng2 a b) s = (evE G a s).bind fun x => (evE G b s).bind fun y => (intD x).bind fun i => (intD y).bind fun j => rngD i j := by rw [evI]
@[simp] theorem ei_enm (e : Ex) : evI G (.enm e) s = (evE G e s).bind fun x => (seqE x).bind fun l => .ok (enumL 0 l) := by rw [evI]
@[simp] theorem ei_zip (a b : Ex) : evI G (.zip a b) s = (evE G a s).bind fun x => (evE G b s).bind fun y => (seqE x).bind fun l => (seqE y).bind fun m => .ok (zipL l m) := by rw [evI]
@[simp] theorem es_asg (i : Nat) (e : Ex) : evS G N (.asg i e) s = (evE G e s).go fun d => .nx (s.set i (some d)) := by rw [evS]
@[simp] theorem es_own (i : Nat) (e : Ex) : evS G N (.own i e) s = ((evE G e s).bind listD).go fun d => .nx (s.set i (some d)) := by rw [evS]
@[simp] theorem es_dnew (i : Nat) : evS G N (.dnew i) s = .nx (s.set i (some (.dict []))) := by rw [evS]
@[simp] theorem es_frz (i : Nat) : evS G N (.frz i) s = .nx s := by rw [evS]
@[simp] theorem es_unp (is : List Nat) (e : Ex) : evS G N (.unp is e) s = (evE G e s).go fun d => match d with
    | .tuple ds => unpL is ds s
    | _ => .bad := by rw [evS] <;> rfl
@[simp] theorem es_par2 (i j : Nat) (a b : Ex) : evS G N (.par2 i j a b) s = (evE G a s).go fun x => (evE G b s).go fun y => .nx ((s.set i (some x)).set j (some y)) := by rw [evS]
@[simp] theorem es_par3 (i j k : Nat) (a b c : Ex) : evS G N (.par3 i j k a b c) s = (evE G a s).go fun x => (evE G b s).go fun y => (evE G c s).go fun z => .nx (((s.set i (some x)).set j (some y)).set k (some z)) := by rw [evS]
@[simp] theorem es_paro (i j : Nat) (a : Ex) (sw : Bool) : evS G N (.paro i j a sw) s = (evE G a s).go fun x => .nx ((s.set i (some x)).set j (some (.list []))) := by rw [evS]
@[simp] theorem es_aug (o : Op) (i : Nat) (e : Ex) : evS G N (.aug o i e) s = (getV s i).go fun x => (evE G e s).go fun y => match x, y with
    | .int m, .int n => (opD o (.int m) (.int n)).go fun z => .nx (s.set i (some z))
    | _, _ => .bad := by rw [evS] <;> rfl
@[simp] theorem es_sti (i : Nat) (k e : Ex) : evS G N (.sti i k e) s = (evE G e s).go fun v => (getV s i).go fun x => (evE G k s).go fun y => (putD x y v).go fun z => .nx (s.set i (some z)) := by rw [evS]
@[simp] theorem es_app (i : Nat) (e : Ex) : evS G N (.app i e) s = (getV s i).go fun x => (evE G e s).go fun y => (appD x y).go fun z => .nx (s.set i (some z)) := by rw [evS]
@[simp] theorem es_ext (i : Nat) (e : Ex) : evS G N (.ext i e) s = (getV s i).go fun x => (evE G e s).go fun y => (extD x y).go fun z => .nx (s.set i (some z)) := by rw [evS]
@[simp] theorem es_exp (e : Ex) : evS G N (.exp e) s = (evE G e s).go fun _ => .nx s := by rw [evS]
@[simp] theorem es_iff (c : Ex) (a b : Ss) : evS G N (.iff c a b) s = (evE G c s).go fun x => (truD x).go fun k => if k then evSs G N a s else evSs G N b s := by rw [evS]
theorem es_whl (c : Ex) (a : Ss) : evS G N (.whl c a) s = whL (fun s' => (evE G c s').bind truD) (fun s' => evSs G N a s') N s := by rw [evS]
theorem es_fr (t : Tg) (it : It) (a : Ss) : evS G N (.fr t it a) s = (evI G it s).go fun ds => forL (fun d s' => bindT t d s') (fun s' => evSs G N a s') ds s := by rw [evS]
@[simp] theorem es_ret (e : Ex) : evS G N (.ret e) s = (evE G e s).go fun d => .rt d := by rw [evS]
@[simp] theorem es_rse (c m : Str) : evS G N (.rse c m) s = .ex c none := by rw [evS]
theorem es_trh (a : Ss) (hs : List Hd) : evS G N (.trh a hs) s = match evSs G N a s with
    | .ex c p => hdQ G c p hs
    | q => q := by rw [evS] <;> rfl
@[simp] theorem es_pass : evS G N .pass s = .nx s := by rw [evS]
@[simp] theorem ess_nil : evSs G N .nil s = .nx s := by rw [evSs]
@[simp] theorem ess_cons (x : St) (r : Ss) : evSs G N (.cons x r) s = (evS G N x s).go fun s' => evSs G N r s' := by rw [evSs]
end
@[simp] theorem eqv_int (i j : Int) : PyData.eqv (.int i) (.int j) = (i == j) := Eq.trans rfl rfl
@[simp] theorem truD_bool (b : Bool) : truD (.bool b) = .ok b := Eq.trans rfl rfl
@[simp] theorem truD_list (l : List D) : truD (.list l) = .ok (!l.isEmpty) := Eq.trans rfl rfl
@[simp] theorem truD_tuple (l : List D) : truD (.tuple l) = .ok (!l.isEmpty) := Eq.trans rfl rfl
@[simp] theorem seqE_list (l : List D) : seqE (.list l) = .ok l := Eq.trans rfl rfl
@[simp] theorem seqE_tuple (l : List D) : seqE (.tuple l) = .ok l := Eq.trans rfl rfl
@[simp] theorem len_list (l : List D) : biD .len [.list l] = .ok (.int l.length) := Eq.trans rfl rfl
@[simp] theorem len_tuple (l : List D) : biD .len [.tuple l] = .ok (.int l.length) := Eq.trans rfl rfl
@[simp] theorem bi_list_l (l : List D) : biD .list [.list l] = .ok (.list l) := Eq.trans rfl rfl
@[simp] theorem bi_list_t (l : List D) : biD .list [.tuple l] = .ok (.list l) := Eq.trans rfl rfl
@[simp] theorem bi_tup_l (l : List D) : biD .tuple [.list l] = .ok (.tuple l) := Eq.trans rfl rfl
@[simp] theorem bi_tup_t (l : List D) : biD .tuple [.tuple l] = .ok (.tuple l) := Eq.trans rfl rfl
@[simp] theorem op_addi (i j : Int) : opD .add (.int i) (.int j) = .ok (.int (i + j)) := Eq.trans rfl rfl
@[simp] theorem op_subi (i j : Int) : opD .sub (.int i) (.int j) = .ok (.int (i - j)) := Eq.trans rfl rfl
@[simp] theorem cp_lt (i j : Int) : cpD .lt (.int i) (.int j) = .ok (decide (i < j)) := Eq.trans rfl rfl
@[simp] theorem cp_le (i j : Int) : cpD .le (.int i) (.int j) = .ok (decide (i ≤ j)) := Eq.trans rfl rfl
@[simp] theorem cp_gt (i j : Int) : cpD .gt (.int i) (.int j) = .ok (decide (j < i)) := Eq.trans rfl rfl
@[simp] theorem cp_ge (i j : Int) : cpD .ge (.int i) (.int j) = .ok (decide (j ≤ i)) := Eq.trans rfl rfl
theorem op_modi {i j : Int} (h : 0 < j) : opD .mod (.int i) (.int j) = .ok (.int (i % j)) := if_pos h
theorem op_muli {i j : Int} (h : -1000000 ≤ i ∧ i ≤ 1000000 ∨ -1000000 ≤ j ∧ j ≤ 1000000) : opD .mul (.int i) (.int j) = .ok (.int (i * j)) := if_pos (by omega)
theorem op_fdivi {i j : Int} (h : 0 < j) (h2 : j < 1000000000) : opD .fdiv (.int i) (.int j) = .ok (.int (i / j)) := if_pos ⟨h, h2⟩
@[simp] theorem getV_at {s : S} {i : Nat} {d : D} (h : s[i]? = some (some d)) : getV s i = .ok d := by unfold getV; rw [h]
end Rr

set_option linter.all false
set_option Elab.async false
set_option maxRecDepth 100000
set_option maxHeartbeats 1000000
/-! Loops by invariants. -/
namespace Rr
open PySem

theorem forL_idx {bind : D → S → R S} {body : S → Q} (Rl : Nat → S → Prop) : ∀ (l : List D) (k : Nat), (∀ i (hi : i < l.length) s, Rl (k + i) s → ∃ s1, bind l[i] s = .ok s1 ∧ ∃ s2, body s1 = .nx s2 ∧ Rl (k + i + 1) s2) → ∀ s, Rl k s → ∃ s', forL bind body l s = .nx s' ∧ Rl (k + l.length) s'
  | [], k, _, s, h => ⟨s, rfl, h⟩
  | d :: r, k, hs, s, h => by
    obtain ⟨s1, e1, s2, e2, h2⟩ := hs 0 (by simp) s h
    obtain ⟨s', e3, h3⟩ := forL_idx (bind := bind) (body := body) Rl r (k + 1) (fun i hi s hR => by
      have q : k + (i + 1) = k + 1 + i := by omega
      have := hs (i + 1) (by simpa using hi) s (by rw [q]; exact hR)
      rw [q] at this
      exact this) s2 h2
    refine ⟨s', ?_, by rw [List.length_cons]; rw [Nat.add_right_comm] at h3; exact h3⟩
    unfold forL
    have e1 : bind d s = .ok s1 := e1
    rw [e1, R.go_ok, e2, Q.go_nx, e3]
/-- with an early return -/
theorem forL_idxR {bind : D → S → R S} {body : S → Q} (Rl : Nat → S → Prop) (c : Nat → Bool) (rr : Q) (hrr : ∀ f, rr.go f = rr) : ∀ (l : List D) (k : Nat), (∀ i (hi : i < l.length) s, Rl (k + i) s → ∃ s1, bind l[i] s = .ok s1 ∧ if c (k + i) then ∃ s2, body s1 = .nx s2 ∧ Rl (k + i + 1) s2 else body s1 = rr) →
    ∀ s, Rl k s → if ((List.range' k l.length).all c) then ∃ s', forL bind body l s = .nx s' ∧ Rl (k + l.length) s' else forL bind body l s = rr
  | [], k, _, s, h => ⟨s, rfl, h⟩
  | d :: r, k, hs, s, h => by
    obtain ⟨s1, e1, h1⟩ := hs 0 (by simp) s h
    have e1 : bind d s = .ok s1 := e1
    rw [List.length_cons, List.range'_succ, List.all_cons]
    have h1 : if c k then ∃ s2, body s1 = .nx s2 ∧ Rl (k + 1) s2 else body s1 = rr := h1
    cases hc : c k with
    | false =>
      rw [hc] at h1
      rw [Bool.false_and]
      simp only [Bool.false_eq_true, if_false] at h1 ⊢
      unfold forL
      rw [e1, R.go_ok, h1, hrr]
    | true =>
      rw [hc] at h1
      rw [Bool.true_and]
      simp only [if_true] at h1
      obtain ⟨s2, e2, h2⟩ := h1
      have ih := forL_idxR (bind := bind) (body := body) Rl c rr hrr r (k + 1) (fun i hi s hR => by
        have q : k + (i + 1) = k + 1 + i := by omega
        have := hs (i + 1) (by simpa using hi) s (by rw [q]; exact hR)
        rw [q] at this
        exact this) s2 h2
      have e0 : forL bind body (d :: r) s = forL bind body r s2 := by
        conv => lhs; unfold forL
        rw [e1, R.go_ok, e2, Q.go_nx]
      rw [e0, ← Nat.add_assoc, Nat.add_right_comm]
      exact ih
theorem whL_rel {test : S → R Bool} {body : S → Q} {A : Type} (Rl : A → S → Prop) (c : A → Bool) (μ : A → Nat) (ht : ∀ a s, Rl a s → test s = .ok (c a)) (hb : ∀ a s, Rl a s → c a = true → ∃ s', body s = .nx s' ∧ ∃ a', Rl a' s' ∧ μ a' < μ a) :
    ∀ (n : Nat) (a : A) (s : S), Rl a s → μ a < n → ∃ a' s', whL test body n s = .nx s' ∧ Rl a' s' ∧ c a' = false
  | 0, a, s, _, h => by omega
  | n + 1, a, s, h, hm => by
    unfold whL
    rw [ht a s h, R.go_ok]
    cases hc : c a with
    | false => exact ⟨a, s, by simp, h, hc⟩
    | true =>
      obtain ⟨s', e1, a', h1, h2⟩ := hb a s h hc
      obtain ⟨a2, s2, e2, h3, h4⟩ := whL_rel Rl c μ ht hb n a' s' h1 (by omega)
      exact ⟨a2, s2, by simp [e1, e2], h3, h4⟩
/-- the same, of a loop that stands in a goal -/
theorem for_at {bind : D → S → R S} {body : S → Q} {l : List D} {s : S} {q : Q} (hq : forL bind body l s = q) (Rl : Nat → S → Prop) (hb : ∀ i (hi : i < l.length) s, Rl i s → ∃ s1, bind l[i] s = .ok s1 ∧ ∃ s2, body s1 = .nx s2 ∧ Rl (i + 1) s2) (h0 : Rl 0 s) : ∃ s', q = .nx s' ∧ Rl l.length s' := by
  obtain ⟨s', e, h⟩ := forL_idx Rl l 0 (fun i hi s h => by
    have := hb i hi s (by simpa using h)
    simpa using this) s h0
  exact ⟨s', by rw [← hq, e], by simpa using h⟩
theorem for_atR {bind : D → S → R S} {body : S → Q} {l : List D} {s : S} {q : Q} (hq : forL bind body l s = q) (Rl : Nat → S → Prop) (c : Nat → Bool) (rr : Q) (hrr : ∀ f, rr.go f = rr)
    (hb : ∀ i (hi : i < l.length) s, Rl i s → ∃ s1, bind l[i] s = .ok s1 ∧ if c i then ∃ s2, body s1 = .nx s2 ∧ Rl (i + 1) s2 else body s1 = rr) (h0 : Rl 0 s) : if ((List.range' 0 l.length).all c) then ∃ s', q = .nx s' ∧ Rl l.length s' else q = rr := by
  have := forL_idxR Rl c rr hrr l 0 (fun i hi s h => by
    have := hb i hi s (by simpa using h)
    simpa using this) s h0
  rw [hq] at this
  simpa using this
theorem filter_not (q : D → Bool) : ∀ l : List D, (l.filter fun d => !q d).isEmpty = l.all q
  | [] => rfl
  | d :: r => by
    rw [List.all_cons, ← filter_not q r]
    cases h : q d <;> simp [List.filter_cons, h]
theorem range_get {lo : Int} {n i : Nat} (h : i < ((rangeI lo n).map PyData.int).length) : ((rangeI lo n).map PyData.int)[i] = .int (lo + i) := by
  simp [rangeI]
/-- the sum of the products -/
def dot (a b : List Int) : Int := (List.zipWith (· * ·) a b).sum
end Rr

set_option linter.all false
set_option Elab.async false
set_option maxRecDepth 100000
set_option maxHeartbeats 1000000
/-! Contracts of the small defs. -/
namespace Rr
open PySem
variable {N : Nat}

def inR (lo hi : Int) : D → Bool
  | .int i => decide (lo ≤ i) && decide (i ≤ hi)
  | _ => false
def nd : D → Bool
  | .dict _ => false
  | _ => true
def Sp_in_range (g : List D → R D) : Prop := ∀ v lo hi, nd v = true → g [v, .int lo, .int hi] = .ok (.bool (inR lo hi v))
theorem run_in_range {G : Env} : Sp_in_range (runD G N d_in_range) := by
  intro v lo hi h
  cases v <;> simp [runD, start, d_in_range, isiD, inR, Q.out, nd] at h ⊢
  rename_i i
  by_cases h1 : lo ≤ i <;> simp [h1]
def isPr : D → Bool
  | .int i => decide (i = 2) || decide (i = 3) || decide (i = 5) || decide (i = 7)
  | _ => false
def Sp_check_prime (g : List D → R D) : Prop := ∀ v, nd v = true → g [v] = if isPr v then .ok .none else .ex "InvalidPrime" none
theorem run_check_prime {G : Env} {g : List D → R D} (h1 : G.fn "in_range" = some g) (s1 : Sp_in_range g) (h2 : G.gl "PRIMES" = some (ktD [2, 3, 5, 7])) : Sp_check_prime (runD G N d_check_prime) := by
  intro v hv
  have e := s1 v 2 7 hv
  cases v with
  | int i =>
    by_cases hi : 2 ≤ i ∧ i ≤ 7
    · have hx : inR 2 7 (.int i) = true := by simp [inR, hi]
      rw [hx] at e
      have hc : i = 2 ∨ i = 3 ∨ i = 4 ∨ i = 5 ∨ i = 6 ∨ i = 7 := by omega
      rcases hc with rfl | rfl | rfl | rfl | rfl | rfl <;> simp [runD, start, d_check_prime, ev_call _ _ h1, h2, e, Q.out, cpD, inD, ktD, flat, isPr]
    · have hx : inR 2 7 (.int i) = false := by simp [inR]; omega
      rw [hx] at e
      have hp : isPr (.int i) = false := by simp [isPr]; omega
      simp [runD, start, d_check_prime, ev_call _ _ h1, h2, e, Q.out, hp]
  | _ =>
    have e : g _ = .ok (.bool false) := e
    first | (cases hv; done) | simp [runD, start, d_check_prime, ev_call _ _ h1, h2, e, Q.out, isPr]
def okN (p : Int) : D → Bool
  | .tuple l => decide (l.length ≤ 24) && l.all (inR 0 (p - 1))
  | _ => false
/-- no dict within -/
def ndT : D → Bool
  | .dict _ => false
  | .tuple l => l.all nd
  | _ => true
def Sp_are_numbers (g : List D → R D) : Prop := ∀ p v, ndT v = true → g [.int p, v] = .ok (.bool (okN p v))
theorem run_are_numbers {G : Env} {g : List D → R D} (h1 : G.fn "in_range" = some g) (s1 : Sp_in_range g) (h2 : G.gl "MAX_ROW" = some (.int 24)) : Sp_are_numbers (runD G N d_are_numbers) := by
  intro p v hv
  cases v with
  | tuple l =>
    by_cases hl : l.length ≤ 24
    · have hl2 : ¬ (24 < (l.length : Int)) := by omega
      have hl3 : l.length ≤ LIM := by unfold LIM; omega
      simp [runD, start, d_are_numbers, ev_lc, h2, Q.out, isiD, hl, hl2, hl3]
      rw [lcL_ok (fun d => [some (.int p), some (.tuple l), some d]) (fun d => !inR 0 (p - 1) d) (fun d => d)]
      · simp [okN, hl, filter_not]
      · intro d hd
        have hn : nd d = true := List.all_eq_true.mp hv d hd
        refine ⟨rfl, ?_, fun _ => by simp⟩
        simp [ev_call _ _ h1, s1 d 0 (p - 1) hn]
        cases inR 0 (p - 1) d <;> rfl
    · have hl2 : 24 < (l.length : Int) := by omega
      simp [runD, start, d_are_numbers, h2, Q.out, isiD, hl2, okN, hl]
  | dict l => cases hv
  | _ => simp [runD, start, d_are_numbers, isiD, Q.out, okN]
end Rr

set_option linter.all false
set_option Elab.async false
set_option maxRecDepth 100000
set_option maxHeartbeats 1000000
/-! Contracts: rows and rules. -/
namespace Rr
open PySem
variable {N : Nat}

def prm (p : Int) : Prop := p = 2 ∨ p = 3 ∨ p = 5 ∨ p = 7
theorem prm.isPr {p : Int} (h : prm p) : isPr (.int p) = true := by rcases h with h | h | h | h <;> subst h <;> rfl
/-- wrong primes -/
def BadP (n : Nat) (g : List D → R D) : Prop := ∀ v r, r.length = n → nd v = true → isPr v = false → g (v :: r) = .ex "InvalidPrime" none
def Sp_check_row (g : List D → R D) : Prop := BadP 1 g ∧ ∀ p v, prm p → ndT v = true → g [.int p, v] = if okN p v then .ok .none else .ex "InvalidRow" none
theorem run_check_row {G : Env} {g1 g2 : List D → R D} (h1 : G.fn "check_prime" = some g1) (s1 : Sp_check_prime g1) (h2 : G.fn "are_numbers" = some g2) (s2 : Sp_are_numbers g2) : Sp_check_row (runD G N d_check_row) := by
  refine ⟨fun v r hr hv hb => ?_, fun p v hp hv => ?_⟩
  · match r, hr with
    | [a], _ => simp [runD, start, d_check_row, ev_call _ _ h1, s1 v hv, hb, Q.out]
  · cases ho : okN p v <;> simp [runD, start, d_check_row, ev_call _ _ h1, ev_call _ _ h2, s1 (.int p) rfl, s2 p v hv, hp.isPr, ho, Q.out]
def Sp_check_rule (g : List D → R D) : Prop := ∀ p v, ndT v = true → g [.int p, v] = if okN p v then .ok .none else .ex "InvalidRule" none
theorem run_check_rule {G : Env} {g2 : List D → R D} (h2 : G.fn "are_numbers" = some g2) (s2 : Sp_are_numbers g2) : Sp_check_rule (runD G N d_check_rule) := by
  intro p v hv
  simp [runD, start, d_check_rule, ev_call _ _ h2, s2 p v hv]
  cases okN p v <;> simp [Q.out]
def Sp_check_length (g : List D → R D) : Prop := ∀ v m, nd v = true → g [v, .int m] = if inR 0 m v then .ok .none else .ex "InvalidLength" none
theorem run_check_length {G : Env} {g : List D → R D} (h1 : G.fn "in_range" = some g) (s1 : Sp_in_range g) : Sp_check_length (runD G N d_check_length) := by
  intro v m hv
  simp [runD, start, d_check_length, ev_call _ _ h1, s1 v 0 m hv]
  cases inR 0 m v <;> simp [Q.out]
/-! ### slices -/
theorem cut_hi {a : Type} (l : List a) (j : Nat) : cut l none (some (j : Int)) = l.take j := by
  unfold cut sIx
  simp only
  rw [if_neg (by omega)]
  simp only [Int.toNat_natCast, List.drop_zero, Nat.sub_zero]
  rcases Nat.le_total j l.length with h | h
  · rw [Nat.min_eq_left h]
  · rw [Nat.min_eq_right h, List.take_length, List.take_of_length_le h]
theorem cut_lo {a : Type} (l : List a) (j : Nat) : cut l (some (j : Int)) none = l.drop j := by
  unfold cut sIx
  simp only
  rw [if_neg (by omega)]
  simp only [Int.toNat_natCast]
  rcases Nat.le_total j l.length with h | h
  · rw [Nat.min_eq_left h, List.take_of_length_le (by simp)]
  · rw [Nat.min_eq_right h]
    simp [h]
theorem cut_both {a : Type} (l : List a) (i j : Nat) : cut l (some (i : Int)) (some (j : Int)) = (l.drop i).take (j - i) := by
  unfold cut sIx
  simp only
  rw [if_neg (by omega), if_neg (by omega)]
  simp only [Int.toNat_natCast]
  rcases Nat.le_total i l.length with h | h
  · rw [Nat.min_eq_left h]
    rcases Nat.le_total j l.length with h2 | h2
    · rw [Nat.min_eq_left h2]
    · rw [Nat.min_eq_right h2, List.take_of_length_le (by simp), List.take_of_length_le (by simp; omega)]
  · rw [Nat.min_eq_right h]
    simp [List.drop_of_length_le h]
/-! ### the next number -/
theorem zipL_ints : ∀ a b : List Int, zipL (a.map .int) (b.map .int) = (List.zip a b).map fun p => .tuple [.int p.1, .int p.2]
  | [], b => by cases b <;> rfl
  | _ :: _, [] => rfl
  | x :: a, y :: b => by
    simp only [List.map_cons, zipL, zipL_ints a b, List.zip_cons_cons]
theorem zip_prod : ∀ a b : List Int, (List.zip a b).map (fun p => PyData.int (p.1 * p.2)) = (List.zipWith (· * ·) a b).map .int
  | [], b => by simp
  | _ :: _, [] => by simp
  | x :: a, y :: b => by simp [zip_prod a b]
def sqI (w : D) (l : List Int) : Prop := w = tupI l ∨ w = lstI l
/-- numbers of a small size -/
def sm (l : List Int) : Prop := ∀ k ∈ l, 0 ≤ k ∧ k ≤ 1000
def Sp_predicted (g : List D → R D) : Prop := ∀ p rule nums w, 0 < p → sm rule → rule.length ≤ 1000 → sqI w nums → g [.int p, tupI rule, w] = .ok (.int (dot rule nums.reverse % p))
theorem run_predicted {G : Env} : Sp_predicted (runD G N d_predicted) := by
  intro p rule nums w hp hr hl hw
  have key : ∀ w, lcL (fun d => bindT (.two 3 4) d [some (.int p), some (.tuple (rule.map .int)), some w, none, none]) (fun s' => R.ok true) (fun s' => (getV s' 3).bind fun x => (getV s' 4).bind fun y => opD .mul x y)
      (zipL (rule.map .int) (nums.reverse.map .int)) = .ok ((List.zipWith (· * ·) rule nums.reverse).map .int) := by
    intro w
    rw [lcL_all (fun d => match d with | .tuple [x, y] => [some (.int p), some (.tuple (rule.map .int)), some w, some x, some y] | _ => []) (fun d => match d with | .tuple [.int a, .int b] => .int (a * b) | _ => .none), zipL_ints]
    · rw [List.map_map, ← zip_prod]
      rfl
    · rw [zipL_ints]
      intro d hd
      obtain ⟨⟨a, b⟩, hm, rfl⟩ := List.mem_map.mp hd
      have ha := hr a (List.of_mem_zip hm).1
      refine ⟨rfl, rfl, ?_⟩
      simp
      exact op_muli (.inl ⟨by omega, by omega⟩)
  have hz : (zipL (rule.map PyData.int) (nums.reverse.map .int)).length ≤ LIM := by
    rw [zipL_ints]
    simp
    unfold LIM
    omega
  rcases hw with rfl | rfl <;> simp [-List.map_zipWith, runD, start, d_predicted, ev_lc, tupI, lstI, revD, ← List.map_reverse, hz, key, sum_map, op_modi hp, Q.out, dot]

end Rr

set_option linter.all false
set_option Elab.async false
set_option maxRecDepth 100000
set_option maxHeartbeats 1000000
/-! Lists and tuples of ints by name; comprehensions and loops over them. -/
namespace Rr
open PySem
variable {G : Env} {N : Nat} {s : S}

def nthI (l : List Int) (i : Nat) : Int := l.getD i 0
def natD (k : Nat) : D := .int k
theorem nthI_get {l : List Int} {i : Nat} (h : i < l.length) : nthI l i = l[i] := by simp [nthI, h]
theorem nthI_mem {l : List Int} {i : Nat} (h : i < l.length) : nthI l i ∈ l := by rw [nthI_get h]; exact List.getElem_mem h
@[simp] theorem seqE_tupI (l : List Int) : seqE (tupI l) = .ok (l.map .int) := Eq.trans rfl rfl
@[simp] theorem seqE_lstI (l : List Int) : seqE (lstI l) = .ok (l.map .int) := Eq.trans rfl rfl
@[simp] theorem len_tupI (l : List Int) : biD .len [tupI l] = .ok (.int l.length) := by simp [tupI]
@[simp] theorem len_lstI (l : List Int) : biD .len [lstI l] = .ok (.int l.length) := by simp [lstI]
@[simp] theorem list_tupI (l : List Int) : biD .list [tupI l] = .ok (lstI l) := Eq.trans rfl rfl
@[simp] theorem list_lstI (l : List Int) : biD .list [lstI l] = .ok (lstI l) := Eq.trans rfl rfl
@[simp] theorem tuple_lstI (l : List Int) : biD .tuple [lstI l] = .ok (tupI l) := Eq.trans rfl rfl
@[simp] theorem tuple_tupI (l : List Int) : biD .tuple [tupI l] = .ok (tupI l) := Eq.trans rfl rfl
@[simp] theorem listD_lstI (l : List Int) : listD (lstI l) = .ok (lstI l) := Eq.trans rfl rfl
@[simp] theorem sum_lstI (l : List Int) : biD .sum [lstI l] = .ok (.int l.sum) := sum_map l
@[simp] theorem rev_tupI (l : List Int) : revD (tupI l) = .ok (tupI l.reverse) := by simp [tupI, revD]
@[simp] theorem rev_lstI (l : List Int) : revD (lstI l) = .ok (lstI l.reverse) := by simp [lstI, revD]
@[simp] theorem truD_tupI (l : List Int) : truD (tupI l) = .ok (!l.isEmpty) := by simp [tupI]
@[simp] theorem truD_lstI (l : List Int) : truD (lstI l) = .ok (!l.isEmpty) := by simp [lstI]
theorem nth_D {l : List D} {i : Int} (h0 : 0 ≤ i) (h1 : i < l.length) : nthD l i = .ok (l[i.toNat]'(by omega)) := by
  obtain ⟨j, rfl⟩ : ∃ j : Nat, i = j := ⟨i.toNat, by omega⟩
  rw [nth_of (by omega)]
  rfl
theorem sub_tupI {l : List Int} {i : Int} (h0 : 0 ≤ i) (h1 : i < l.length) : subD (tupI l) (.int i) = .ok (.int (nthI l i.toNat)) := by
  show nthD _ _ = _
  rw [nth_D h0 (by simpa using h1), nthI_get (by omega)]
  simp
theorem sub_lstI {l : List Int} {i : Int} (h0 : 0 ≤ i) (h1 : i < l.length) : subD (lstI l) (.int i) = .ok (.int (nthI l i.toNat)) := sub_tupI h0 h1
theorem slcI_hi {l : List Int} {j : Int} (h : 0 ≤ j) : slcD none (some j) (tupI l) = .ok (tupI (l.take j.toNat)) := by
  obtain ⟨k, rfl⟩ : ∃ k : Nat, j = k := ⟨j.toNat, by omega⟩
  show R.ok _ = _
  rw [cut_hi, ← List.map_take]; rfl
theorem slcL_hi {l : List Int} {j : Int} (h : 0 ≤ j) : slcD none (some j) (lstI l) = .ok (lstI (l.take j.toNat)) := by
  obtain ⟨k, rfl⟩ : ∃ k : Nat, j = k := ⟨j.toNat, by omega⟩
  show R.ok _ = _
  rw [cut_hi, ← List.map_take]; rfl
theorem slcI_lo {l : List Int} {j : Int} (h : 0 ≤ j) : slcD (some j) none (tupI l) = .ok (tupI (l.drop j.toNat)) := by
  obtain ⟨k, rfl⟩ : ∃ k : Nat, j = k := ⟨j.toNat, by omega⟩
  show R.ok _ = _
  rw [cut_lo, ← List.map_drop]; rfl
theorem slcL_lo {l : List Int} {j : Int} (h : 0 ≤ j) : slcD (some j) none (lstI l) = .ok (lstI (l.drop j.toNat)) := by
  obtain ⟨k, rfl⟩ : ∃ k : Nat, j = k := ⟨j.toNat, by omega⟩
  show R.ok _ = _
  rw [cut_lo, ← List.map_drop]; rfl
theorem slcI_both {l : List Int} {i j : Int} (h : 0 ≤ i) (h2 : 0 ≤ j) : slcD (some i) (some j) (tupI l) = .ok (tupI ((l.drop i.toNat).take (j.toNat - i.toNat))) := by
  obtain ⟨k, rfl⟩ : ∃ k : Nat, j = k := ⟨j.toNat, by omega⟩
  obtain ⟨m, rfl⟩ : ∃ k : Nat, i = k := ⟨i.toNat, by omega⟩
  show R.ok _ = _
  rw [cut_both, ← List.map_drop, ← List.map_take]; rfl
theorem slcL_both {l : List Int} {i j : Int} (h : 0 ≤ i) (h2 : 0 ≤ j) : slcD (some i) (some j) (lstI l) = .ok (lstI ((l.drop i.toNat).take (j.toNat - i.toNat))) := by
  obtain ⟨k, rfl⟩ : ∃ k : Nat, j = k := ⟨j.toNat, by omega⟩
  obtain ⟨m, rfl⟩ : ∃ k : Nat, i = k := ⟨i.toNat, by omega⟩
  show R.ok _ = _
  rw [cut_both, ← List.map_drop, ← List.map_take]; rfl
theorem add_tupI {a b : List Int} (h : a.length + b.length ≤ 1000000) : opD .add (tupI a) (tupI b) = .ok (tupI (a ++ b)) := by
  show (if _ then _ else _) = _
  rw [if_pos (by simpa using h), ← List.map_append]; rfl
theorem add_lstI {a b : List Int} (h : a.length + b.length ≤ 1000000) : opD .add (lstI a) (lstI b) = .ok (lstI (a ++ b)) := by
  show (if _ then _ else _) = _
  rw [if_pos (by simpa using h), ← List.map_append]; rfl
theorem app_lstI {a : List Int} {x : Int} (h : a.length ≤ 1000000) : appD (lstI a) (.int x) = .ok (lstI (a ++ [x])) := by
  show (if _ then _ else _) = _
  rw [if_pos (by simpa using h)]; simp [lstI]
theorem app_list {a : List D} {x : D} (h : a.length ≤ 1000000) : appD (.list a) x = .ok (.list (a ++ [x])) := if_pos h
theorem ext_list {a b : List D} (h : a.length + b.length ≤ 1000000) : extD (.list a) (.list b) = .ok (.list (a ++ b)) := if_pos h
theorem rep_flat (k : Nat) (l : List Int) : repD (k : Int) (l.map .int) = ((List.replicate k l).flatten).map .int := by
  unfold repD
  rw [Int.toNat_natCast, List.map_flatten, List.map_replicate]
theorem mul_tup1 {k : Int} {x : Int} (h0 : 0 ≤ k) (h1 : k ≤ 1000) : opD .mul (tupI [x]) (.int k) = .ok (tupI (List.replicate k.toNat x)) := by
  obtain ⟨j, rfl⟩ : ∃ j : Nat, k = j := ⟨k.toNat, by omega⟩
  show (if _ then _ else _) = _
  rw [if_pos ⟨by omega, by omega, by simp⟩, rep_flat]
  simp [tupI, List.flatten_replicate_singleton]
theorem mul_lst1 {k : Int} {x : Int} (h1 : k ≤ 1000) (h0 : -1000 ≤ k) : opD .mul (lstI [x]) (.int k) = .ok (lstI (List.replicate k.toNat x)) := by
  show (if _ then _ else _) = _
  rw [if_pos ⟨by omega, by omega, by simp; omega⟩]
  unfold repD
  simp [lstI, List.flatten_replicate_singleton]
/-- ranges by Nat -/
theorem rng0 {j : Int} (h : j ≤ 1000000) (h1 : -1000000 ≤ j) : rngD 0 j = .ok ((List.range j.toNat).map natD) := by
  rw [rngD_is (by omega) (by omega) (by omega) (by omega), Int.sub_zero]
  unfold rangeI
  rw [List.map_map]
  congr 1
  exact List.map_congr_left fun k _ => by simp [natD]
theorem rng1 {i j : Int} (h0 : 0 ≤ i) (h2 : i ≤ 1000000) (h1 : -1000000 ≤ j) (h : j ≤ 1000000) : rngD i j = .ok ((List.range' i.toNat (j.toNat - i.toNat)).map natD) := by
  rw [rngD_is (by omega) (by omega) (by omega) (by omega)]
  unfold rangeI
  rw [List.map_map, show (j - i).toNat = j.toNat - i.toNat by omega, List.range'_eq_map_range, List.map_map]
  congr 1
  refine List.map_congr_left fun k _ => ?_
  simp [natD]
  omega
/-- comprehensions -/
theorem lc_one {α β : Type} (enc : α → D) (dec : β → D) (l : List α) (p : α → Bool) (f : α → β) {i : Nat} {it : It} {ifs : Es} {e : Ex} (hi : evI G it s = .ok (l.map enc)) (hl : l.length ≤ 1000000)
    (h : ∀ x ∈ l, evT G ifs (s.set i (some (enc x))) = .ok (p x) ∧ (p x = true → evE G e (s.set i (some (enc x))) = .ok (dec (f x)))) : evE G (.lc (.one i) it ifs e) s = .ok (.list (((l.filter p).map f).map dec)) := by
  rw [ev_lc, hi, R.bind_ok, if_pos (by simpa using hl)]
  have : ∀ (m : List α), (∀ x ∈ m, x ∈ l) → lcL (fun d => bindT (.one i) d s) (fun s' => evT G ifs s') (fun s' => evE G e s') (m.map enc) = .ok (((m.filter p).map f).map dec) := by
    intro m
    induction m with
    | nil => intro _; rfl
    | cons x r ih =>
      intro hm
      obtain ⟨h1, h2⟩ := h x (hm x List.mem_cons_self)
      rw [List.map_cons]
      unfold lcL
      rw [show bindT (.one i) (enc x) s = .ok (s.set i (some (enc x))) from rfl, R.bind_ok, h1, R.calm_ok, R.bind_ok, ih fun y hy => hm y (List.mem_cons_of_mem _ hy)]
      cases hp : p x with
      | true => rw [if_pos rfl, h2 hp, R.calm_ok, R.bind_ok, R.bind_ok, List.filter_cons_of_pos hp]; rfl
      | false => rw [if_neg Bool.false_ne_true, List.filter_cons_of_neg (by simp [hp])]
  rw [this l fun _ h => h, R.bind_ok]
theorem lc_map {α β : Type} (enc : α → D) (dec : β → D) (l : List α) (f : α → β) {i : Nat} {it : It} {e : Ex} (hi : evI G it s = .ok (l.map enc)) (hl : l.length ≤ 1000000)
    (h : ∀ x ∈ l, evE G e (s.set i (some (enc x))) = .ok (dec (f x))) : evE G (.lc (.one i) it .nil e) s = .ok (.list ((l.map f).map dec)) := by
  rw [lc_one enc dec l (fun _ => true) f hi hl fun x hx => ⟨by simp, fun _ => h x hx⟩, List.filter_eq_self.mpr fun _ _ => rfl]
theorem lc_two {α β : Type} (en1 en2 : α → D) (dec : β → D) (l : List α) (p : α → Bool) (f : α → β) {i j : Nat} {it : It} {ifs : Es} {e : Ex} (hi : evI G it s = .ok (l.map fun x => .tuple [en1 x, en2 x])) (hl : l.length ≤ 1000000)
    (h : ∀ x ∈ l, evT G ifs ((s.set i (some (en1 x))).set j (some (en2 x))) = .ok (p x) ∧ (p x = true → evE G e ((s.set i (some (en1 x))).set j (some (en2 x))) = .ok (dec (f x)))) : evE G (.lc (.two i j) it ifs e) s = .ok (.list (((l.filter p).map f).map dec)) := by
  rw [ev_lc, hi, R.bind_ok, if_pos (by simpa using hl)]
  have : ∀ (m : List α), (∀ x ∈ m, x ∈ l) → lcL (fun d => bindT (.two i j) d s) (fun s' => evT G ifs s') (fun s' => evE G e s') (m.map fun x => .tuple [en1 x, en2 x]) = .ok (((m.filter p).map f).map dec) := by
    intro m
    induction m with
    | nil => intro _; rfl
    | cons x r ih =>
      intro hm
      obtain ⟨h1, h2⟩ := h x (hm x List.mem_cons_self)
      rw [List.map_cons]
      unfold lcL
      rw [show bindT (.two i j) (.tuple [en1 x, en2 x]) s = .ok ((s.set i (some (en1 x))).set j (some (en2 x))) from rfl, R.bind_ok, h1, R.calm_ok, R.bind_ok, ih fun y hy => hm y (List.mem_cons_of_mem _ hy)]
      cases hp : p x with
      | true => rw [if_pos rfl, h2 hp, R.calm_ok, R.bind_ok, R.bind_ok, List.filter_cons_of_pos hp]; rfl
      | false => rw [if_neg Bool.false_ne_true, List.filter_cons_of_neg (by simp [hp])]
  rw [this l fun _ h => h, R.bind_ok]
theorem lc_map2 {α β : Type} (en1 en2 : α → D) (dec : β → D) (l : List α) (f : α → β) {i j : Nat} {it : It} {e : Ex} (hi : evI G it s = .ok (l.map fun x => .tuple [en1 x, en2 x])) (hl : l.length ≤ 1000000)
    (h : ∀ x ∈ l, evE G e ((s.set i (some (en1 x))).set j (some (en2 x))) = .ok (dec (f x))) : evE G (.lc (.two i j) it .nil e) s = .ok (.list ((l.map f).map dec)) := by
  rw [lc_two en1 en2 dec l (fun _ => true) f hi hl fun x hx => ⟨by simp, fun _ => h x hx⟩, List.filter_eq_self.mpr fun _ _ => rfl]
/-- loops over a list of things -/
theorem for_one {α : Type} (enc : α → D) (l : List α) {i : Nat} {it : It} {b : Ss} (hi : evI G it s = .ok (l.map enc)) (I : Nat → S → Prop) (h0 : I 0 s)
    (h : ∀ k (hk : k < l.length) s, I k s → ∃ s', evSs G N b (s.set i (some (enc l[k]))) = .nx s' ∧ I (k + 1) s') : ∃ s', evS G N (.fr (.one i) it b) s = .nx s' ∧ I l.length s' := by
  rw [es_fr, hi, R.go_ok]
  obtain ⟨s', e, q⟩ := for_at (s := s) (l := l.map enc) (bind := fun d s' => bindT (.one i) d s') (body := fun s' => evSs G N b s') rfl I (fun k hk s hI => by
    obtain ⟨s', e, q⟩ := h k (by simpa using hk) s hI
    exact ⟨_, rfl, s', by simpa using e, q⟩) h0
  exact ⟨s', e, by simpa using q⟩
theorem for_oneR {α : Type} (enc : α → D) (l : List α) {i : Nat} {it : It} {b : Ss} (hi : evI G it s = .ok (l.map enc)) (I : Nat → S → Prop) (c : Nat → Bool) (rr : Q) (hrr : ∀ f, rr.go f = rr) (h0 : I 0 s)
    (h : ∀ k (hk : k < l.length) s, I k s → if c k then ∃ s', evSs G N b (s.set i (some (enc l[k]))) = .nx s' ∧ I (k + 1) s' else evSs G N b (s.set i (some (enc l[k]))) = rr) :
    if (List.range l.length).all c then ∃ s', evS G N (.fr (.one i) it b) s = .nx s' ∧ I l.length s' else evS G N (.fr (.one i) it b) s = rr := by
  rw [es_fr, hi, R.go_ok]
  have := for_atR (s := s) (l := l.map enc) (bind := fun d s' => bindT (.one i) d s') (body := fun s' => evSs G N b s') rfl I c rr hrr (fun k hk s hI => ?_) h0
  · rw [List.length_map] at this
    rw [List.range_eq_range']
    exact this
  · refine ⟨_, rfl, ?_⟩
    have := h k (by simpa using hk) s hI
    simpa using this
theorem for_two {α : Type} (en1 en2 : α → D) (l : List α) {i j : Nat} {it : It} {b : Ss} (hi : evI G it s = .ok (l.map fun x => .tuple [en1 x, en2 x])) (I : Nat → S → Prop) (h0 : I 0 s)
    (h : ∀ k (hk : k < l.length) s, I k s → ∃ s', evSs G N b ((s.set i (some (en1 l[k]))).set j (some (en2 l[k]))) = .nx s' ∧ I (k + 1) s') : ∃ s', evS G N (.fr (.two i j) it b) s = .nx s' ∧ I l.length s' := by
  rw [es_fr, hi, R.go_ok]
  obtain ⟨s', e, q⟩ := for_at (s := s) (l := l.map fun x => PyData.tuple [en1 x, en2 x]) (bind := fun d s' => bindT (.two i j) d s') (body := fun s' => evSs G N b s') rfl I (fun k hk s hI => by
    obtain ⟨s', e, q⟩ := h k (by simpa using hk) s hI
    refine ⟨(s.set i (some (en1 (l[k]'(by simpa using hk))))).set j (some (en2 (l[k]'(by simpa using hk)))), by simp [bindT], s', e, q⟩) h0
  exact ⟨s', e, by simpa using q⟩
theorem while_one {A : Type} (I : A → S → Prop) (c : A → Bool) (μ : A → Nat) {cd : Ex} {b : Ss} (ht : ∀ a s, I a s → (evE G cd s).bind truD = .ok (c a)) (hb : ∀ a s, I a s → c a = true → ∃ s', evSs G N b s = .nx s' ∧ ∃ a', I a' s' ∧ μ a' < μ a)
    (a : A) (h : I a s) (hm : μ a < N) : ∃ a' s', evS G N (.whl cd b) s = .nx s' ∧ I a' s' ∧ c a' = false := by
  rw [es_whl]
  exact whL_rel I c μ ht hb N a s h hm
/-- statement by statement -/
theorem seq_nx {x : St} {r : Ss} {s' : S} {q : Q} (h : evS G N x s = .nx s') (h2 : evSs G N r s' = q) : evSs G N (.cons x r) s = q := by
  rw [ess_cons, h, Q.go_nx, h2]
theorem seq_rr {x : St} {r : Ss} {q : Q} (h : evS G N x s = q) (hq : ∀ f, q.go f = q) : evSs G N (.cons x r) s = q := by
  rw [ess_cons, h, hq]
@[simp] theorem getV_zero (d : D) (r : S) : getV (some d :: r) 0 = .ok d := Eq.trans rfl rfl
@[simp] theorem getV_succ (x : Option D) (r : S) (n : Nat) : getV (x :: r) (n + 1) = getV r n := by unfold getV; rw [List.getElem?_cons_succ]
theorem run_rt {d : Def} {args : List D} {v : D} (ha : args.length = d.np) (h : evSs G N d.body (start d args) = .rt v) : runD G N d args = .ok v := by
  unfold runD
  rw [if_pos ha, h]; rfl
theorem run_ex {d : Def} {args : List D} {c : Str} {x : Option D} (ha : args.length = d.np) (h : evSs G N d.body (start d args) = .ex c x) : runD G N d args = .ex c x := by
  unfold runD
  rw [if_pos ha, h]; rfl
theorem run_nx {d : Def} {args : List D} {s' : S} (ha : args.length = d.np) (h : evSs G N d.body (start d args) = .nx s') : runD G N d args = .ok .none := by
  unfold runD
  rw [if_pos ha, h]; rfl
theorem seq_for {α : Type} (enc : α → D) (l : List α) {i : Nat} {it : It} {b r : Ss} {q : Q} (hi : evI G it s = .ok (l.map enc)) (I : Nat → S → Prop) (h0 : I 0 s)
    (h : ∀ k (hk : k < l.length) s, I k s → ∃ s', evSs G N b (s.set i (some (enc l[k]))) = .nx s' ∧ I (k + 1) s') (hk : ∀ s', I l.length s' → evSs G N r s' = q) : evSs G N (.cons (.fr (.one i) it b) r) s = q := by
  obtain ⟨s', e, h'⟩ := for_one enc l hi I h0 h
  exact seq_nx e (hk s' h')
theorem seq_for2 {α : Type} (en1 en2 : α → D) (l : List α) {i j : Nat} {it : It} {b r : Ss} {q : Q} (hi : evI G it s = .ok (l.map fun x => .tuple [en1 x, en2 x])) (I : Nat → S → Prop) (h0 : I 0 s)
    (h : ∀ k (hk : k < l.length) s, I k s → ∃ s', evSs G N b ((s.set i (some (en1 l[k]))).set j (some (en2 l[k]))) = .nx s' ∧ I (k + 1) s') (hk : ∀ s', I l.length s' → evSs G N r s' = q) : evSs G N (.cons (.fr (.two i j) it b) r) s = q := by
  obtain ⟨s', e, h'⟩ := for_two en1 en2 l hi I h0 h
  exact seq_nx e (hk s' h')
theorem seq_forR {α : Type} (enc : α → D) (l : List α) {i : Nat} {it : It} {b r : Ss} {q : Q} (hi : evI G it s = .ok (l.map enc)) (I : Nat → S → Prop) (c : Nat → Bool) (rr : Q) (hrr : ∀ f, rr.go f = rr) (h0 : I 0 s)
    (h : ∀ k (hk : k < l.length) s, I k s → if c k then ∃ s', evSs G N b (s.set i (some (enc l[k]))) = .nx s' ∧ I (k + 1) s' else evSs G N b (s.set i (some (enc l[k]))) = rr)
    (hk : ∀ s', I l.length s' → (List.range l.length).all c = true → evSs G N r s' = q) (hk2 : (List.range l.length).all c = false → q = rr) : evSs G N (.cons (.fr (.one i) it b) r) s = q := by
  have key := for_oneR enc l hi I c rr hrr h0 h
  cases hc : (List.range l.length).all c with
  | true =>
    rw [hc, if_pos rfl] at key
    obtain ⟨s', e, h'⟩ := key
    exact seq_nx e (hk s' h' hc)
  | false =>
    rw [hc, if_neg Bool.false_ne_true] at key
    rw [hk2 hc]
    exact seq_rr key hrr
theorem seq_while {A : Type} (I : A → S → Prop) (c : A → Bool) (μ : A → Nat) {cd : Ex} {b r : Ss} {q : Q} (a : A) (h : I a s) (hm : μ a < N) (ht : ∀ a s, I a s → (evE G cd s).bind truD = .ok (c a)) (hb : ∀ a s, I a s → c a = true → ∃ s', evSs G N b s = .nx s' ∧ ∃ a', I a' s' ∧ μ a' < μ a)
    (hk : ∀ a' s', I a' s' → c a' = false → evSs G N r s' = q) : evSs G N (.cons (.whl cd b) r) s = q := by
  obtain ⟨a', s', e, h1, h2⟩ := while_one I c μ ht hb a h hm
  exact seq_nx e (hk a' s' h1 h2)

theorem seq_asg {i : Nat} {e : Ex} {r : Ss} {q : Q} (v : D) (h : evE G e s = .ok v) (h2 : evSs G N r (s.set i (some v)) = q) : evSs G N (.cons (.asg i e) r) s = q :=
  seq_nx (by rw [es_asg, h, R.go_ok]) h2
theorem seq_asgX {i : Nat} {e : Ex} {r : Ss} {q : Q} {P : D → Prop} (h : ∃ v, evE G e s = .ok v ∧ P v) (h2 : ∀ v, P v → evSs G N r (s.set i (some v)) = q) : evSs G N (.cons (.asg i e) r) s = q := by
  obtain ⟨v, h, hp⟩ := h
  exact seq_asg v h (h2 v hp)
/-! ### the same with an existential end -/
section
variable {β : Type} {C : β → Q} {P : β → Prop}
theorem seq_nxE {x : St} {r : Ss} {s' : S} (h : evS G N x s = .nx s') (h2 : ∃ v, evSs G N r s' = C v ∧ P v) : ∃ v, evSs G N (.cons x r) s = C v ∧ P v := by
  rw [ess_cons, h, Q.go_nx]; exact h2
theorem seq_forE {α : Type} (enc : α → D) (l : List α) {i : Nat} {it : It} {b r : Ss} (hi : evI G it s = .ok (l.map enc)) (I : Nat → S → Prop) (h0 : I 0 s)
    (h : ∀ k (hk : k < l.length) s, I k s → ∃ s', evSs G N b (s.set i (some (enc l[k]))) = .nx s' ∧ I (k + 1) s') (hk : ∀ s', I l.length s' → ∃ v, evSs G N r s' = C v ∧ P v) : ∃ v, evSs G N (.cons (.fr (.one i) it b) r) s = C v ∧ P v := by
  obtain ⟨s', e, h'⟩ := for_one enc l hi I h0 h
  exact seq_nxE e (hk s' h')
theorem seq_for2E {α : Type} (en1 en2 : α → D) (l : List α) {i j : Nat} {it : It} {b r : Ss} (hi : evI G it s = .ok (l.map fun x => .tuple [en1 x, en2 x])) (I : Nat → S → Prop) (h0 : I 0 s)
    (h : ∀ k (hk : k < l.length) s, I k s → ∃ s', evSs G N b ((s.set i (some (en1 l[k]))).set j (some (en2 l[k]))) = .nx s' ∧ I (k + 1) s') (hk : ∀ s', I l.length s' → ∃ v, evSs G N r s' = C v ∧ P v) : ∃ v, evSs G N (.cons (.fr (.two i j) it b) r) s = C v ∧ P v := by
  obtain ⟨s', e, h'⟩ := for_two en1 en2 l hi I h0 h
  exact seq_nxE e (hk s' h')
theorem seq_whileE {A : Type} (I : A → S → Prop) (c : A → Bool) (μ : A → Nat) {cd : Ex} {b r : Ss} (a : A) (h : I a s) (hm : μ a < N) (ht : ∀ a s, I a s → (evE G cd s).bind truD = .ok (c a)) (hb : ∀ a s, I a s → c a = true → ∃ s', evSs G N b s = .nx s' ∧ ∃ a', I a' s' ∧ μ a' < μ a)
    (hk : ∀ a' s', I a' s' → c a' = false → ∃ v, evSs G N r s' = C v ∧ P v) : ∃ v, evSs G N (.cons (.whl cd b) r) s = C v ∧ P v := by
  obtain ⟨a', s', e, h1, h2⟩ := while_one I c μ ht hb a h hm
  exact seq_nxE e (hk a' s' h1 h2)
end
theorem run_rtE {d : Def} {args : List D} {P : D → Prop} (ha : args.length = d.np) (h : ∃ v, evSs G N d.body (start d args) = .rt v ∧ P v) : ∃ v, runD G N d args = .ok v ∧ P v := by
  obtain ⟨v, h, hp⟩ := h
  exact ⟨v, run_rt ha h, hp⟩
end Rr

set_option linter.all false
set_option Elab.async false
set_option maxRecDepth 100000
set_option maxHeartbeats 1000000
/-! Contracts: rows. -/
namespace Rr
open PySem
variable {N : Nat} {G : Env}

/-- numbers of the field -/
def fld (p : Int) (l : List Int) : Prop := ∀ k ∈ l, 0 ≤ k ∧ k < p
theorem prm.pos {p : Int} (h : prm p) : 0 < p := by rcases h with h | h | h | h <;> omega
theorem prm.ge {p : Int} (h : prm p) : 2 ≤ p := by rcases h with h | h | h | h <;> omega
theorem prm.le {p : Int} (h : prm p) : p ≤ 7 := by rcases h with h | h | h | h <;> omega
theorem fld.sm {p : Int} {l : List Int} (h : fld p l) (hp : p ≤ 7) : sm l := fun k hk => by have := h k hk; omega
theorem fld.nth {p : Int} {l : List Int} (h : fld p l) {i : Nat} (hi : i < l.length) : 0 ≤ nthI l i ∧ nthI l i < p := h _ (nthI_mem hi)
theorem okN_of {p : Int} {l : List Int} (h : fld p l) (hl : l.length ≤ 24) : okN p (tupI l) = true := by
  simp [okN, tupI, hl]
  intro k hk
  have := h k hk
  simp [inR]; omega
theorem okN_tup {p : Int} {w : D} (h : okN p w = true) : ∃ l, w = tupI l ∧ fld p l ∧ l.length ≤ 24 := by
  cases w <;> simp [okN] at h
  rename_i l
  obtain ⟨h1, h2⟩ := h
  have : ∃ k : List Int, l = k.map .int ∧ fld p k := by
    clear h1
    induction l with
    | nil => exact ⟨[], rfl, fun k hk => by cases hk⟩
    | cons x r ih =>
      obtain ⟨k, rfl, hk⟩ := ih fun y hy => h2 y (List.mem_cons_of_mem _ hy)
      have := h2 x List.mem_cons_self
      cases x <;> simp [inR] at this
      rename_i i
      refine ⟨i :: k, rfl, fun j hj => ?_⟩
      rcases List.mem_cons.mp hj with rfl | hj
      · omega
      · exact hk j hj
  obtain ⟨k, rfl, hk⟩ := this
  exact ⟨k, rfl, hk, by simpa using h1⟩
@[simp] theorem ndT_tupI (l : List Int) : ndT (tupI l) = true := by simp [ndT, tupI, nd]
@[simp] theorem nd_int (i : Int) : nd (.int i) = true := rfl
theorem nat_of {i : Int} (h : 0 ≤ i) : ∃ k : Nat, i = k := ⟨i.toNat, by omega⟩
@[simp] theorem cp_eqi (i j : Int) : cpD .eq (.int i) (.int j) = .ok (decide (i = j)) := eqD_int i j
@[simp] theorem cp_nei (i j : Int) : cpD .ne (.int i) (.int j) = .ok (!decide (i = j)) := by simp [cpD, eqD_int]
@[simp] theorem cp_eqt (a b : List Int) : cpD .eq (tupI a) (tupI b) = .ok (decide (a = b)) := eqD_tups a b
@[simp] theorem cp_net (a b : List Int) : cpD .ne (tupI a) (tupI b) = .ok (!decide (a = b)) := by simp [cpD, eqD_tups]
@[simp] theorem cp_eqb (a b : Bool) : cpD .eq (.bool a) (.bool b) = .ok (a == b) := eqD_bool a b
@[simp] theorem cp_neb (a b : Bool) : cpD .ne (.bool a) (.bool b) = .ok (!(a == b)) := by simp [cpD, eqD_bool]

def nxt (p : Int) (rule l : List Int) : Int := dot rule l.reverse % p
def fitsB (p : Int) (rule row : List Int) : Bool := (List.range (row.length - rule.length)).all fun j => decide (nxt p rule (row.take (rule.length + j)) = nthI row (rule.length + j))
def Sp_fits (g : List D → R D) : Prop := ∀ p rule row, prm p → fld p rule → rule.length ≤ 1000 → row.length ≤ 1000 → g [.int p, tupI rule, tupI row] = .ok (.bool (fitsB p rule row))
theorem run_fits {g : List D → R D} (h1 : G.fn "predicted" = some g) (s1 : Sp_predicted g) : Sp_fits (runD G N d_fits) := by
  intro p rule row hp hr hl hl2
  refine run_rt rfl ?_
  dsimp only [d_fits]
  refine seq_forR natD (List.range' rule.length (row.length - rule.length)) (by simp (disch := omega) [start, rng1]) (fun _ s => ∃ x, s = [some (.int p), some (tupI rule), some (tupI row), x])
    (fun i => decide (nxt p rule (row.take (rule.length + i)) = nthI row (rule.length + i))) (.rt (.bool false)) (fun _ => rfl) ⟨none, rfl⟩ ?_ ?_ ?_
  · rintro i hi s ⟨x, rfl⟩
    rw [List.length_range'] at hi
    have e1 := s1 p rule (row.take (rule.length + i)) (tupI (row.take (rule.length + i))) hp.pos (hr.sm hp.le) hl (.inl rfl)
    simp (disch := omega) [ev_call _ _ h1, natD, slcI_hi, sub_tupI, e1, show ((rule.length : Int) + (i : Int)).toNat = rule.length + i by omega]
    by_cases hc : nxt p rule (row.take (rule.length + i)) = nthI row (rule.length + i)
    · rw [if_pos hc]
      simp [show dot rule (row.take (rule.length + i)).reverse % p = nthI row (rule.length + i) from hc]
    · rw [if_neg hc]
      simp [show ¬ (dot rule (row.take (rule.length + i)).reverse % p = nthI row (rule.length + i)) from hc]
  · rintro s' ⟨x, rfl⟩ hc
    rw [List.length_range'] at hc
    rw [show fitsB p rule row = true from hc]
    simp
  · intro hc
    rw [List.length_range'] at hc
    rw [show fitsB p rule row = false from hc]

theorem okN_int {p i : Int} : okN p (.int i) = false := rfl
def Sp_makes (g : List D → R D) : Prop := BadP 2 g ∧ ∀ p rule row, prm p → ndT rule = true → ndT row = true → g [.int p, rule, row] = if okN p row then (if okN p rule then (match rule, row with | .tuple a, .tuple b => .ok (.bool (fitsB p ((intsOf a).getD []) ((intsOf b).getD []))) | _, _ => .bad) else .ex "InvalidRule" none) else .ex "InvalidRow" none
theorem Sp_makes.ok {g : List D → R D} (h : Sp_makes g) {p : Int} {rule row : List Int} (hp : prm p) (h1 : fld p rule) (h2 : fld p row) (h3 : rule.length ≤ 24) (h4 : row.length ≤ 24) : g [.int p, tupI rule, tupI row] = .ok (.bool (fitsB p rule row)) := by
  rw [h.2 p _ _ hp (by simp) (by simp), okN_of h1 h3, okN_of h2 h4]
  simp [tupI, intsOf_map]
theorem run_makes {g1 g2 g3 : List D → R D} (h1 : G.fn "check_row" = some g1) (s1 : Sp_check_row g1) (h2 : G.fn "check_rule" = some g2) (s2 : Sp_check_rule g2) (h3 : G.fn "fits" = some g3) (s3 : Sp_fits g3) : Sp_makes (runD G N d_makes) := by
  refine ⟨fun v r hr hv hb => ?_, fun p rule row hp hr hw => ?_⟩
  · match r, hr with
    | [a, b], _ => simp [runD, start, d_makes, ev_call _ _ h1, s1.1 v [b] rfl hv hb, Q.out]
  · cases ho : okN p row with
    | false => simp [runD, start, d_makes, ev_call _ _ h1, s1.2 p row hp hw, hp.isPr, ho, Q.out]
    | true =>
      cases hr2 : okN p rule with
      | false => simp [runD, start, d_makes, ev_call _ _ h1, ev_call _ _ h2, s1.2 p row hp hw, s2 p rule hr, hp.isPr, ho, hr2, Q.out]
      | true =>
        obtain ⟨row, rfl, f1, l1⟩ := okN_tup ho
        obtain ⟨rule, rfl, f2, l2⟩ := okN_tup hr2
        simp [runD, start, d_makes, ev_call _ _ h1, ev_call _ _ h2, ev_call _ _ h3, s1.2 p _ hp hw, s2 p _ hr, s3 p rule row hp f2 (by omega) (by omega), hp.isPr, ho, hr2, Q.out]
        simp [tupI, intsOf_map]

/-! ### rows made by a rule -/
def extF (p : Int) (rule : List Int) : Nat → List Int → List Int
  | 0, l => l
  | k + 1, l => extF p rule k (l ++ [nxt p rule l])
def madeI (p : Int) (rule start : List Int) (count : Nat) : List Int := (extF p rule (count - start.length) start).take count
theorem extF_len (p : Int) (rule : List Int) : ∀ k l, (extF p rule k l).length = l.length + k
  | 0, l => rfl
  | k + 1, l => by rw [extF, extF_len p rule k]; simp; omega
theorem fld_nxt {p : Int} (hp : 0 < p) (rule l : List Int) : 0 ≤ nxt p rule l ∧ nxt p rule l < p := ⟨Int.emod_nonneg _ (by omega), Int.emod_lt_of_pos _ hp⟩
theorem extF_fld {p : Int} (hp : 0 < p) (rule : List Int) : ∀ k l, fld p l → fld p (extF p rule k l)
  | 0, l, h => h
  | k + 1, l, h => extF_fld hp rule k _ fun x hx => by
    rcases List.mem_append.mp hx with h1 | h1
    · exact h x h1
    · rw [List.mem_singleton.mp h1]; exact fld_nxt hp rule l
theorem madeI_len (p : Int) (rule start : List Int) (count : Nat) : (madeI p rule start count).length = count := by
  unfold madeI
  rw [List.length_take, extF_len]
  omega
theorem madeI_fld {p : Int} (hp : 0 < p) (rule start : List Int) (count : Nat) (h : fld p start) : fld p (madeI p rule start count) := fun x hx => extF_fld hp rule _ _ h x (List.mem_of_mem_take hx)
def Sp_made (g : List D → R D) : Prop := ∀ p rule start (count : Nat), prm p → fld p rule → fld p start → start.length = rule.length → rule.length ≤ 1000 → count ≤ 1000 → g [.int p, tupI rule, tupI start, .int count] = .ok (tupI (madeI p rule start count))
def Sp_extended := Sp_made
theorem run_extended {g : List D → R D} (h1 : G.fn "predicted" = some g) (s1 : Sp_predicted g) (hN : 2000 ≤ N) : Sp_extended (runD G N d_extended) := by
  intro p rule start count hp hr hs hl hl2 hc
  refine run_rt rfl ?_
  dsimp only [d_extended]
  rw [ess_cons]
  simp [-ess_cons, Rr.start]
  refine seq_while (A := List Int) (fun l s => s = [some (.int p), some (tupI rule), some (tupI start), some (.int count), some (lstI l)] ∧ l.length ≤ max count start.length ∧ extF p rule (count - l.length) l = extF p rule (count - start.length) start) (fun l => decide (l.length < count)) (fun l => count - l.length) start ⟨rfl, by omega, rfl⟩ (by omega) ?_ ?_ ?_
  · rintro l s ⟨rfl, h2⟩
    simp
  · rintro l s ⟨rfl, h2, h3⟩ hc2
    have hc3 : l.length < count := by simpa using hc2
    have e1 := s1 p rule l (lstI l) hp.pos (hr.sm hp.le) hl2 (.inr rfl)
    refine ⟨_, by simp (disch := omega) [ev_call _ _ h1, e1, app_lstI]; rfl, l ++ [nxt p rule l], ⟨rfl, by simp; omega, ?_⟩, by simp; omega⟩
    rw [← h3]
    have q : count - l.length = (count - (l ++ [nxt p rule l]).length) + 1 := by simp; omega
    rw [q]; rfl
  · rintro l s ⟨rfl, h2, h3⟩ hc2
    have hc3 : count ≤ l.length := by simpa using hc2
    simp (disch := omega) [slcL_hi]
    unfold madeI
    rw [← h3, show count - l.length = 0 by omega]
    rfl
end Rr

set_option linter.all false
set_option Elab.async false
set_option maxRecDepth 100000
set_option maxHeartbeats 1000000
/-! Contracts: the laws' own rows. -/
namespace Rr
open PySem
variable {N : Nat} {G : Env}

theorem dot_nil_r : ∀ a : List Int, dot a [] = 0 := fun a => by simp [dot]
theorem dot_cons (x y : Int) (a b : List Int) : dot (x :: a) (y :: b) = x * y + dot a b := by simp [dot]
theorem nthI_cons_succ (x : Int) (l : List Int) (k : Nat) : nthI (x :: l) (k + 1) = nthI l k := by simp [nthI]
theorem nthI_cons_zero (x : Int) (l : List Int) : nthI (x :: l) 0 = x := by simp [nthI]
theorem dot_take_succ : ∀ (a b : List Int) (k : Nat), k < a.length → k < b.length → dot (a.take (k + 1)) b = dot (a.take k) b + nthI a k * nthI b k
  | [], _, _, h, _ => by simp at h
  | _ :: _, [], _, _, h => by simp at h
  | x :: a, y :: b, 0, _, _ => by simp [dot, nthI]
  | x :: a, y :: b, k + 1, h1, h2 => by
    rw [List.take_succ_cons, List.take_succ_cons, dot_cons, dot_cons, dot_take_succ a b k (by simpa using h1) (by simpa using h2), nthI_cons_succ, nthI_cons_succ]
    omega
theorem nthI_reverse {l : List Int} {k : Nat} (h : k < l.length) : nthI l.reverse k = nthI l (l.length - 1 - k) := by
  rw [nthI_get (by simpa using h), nthI_get (by omega), List.getElem_reverse]
theorem nthI_take {l : List Int} {k j : Nat} (h : k < j) : nthI (l.take j) k = nthI l k := by
  simp [nthI, h]
theorem dot_zero_l (b : List Int) : dot [] b = 0 := by simp [dot]
structure Sp_continued (g : List D → R D) : Prop where
  bad : BadP 3 g
  rule : ∀ p w a b, prm p → ndT w = true → okN p w = false → g [.int p, w, a, b] = .ex "InvalidRule" none
  start : ∀ p rule w b, prm p → fld p rule → rule.length ≤ 24 → ndT w = true → okN p w = false → g [.int p, tupI rule, w, b] = .ex "InvalidRow" none
  len : ∀ p rule st b, prm p → fld p rule → rule.length ≤ 24 → fld p st → st.length ≤ 24 → st.length ≠ rule.length → g [.int p, tupI rule, tupI st, b] = .ex "InvalidRow" none
  count : ∀ p rule st w, prm p → fld p rule → rule.length ≤ 24 → fld p st → st.length = rule.length → nd w = true → inR 0 24 w = false → g [.int p, tupI rule, tupI st, w] = .ex "InvalidLength" none
  ok : ∀ p rule st (k : Nat), prm p → fld p rule → rule.length ≤ 24 → fld p st → st.length = rule.length → k ≤ 24 → g [.int p, tupI rule, tupI st, .int k] = .ok (tupI (madeI p rule st k))
theorem run_continued {g1 g2 g3 g4 g5 : List D → R D} (h1 : G.fn "check_prime" = some g1) (s1 : Sp_check_prime g1) (h2 : G.fn "check_rule" = some g2) (s2 : Sp_check_rule g2) (h3 : G.fn "are_numbers" = some g3) (s3 : Sp_are_numbers g3)
    (h4 : G.fn "check_length" = some g4) (s4 : Sp_check_length g4) (h5 : G.fn "extended" = some g5) (s5 : Sp_extended g5) (h6 : G.gl "MAX_ROW" = some (.int 24)) : Sp_continued (runD G N d_continued) := by
  constructor
  · intro v r hr hv hb
    match r, hr with
    | [a, b, c], _ => simp [runD, Rr.start, d_continued, ev_call _ _ h1, s1 v hv, hb, Q.out]
  · intro p w a b hp hw ho
    simp [runD, Rr.start, d_continued, ev_call _ _ h1, ev_call _ _ h2, s1 (.int p) rfl, s2 p w hw, hp.isPr, ho, Q.out]
  · intro p rule w b hp hr hl hw ho
    simp [runD, Rr.start, d_continued, ev_call _ _ h1, ev_call _ _ h2, ev_call _ _ h3, s1 (.int p) rfl, s2 p (tupI rule) (by simp), s3 p w hw, hp.isPr, okN_of hr hl, ho, Q.out]
  · intro p rule st b hp hr hl hs hl2 hne
    have : ¬ ((st.length : Int) = rule.length) := by omega
    simp [runD, Rr.start, d_continued, ev_call _ _ h1, ev_call _ _ h2, ev_call _ _ h3, s1 (.int p) rfl, s2 p (tupI rule) (by simp), s3 p (tupI st) (by simp), hp.isPr, okN_of hr hl, okN_of hs hl2, this, Q.out]
  · intro p rule st w hp hr hl hs hl2 hw ho
    simp [runD, Rr.start, d_continued, ev_call _ _ h1, ev_call _ _ h2, ev_call _ _ h3, ev_call _ _ h4, s1 (.int p) rfl, s2 p (tupI rule) (by simp), s3 p (tupI st) (by simp), s4 w 24 hw, hp.isPr, okN_of hr hl, okN_of hs (by omega), hl2, ho, h6, Q.out]
  · intro p rule st k hp hr hl hs hl2 hk
    have ho : inR 0 24 (.int k) = true := by simp [inR]; omega
    have e := s5 p rule st k hp hr hs hl2 (by omega) (by omega)
    simp [runD, Rr.start, d_continued, ev_call _ _ h1, ev_call _ _ h2, ev_call _ _ h3, ev_call _ _ h4, ev_call _ _ h5, s1 (.int p) rfl, s2 p (tupI rule) (by simp), s3 p (tupI st) (by simp), s4 (.int k) 24 rfl, hp.isPr, okN_of hr hl, okN_of hs (by omega), hl2, ho, h6, e, Q.out]
/-! ### the laws' own numbers -/
def cellI (ns : List Int) (k : Nat) : Int := if k < ns.length then nthI ns k else 0
def Sp__law_cell (g : List D → R D) : Prop := ∀ ns (k : Int), 0 ≤ k → g [scrD ns, .int k] = .ok (.int (cellI ns k.toNat))
theorem run__law_cell : Sp__law_cell (runD G N d__law_cell) := by
  intro ns k hk
  obtain ⟨j, rfl⟩ := nat_of hk
  have e0 : biD .len [scrD ns] = .ok (.int ns.length) := by simp [scrD, biD]
  by_cases h : j < ns.length
  · have e1 : subD (scrD ns) (.int j) = .ok (.int (nthI ns j)) := by
      show nthD _ _ = _
      rw [nth_int h, nthI_get h]
    simp [runD, start, d__law_cell, e0, e1, cellI, h, Q.out]
  · have : ¬ ((j : Int) < ns.length) := by omega
    simp [runD, start, d__law_cell, e0, cellI, h, Q.out]
/-- sixty numbers below 1000 -/
def dr (l : List Int) : Prop := l.length = 60 ∧ ∀ k ∈ l, 0 ≤ k ∧ k < 1000
theorem dr.nth {l : List Int} (h : dr l) {i : Nat} (hi : i < 60) : 0 ≤ nthI l i ∧ nthI l i < 1000 := h.2 _ (nthI_mem (by rw [h.1]; exact hi))
def Sp__law_row (g : List D → R D) : Prop := ∀ ns (k : Int), 0 ≤ k → k ≤ 1000 → ∃ v, g [scrD ns, .int k] = .ok v ∧ ∃ ds, v = lstI ds ∧ dr ds
theorem run__law_row {g : List D → R D} (h1 : G.fn "_law_cell" = some g) (s1 : Sp__law_cell g) : Sp__law_row (runD G N d__law_row) := by
  intro ns k hk hk2
  have e1 := s1 ns k hk
  have e2 : opD .pow (.int 10) (.int 18) = .ok (.int 1000000000000000000) := by rfl
  refine run_rtE rfl ?_
  dsimp only [d__law_row]
  refine seq_nxE (by simp [Rr.start, ev_call _ _ h1, e1]; rfl) ?_
  refine seq_nxE (by simp; rfl) ?_
  refine seq_forE natD (List.range 60) (by simp (disch := omega) [rng0]) (fun j s => ∃ c l x, s = [some (scrD ns), some (.int k), some (.int c), some (lstI l), x] ∧ l.length = j ∧ ∀ k ∈ l, 0 ≤ k ∧ k < 1000) ⟨_, [], _, rfl, rfl, fun k hk => by cases hk⟩ ?_ ?_
  · rintro j hj s ⟨c, l, x, rfl, hl, hb⟩
    rw [List.length_range] at hj
    have e3 := s1 ns ((k + 1 + j) % 20) (by omega)
    by_cases hc : cellI ns k.toNat < 1000000000000000000
    · refine ⟨_, by
        simp (disch := omega) [ev_call _ _ h1, e1, e2, natD, op_muli, op_modi, op_fdivi, app_lstI, e3, hc]; rfl, ?_⟩
      refine ⟨_, _, _, rfl, by simp [hl], ?_⟩
      intro y hy
      rcases List.mem_append.mp hy with h | h
      · exact hb y h
      · rw [List.mem_singleton.mp h]; omega
    · refine ⟨_, by
        simp (disch := omega) [ev_call _ _ h1, e1, e2, natD, op_muli, op_modi, op_fdivi, app_lstI, e3, hc]; rfl, ?_⟩
      refine ⟨_, _, _, rfl, by simp [hl], ?_⟩
      intro y hy
      rcases List.mem_append.mp hy with h | h
      · exact hb y h
      · rw [List.mem_singleton.mp h]; omega
  · rintro s' ⟨c, l, x, rfl, hl, hb⟩
    exact ⟨_, by simp, l, rfl, by simpa using hl, hb⟩
def Sp__law_made := Sp_made
theorem run__law_made (hN : 2000 ≤ N) : Sp__law_made (runD G N d__law_made) := by
  intro p rule start count hp hr hs hl hl2 hc
  refine run_rt rfl ?_
  dsimp only [d__law_made]
  rw [ess_cons]
  simp [-ess_cons, Rr.start]
  refine seq_while (A := List Int) (fun l s => (∃ x y, s = [some (.int p), some (tupI rule), some (tupI start), some (.int count), some (lstI l), x, y]) ∧ rule.length ≤ l.length ∧ l.length ≤ max count start.length ∧ extF p rule (count - l.length) l = extF p rule (count - start.length) start) (fun l => decide (l.length < count)) (fun l => count - l.length) start ⟨⟨none, none, rfl⟩, by omega, by omega, rfl⟩ (by omega) ?_ ?_ ?_
  · rintro l s ⟨⟨x, y, rfl⟩, h2⟩
    simp
  · rintro l s ⟨⟨x, y, rfl⟩, h0, h2, h3⟩ hc2
    have hc3 : l.length < count := by simpa using hc2
    refine seq_nxE (by simp; rfl) ?_
    refine seq_forE natD (List.range rule.length) (by simp (disch := omega) [rng0]) (fun j s => ∃ y, s = [some (.int p), some (tupI rule), some (tupI start), some (.int count), some (lstI l), some (.int (dot (rule.take j) l.reverse)), y]) ⟨y, by simp [dot]⟩ ?_ ?_
    · rintro j hj s ⟨y, rfl⟩
      rw [List.length_range] at hj
      have hb := hr.nth hj
      have := hp.le
      refine ⟨_, by simp (disch := omega) [natD, sub_tupI, sub_lstI, op_muli]; rfl, ?_⟩
      rw [dot_take_succ _ _ _ hj (by simp; omega), nthI_reverse (by omega)]
      exact ⟨_, rfl⟩
    · rintro s' ⟨y, rfl⟩
      rw [List.length_range, List.take_length]
      have := hp.pos
      refine ⟨_, by simp (disch := omega) [op_modi, app_lstI]; rfl, ?_⟩
      refine ⟨l ++ [nxt p rule l], ⟨⟨_, _, rfl⟩, by simp; omega, by simp; omega, ?_⟩, by simp; omega⟩
      rw [← h3]
      have q : count - l.length = (count - (l ++ [nxt p rule l]).length) + 1 := by simp; omega
      rw [q]; rfl
  · rintro l s ⟨⟨x, y, rfl⟩, h0, h2, h3⟩ hc2
    have hc3 : count ≤ l.length := by simpa using hc2
    simp (disch := omega) [slcL_hi]
    unfold madeI
    rw [← h3, show count - l.length = 0 by omega]
    rfl
end Rr

set_option linter.all false
set_option Elab.async false
set_option maxRecDepth 100000
set_option maxHeartbeats 1000000
/-! Contracts: the laws' own rows, whether a rule fits. -/
namespace Rr
open PySem
variable {N : Nat} {G : Env}
theorem take_rev_nth {row : List Int} {j k : Nat} (h : k < j) (hj : j ≤ row.length) : nthI (row.take j).reverse k = nthI row (j - 1 - k) := by
  rw [nthI_reverse (by simp; omega), List.length_take, Nat.min_eq_left hj, nthI_take (by omega)]
def Sp__law_fits := Sp_fits
theorem run__law_fits : Sp__law_fits (runD G N d__law_fits) := by
  intro p rule row hp hr hl hl2
  refine run_rt rfl ?_
  dsimp only [d__law_fits]
  refine seq_forR natD (List.range' rule.length (row.length - rule.length)) (by simp (disch := omega) [start, rng1]) (fun _ s => ∃ x y z, s = [some (.int p), some (tupI rule), some (tupI row), x, y, z])
    (fun i => decide (nxt p rule (row.take (rule.length + i)) = nthI row (rule.length + i))) (.rt (.bool false)) (fun _ => rfl) ⟨none, none, none, rfl⟩ ?_ ?_ ?_
  · rintro i hi s ⟨x, y, z, rfl⟩
    rw [List.length_range'] at hi
    have hp1 := hp.pos
    have step : ∀ j (hj : j < (List.range rule.length).length) s, (∃ z, s = [some (.int p), some (tupI rule), some (tupI row), some (.int (rule.length + i : Nat)), some (.int (dot (rule.take j) (row.take (rule.length + i)).reverse)), z]) →
        ∃ s', evSs G N (.cons (.asg 4 (.bin .add (.var 4) (.bin .mul (.sub (.var 1) (.var 5)) (.sub (.var 2) (.bin .sub (.bin .sub (.var 3) (.cst (.int 1))) (.var 5)))))) .nil) (s.set 5 (some (natD (List.range rule.length)[j]))) = .nx s' ∧
          ∃ z, s' = [some (.int p), some (tupI rule), some (tupI row), some (.int (rule.length + i : Nat)), some (.int (dot (rule.take (j + 1)) (row.take (rule.length + i)).reverse)), z] := by
      rintro j hj s ⟨z, rfl⟩
      rw [List.length_range] at hj
      have hb := hr.nth hj
      have := hp.le
      refine ⟨_, by simp (disch := omega) [natD, sub_tupI, op_muli]; rfl, ?_⟩
      rw [dot_take_succ _ _ _ hj (by simp; omega), take_rev_nth (by omega) (by omega)]
      refine ⟨some (.int j), ?_⟩
      rw [show ((rule.length : Int) + (i : Int)).toNat - 1 - j = rule.length + i - 1 - j by omega]
      simp
    by_cases hc : nxt p rule (row.take (rule.length + i)) = nthI row (rule.length + i)
    · rw [if_pos (by simpa using hc)]
      refine seq_nxE (by simp; rfl) ?_
      refine seq_forE natD (List.range rule.length) (by simp (disch := omega) [rng0]) _ ⟨z, by simp [dot, natD]⟩ step ?_
      rintro s' ⟨z, rfl⟩
      rw [List.length_range, List.take_length]
      refine ⟨_, by
        simp (disch := omega) [op_modi, sub_tupI, show dot rule (row.take (rule.length + i)).reverse % p = nthI row (rule.length + i) from hc, show ((rule.length : Int) + (i : Int)).toNat = rule.length + i by omega]; rfl, ?_⟩
      exact ⟨_, _, _, rfl⟩
    · rw [if_neg (by simpa using hc)]
      refine seq_nx (by simp; rfl) ?_
      refine seq_for natD (List.range rule.length) (by simp (disch := omega) [rng0]) _ ⟨z, by simp [dot, natD]⟩ step ?_
      rintro s' ⟨z, rfl⟩
      rw [List.length_range, List.take_length]
      simp (disch := omega) [op_modi, sub_tupI, show ¬ (dot rule (row.take (rule.length + i)).reverse % p = nthI row (rule.length + i)) from hc, show ((rule.length : Int) + (i : Int)).toNat = rule.length + i by omega]
  · rintro s' ⟨x, y, z, rfl⟩ hc
    rw [List.length_range'] at hc
    rw [show fitsB p rule row = true from hc]
    simp
  · intro hc
    rw [List.length_range'] at hc
    rw [show fitsB p rule row = false from hc]
/-- numbers of the field, drawn -/
def drawn (ds : List Int) (p : Int) (o n : Nat) : List Int := (List.range n).map fun k => nthI ds (o + k) % p
theorem drawn_fld {ds : List Int} {p : Int} {o n : Nat} (hp : 0 < p) : fld p (drawn ds p o n) := fun x hx => by
  obtain ⟨k, _, rfl⟩ := List.mem_map.mp hx
  exact ⟨Int.emod_nonneg _ (by omega), Int.emod_lt_of_pos _ hp⟩
theorem drawn_len (ds : List Int) (p : Int) (o n : Nat) : (drawn ds p o n).length = n := by simp [drawn]
/-- tuple([draws[o + place] % prime for place in range(n)]) -/
theorem ev_drawn {s : S} {ds : List Int} {p : Int} (hd : dr ds) (hp : 0 < p) {v i j : Nat} {e : Ex} (oi : Int) (o : Nat) {n : Nat} (ho : oi = o) (h1 : ∀ k, evE G (.var v) (s.set i k) = .ok (lstI ds)) (h2 : ∀ k, evE G (.var j) (s.set i k) = .ok (.int p)) (h3 : evE G e s = .ok (.int n)) (h4 : o + n ≤ 60) (h5 : i < s.length) :
    evE G (.bi .tuple (.cons (.lc (.one i) (.rng e) .nil (.bin .mod (.sub (.var v) (.bin .add (.cst (.int oi)) (.var i))) (.var j))) .nil)) s = .ok (tupI (drawn ds p o n)) := by
  have hl := hd.1
  subst ho
  rw [ev_bi, ev_cons, lc_map natD PyData.int (List.range n) (fun k => nthI ds (o + k) % p) (by simp (disch := omega) [h3, rng0]) (by simp; omega)]
  · simp [drawn, lstI, tupI]
  · intro x hx
    have hx2 := List.mem_range.mp hx
    have e3 : evE G (.var i) (s.set i (some (natD x))) = .ok (natD x) := by simp [getV, h5]
    rw [ev_bin, ev_sub, ev_bin, h1, h2, e3]
    simp (disch := omega) [natD, sub_lstI, op_modi, show ((o : Int) + (x : Int)).toNat = o + x by omega]
/-- [2, 3, 5, 7][d % 4] -/
def prmOf (d : Int) : Int := nthI [2, 3, 5, 7] (d % 4).toNat
theorem prmOf_prm (d : Int) : prm (prmOf d) := by
  have : d % 4 = 0 ∨ d % 4 = 1 ∨ d % 4 = 2 ∨ d % 4 = 3 := by omega
  unfold prmOf prm
  rcases this with h | h | h | h <;> rw [h] <;> simp [nthI]
theorem lst_lit {l : List Int} : PyData.list (l.map .int) = lstI l := rfl
structure CaseV (long : Nat) (v : D) (p : Int) (row : List Int) : Prop where
  v : v = .tuple [.int p, tupI row]
  pr : prm p
  f : fld p row
  l : row.length ≤ long
def Sp__law_case (g : List D → R D) : Prop := ∀ ns (k : Int) (most long : Nat), 0 ≤ k → k ≤ 1000 → most ≤ 7 → long ≤ 40 → ∃ v, g [scrD ns, .int k, .int most, .int long] = .ok v ∧ ∃ p row, CaseV long v p row
theorem run__law_case {g1 g2 : List D → R D} (h1 : G.fn "_law_row" = some g1) (s1 : Sp__law_row g1) (h2 : G.fn "_law_made" = some g2) (s2 : Sp__law_made g2) : Sp__law_case (runD G N d__law_case) := by
  intro ns k most long hk hk2 hm hlo
  obtain ⟨_, e1, ds, rfl, hd⟩ := s1 ns k hk hk2
  have hl := hd.1
  have hp := prmOf_prm (nthI ds 0)
  have hpp := hp.pos
  refine run_rtE rfl ?_
  dsimp only [d__law_case]
  refine seq_nxE (by simp [Rr.start, ev_call _ _ h1, e1]; rfl) ?_
  have e2 : subD (.list [.int 2, .int 3, .int 5, .int 7]) (.int (nthI ds 0 % 4)) = .ok (.int (prmOf (nthI ds 0))) := by
    show subD (lstI [2, 3, 5, 7]) _ = _
    rw [sub_lstI (by omega) (by simp; omega)]; rfl
  refine seq_nxE (by simp (disch := omega) [sub_lstI, op_modi, e2]; rfl) ?_
  generalize prmOf (nthI ds 0) = p at hp hpp e2
  obtain ⟨size, hs⟩ := nat_of (i := nthI ds 1 % (most + 1)) (Int.emod_nonneg _ (by omega))
  have hsz : size ≤ most := by have := Int.emod_lt_of_pos (nthI ds 1) (show (0 : Int) < most + 1 by omega); omega
  obtain ⟨count, hc⟩ := nat_of (i := nthI ds 2 % (long + 1)) (Int.emod_nonneg _ (by omega))
  have hct : count ≤ long := by have := Int.emod_lt_of_pos (nthI ds 2) (show (0 : Int) < long + 1 by omega); omega
  refine seq_nxE (by simp (disch := omega) [sub_lstI, op_modi, hs]; rfl) ?_
  refine seq_nxE (by simp (disch := omega) [sub_lstI, op_modi, hc]; rfl) ?_
  refine seq_nxE (by rw [es_asg, ev_drawn hd hpp 5 5 (n := size) rfl (by simp) (by simp) (by simp) (by omega) (by simp)]; simp; rfl) ?_
  refine seq_nxE (by rw [es_asg, ev_drawn hd hpp 12 12 (n := size) rfl (by simp) (by simp) (by simp) (by omega) (by simp)]; simp; rfl) ?_
  have e3 := s2 p (drawn ds p 5 size) (drawn ds p 12 size) count hp (drawn_fld hpp) (drawn_fld hpp) (by simp [drawn_len]) (by simp [drawn_len]; omega) (by omega)
  refine seq_nxE (by simp [ev_call _ _ h2, e3]; rfl) ?_
  by_cases hb : nthI ds 3 % 4 = 0
  · refine seq_nxE (by
      simp (disch := omega) [-ev_bi, sub_lstI, op_modi, hb]
      rw [ev_drawn hd hpp 20 20 (n := count) rfl (by simp) (by simp) (by simp) (by omega) (by simp)]; simp; rfl) ?_
    exact ⟨_, by simp; rfl, p, _, rfl, hp, drawn_fld hpp, by simp [drawn_len]; omega⟩
  · refine seq_nxE (by simp (disch := omega) [-ev_bi, sub_lstI, op_modi, hb]; rfl) ?_
    exact ⟨_, by simp; rfl, p, _, rfl, hp, madeI_fld hpp _ _ _ (drawn_fld hpp), by simp [madeI_len]; omega⟩

/-! ### what a rule makes, it fits -/
theorem extF_pre (p : Int) (rule : List Int) : ∀ k l, (extF p rule k l).take l.length = l
  | 0, l => by simp [extF]
  | k + 1, l => by
    have := extF_pre p rule k (l ++ [nxt p rule l])
    rw [extF]
    have h2 := congrArg (List.take l.length) this
    rw [List.take_take, List.length_append, Nat.min_eq_left (by omega)] at h2
    rw [h2]
    simp
theorem nthI_append_left {a b : List Int} {j : Nat} (h : j < a.length) : nthI (a ++ b) j = nthI a j := by simp [nthI, List.getElem?_append_left h]
theorem extF_nxt (p : Int) (rule : List Int) : ∀ k l j, l.length ≤ j → j < l.length + k → nxt p rule ((extF p rule k l).take j) = nthI (extF p rule k l) j
  | 0, l, j, h1, h2 => by omega
  | k + 1, l, j, h1, h2 => by
    rw [extF]
    rcases Nat.lt_or_ge l.length j with h | h
    · exact extF_nxt p rule k _ j (by simp; omega) (by simp; omega)
    · have e : j = l.length := by omega
      subst e
      have h3 := extF_pre p rule k (l ++ [nxt p rule l])
      have h4 := congrArg (List.take l.length) h3
      rw [List.take_take, List.length_append, Nat.min_eq_left (by omega)] at h4
      rw [h4]
      have h5 := congrArg (fun x => nthI x l.length) h3
      simp only [List.length_append, List.length_singleton] at h5
      rw [nthI_take (by omega)] at h5
      rw [h5]
      simp [nthI]
theorem made_fits {p : Int} {rule start : List Int} {count : Nat} (h : start.length = rule.length) : fitsB p rule (madeI p rule start count) = true := by
  unfold fitsB
  rw [List.all_eq_true]
  intro j hj
  have hj := List.mem_range.mp hj
  rw [madeI_len] at hj
  have e := extF_nxt p rule (count - start.length) start (rule.length + j) (by omega) (by omega)
  unfold madeI
  rw [List.take_take, Nat.min_eq_left (by omega), nthI_take (by omega), e]
  simp
/-! ### wrong objects -/
theorem okN_list {p : Int} (l : List Int) : okN p (lstI l) = false := rfl
theorem okN_snoc {p : Int} {l : List Int} {x : D} (h : inR 0 (p - 1) x = false) : okN p (.tuple (l.map .int ++ [x])) = false := by
  simp [okN, h]
theorem okN_long {p : Int} {l : List D} (h : 24 < l.length) : okN p (.tuple l) = false := by
  simp [okN]; omega
theorem ndT_snoc {l : List Int} {x : D} (h : nd x = true) : ndT (.tuple (l.map .int ++ [x])) = true := by
  simp only [ndT, List.all_append, List.all_cons, h, List.all_nil]
  simp [nd]
theorem add_tup {a : List Int} {b : List D} (h : a.length + b.length ≤ 1000000) : opD .add (tupI a) (.tuple b) = .ok (.tuple (a.map .int ++ b)) := by
  show (if _ then _ else _) = _
  rw [if_pos (by simpa using h)]
theorem mul_t1 {k : Int} {x : Int} (h0 : 0 ≤ k) (h1 : k ≤ 1000) : opD .mul (.tuple [.int x]) (.int k) = .ok (tupI (List.replicate k.toNat x)) := mul_tup1 h0 h1
theorem cp_nes {a : Str} (h : PyData.strOk a = true) : cpD .ne (.str a) (.str a) = .ok false := by
  show (eqD _ _).bind _ = _
  unfold eqD
  rw [if_pos (by simp [shp, h])]
  simp [PyData.eqv]
theorem cp_eqs {a : Str} (h : PyData.strOk a = true) : cpD .eq (.str a) (.str a) = .ok true := by
  show eqD _ _ = _
  unfold eqD
  rw [if_pos (by simp [shp, h])]
  simp [PyData.eqv]
/-- classes of exceptions, none under another, all under RuleError -/
def clsB (G : Env) : List Str → Bool
  | [] => true
  | c :: r => decide (c ∈ G.cs) && G.sub c "RuleError" && G.sub c c && r.all (fun d => !G.sub c d && !G.sub d c) && clsB G r
theorem fld_rep {p : Int} (hp : 0 < p) (n : Nat) : fld p (List.replicate n 0) := fun k hk => by rw [List.eq_of_mem_replicate hk]; omega
/-- a drawn number below a bound -/
theorem draw_nat (d : Int) {m : Int} (hm : 0 < m) : ∃ k : Nat, d % m = k ∧ (k : Int) < m := by
  obtain ⟨k, hk⟩ := nat_of (Int.emod_nonneg d (show m ≠ 0 by omega))
  exact ⟨k, hk, by rw [← hk]; exact Int.emod_lt_of_pos d hm⟩
theorem fld_append {p : Int} {a b : List Int} (h1 : fld p a) (h2 : fld p b) : fld p (a ++ b) := fun k hk => by
  rcases List.mem_append.mp hk with h | h
  · exact h1 k h
  · exact h2 k h
theorem fld_take {p : Int} {a : List Int} (n : Nat) (h : fld p a) : fld p (a.take n) := fun k hk => h k (List.mem_of_mem_take hk)
theorem fld_drop {p : Int} {a : List Int} (n : Nat) (h : fld p a) : fld p (a.drop n) := fun k hk => h k (List.mem_of_mem_drop hk)
theorem fld_mod {p : Int} (hp : 0 < p) {α : Type} (f : α → Int) (l : List α) : fld p (l.map fun x => f x % p) := fun k hk => by
  obtain ⟨x, _, rfl⟩ := List.mem_map.mp hk
  exact ⟨Int.emod_nonneg _ (by omega), Int.emod_lt_of_pos _ hp⟩
end Rr

set_option linter.all false
set_option Elab.async false
set_option maxHeartbeats 400000
/-! Sums, rules and lengths over a field. -/
namespace Rr

class Fld (K : Type) [Lean.Grind.CommRing K] : Prop where
  inv : ∀ x : K, x ≠ 0 → ∃ y, x * y = 1
  one_ne : (1 : K) ≠ 0

section sums
variable {K : Type} [Lean.Grind.CommRing K]
def sg : Nat → (Nat → K) → K
  | 0, _ => 0
  | n + 1, f => sg n f + f n
theorem sg_congr {n : Nat} {f g : Nat → K} (h : ∀ i, i < n → f i = g i) : sg n f = sg n g := by
  induction n with
  | zero => rfl
  | succ n ih => unfold sg; rw [ih fun i hi => h i (by omega), h n (by omega)]
theorem sg_zero {n : Nat} {f : Nat → K} (h : ∀ i, i < n → f i = 0) : sg n f = 0 := by
  induction n with
  | zero => rfl
  | succ n ih => unfold sg; rw [ih fun i hi => h i (by omega), h n (by omega)]; grind
theorem sg_add (n : Nat) (f g : Nat → K) : sg n (fun i => f i + g i) = sg n f + sg n g := by
  induction n with
  | zero => unfold sg; grind
  | succ n ih => unfold sg; rw [ih]; grind
theorem sg_mul (n : Nat) (c : K) (f : Nat → K) : sg n (fun i => c * f i) = c * sg n f := by
  induction n with
  | zero => unfold sg; grind
  | succ n ih => unfold sg; rw [ih]; grind
theorem sg_sub (n : Nat) (f g : Nat → K) : sg n (fun i => f i - g i) = sg n f - sg n g := by
  induction n with
  | zero => unfold sg; grind
  | succ n ih => unfold sg; rw [ih]; grind
theorem sg_swap (n m : Nat) (f : Nat → Nat → K) : sg n (fun i => sg m (fun j => f i j)) = sg m (fun j => sg n (fun i => f i j)) := by
  induction n with
  | zero => rw [sg_zero (n := m) fun i _ => by rfl]; rfl
  | succ n ih => exact (congrArg (· + sg m fun j => f n j) ih).trans (sg_add m _ _).symm
theorem sg_split (n m : Nat) (f : Nat → K) : sg (n + m) f = sg n f + sg m (fun i => f (n + i)) := by
  induction m with
  | zero => unfold sg; rw [Nat.add_zero]; grind
  | succ m ih => rw [← Nat.add_assoc]; rw [show sg (n + m + 1) f = sg (n + m) f + f (n + m) from rfl, ih, show sg (m + 1) (fun i => f (n + i)) = sg m (fun i => f (n + i)) + f (n + m) from rfl]; grind
theorem sg_head (n : Nat) (f : Nat → K) : sg (n + 1) f = f 0 + sg n (fun i => f (i + 1)) := by
  induction n with
  | zero => unfold sg; unfold sg; grind
  | succ n ih => unfold sg; rw [ih]; grind
theorem sg_more {n m : Nat} (h : n ≤ m) {f : Nat → K} (hf : ∀ i, n ≤ i → i < m → f i = 0) : sg m f = sg n f := by
  obtain ⟨k, rfl⟩ := Nat.le.dest h
  rw [sg_split, sg_zero (n := k) fun i hi => hf (n + i) (by omega) (by omega)]
  grind
theorem sg_one {n j : Nat} (h : j < n) {f : Nat → K} (hf : ∀ i, i < n → i ≠ j → f i = 0) : sg n f = f j := by
  rw [sg_more (n := j + 1) (by omega) fun i h1 h2 => hf i h2 (by omega)]
  unfold sg
  rw [sg_zero fun i hi => hf i (by omega) (by omega)]
  grind
theorem sg_skip {n j : Nat} (h : j ≤ n) (f : Nat → K) : sg (n + 1) f = sg n (fun i => f (if i < j then i else i + 1)) + f j := by
  induction n with
  | zero =>
    have : j = 0 := by omega
    subst this
    unfold sg; unfold sg; rfl
  | succ n ih =>
    rcases Nat.lt_or_ge j (n + 1) with hj | hj
    · rw [show sg (n + 1 + 1) f = sg (n + 1) f + f (n + 1) from rfl, ih (by omega), show sg (n + 1) (fun i => f (if i < j then i else i + 1)) = sg n (fun i => f (if i < j then i else i + 1)) + f (if n < j then n else n + 1) from rfl, if_neg (by omega)]
      grind
    · have : j = n + 1 := by omega
      subst this
      conv => lhs; unfold sg
      congr 1
      exact sg_congr fun i hi => by rw [if_pos hi]
end sums

section field
variable {K : Type} [Lean.Grind.CommRing K] [Fld K]
theorem mul_zero_of {x y : K} (h : x * y = 0) (hx : x ≠ 0) : y = 0 := by
  obtain ⟨z, hz⟩ := Fld.inv x hx
  have : y = z * (x * y) := by grind
  rw [this, h]; grind
theorem mul_ne {x y : K} (hx : x ≠ 0) (hy : y ≠ 0) : x * y ≠ 0 := fun h => hy (mul_zero_of h hx)

/-- a rule makes a row of N numbers -/
def Mk (c : Nat → K) (L : Nat) (a : Nat → K) (N : Nat) : Prop := ∀ n, L ≤ n → n < N → a n = sg L fun i => c i * a (n - 1 - i)
def HasR (a : Nat → K) (N L : Nat) : Prop := ∃ c, Mk c L a N
/-- a connection polynomial -/
def CP (C : Nat → K) (L : Nat) (a : Nat → K) (N : Nat) : Prop := C 0 = 1 ∧ ∀ n, L ≤ n → n < N → sg (L + 1) (fun i => C i * a (n - i)) = 0

omit [Fld K] in
theorem Mk.mono {c a : Nat → K} {L N M : Nat} (h : Mk c L a N) (hM : M ≤ N) : Mk c L a M := fun n h1 h2 => h n h1 (by omega)
omit [Fld K] in
theorem HasR.mono {a : Nat → K} {L N M : Nat} (h : HasR a N L) (hM : M ≤ N) : HasR a M L := h.imp fun _ h => h.mono hM
omit [Fld K] in
theorem Mk.longer {c a : Nat → K} {L N : Nat} (h : Mk c L a N) {L' : Nat} (hl : L ≤ L') : Mk (fun i => if i < L then c i else 0) L' a N := by
  intro n h1 h2
  rw [sg_more hl fun i h3 h4 => by simp only; rw [if_neg (by omega)]; grind]
  rw [h n (by omega) h2]
  exact sg_congr fun i hi => by simp only; rw [if_pos hi]
omit [Fld K] in
theorem HasR.longer {a : Nat → K} {L L' N : Nat} (h : HasR a N L) (hl : L ≤ L') : HasR a N L' := by
  obtain ⟨c, h⟩ := h
  exact ⟨_, h.longer hl⟩
omit [Fld K] in
theorem HasR.full (a : Nat → K) (N : Nat) : HasR a N N := ⟨fun _ => 0, fun n h1 h2 => by omega⟩
omit [Fld K] in
theorem CP.hasR {C a : Nat → K} {L N : Nat} (h : CP C L a N) : Mk (fun i => - C (i + 1)) L a N := by
  intro n h1 h2
  have := h.2 n h1 h2
  rw [sg_head, h.1] at this
  have e : sg L (fun i => - C (i + 1) * a (n - 1 - i)) = sg L (fun i => (-1) * (C (i + 1) * a (n - (i + 1)))) := sg_congr fun i hi => by
    have : n - 1 - i = n - (i + 1) := by omega
    rw [this]; grind
  rw [e, sg_mul]
  grind
omit [Fld K] in
theorem Mk.cp {c a : Nat → K} {L N : Nat} (h : Mk c L a N) : CP (fun i => if i = 0 then 1 else - c (i - 1)) L a N := by
  refine ⟨by simp, fun n h1 h2 => ?_⟩
  rw [sg_head]
  have e : sg L (fun i => (if i + 1 = 0 then 1 else - c (i + 1 - 1)) * a (n - (i + 1))) = sg L (fun i => (-1) * (c i * a (n - 1 - i))) := sg_congr fun i hi => by
    have : n - 1 - i = n - (i + 1) := by omega
    rw [this, if_neg (by omega), Nat.add_sub_cancel]; grind
  rw [e, sg_mul, ← h n h1 h2]
  simp
  grind
/-- a rule that fails at the next place forbids short rules for it -/
theorem massey {c c' a : Nat → K} {L L' N : Nat} (h : Mk c L a N) (hL : L ≤ N) (hf : a N ≠ sg L fun i => c i * a (N - 1 - i)) (h' : Mk c' L' a (N + 1)) : N + 1 ≤ L + L' := by
  rcases Nat.lt_or_ge N (L + L') with hc | hc
  · omega
  · exfalso
    apply hf
    have e1 : sg L (fun i => c i * a (N - 1 - i)) = sg L (fun i => sg L' fun j => c i * (c' j * a (N - 1 - i - 1 - j))) := sg_congr fun i hi => by
      rw [sg_mul, ← h' (N - 1 - i) (by omega) (by omega)]
    have e2 : sg L' (fun j => c' j * a (N - 1 - j)) = sg L' (fun j => sg L fun i => c i * (c' j * a (N - 1 - i - 1 - j))) := sg_congr fun j hj => by
      rw [h (N - 1 - j) (by omega) (by omega), ← sg_mul]
      exact sg_congr fun i hi => by
        have : N - 1 - j - 1 - i = N - 1 - i - 1 - j := by omega
        rw [this]; grind
    rw [e1, sg_swap, ← e2]
    exact h' N (by omega) (by omega)
/-- a step of the search number by number -/
theorem bm_step {C B a : Nat → K} {L Lb m N : Nat} {b r : K} (h : CP C L a N) (hL : L ≤ N) (hC : ∀ i, L < i → C i = 0) (hB : CP B Lb a m) (hBs : ∀ i, Lb < i → B i = 0) (hm : m < N) (hLb : Lb ≤ m) (hb : sg (Lb + 1) (fun i => B i * a (m - i)) = b) (hr : b * r = 1) (hl : L + Lb = m + 1)
    {L' : Nat} (hL' : L' = max L (N + 1 - L)) {C' : Nat → K} (hC' : ∀ i, C' i = C i - (sg (L + 1) fun i => C i * a (N - i)) * r * (if N - m ≤ i then B (i - (N - m)) else 0)) :
    CP C' L' a (N + 1) ∧ ∀ i, L' < i → C' i = 0 := by
  generalize hd : (sg (L + 1) fun i => C i * a (N - i)) = d at hC'
  have hlo : N - m + Lb ≤ L' := by omega
  refine ⟨⟨?_, ?_⟩, ?_⟩
  · rw [hC', h.1, if_neg (by omega)]; grind
  · intro n h1 h2
    have e1 : sg (L' + 1) (fun i => C' i * a (n - i)) = sg (L' + 1) (fun i => C i * a (n - i)) - d * r * sg (L' + 1) (fun i => (if N - m ≤ i then B (i - (N - m)) else 0) * a (n - i)) := by
      rw [← sg_mul, ← sg_sub]
      exact sg_congr fun i hi => by rw [hC']; grind
    have e2 : sg (L' + 1) (fun i => C i * a (n - i)) = sg (L + 1) (fun i => C i * a (n - i)) := sg_more (by omega) fun i h3 h4 => by rw [hC i (by omega)]; grind
    have e3 : sg (L' + 1) (fun i => (if N - m ≤ i then B (i - (N - m)) else 0) * a (n - i)) = sg (Lb + 1) (fun i => B i * a (n - (N - m) - i)) := by
      have q : L' + 1 = (N - m) + (Lb + 1) + (L' - (N - m + Lb)) := by omega
      rw [q, sg_split, sg_split, sg_zero (n := N - m) fun i hi => by rw [if_neg (by omega)]; grind]
      rw [sg_zero (n := L' - (N - m + Lb)) fun i hi => by rw [if_pos (by omega), hBs _ (by omega)]; grind]
      have : sg (Lb + 1) (fun i => (if N - m ≤ N - m + i then B (N - m + i - (N - m)) else 0) * a (n - (N - m + i))) = sg (Lb + 1) (fun i => B i * a (n - (N - m) - i)) := sg_congr fun i hi => by
        have q1 : n - (N - m + i) = n - (N - m) - i := by omega
        rw [if_pos (by omega), Nat.add_sub_cancel_left, q1]
      rw [this]; grind
    rw [e1, e2, e3]
    rcases Nat.lt_or_ge n N with hn | hn
    · rw [h.2 n (by omega) hn, hB.2 (n - (N - m)) (by omega) (by omega)]; grind
    · have : n = N := by omega
      subst this
      have q2 : n - (n - m) = m := by omega
      rw [hd, q2, hb]; grind
  · intro i hi
    rw [hC', hC i (by omega), if_pos (by omega), hBs _ (by omega)]; grind
/-- the length of a row -/
def IsL (a : Nat → K) (N L : Nat) : Prop := HasR a N L ∧ ∀ L', HasR a N L' → L ≤ L'
omit [Fld K] in
theorem IsL.le {a : Nat → K} {N L : Nat} (h : IsL a N L) : L ≤ N := h.2 N (HasR.full a N)
omit [Fld K] in
theorem IsL.eq {a : Nat → K} {N L L' : Nat} (h : IsL a N L) (h' : IsL a N L') : L = L' := Nat.le_antisymm (h.2 _ h'.1) (h'.2 _ h.1)
omit [Fld K] in
theorem IsL.has {a : Nat → K} {N L L' : Nat} (h : IsL a N L) : HasR a N L' ↔ L ≤ L' := ⟨h.2 _, h.1.longer⟩
/-- what the search keeps -/
def BM (a : Nat → K) (N L : Nat) : Prop := IsL a N L ∧ ∃ C, CP C L a N ∧ (∀ i, L < i → C i = 0) ∧ (L = 0 ∨ ∃ B Lb m, CP B Lb a m ∧ (∀ i, Lb < i → B i = 0) ∧ m < N ∧ Lb ≤ m ∧ sg (Lb + 1) (fun i => B i * a (m - i)) ≠ 0 ∧ L + Lb = m + 1)
omit [Fld K] in
theorem CP.next {C a : Nat → K} {L N : Nat} (h : CP C L a N) (hd : sg (L + 1) (fun i => C i * a (N - i)) = 0) : CP C L a (N + 1) := ⟨h.1, fun n h1 h2 => by
  rcases Nat.lt_or_ge n N with hn | hn
  · exact h.2 n h1 hn
  · have : n = N := by omega
    subst this
    exact hd⟩
omit [Fld K] in
theorem cp_disc {C a : Nat → K} {L N : Nat} (h0 : C 0 = 1) : a N = sg L (fun i => - C (i + 1) * a (N - 1 - i)) ↔ sg (L + 1) (fun i => C i * a (N - i)) = 0 := by
  rw [sg_head, h0]
  have e : sg L (fun i => - C (i + 1) * a (N - 1 - i)) = sg L (fun i => (-1) * (C (i + 1) * a (N - (i + 1)))) := sg_congr fun i hi => by
    have : N - 1 - i = N - (i + 1) := by omega
    rw [this]; grind
  rw [e, sg_mul, Nat.sub_zero]
  constructor <;> intro h <;> grind
/-- the length after a failing number -/
theorem IsL.grow {a : Nat → K} {N L : Nat} {C : Nat → K} (h : IsL a N L) (hC : CP C L a N) (hd : sg (L + 1) (fun i => C i * a (N - i)) ≠ 0) (hn : HasR a (N + 1) (max L (N + 1 - L))) : IsL a (N + 1) (max L (N + 1 - L)) := by
  refine ⟨hn, fun L' h' => ?_⟩
  have h1 := h.2 L' (h'.mono (by omega))
  obtain ⟨c', h'⟩ := h'
  have := massey hC.hasR h.le (fun q => hd ((cp_disc hC.1).mp q)) h'
  omega
omit [Fld K] in
theorem CP.zero {C a : Nat → K} {N : Nat} (h : CP C 0 a N) : ∀ n, n < N → a n = 0 := fun n hn => by
  have := h.2 n (by omega) hn
  unfold sg sg at this
  simp only [h.1, Nat.sub_zero] at this
  grind
theorem BM.next {a : Nat → K} {N L : Nat} (h : BM a N L) : ∃ L', BM a (N + 1) L' ∧ ((HasR a (N + 1) L ∧ L' = L) ∨ (L' = max L (N + 1 - L) ∧ (2 * L ≤ N → ¬ HasR a (N + 1) L))) := by
  obtain ⟨hI, C, hC, hCs, hB⟩ := h
  have hL := hI.le
  by_cases hd : sg (L + 1) (fun i => C i * a (N - i)) = 0
  · have hn := hC.next hd
    refine ⟨L, ⟨⟨⟨_, hn.hasR⟩, fun L' h' => hI.2 L' (h'.mono (by omega))⟩, C, hn, hCs, ?_⟩, .inl ⟨⟨_, hn.hasR⟩, rfl⟩⟩
    rcases hB with h0 | ⟨B, Lb, m, h1, h2, h3, h4⟩
    · exact .inl h0
    · exact .inr ⟨B, Lb, m, h1, h2, by omega, h4⟩
  · have hfail : 2 * L ≤ N → ¬ HasR a (N + 1) L := fun h2 h3 => by
      obtain ⟨c', h3⟩ := h3
      have := massey hC.hasR hL (fun q => hd ((cp_disc hC.1).mp q)) h3
      omega
    have key : ∃ C', CP C' (max L (N + 1 - L)) a (N + 1) ∧ ∀ i, max L (N + 1 - L) < i → C' i = 0 := by
      rcases hB with h0 | ⟨B, Lb, m, h1, h2, h3, h4, h5, h6⟩
      · subst h0
        exact ⟨fun i => if i = 0 then 1 else 0, ⟨by simp, fun n h1 h2 => by omega⟩, fun i hi => by simp only; rw [if_neg (by omega)]⟩
      · obtain ⟨r, hr⟩ := Fld.inv _ h5
        exact ⟨_, bm_step hC hL hCs h1 h2 h3 h4 rfl hr h6 rfl (fun i => rfl)⟩
    obtain ⟨C', hC', hCs'⟩ := key
    have hN := hI.grow hC hd ⟨_, hC'.hasR⟩
    refine ⟨_, ⟨hN, C', hC', hCs', ?_⟩, .inr ⟨rfl, hfail⟩⟩
    rcases Nat.lt_or_ge N (2 * L) with hc | hc
    · rcases hB with h0 | ⟨B, Lb, m, h1, h2, h3, h4, h5, h6⟩
      · omega
      · have : max L (N + 1 - L) = L := by omega
        rw [this]
        exact .inr ⟨B, Lb, m, h1, h2, by omega, h4, h5, h6⟩
    · exact .inr ⟨C, L, N, hC, hCs, by omega, hL, hd, by omega⟩
theorem BM.exists (a : Nat → K) : ∀ N, ∃ L, BM a N L
  | 0 => ⟨0, ⟨⟨_, Mk.mono (N := 0) (c := fun _ => 0) (fun n h1 h2 => by omega) (Nat.le_refl _)⟩, fun L' _ => by omega⟩, fun i => if i = 0 then 1 else 0, ⟨by simp, fun n h1 h2 => by omega⟩, fun i hi => by simp only; rw [if_neg (by omega)], .inl rfl⟩
  | N + 1 => by
    obtain ⟨L, h⟩ := BM.exists a N
    obtain ⟨L', h', _⟩ := h.next
    exact ⟨L', h'⟩
theorem IsL.bm {a : Nat → K} {N L : Nat} (h : IsL a N L) : BM a N L := by
  obtain ⟨L', h'⟩ := BM.exists a N
  rw [h.eq h'.1]
  exact h'
/-- the next number -/
theorem IsL.next {a : Nat → K} {N L L' : Nat} (h : IsL a N L) (h' : IsL a (N + 1) L') : (HasR a (N + 1) L ∧ L' = L) ∨ (¬ HasR a (N + 1) L ∧ 2 * L ≤ N ∧ L' = N + 1 - L) := by
  obtain ⟨M, hM, hc⟩ := h.bm.next
  have e := h'.eq hM.1
  subst e
  rcases hc with hc | ⟨h1, h2⟩
  · exact .inl hc
  · rcases Nat.lt_or_ge N (2 * L) with hl | hl
    · left
      have : L' = L := by omega
      subst this
      exact ⟨h'.1, rfl⟩
    · exact .inr ⟨h2 hl, hl, by omega⟩
end field
end Rr

set_option linter.all false
set_option Elab.async false
set_option maxHeartbeats 400000
/-! Two rules, dependence, rows made of rows. -/
namespace Rr
section field
variable {K : Type} [Lean.Grind.CommRing K] [Fld K]

/-- a rule that makes the beginning makes all, if another one does -/
theorem Mk.ext {f c a : Nat → K} {Lf L M N : Nat} (hf : Mk f Lf a M) (hc : Mk c L a N) (h : Lf + L ≤ M) : Mk f Lf a N := by
  have key : ∀ k, M + k ≤ N → Mk f Lf a (M + k) := by
    intro k
    induction k with
    | zero => intro _; exact hf
    | succ k ih =>
      intro hk
      have h1 := ih (by omega)
      intro n hn1 hn2
      by_cases hn : n < M + k
      · exact h1 n hn1 hn
      · have : n = M + k := by omega
        subst this
        refine Classical.byContradiction fun hne => ?_
        have := massey h1 (by omega) hne (hc.mono (M := M + k + 1) (by omega))
        omega
  by_cases hMN : N ≤ M
  · exact hf.mono hMN
  · have := key (N - M) (by omega)
    rwa [show M + (N - M) = N by omega] at this
/-- rows with short rules that agree on the first numbers are equal -/
theorem agree {c c' a b : Nat → K} {L L' N : Nat} (ha : Mk c L a N) (hb : Mk c' L' b N) (h : ∀ n, n < L + L' → n < N → a n = b n) : ∀ n, n < N → a n = b n := by
  intro n
  induction n using Nat.strongRecOn with
  | _ n ih =>
    intro hn
    by_cases hl : n < L + L'
    · exact h n hl hn
    · have hb' : Mk c' L' a n := fun m h1 h2 => by
        rw [ih m h2 (by omega), hb m h1 (by omega)]
        exact sg_congr fun i hi => by rw [ih (m - 1 - i) (by omega) (by omega)]
      have := hb'.ext (ha.mono (M := n + 1) (by omega)) (by omega) n (by omega) (by omega)
      rw [this, hb n (by omega) hn]
      exact sg_congr fun i hi => by rw [ih (n - 1 - i) (by omega) (by omega)]
/-- the rule of a row of many numbers is unique -/
theorem rule_unique {c c' a : Nat → K} {L N : Nat} (hI : IsL a N L) (h : Mk c L a N) (h' : Mk c' L a N) (hN : 2 * L ≤ N) : ∀ i, i < L → c i = c' i := by
  refine Classical.byContradiction fun hne => ?_
  have hex : ∃ i, i < L ∧ c i ≠ c' i := Classical.byContradiction fun q => hne fun i hi => Classical.byContradiction fun r => q ⟨i, hi, r⟩
  -- the first one
  have hfirst : ∃ k, k < L ∧ c k ≠ c' k ∧ ∀ i, i < k → c i = c' i := by
    obtain ⟨i, hi, hc⟩ := hex
    induction i using Nat.strongRecOn with
    | _ i ih =>
      by_cases q : ∃ j, j < i ∧ c j ≠ c' j
      · obtain ⟨j, h1, h2⟩ := q
        exact ih j h1 (by omega) h2
      · exact ⟨i, hi, hc, fun j hj => Classical.byContradiction fun r => q ⟨j, hj, r⟩⟩
  obtain ⟨k, hk, hck, hlt⟩ := hfirst
  have hek : c k - c' k ≠ 0 := fun q => hck (by grind)
  obtain ⟨r, hr⟩ := Fld.inv _ hek
  have hM : Mk (fun i => - r * (c (k + 1 + i) - c' (k + 1 + i))) (L - 1 - k) a (N - 1 - k) := by
    intro m h1 h2
    have e := (h (m + 1 + k) (by omega) (by omega)).symm.trans (h' (m + 1 + k) (by omega) (by omega))
    have q : L = k + (1 + (L - 1 - k)) := by omega
    have e0 : sg L (fun i => (c i - c' i) * a (m + 1 + k - 1 - i)) = 0 := by
      have : sg L (fun i => (c i - c' i) * a (m + 1 + k - 1 - i)) = sg L (fun i => c i * a (m + 1 + k - 1 - i)) - sg L (fun i => c' i * a (m + 1 + k - 1 - i)) := by
        rw [← sg_sub]; exact sg_congr fun i hi => by grind
      rw [this, e]; grind
    rw [q, sg_split, sg_zero (n := k) fun i hi => by rw [hlt i hi]; grind, Nat.add_comm 1, sg_head] at e0
    have e1 : sg (L - 1 - k) (fun i => (c (k + (i + 1)) - c' (k + (i + 1))) * a (m + 1 + k - 1 - (k + (i + 1)))) = sg (L - 1 - k) (fun i => (c (k + 1 + i) - c' (k + 1 + i)) * a (m - 1 - i)) := sg_congr fun i hi => by
      have q1 : k + (i + 1) = k + 1 + i := by omega
      have q2 : m + 1 + k - 1 - (k + 1 + i) = m - 1 - i := by omega
      rw [q1, q2]
    have e2 : sg (L - 1 - k) (fun i => - r * (c (k + 1 + i) - c' (k + 1 + i)) * a (m - 1 - i)) = - r * sg (L - 1 - k) (fun i => (c (k + 1 + i) - c' (k + 1 + i)) * a (m - 1 - i)) := by
      rw [← sg_mul]; exact sg_congr fun i hi => by grind
    have q3 : m + 1 + k - 1 - (k + 0) = m := by omega
    rw [e1, q3, Nat.add_zero] at e0
    rw [e2]
    grind
  have hA := hM.ext h (by omega)
  have := hI.2 _ ⟨_, hA⟩
  omega
/-- too many vectors are dependent -/
theorem dep : ∀ (d m : Nat) (v : Nat → Nat → K), d < m → ∃ c : Nat → K, (∃ i, i < m ∧ c i ≠ 0) ∧ ∀ j, j < d → sg m (fun i => c i * v i j) = 0
  | 0, m, v, h => ⟨fun _ => 1, ⟨0, h, Fld.one_ne⟩, fun j hj => by omega⟩
  | d + 1, m, v, h => by
    by_cases hv : ∃ i0, i0 < m ∧ v i0 d ≠ 0
    · obtain ⟨i0, hi0, hne⟩ := hv
      obtain ⟨r, hr⟩ := Fld.inv _ hne
      obtain ⟨n, rfl⟩ : ∃ n, m = n + 1 := ⟨m - 1, by omega⟩
      let σ : Nat → Nat := fun i => if i < i0 then i else i + 1
      obtain ⟨c, ⟨i1, h1, h2⟩, h3⟩ := dep d n (fun i j => v (σ i) j - v (σ i) d * r * v i0 j) (by omega)
      refine ⟨fun i => if i = i0 then - sg n (fun i => c i * (v (σ i) d * r)) else c (if i < i0 then i else i - 1), ⟨σ i1, ?_, ?_⟩, ?_⟩
      · show (if i1 < i0 then i1 else i1 + 1) < n + 1
        split <;> omega
      · show (if σ i1 = i0 then _ else _) ≠ 0
        have : σ i1 ≠ i0 := by show (if i1 < i0 then i1 else i1 + 1) ≠ i0; split <;> omega
        rw [if_neg this]
        have q : (if σ i1 < i0 then σ i1 else σ i1 - 1) = i1 := by
          show (if (if i1 < i0 then i1 else i1 + 1) < i0 then (if i1 < i0 then i1 else i1 + 1) else (if i1 < i0 then i1 else i1 + 1) - 1) = i1
          by_cases hq : i1 < i0
          · simp only [if_pos hq]
          · simp only [if_neg hq]; rw [if_neg (by omega)]; omega
        rw [q]; exact h2
      · intro j hj
        rw [sg_skip (j := i0) (by omega)]
        have e1 : sg n (fun i => (if (if i < i0 then i else i + 1) = i0 then - sg n (fun i => c i * (v (σ i) d * r)) else c (if (if i < i0 then i else i + 1) < i0 then (if i < i0 then i else i + 1) else (if i < i0 then i else i + 1) - 1)) * v (if i < i0 then i else i + 1) j) = sg n (fun i => c i * v (σ i) j) := sg_congr fun i hi => by
          by_cases hq : i < i0
          · simp only [if_pos hq]
            rw [if_neg (by omega)]
            show _ = c i * v (if i < i0 then i else i + 1) j
            rw [if_pos hq]
          · simp only [if_neg hq]
            rw [if_neg (by omega), if_neg (by omega), Nat.add_sub_cancel]
            show _ = c i * v (if i < i0 then i else i + 1) j
            rw [if_neg hq]
        rw [e1]
        simp only [if_true]
        by_cases hjd : j < d
        · have := h3 j hjd
          have e2 : sg n (fun i => c i * (v (σ i) j - v (σ i) d * r * v i0 j)) = sg n (fun i => c i * v (σ i) j) - v i0 j * sg n (fun i => c i * (v (σ i) d * r)) := by
            rw [← sg_mul, ← sg_sub]; exact sg_congr fun i hi => by grind
          rw [e2] at this
          grind
        · have : j = d := by omega
          subst this
          have e2 : sg n (fun i => c i * (v (σ i) j * r)) = r * sg n (fun i => c i * v (σ i) j) := by
            rw [← sg_mul]; exact sg_congr fun i hi => by grind
          rw [e2]
          grind
    · obtain ⟨c, h1, h2⟩ := dep d m v (by omega)
      refine ⟨c, h1, fun j hj => ?_⟩
      by_cases hjd : j < d
      · exact h2 j hjd
      · have : j = d := by omega
        subst this
        exact sg_zero fun i hi => by
          have : v i j = 0 := Classical.byContradiction fun q => hv ⟨i, hi, q⟩
          rw [this]; grind
omit [Lean.Grind.CommRing K] [Fld K] in
theorem top_index {P : Nat → Prop} : ∀ m, (∃ i, i < m ∧ P i) → ∃ k, k < m ∧ P k ∧ ∀ i, k < i → i < m → ¬ P i
  | 0, h => by obtain ⟨i, h, _⟩ := h; omega
  | m + 1, h => by
    by_cases q : P m
    · exact ⟨m, by omega, q, fun i h1 h2 => by omega⟩
    · obtain ⟨i, h1, h2⟩ := h
      have : i ≠ m := fun e => q (e ▸ h2)
      obtain ⟨k, h3, h4, h5⟩ := top_index m ⟨i, by omega, h2⟩
      refine ⟨k, by omega, h4, fun i h6 h7 => ?_⟩
      by_cases hi : i = m
      · rw [hi]; exact q
      · exact h5 i h6 (by omega)
/-- a row whose numbers are sums over D state numbers has a rule of length D -/
theorem rule_of_state (s : Nat → K) (D : Nat) (w g : Nat → Nat → K) (h : ∀ n j, s (n + j) = sg D (fun i => w j i * g n i)) (N : Nat) : HasR s N D := by
  obtain ⟨c, hne, hz⟩ := dep D (D + 1) w (by omega)
  obtain ⟨k, hk, hck, htop⟩ := top_index (D + 1) hne
  obtain ⟨r, hr⟩ := Fld.inv _ hck
  have hz2 : ∀ n, sg (k + 1) (fun j => c j * s (n + j)) = 0 := by
    intro n
    have e1 : sg (D + 1) (fun j => c j * s (n + j)) = 0 := by
      have : sg (D + 1) (fun j => c j * s (n + j)) = sg D (fun i => g n i * sg (D + 1) (fun j => c j * w j i)) := by
        have e2 : sg (D + 1) (fun j => c j * s (n + j)) = sg (D + 1) (fun j => sg D fun i => c j * (w j i * g n i)) := sg_congr fun j hj => by rw [h, sg_mul]
        rw [e2, sg_swap]
        exact sg_congr fun i hi => by rw [← sg_mul]; exact sg_congr fun j hj => by grind
      rw [this]
      exact sg_zero fun i hi => by rw [hz i hi]; grind
    rw [← e1]
    exact (sg_more (by omega) fun i h1 h2 => by
      have : c i = 0 := Classical.byContradiction (htop i (by omega) h2)
      rw [this]; grind).symm
  refine HasR.longer (L := k) ⟨fun i => - r * c (k - 1 - i), fun n h1 h2 => ?_⟩ (by omega)
  have e := hz2 (n - k)
  unfold sg at e
  have q : n - k + k = n := by omega
  simp only [q] at e
  have e3 : ∀ (f : Nat → K), sg k f = sg k (fun i => f (k - 1 - i)) := by
    intro f
    clear e q h1 htop hck hr hz2 hk
    induction k generalizing f with
    | zero => rfl
    | succ k ih =>
      rw [sg_head k (fun i => f (k + 1 - 1 - i))]
      show sg k f + f k = _
      rw [ih f]
      have : sg k (fun i => f (k + 1 - 1 - (i + 1))) = sg k (fun i => f (k - 1 - i)) := sg_congr fun i hi => by
        have : k + 1 - 1 - (i + 1) = k - 1 - i := by omega
        rw [this]
      rw [this]
      simp
      grind
  have e4 : sg k (fun i => - r * c (k - 1 - i) * s (n - 1 - i)) = - r * sg k (fun j => c j * s (n - k + j)) := by
    rw [e3 (fun j => c j * s (n - k + j)), ← sg_mul]
    exact sg_congr fun i hi => by
      have : n - 1 - i = n - k + (k - 1 - i) := by omega
      rw [this]; grind
  rw [e4]
  grind
/-- the first numbers, last one first, of the endless row -/
def hist (c : Nat → K) (L : Nat) (a : Nat → K) : Nat → List K
  | 0 => []
  | n + 1 => (if n < L then a n else sg L (fun i => c i * (hist c L a n).getD i 0)) :: hist c L a n
def endless (c : Nat → K) (L : Nat) (a : Nat → K) (n : Nat) : K := (hist c L a (n + 1)).getD 0 0
omit [Fld K] in
theorem hist_get (c : Nat → K) (L : Nat) (a : Nat → K) : ∀ n i, i < n → (hist c L a n).getD i 0 = endless c L a (n - 1 - i)
  | 0, i, h => by omega
  | n + 1, 0, h => rfl
  | n + 1, i + 1, h => by
    show (_ :: hist c L a n).getD (i + 1) 0 = _
    rw [List.getD_cons_succ, hist_get c L a n i (by omega)]
    congr 1
    omega
omit [Fld K] in
theorem endless_mk (c : Nat → K) (L : Nat) (a : Nat → K) (N : Nat) : Mk c L (endless c L a) N := by
  intro n h1 h2
  show (hist c L a (n + 1)).getD 0 0 = _
  unfold hist
  rw [List.getD_cons_zero, if_neg (by omega)]
  exact sg_congr fun i hi => by rw [hist_get c L a n i (by omega)]
omit [Fld K] in
theorem endless_eq {c a : Nat → K} {L N : Nat} (h : Mk c L a N) : ∀ n, n < N → endless c L a n = a n := by
  intro n
  induction n using Nat.strongRecOn with
  | _ n ih =>
    intro hn
    by_cases hl : n < L
    · show (hist c L a (n + 1)).getD 0 0 = _
      unfold hist
      rw [List.getD_cons_zero, if_pos hl]
    · rw [endless_mk c L a (n + 1) n (by omega) (by omega), h n (by omega) hn]
      exact sg_congr fun i hi => by rw [ih (n - 1 - i) (by omega) (by omega)]
/-- the numbers j places later, by the L numbers from a place on -/
def vec (c : Nat → K) (L : Nat) : Nat → Nat → K
  | 0, i => if i = 0 then 1 else 0
  | j + 1, i => (if 0 < i then vec c L j (i - 1) else 0) + vec c L j (L - 1) * c (L - 1 - i)
omit [Fld K] in
theorem vec_eq {c a : Nat → K} {L : Nat} (h : ∀ N, Mk c L a N) (hL : 0 < L) : ∀ j n, a (n + j) = sg L (fun i => vec c L j i * a (n + i))
  | 0, n => by
    rw [sg_one (j := 0) hL fun i h1 h2 => by show (if i = 0 then 1 else 0) * a (n + i) = 0; rw [if_neg h2]; grind]
    show a n = (if 0 = 0 then 1 else 0) * a (n + 0)
    rw [if_pos rfl, Nat.add_zero]; grind
  | j + 1, n => by
    have q : n + (j + 1) = (n + 1) + j := by omega
    rw [q, vec_eq h hL j (n + 1)]
    obtain ⟨M, rfl⟩ : ∃ M, L = M + 1 := ⟨L - 1, by omega⟩
    have e1 : sg (M + 1) (fun i => vec c (M + 1) j i * a (n + 1 + i)) = sg M (fun i => vec c (M + 1) j i * a (n + 1 + i)) + vec c (M + 1) j M * a (n + 1 + M) := rfl
    have e2 := h (n + 1 + M + 1) (n + 1 + M) (by omega) (by omega)
    have e3 : sg (M + 1) (fun i => vec c (M + 1) (j + 1) i * a (n + i)) = sg (M + 1) (fun i => (if 0 < i then vec c (M + 1) j (i - 1) else 0) * a (n + i)) + vec c (M + 1) j M * sg (M + 1) (fun i => c (M - i) * a (n + i)) := by
      rw [← sg_mul, ← sg_add]
      refine sg_congr fun i hi => ?_
      show ((if 0 < i then vec c (M + 1) j (i - 1) else 0) + vec c (M + 1) j (M + 1 - 1) * c (M + 1 - 1 - i)) * a (n + i) = _
      rw [Nat.add_sub_cancel]; grind
    have e4 : sg (M + 1) (fun i => (if 0 < i then vec c (M + 1) j (i - 1) else 0) * a (n + i)) = sg M (fun i => vec c (M + 1) j i * a (n + 1 + i)) := by
      rw [sg_head]
      simp only [Nat.lt_irrefl, if_false]
      have : sg M (fun i => (if 0 < i + 1 then vec c (M + 1) j (i + 1 - 1) else 0) * a (n + (i + 1))) = sg M (fun i => vec c (M + 1) j i * a (n + 1 + i)) := sg_congr fun i hi => by
        have : n + (i + 1) = n + 1 + i := by omega
        rw [if_pos (by omega), this, Nat.add_sub_cancel]
      rw [this]; grind
    have e5 : sg (M + 1) (fun i => c (M - i) * a (n + i)) = a (n + 1 + M) := by
      rw [e2]
      have : ∀ (k : Nat) (f : Nat → K), sg (k + 1) f = sg (k + 1) (fun i => f (k - i)) := by
        intro k
        induction k with
        | zero => intro f; rfl
        | succ k ih =>
          intro f
          rw [sg_head (k + 1) (fun i => f (k + 1 - i))]
          show sg (k + 1) f + f (k + 1) = _
          rw [ih f]
          have : sg (k + 1) (fun i => f (k + 1 - (i + 1))) = sg (k + 1) (fun i => f (k - i)) := sg_congr fun i hi => by
            have : k + 1 - (i + 1) = k - i := by omega
            rw [this]
          rw [this]
          simp
          grind
      rw [this M (fun i => c (M - i) * a (n + i))]
      refine sg_congr fun i hi => ?_
      have q1 : M - (M - i) = i := by omega
      have q2 : n + 1 + M - 1 - i = n + (M - i) := by omega
      rw [q1, q2]
    rw [e1, e3, e4, e5]
omit [Fld K] in
theorem vec_all {c a : Nat → K} {L : Nat} (h : ∀ N, Mk c L a N) (j n : Nat) : a (n + j) = sg L (fun i => vec c L j i * a (n + i)) := by
  by_cases hL : 0 < L
  · exact vec_eq h hL j n
  · have : L = 0 := by omega
    subst this
    exact h (n + j + 1) (n + j) (by omega) (by omega)
omit [Fld K] in
theorem HasR.congr {a b : Nat → K} {N L : Nat} (h : HasR a N L) (e : ∀ n, n < N → a n = b n) : HasR b N L := by
  obtain ⟨c, h⟩ := h
  refine ⟨c, fun n h1 h2 => ?_⟩
  rw [← e n h2, h n h1 h2]
  exact sg_congr fun i hi => by rw [e (n - 1 - i) (by omega)]
theorem HasR.add {a b : Nat → K} {N L L' : Nat} (h : HasR a N L) (h' : HasR b N L') : HasR (fun n => a n + b n) N (L + L') := by
  obtain ⟨c, h⟩ := h
  obtain ⟨c', h'⟩ := h'
  have h1 := endless_mk c L a
  have h2 := endless_mk c' L' b
  refine HasR.congr (a := fun n => endless c L a n + endless c' L' b n) ?_ fun n hn => by rw [endless_eq h n hn, endless_eq h' n hn]
  refine rule_of_state _ (L + L') (fun j i => if i < L then vec c L j i else vec c' L' j (i - L)) (fun n i => if i < L then endless c L a (n + i) else endless c' L' b (n + (i - L))) (fun n j => ?_) N
  rw [sg_split, vec_all h1 j n, vec_all h2 j n]
  congr 1
  · exact sg_congr fun i hi => by simp only [if_pos hi]
  · exact sg_congr fun i hi => by simp only [if_neg (show ¬ (L + i < L) by omega), Nat.add_sub_cancel_left]
omit [Fld K] in
theorem sg_prod (n m : Nat) (f : Nat → K) : sg (n * m) f = sg n (fun i => sg m (fun j => f (i * m + j))) := by
  induction n with
  | zero => rw [Nat.zero_mul]; rfl
  | succ n ih => rw [Nat.add_mul, Nat.one_mul, sg_split, ih]; rfl
omit [Fld K] in
theorem sg_mul_sg (n m : Nat) (f g : Nat → K) : sg n f * sg m g = sg n (fun i => sg m (fun j => f i * g j)) := by
  have : sg n (fun i => sg m (fun j => f i * g j)) = sg n (fun i => sg m g * f i) := sg_congr fun i hi => by rw [sg_mul]; grind
  rw [this, sg_mul]; grind
theorem HasR.mul {a b : Nat → K} {N L L' : Nat} (h : HasR a N L) (h' : HasR b N L') : HasR (fun n => a n * b n) N (L * L') := by
  obtain ⟨c, h⟩ := h
  obtain ⟨c', h'⟩ := h'
  have h1 := endless_mk c L a
  have h2 := endless_mk c' L' b
  refine HasR.congr (a := fun n => endless c L a n * endless c' L' b n) ?_ fun n hn => by rw [endless_eq h n hn, endless_eq h' n hn]
  refine rule_of_state _ (L * L') (fun j i => vec c L j (i / L') * vec c' L' j (i % L')) (fun n i => endless c L a (n + i / L') * endless c' L' b (n + i % L')) (fun n j => ?_) N
  rw [sg_prod, vec_all h1 j n, vec_all h2 j n, sg_mul_sg]
  refine sg_congr fun i hi => sg_congr fun k hk => ?_
  have q1 : (i * L' + k) / L' = i := by
    rw [Nat.mul_comm, Nat.mul_add_div (by omega), Nat.div_eq_of_lt hk]; omega
  have q2 : (i * L' + k) % L' = k := by
    rw [Nat.mul_comm, Nat.mul_add_mod, Nat.mod_eq_of_lt hk]
  rw [q1, q2]; grind
theorem HasR.sums {a : Nat → K} {N L : Nat} (h : HasR a N L) : HasR (fun n => sg (n + 1) a) N (L + 1) := by
  obtain ⟨c, h⟩ := h
  have h1 := endless_mk c L a
  refine HasR.congr (a := fun n => sg (n + 1) (endless c L a)) ?_ fun n hn => sg_congr fun i hi => endless_eq h i (by omega)
  refine rule_of_state _ (L + 1) (fun j i => if i = 0 then 1 else sg j (fun t => vec c L t (i - 1))) (fun n i => if i = 0 then sg (n + 1) (endless c L a) else endless c L a (n + 1 + (i - 1))) (fun n j => ?_) N
  rw [sg_head L]
  have q : n + j + 1 = n + 1 + j := by omega
  show sg (n + j + 1) (endless c L a) = (if 0 = 0 then 1 else sg j (fun t => vec c L t (0 - 1))) * (if 0 = 0 then sg (n + 1) (endless c L a) else endless c L a (n + 1 + (0 - 1))) + _
  rw [if_pos rfl, if_pos rfl, q, sg_split]
  have e : sg L (fun i => (if i + 1 = 0 then 1 else sg j (fun t => vec c L t (i + 1 - 1))) * (if i + 1 = 0 then sg (n + 1) (endless c L a) else endless c L a (n + 1 + (i + 1 - 1)))) = sg j (fun t => endless c L a (n + 1 + t)) := by
    have e1 : sg j (fun t => endless c L a (n + 1 + t)) = sg j (fun t => sg L (fun i => vec c L t i * endless c L a (n + 1 + i))) := sg_congr fun t ht => vec_all h1 t (n + 1)
    rw [e1, sg_swap]
    refine sg_congr fun i hi => ?_
    rw [if_neg (by omega), if_neg (by omega), Nat.add_sub_cancel]
    have : sg j (fun t => vec c L t i * endless c L a (n + 1 + i)) = sg j (fun t => endless c L a (n + 1 + i) * vec c L t i) := sg_congr fun t ht => by grind
    rw [this, sg_mul]; grind
  rw [e]; grind
theorem HasR.every {a : Nat → K} {N M L k : Nat} (h : HasR a N L) (hM : ∀ n, n < M → k * n < N) : HasR (fun n => a (k * n)) M L := by
  obtain ⟨c, h⟩ := h
  have h1 := endless_mk c L a
  refine HasR.congr (a := fun n => endless c L a (k * n)) ?_ fun n hn => endless_eq h _ (hM n hn)
  exact rule_of_state _ L (fun j i => vec c L (k * j) i) (fun n i => endless c L a (k * n + i)) (fun n j => by
    rw [Nat.mul_add]; exact vec_all h1 _ _) M
omit [Fld K] in
theorem HasR.tail {a : Nat → K} {N L : Nat} (k : Nat) (h : HasR a N L) : HasR (fun n => a (n + k)) (N - k) L := by
  obtain ⟨c, h⟩ := h
  refine ⟨c, fun n h1 h2 => ?_⟩
  refine (h (n + k) (by omega) (by omega)).trans (sg_congr fun i hi => ?_)
  simp only
  have : n + k - 1 - i = n - 1 - i + k := by omega
  rw [this]
omit [Fld K] in
theorem HasR.zero_front {a b : Nat → K} {N L : Nat} (h : HasR a N L) (hb : ∀ n, b (n + 1) = a n) : HasR b (N + 1) (L + 1) := by
  obtain ⟨c, h⟩ := h
  refine ⟨fun i => if i < L then c i else 0, fun n h1 h2 => ?_⟩
  obtain ⟨m, rfl⟩ : ∃ m, n = m + 1 := ⟨n - 1, by omega⟩
  rw [hb, h m (by omega) (by omega)]
  show _ = sg L (fun i => (if i < L then c i else 0) * b (m + 1 - 1 - i)) + (if L < L then c L else 0) * b (m + 1 - 1 - L)
  rw [if_neg (by omega)]
  have : sg L (fun i => (if i < L then c i else 0) * b (m + 1 - 1 - i)) = sg L (fun i => c i * a (m - 1 - i)) := sg_congr fun i hi => by
    have : m + 1 - 1 - i = (m - 1 - i) + 1 := by omega
    rw [if_pos hi, this, hb]
  rw [this]; grind
omit [Fld K] in
theorem Mk.scale {c a : Nat → K} {N L : Nat} (h : Mk c L a N) (r : K) : Mk c L (fun n => r * a n) N := fun n h1 h2 => by
  have : sg L (fun i => c i * (r * a (n - 1 - i))) = sg L (fun i => r * (c i * a (n - 1 - i))) := sg_congr fun i hi => by grind
  rw [this, sg_mul, ← h n h1 h2]
end field
end Rr

set_option linter.all false
set_option Elab.async false
set_option maxRecDepth 100000
set_option maxHeartbeats 1000000
/-! Ints modulo a prime. -/
namespace Rr
open Lean.Grind in
/-- ints read modulo p -/
structure Hm (p : Int) (K : Type) [CommRing K] where
  φ : Int → K
  add : ∀ x y, φ (x + y) = φ x + φ y
  mul : ∀ x y, φ (x * y) = φ x * φ y
  zero : φ 0 = 0
  one : φ 1 = 1
  eq : ∀ x y, φ x = φ y ↔ x % p = y % p
  rep : K → Int
  lo : ∀ k, 0 ≤ rep k
  hi : ∀ k, rep k < p
  φrep : ∀ k, φ (rep k) = k
section
variable {p : Int} {K : Type} [Lean.Grind.CommRing K] (H : Hm p K)
theorem Hm.neg (x : Int) : H.φ (-x) = - H.φ x := by
  have := H.add x (-x)
  rw [Int.add_right_neg, H.zero] at this
  grind
theorem Hm.sub (x y : Int) : H.φ (x - y) = H.φ x - H.φ y := by
  rw [Int.sub_eq_add_neg, H.add, H.neg]; grind
theorem Hm.mod (x : Int) : H.φ (x % p) = H.φ x := (H.eq _ _).mpr (Int.emod_emod_of_dvd x (Int.dvd_refl p))
theorem Hm.inj {x y : Int} (hx : 0 ≤ x ∧ x < p) (hy : 0 ≤ y ∧ y < p) : H.φ x = H.φ y ↔ x = y := by
  rw [H.eq, Int.emod_eq_of_lt hx.1 hx.2, Int.emod_eq_of_lt hy.1 hy.2]
theorem Hm.z {x : Int} (hp : 0 < p) : H.φ x = 0 ↔ x % p = 0 := by
  rw [← H.zero, H.eq]; simp
theorem Hm.z' {x : Int} (hx : 0 ≤ x ∧ x < p) : H.φ x = 0 ↔ x = 0 := by
  rw [← H.zero]; exact H.inj hx ⟨by omega, by omega⟩
end
open Lean.Grind in
theorem hm_fin (n : Nat) [NeZero n] : Nonempty (Hm n (Fin n)) := ⟨
  { φ := fun x => (@IntCast.intCast (Fin n) Ring.intCast x)
    add := fun x y => Ring.intCast_add x y
    mul := fun x y => Ring.intCast_mul x y
    zero := Ring.intCast_zero
    one := Ring.intCast_one
    eq := fun x y => IsCharP.intCast_ext_iff n
    rep := fun k => (k.val : Int)
    lo := fun k => by omega
    hi := fun k => by have := k.isLt; omega
    φrep := fun k => by
      have h1 := Ring.intCast_natCast (α := Fin n) k.val
      refine Eq.trans h1 ?_
      exact Fin.ext (by
        show (k.val : Nat) % n = k.val
        exact Nat.mod_eq_of_lt k.isLt) }⟩
theorem field_of {p : Int} (hp : prm p) : ∃ (K : Type) (_ : Lean.Grind.CommRing K) (_ : Fld K), Nonempty (Hm p K) := by
  rcases hp with rfl | rfl | rfl | rfl
  · exact ⟨Fin 2, inferInstance, ⟨by decide, by decide⟩, hm_fin 2⟩
  · exact ⟨Fin 3, inferInstance, ⟨by decide, by decide⟩, hm_fin 3⟩
  · exact ⟨Fin 5, inferInstance, ⟨by decide, by decide⟩, hm_fin 5⟩
  · exact ⟨Fin 7, inferInstance, ⟨by decide, by decide⟩, hm_fin 7⟩
end Rr

set_option linter.all false
set_option Elab.async false
set_option maxRecDepth 100000
set_option maxHeartbeats 1000000
/-! Rules and lengths of lists of ints. -/
namespace Rr
section
variable {p : Int} {K : Type} [Lean.Grind.CommRing K] (H : Hm p K)
def sq (l : List Int) (n : Nat) : K := H.φ (nthI l n)
theorem φ_dot : ∀ (a b : List Int), a.length ≤ b.length → H.φ (dot a b) = sg a.length (fun i => sq H a i * sq H b i)
  | [], b, _ => by rw [dot_zero_l, H.zero]; rfl
  | x :: a, [], h => by simp at h
  | x :: a, y :: b, h => by
    rw [dot_cons, H.add, H.mul, φ_dot a b (by simpa using h), List.length_cons, sg_head]
    congr 1
    all_goals first | rfl | exact sg_congr fun i _ => by simp only [sq, nthI_cons_succ]
theorem φ_nxt {rule l : List Int} (h : rule.length ≤ l.length) : H.φ (nxt p rule l) = sg rule.length (fun i => sq H rule i * sq H l (l.length - 1 - i)) := by
  unfold nxt
  rw [H.mod, φ_dot H _ _ (by simpa using h)]
  exact sg_congr fun i hi => by simp only [sq]; rw [nthI_reverse (by omega)]
theorem fits_mk {rule row : List Int} (hp : 0 < p) (hr : fld p row) : fitsB p rule row = true ↔ Mk (sq H rule) rule.length (sq H row) row.length := by
  unfold fitsB
  rw [List.all_eq_true]
  have key : ∀ n, rule.length ≤ n → n < row.length → (nxt p rule (row.take n) = nthI row n ↔ sq H row n = sg rule.length fun i => sq H rule i * sq H row (n - 1 - i)) := by
    intro n h1 h2
    rw [← H.inj (fld_nxt hp _ _) (hr.nth h2), φ_nxt H (by simp; omega)]
    have : sg rule.length (fun i => sq H rule i * sq H (row.take n) ((row.take n).length - 1 - i)) = sg rule.length (fun i => sq H rule i * sq H row (n - 1 - i)) := sg_congr fun i hi => by
      rw [List.length_take, Nat.min_eq_left (by omega)]
      simp only [sq]
      rw [nthI_take (by omega)]
    rw [this]
    exact ⟨fun h => h.symm, fun h => h.symm⟩
  constructor
  · intro h n h1 h2
    have := h (n - rule.length) (List.mem_range.mpr (by omega))
    rw [decide_eq_true_eq, show rule.length + (n - rule.length) = n by omega] at this
    exact (key n h1 h2).mp this
  · intro h j hj
    have hj := List.mem_range.mp hj
    rw [decide_eq_true_eq]
    exact (key _ (by omega) (by omega)).mpr (h _ (by omega) (by omega))
/-- a list of numbers by a function -/
def lstOf (c : Nat → K) (L : Nat) : List Int := (List.range L).map fun i => H.rep (c i)
theorem lstOf_len (c : Nat → K) (L : Nat) : (lstOf H c L).length = L := by simp [lstOf]
theorem lstOf_fld (c : Nat → K) (L : Nat) : fld p (lstOf H c L) := fun x hx => by
  obtain ⟨i, _, rfl⟩ := List.mem_map.mp hx
  exact ⟨H.lo _, H.hi _⟩
theorem lstOf_sq (c : Nat → K) {L i : Nat} (h : i < L) : sq H (lstOf H c L) i = c i := by
  unfold sq
  rw [nthI_get (by simpa [lstOf] using h)]
  simp [lstOf, H.φrep]
theorem mk_congr {c c' a : Nat → K} {L N : Nat} (h : ∀ i, i < L → c i = c' i) (m : Mk c L a N) : Mk c' L a N := fun n h1 h2 => by
  rw [m n h1 h2]
  exact sg_congr fun i hi => by rw [h i hi]
end
/-- there is a rule of a length that makes all rows -/
def HasI (p : Int) (rows : List (List Int)) (L : Nat) : Prop := ∃ rule, rule.length = L ∧ fld p rule ∧ ∀ row ∈ rows, fitsB p rule row = true
def IsLen (p : Int) (rows : List (List Int)) (L : Nat) : Prop := HasI p rows L ∧ ∀ L', HasI p rows L' → L ≤ L'
theorem least_nat (P : Nat → Prop) : ∀ n, P n → ∃ m, P m ∧ ∀ k, P k → m ≤ k := by
  intro n
  induction n using Nat.strongRecOn with
  | _ n ih =>
    intro h
    by_cases q : ∃ k, k < n ∧ P k
    · obtain ⟨k, h1, h2⟩ := q
      exact ih k h1 h2
    · exact ⟨n, h, fun k hk => Nat.le_of_not_lt fun hl => q ⟨k, hl, hk⟩⟩
theorem fits_long {p : Int} {rule row : List Int} (h : row.length ≤ rule.length) : fitsB p rule row = true := by
  unfold fitsB
  rw [show row.length - rule.length = 0 by omega]
  rfl
theorem HasI.big {p : Int} (hp : 0 < p) {rows : List (List Int)} {n : Nat} (h : ∀ row ∈ rows, row.length ≤ n) : HasI p rows n :=
  ⟨List.replicate n 0, by simp, fld_rep hp n, fun row hr => fits_long (by simpa using h row hr)⟩
theorem rows_bound (rows : List (List Int)) : ∃ n, ∀ row ∈ rows, row.length ≤ n := by
  induction rows with
  | nil => exact ⟨0, fun _ h => by cases h⟩
  | cons r rs ih =>
    obtain ⟨n, hn⟩ := ih
    refine ⟨max n r.length, fun row hr => ?_⟩
    rcases List.mem_cons.mp hr with rfl | hr
    · omega
    · have := hn row hr; omega
theorem IsLen.ex {p : Int} (hp : 0 < p) (rows : List (List Int)) : ∃ L, IsLen p rows L := by
  obtain ⟨n, hn⟩ := rows_bound rows
  exact least_nat _ n (HasI.big hp hn)
open Classical in
/-- the length of rows -/
noncomputable def lenI (p : Int) (rows : List (List Int)) : Nat := if h : ∃ L, IsLen p rows L then Classical.choose h else 0
theorem lenI_is {p : Int} (hp : 0 < p) (rows : List (List Int)) : IsLen p rows (lenI p rows) := by
  unfold lenI
  rw [dif_pos (IsLen.ex hp rows)]
  exact Classical.choose_spec (IsLen.ex hp rows)
theorem IsLen.eq {p : Int} {rows : List (List Int)} {L : Nat} (hp : 0 < p) (h : IsLen p rows L) : lenI p rows = L := Nat.le_antisymm ((lenI_is hp rows).2 _ h.1) (h.2 _ (lenI_is hp rows).1)
theorem lenI_le {p : Int} (hp : 0 < p) {rows : List (List Int)} {n : Nat} (h : ∀ row ∈ rows, row.length ≤ n) : lenI p rows ≤ n := (lenI_is hp rows).2 _ (HasI.big hp h)
section
variable {p : Int} {K : Type} [Lean.Grind.CommRing K] (H : Hm p K)
theorem hasI_hasR {rows : List (List Int)} {L : Nat} (hp : 0 < p) (hr : ∀ row ∈ rows, fld p row) : HasI p rows L ↔ ∃ c : Nat → K, ∀ row ∈ rows, Mk c L (sq H row) row.length := by
  constructor
  · rintro ⟨rule, rfl, hf, h⟩
    exact ⟨sq H rule, fun row hm => (fits_mk H hp (hr row hm)).mp (h row hm)⟩
  · rintro ⟨c, h⟩
    refine ⟨lstOf H c L, lstOf_len H c L, lstOf_fld H c L, fun row hm => (fits_mk H hp (hr row hm)).mpr ?_⟩
    rw [lstOf_len]
    exact mk_congr (fun i hi => (lstOf_sq H c hi).symm) (h row hm)
theorem hasI_one {row : List Int} {L : Nat} (hp : 0 < p) (hr : fld p row) : HasI p [row] L ↔ HasR (sq H row) row.length L := by
  rw [hasI_hasR H hp (by simpa using hr)]
  simp [HasR]
theorem isLen_one {row : List Int} {L : Nat} (hp : 0 < p) (hr : fld p row) : IsLen p [row] L ↔ IsL (sq H row) row.length L := by
  unfold IsLen IsL
  rw [hasI_one H hp hr]
  constructor
  · exact fun h => ⟨h.1, fun L' h' => h.2 L' ((hasI_one H hp hr).mpr h')⟩
  · exact fun h => ⟨h.1, fun L' h' => h.2 L' ((hasI_one H hp hr).mp h')⟩
theorem lenI_isL {row : List Int} (hp : 0 < p) (hr : fld p row) : IsL (sq H row) row.length (lenI p [row]) := (isLen_one H hp hr).mp (lenI_is hp _)
end
theorem HasI.longer {p : Int} (hp : prm p) {rows : List (List Int)} (hr : ∀ row ∈ rows, fld p row) {L L' : Nat} (h : HasI p rows L) (hl : L ≤ L') : HasI p rows L' := by
  obtain ⟨K, i1, i2, ⟨H⟩⟩ := field_of hp
  rw [hasI_hasR H hp.pos hr] at h ⊢
  obtain ⟨c, h⟩ := h
  exact ⟨_, fun row hm => (h row hm).longer hl⟩
theorem hasI_iff {p : Int} (hp : prm p) {rows : List (List Int)} (hr : ∀ row ∈ rows, fld p row) {L : Nat} : HasI p rows L ↔ lenI p rows ≤ L := ⟨(lenI_is hp.pos rows).2 L, (lenI_is hp.pos rows).1.longer hp hr⟩
/-! ### linear equations -/
def Sol (p : Int) (eqs : List (List Int)) (u : Nat) (x : List Int) : Prop := x.length = u ∧ fld p x ∧ ∀ e ∈ eqs, dot x e % p = nthI e u
def colI (eqs : List (List Int)) (c : Nat) : List Int := eqs.map fun e => nthI e c
def Cert (p : Int) (eqs : List (List Int)) (u : Nat) (m : List Int) : Prop := m.length = eqs.length ∧ fld p m ∧ (∀ c, c < u → dot m (colI eqs c) % p = 0) ∧ dot m (colI eqs u) % p ≠ 0
/-- equations of numbers -/
def EqsOk (p : Int) (u : Nat) (eqs : List (List Int)) : Prop := ∀ e ∈ eqs, e.length = u + 1 ∧ fld p e
theorem nthI_col {eqs : List (List Int)} {c j : Nat} (h : j < eqs.length) : nthI (colI eqs c) j = nthI eqs[j] c := by
  rw [nthI_get (by simpa [colI] using h)]
  simp [colI]
section
variable {p : Int} {K : Type} [Lean.Grind.CommRing K] (H : Hm p K)
theorem sol_φ {eqs : List (List Int)} {u : Nat} {x e : List Int} (hp : 0 < p) (hl : x.length = u) (he : e.length = u + 1) (hf : fld p e) : dot x e % p = nthI e u ↔ sg u (fun i => sq H x i * sq H e i) = sq H e u := by
  rw [← H.inj ⟨Int.emod_nonneg _ (by omega), Int.emod_lt_of_pos _ hp⟩ (hf.nth (by omega)), H.mod, φ_dot H _ _ (by omega), hl]
  rfl
theorem cert_φ {eqs : List (List Int)} {m : List Int} (hp : 0 < p) (hl : m.length = eqs.length) (c : Nat) : dot m (colI eqs c) % p = 0 ↔ sg eqs.length (fun j => sq H m j * sq H (colI eqs c) j) = 0 := by
  rw [← H.z hp, φ_dot H _ _ (by simp [colI, hl]), hl]
end
/-- no solution beside a certificate -/
theorem Cert.no {p : Int} (hp : prm p) {eqs : List (List Int)} {u : Nat} {m x : List Int} (he : EqsOk p u eqs) (h : Cert p eqs u m) (hx : Sol p eqs u x) : False := by
  obtain ⟨K, i1, i2, ⟨H⟩⟩ := field_of hp
  obtain ⟨h1, h2, h3, h4⟩ := h
  obtain ⟨x1, x2, x3⟩ := hx
  apply h4
  rw [cert_φ H hp.pos h1]
  have e1 : sg eqs.length (fun j => sq H m j * sq H (colI eqs u) j) = sg eqs.length (fun j => sg u fun i => sq H x i * (sq H m j * sq H (colI eqs i) j)) := sg_congr fun j hj => by
    have q := (sol_φ (eqs := eqs) H hp.pos x1 (he _ (List.getElem_mem hj)).1 (he _ (List.getElem_mem hj)).2).mp (x3 _ (List.getElem_mem hj))
    have q1 : sq H (colI eqs u) j = sq H eqs[j] u := by unfold sq; rw [nthI_col hj]
    rw [q1, ← q, ← sg_mul]
    exact sg_congr fun i hi => by
      have q2 : sq H (colI eqs i) j = sq H eqs[j] i := by unfold sq; rw [nthI_col hj]
      rw [q2]; grind
  rw [e1, sg_swap]
  refine sg_zero fun i hi => ?_
  rw [sg_mul, (cert_φ H hp.pos h1 i).mp (h3 i hi)]; grind
/-! ### the equations of a row -/
def eqAt (row : List Int) (L n : Nat) : List Int := ((row.drop (n - L)).take L).reverse ++ [nthI row n]
def eqsOf (row : List Int) (L : Nat) : List (List Int) := (List.range' L (row.length - L)).map (eqAt row L)
theorem eqAt_len {row : List Int} {L n : Nat} (h1 : L ≤ n) (h2 : n < row.length) : (eqAt row L n).length = L + 1 := by
  simp [eqAt]; omega
theorem eqAt_nth {row : List Int} {L n i : Nat} (h1 : L ≤ n) (h2 : n < row.length) (hi : i < L) : nthI (eqAt row L n) i = nthI row (n - 1 - i) := by
  unfold eqAt
  rw [nthI_append_left (by simp; omega), nthI_reverse (by simp; omega)]
  simp only [List.length_take, List.length_drop]
  rw [nthI_take (by omega)]
  unfold nthI
  simp only [List.getD_eq_getElem?_getD, List.getElem?_drop]
  congr 2
  omega
theorem eqAt_last {row : List Int} {L n : Nat} (h1 : L ≤ n) (h2 : n < row.length) : nthI (eqAt row L n) L = nthI row n := by
  unfold eqAt
  have hl : ((row.drop (n - L)).take L).reverse.length = L := by simp; omega
  generalize ((row.drop (n - L)).take L).reverse = a at hl
  subst hl
  simp [nthI]
theorem eqsOf_ok {p : Int} {row : List Int} (hr : fld p row) (L : Nat) : EqsOk p L (eqsOf row L) := by
  intro e he
  obtain ⟨n, hn, rfl⟩ := List.mem_map.mp he
  obtain ⟨h1, h2⟩ := List.mem_range'_1.mp hn
  refine ⟨eqAt_len h1 (by omega), ?_⟩
  refine fld_append (fun x hx => ?_) fun x hx => ?_
  · exact hr x (List.mem_of_mem_drop (List.mem_of_mem_take (List.mem_reverse.mp hx)))
  · rw [List.mem_singleton.mp hx]; exact hr.nth (by omega)
theorem dot_congr : ∀ (a b b' : List Int), a.length ≤ b.length → a.length ≤ b'.length → (∀ i, i < a.length → nthI b i = nthI b' i) → dot a b = dot a b'
  | [], b, b', _, _, _ => by rw [dot_zero_l, dot_zero_l]
  | x :: a, [], _, h, _, _ => by simp at h
  | x :: a, _, [], _, h, _ => by simp at h
  | x :: a, y :: b, z :: b', h1, h2, h => by
    rw [dot_cons, dot_cons, dot_congr a b b' (by simpa using h1) (by simpa using h2) fun i hi => by
      have := h (i + 1) (by simpa using hi)
      rwa [nthI_cons_succ, nthI_cons_succ] at this]
    have := h 0 (by simp)
    rw [nthI_cons_zero, nthI_cons_zero] at this
    rw [this]
theorem fits_sol {p : Int} {row rule : List Int} : fitsB p rule row = true ↔ ∀ e ∈ eqsOf row rule.length, dot rule e % p = nthI e rule.length := by
  unfold fitsB
  rw [List.all_eq_true]
  have key : ∀ n, rule.length ≤ n → n < row.length → (dot rule (eqAt row rule.length n) % p = nthI (eqAt row rule.length n) rule.length ↔ nxt p rule (row.take n) = nthI row n) := by
    intro n h1 h2
    rw [eqAt_last h1 h2]
    unfold nxt
    rw [dot_congr rule (eqAt row rule.length n) (row.take n).reverse (by rw [eqAt_len h1 h2]; omega) (by simp; omega) fun i hi => by
      rw [eqAt_nth h1 h2 hi, take_rev_nth (by omega) (by omega)]]
  constructor
  · intro h e he
    obtain ⟨n, hn, rfl⟩ := List.mem_map.mp he
    obtain ⟨h1, h2⟩ := List.mem_range'_1.mp hn
    have := h (n - rule.length) (List.mem_range.mpr (by omega))
    rw [decide_eq_true_eq, show rule.length + (n - rule.length) = n by omega] at this
    exact (key n h1 (by omega)).mpr this
  · intro h j hj
    have hj := List.mem_range.mp hj
    rw [decide_eq_true_eq]
    exact (key _ (by omega) (by omega)).mp (h _ (List.mem_map.mpr ⟨_, List.mem_range'_1.mpr ⟨by omega, by omega⟩, rfl⟩))
def eqsAll (rows : List (List Int)) (L : Nat) : List (List Int) := rows.flatMap fun row => eqsOf row L
theorem sol_all {p : Int} {rows : List (List Int)} {rule : List Int} {L : Nat} : Sol p (eqsAll rows L) L rule ↔ rule.length = L ∧ fld p rule ∧ ∀ row ∈ rows, fitsB p rule row = true := by
  constructor
  · rintro ⟨rfl, h2, h3⟩
    exact ⟨rfl, h2, fun row hr => fits_sol.mpr fun e he => h3 e (List.mem_flatMap.mpr ⟨row, hr, he⟩)⟩
  · rintro ⟨rfl, h2, h3⟩
    refine ⟨rfl, h2, fun e he => ?_⟩
    obtain ⟨row, hr, he⟩ := List.mem_flatMap.mp he
    exact fits_sol.mp (h3 row hr) e he
theorem eqsAll_ok {p : Int} {rows : List (List Int)} (hr : ∀ row ∈ rows, fld p row) (L : Nat) : EqsOk p L (eqsAll rows L) := by
  intro e he
  obtain ⟨row, hm, he⟩ := List.mem_flatMap.mp he
  exact eqsOf_ok (hr row hm) L e he
end Rr

set_option linter.all false
set_option Elab.async false
set_option maxRecDepth 100000
set_option maxHeartbeats 1000000
/-! Elimination over a field. -/
namespace Rr
section
variable {K : Type} [Lean.Grind.CommRing K]
structure GInv (count u : Nat) (E M : Nat → Nat → K) (used : List Nat) (c : Nat) : Prop where
  lt : ∀ k ∈ used, k < c
  asc : used.Pairwise (· < ·)
  rk : used.length ≤ count
  piv : ∀ k (hk : k < used.length) i, i < count → M i used[k] = if i = k then 1 else 0
  zer : ∀ i, used.length ≤ i → i < count → ∀ d, d < c → M i d = 0
  cert : ∀ i, i < count → ∀ d, d ≤ u → M i d = sg count (fun j => M i (u + 1 + j) * E j d)
  equ : ∀ x : Nat → K, (∀ i, i < count → sg u (fun d => M i d * x d) = M i u) → ∀ j, j < count → sg u (fun d => E j d * x d) = E j u
variable {count u c : Nat} {E M M' : Nat → Nat → K} {used : List Nat}
theorem GInv.init (h1 : ∀ i, i < count → ∀ d, d ≤ u → M i d = E i d) (h2 : ∀ i, i < count → ∀ j, j < count → M i (u + 1 + j) = if i = j then 1 else 0) : GInv count u E M [] 0 where
  lt := fun k hk => by cases hk
  asc := .nil
  rk := by simp
  piv := fun k hk => by simp at hk
  zer := fun i _ _ d hd => by omega
  cert := fun i hi d hd => by
    rw [h1 i hi d hd, sg_one (j := i) hi fun j hj hne => by rw [h2 i hi j hj, if_neg (by omega)]; grind]
    rw [h2 i hi i hi, if_pos rfl]; grind
  equ := fun x h j hj => by
    rw [← h1 j hj u (by omega), ← h j hj]
    exact sg_congr fun d hd => by rw [h1 j hj d (by omega)]
theorem GInv.skip (h : GInv count u E M used c) (hz : ∀ i, used.length ≤ i → i < count → M i c = 0) : GInv count u E M used (c + 1) :=
  { h with
    lt := fun k hk => by have := h.lt k hk; omega
    zer := fun i h1 h2 d hd => by
      by_cases q : d = c
      · subst q; exact hz i h1 h2
      · exact h.zer i h1 h2 d (by omega) }
theorem GInv.step (h : GInv count u E M used c) (hc : c < u) {f : Nat} (hf : used.length ≤ f) (hf2 : f < count) {q : K} (hq : M f c * q = 1)
    (hr : ∀ d, d < u + 1 + count → M' used.length d = M f d * q)
    (ho : ∀ i, i < count → i ≠ used.length → ∀ d, d < u + 1 + count → M' i d = M (if i = f then used.length else i) d - M (if i = f then used.length else i) c * (M f d * q)) : GInv count u E M' (used ++ [c]) (c + 1) := by
  have hr' : used.length < count := by omega
  have ix : ∀ i, i < count → i ≠ used.length → (if i = f then used.length else i) < count ∧ (if i = f then used.length else i) ≠ f := by
    intro i h1 h2
    split
    · rename_i e; exact ⟨hr', fun e2 => h2 (by omega)⟩
    · rename_i e; exact ⟨h1, e⟩
  refine ⟨?_, ?_, ?_, ?_, ?_, ?_, ?_⟩
  · intro k hk
    rcases List.mem_append.mp hk with hk | hk
    · have := h.lt k hk; omega
    · rw [List.mem_singleton.mp hk]; omega
  · rw [List.pairwise_append]
    refine ⟨h.asc, .cons (by simp) .nil, fun a ha b hb => ?_⟩
    rw [List.mem_singleton.mp hb]
    exact h.lt a ha
  · simp; omega
  · intro k hk i hi
    by_cases hkr : k < used.length
    · have e : (used ++ [c])[k] = used[k] := by rw [List.getElem_append_left hkr]
      rw [e]
      have hd : used[k] < c := h.lt _ (List.getElem_mem hkr)
      have hPk : M f used[k] = 0 := by rw [h.piv k hkr f hf2, if_neg (by omega)]
      by_cases hir : i = used.length
      · subst hir
        rw [hr _ (by omega), hPk, if_neg (by omega)]; grind
      · rw [ho i hi hir _ (by omega), hPk]
        have := (ix i hi hir).1
        rw [h.piv k hkr _ this]
        by_cases hif : i = f
        · rw [if_pos hif, if_neg (by omega), if_neg (by omega)]; grind
        · rw [if_neg hif]; grind
    · have hk' : k = used.length := by simp at hk; omega
      subst hk'
      have e : (used ++ [c])[used.length] = c := by simp
      rw [e]
      by_cases hir : i = used.length
      · subst hir
        rw [hr _ (by omega), if_pos rfl, hq]
      · rw [ho i hi hir _ (by omega), if_neg hir]; grind
  · intro i h1 h2 d hd
    rw [List.length_append, List.length_singleton] at h1
    have hir : i ≠ used.length := by omega
    rw [ho i h2 hir d (by omega)]
    by_cases hdc : d = c
    · subst hdc; grind
    · rw [h.zer f hf hf2 d (by omega)]
      have : M (if i = f then used.length else i) d = 0 := h.zer _ (by split <;> omega) (ix i h2 hir).1 d (by omega)
      rw [this]; grind
  · intro i hi d hd
    by_cases hir : i = used.length
    · subst hir
      rw [hr d (by omega), h.cert f hf2 d hd]
      have : sg count (fun j => M' used.length (u + 1 + j) * E j d) = sg count (fun j => q * (M f (u + 1 + j) * E j d)) := sg_congr fun j hj => by rw [hr _ (by omega)]; grind
      rw [this, sg_mul]; grind
    · rw [ho i hi hir d (by omega)]
      obtain ⟨i1, i2⟩ := ix i hi hir
      have : sg count (fun j => M' i (u + 1 + j) * E j d) = sg count (fun j => M (if i = f then used.length else i) (u + 1 + j) * E j d - (M (if i = f then used.length else i) c * q) * (M f (u + 1 + j) * E j d)) := sg_congr fun j hj => by rw [ho i hi hir _ (by omega)]; grind
      rw [this, sg_sub, sg_mul, ← h.cert _ i1 d hd, ← h.cert f hf2 d hd]; grind
  · intro x hx
    apply h.equ x
    have hxf : sg u (fun d => M f d * x d) = M f u := by
      have e := hx used.length hr'
      have e1 : sg u (fun d => M' used.length d * x d) = q * sg u (fun d => M f d * x d) := by
        rw [← sg_mul]; exact sg_congr fun d hd => by rw [hr d (by omega)]; grind
      rw [e1, hr u (by omega)] at e
      grind
    intro i hi
    -- row i of M is met by row i0 of M'
    have key : ∀ i0, i0 < count → i0 ≠ used.length → sg u (fun d => M (if i0 = f then used.length else i0) d * x d) = M (if i0 = f then used.length else i0) u := by
      intro i0 h1 h2
      have e := hx i0 h1
      have e1 : sg u (fun d => M' i0 d * x d) = sg u (fun d => M (if i0 = f then used.length else i0) d * x d) - (M (if i0 = f then used.length else i0) c * q) * sg u (fun d => M f d * x d) := by
        rw [← sg_mul, ← sg_sub]; exact sg_congr fun d hd => by rw [ho i0 h1 h2 d (by omega)]; grind
      rw [e1, hxf, ho i0 h1 h2 u (by omega)] at e
      grind
    by_cases hif : i = f
    · subst hif; exact hxf
    · by_cases hir : i = used.length
      · have := key f hf2 (by omega)
        rw [if_pos rfl] at this
        rw [hir]; exact this
      · have := key i hi hir
        rw [if_neg hif] at this
        exact this
/-- x solves the lines exactly if it solves the equations -/
theorem GInv.sol_iff (h : GInv count u E M used c) (x : Nat → K) : (∀ i, i < count → sg u (fun d => M i d * x d) = M i u) ↔ ∀ j, j < count → sg u (fun d => E j d * x d) = E j u := by
  refine ⟨h.equ x, fun hx i hi => ?_⟩
  rw [h.cert i hi u (by omega)]
  have e : sg u (fun d => M i d * x d) = sg u (fun d => sg count fun j => M i (u + 1 + j) * (E j d * x d)) := sg_congr fun d hd => by
    rw [h.cert i hi d (by omega)]
    have : sg count (fun j => M i (u + 1 + j) * (E j d * x d)) = sg count (fun j => x d * (M i (u + 1 + j) * E j d)) := sg_congr fun j hj => by grind
    rw [this, sg_mul]; grind
  rw [e, sg_swap]
  exact sg_congr fun j hj => by rw [sg_mul, hx j hj]
/-- the sum of a line: its pivot and its free columns -/
theorem GInv.line (h : GInv count u E M used u) (x : Nat → K) (k : Nat) (hk : k < used.length) : sg u (fun d => M k d * x d) = x used[k] + sg u (fun d => if d ∈ used then 0 else M k d * x d) := by
  have hu : used[k] < u := h.lt _ (List.getElem_mem hk)
  have hkc : k < count := by have := h.rk; omega
  have e : sg u (fun d => M k d * x d) = sg u (fun d => (if d ∈ used then M k d * x d else 0) + (if d ∈ used then 0 else M k d * x d)) := sg_congr fun d hd => by split <;> grind
  rw [e, sg_add]
  congr 1
  rw [sg_one (j := used[k]) hu fun d hd hne => by
    split
    · rename_i hm
      obtain ⟨j, hj, rfl⟩ := List.mem_iff_getElem.mp hm
      rw [h.piv j hj k hkc, if_neg (fun e => hne (by subst e; rfl))]; grind
    · rfl]
  rw [if_pos (List.getElem_mem hk), h.piv k hk k hkc, if_pos rfl]; grind
theorem GInv.low (h : GInv count u E M used u) (x : Nat → K) {i : Nat} (h1 : used.length ≤ i) (h2 : i < count) : sg u (fun d => M i d * x d) = 0 := sg_zero fun d hd => by rw [h.zer i h1 h2 d hd]; grind
/-- solutions exactly by the pivots' lines -/
theorem GInv.sol (h : GInv count u E M used u) (h0 : ∀ i, used.length ≤ i → i < count → M i u = 0) (x : Nat → K) : (∀ j, j < count → sg u (fun d => E j d * x d) = E j u) ↔ ∀ k (hk : k < used.length), x used[k] = M k u - sg u (fun d => if d ∈ used then 0 else M k d * x d) := by
  rw [← h.sol_iff x]
  constructor
  · intro hx k hk
    have := hx k (by have := h.rk; omega)
    rw [h.line x k hk] at this
    grind
  · intro hx i hi
    by_cases hr : i < used.length
    · rw [h.line x i hr, hx i hr]; grind
    · rw [h.low x (by omega) hi, h0 i (by omega) hi]
theorem asc_inj {used : List Nat} (h : used.Pairwise (· < ·)) {j k : Nat} (hj : j < used.length) (hk : k < used.length) (e : used[j] = used[k]) : j = k := by
  rcases Nat.lt_trichotomy j k with q | q | q
  · have := List.pairwise_iff_getElem.mp h j k hj hk q; omega
  · exact q
  · have := List.pairwise_iff_getElem.mp h k j hk hj q; omega
open Classical in
/-- a solution for each choice of the free numbers -/
theorem GInv.exists (h : GInv count u E M used u) (h0 : ∀ i, used.length ≤ i → i < count → M i u = 0) (y : Nat → K) : ∃ x : Nat → K, (∀ j, j < count → sg u (fun d => E j d * x d) = E j u) ∧ ∀ d, d ∉ used → x d = y d := by
  refine ⟨fun d => if hd : ∃ k, ∃ hk : k < used.length, used[k] = d then M hd.choose u - sg u (fun e => if e ∈ used then 0 else M hd.choose e * y e) else y d, ?_, ?_⟩
  · rw [h.sol h0]
    intro k hk
    have hd : ∃ k', ∃ hk' : k' < used.length, used[k'] = used[k] := ⟨k, hk, rfl⟩
    rw [dif_pos hd]
    have hch : hd.choose = k := by
      obtain ⟨h1, h2⟩ := hd.choose_spec
      exact asc_inj h.asc h1 hk h2
    rw [hch]
    congr 1
    refine sg_congr fun e he => ?_
    split
    · rfl
    · rename_i hn
      rw [dif_neg (fun q => hn (by obtain ⟨k', hk', rfl⟩ := q; exact List.getElem_mem hk'))]
  · intro d hd
    simp only
    rw [dif_neg (fun q => hd (by obtain ⟨k', hk', rfl⟩ := q; exact List.getElem_mem hk'))]
theorem GInv.unique (h : GInv count u E M used u) (h0 : ∀ i, used.length ≤ i → i < count → M i u = 0) {x y : Nat → K} (hx : ∀ j, j < count → sg u (fun d => E j d * x d) = E j u) (hy : ∀ j, j < count → sg u (fun d => E j d * y d) = E j u) (hf : ∀ d, d < u → d ∉ used → x d = y d) : ∀ d, d < u → x d = y d := by
  rw [h.sol h0] at hx hy
  intro d hd
  by_cases hm : d ∈ used
  · obtain ⟨k, hk, rfl⟩ := List.mem_iff_getElem.mp hm
    rw [hx k hk, hy k hk]
    congr 1
    refine sg_congr fun e he => ?_
    split
    · rfl
    · rename_i hn; rw [hf e he hn]
  · exact hf d hd hm
end
end Rr

set_option linter.all false
set_option Elab.async false
set_option maxRecDepth 100000
set_option maxHeartbeats 1000000
/-! Contracts: linear equations. -/
namespace Rr
open PySem
variable {N : Nat} {G : Env}

/-- lists of lists of ints; lists of places -/
def lls (l : List (List Int)) : D := .list (l.map lstI)
def natL (l : List Nat) : D := .list (l.map natD)
@[simp] theorem len_lls (l : List (List Int)) : biD .len [lls l] = .ok (.int l.length) := by simp [lls]
@[simp] theorem len_natL (l : List Nat) : biD .len [natL l] = .ok (.int l.length) := by simp [natL]
@[simp] theorem seqE_lls (l : List (List Int)) : seqE (lls l) = .ok (l.map lstI) := Eq.trans rfl rfl
@[simp] theorem seqE_natL (l : List Nat) : seqE (natL l) = .ok (l.map natD) := Eq.trans rfl rfl
@[simp] theorem truD_natL (l : List Nat) : truD (natL l) = .ok (!l.isEmpty) := by simp [natL]
theorem sub_list (l : List D) (i : Int) : subD (.list l) (.int i) = nthD l i := rfl
theorem sub_tuple (l : List D) (i : Int) : subD (.tuple l) (.int i) = nthD l i := rfl
theorem sub_lls {l : List (List Int)} {i : Int} (h0 : 0 ≤ i) (h1 : i < l.length) : subD (lls l) (.int i) = .ok (lstI (l.getD i.toNat [])) := by
  show nthD _ _ = _
  rw [nth_D h0 (by simpa using h1)]
  have : i.toNat < l.length := by omega
  simp [this]
theorem sub_natL {l : List Nat} {i : Int} (h0 : 0 ≤ i) (h1 : i < l.length) : subD (natL l) (.int i) = .ok (natD (l.getD i.toNat 0)) := by
  show nthD _ _ = _
  rw [nth_D h0 (by simpa using h1)]
  have : i.toNat < l.length := by omega
  simp [this]
theorem put_lls {l : List (List Int)} {v : List Int} {i : Int} (h0 : 0 ≤ i) (h1 : i < l.length) : putD (lls l) (.int i) (lstI v) = .ok (lls (l.set i.toNat v)) := by
  obtain ⟨j, rfl⟩ := nat_of h0
  show (match ixI _ _ with | some j => _ | none => _) = _
  rw [ixI_nat (by simp; omega)]
  simp [lls, List.map_set]
theorem put_lstI {l : List Int} {v : Int} {i : Int} (h0 : 0 ≤ i) (h1 : i < l.length) : putD (lstI l) (.int i) (.int v) = .ok (lstI (l.set i.toNat v)) := by
  obtain ⟨j, rfl⟩ := nat_of h0
  show (match ixI _ _ with | some j => _ | none => _) = _
  rw [ixI_nat (by simp; omega)]
  simp [lstI, List.map_set]
theorem app_lls {a : List (List Int)} {x : List Int} (h : a.length ≤ 1000000) : appD (lls a) (lstI x) = .ok (lls (a ++ [x])) := by
  show (if _ then _ else _) = _
  rw [if_pos (by simpa using h)]; simp [lls]
theorem app_natL {a : List Nat} {x : Nat} (h : a.length ≤ 1000000) : appD (natL a) (natD x) = .ok (natL (a ++ [x])) := by
  show (if _ then _ else _) = _
  rw [if_pos (by simpa using h)]; simp [natL]
theorem app_natI {a : List Nat} {x : Nat} (h : a.length ≤ 1000000) : appD (natL a) (.int x) = .ok (natL (a ++ [x])) := app_natL h
theorem slc_lls {l : List (List Int)} {j : Int} (h : 0 ≤ j) : slcD (some j) none (lls l) = .ok (lls (l.drop j.toNat)) := by
  obtain ⟨k, rfl⟩ := nat_of h
  show R.ok _ = _
  rw [cut_lo, ← List.map_drop]; rfl
theorem enum_map {α : Type} (f : α → D) : ∀ (l : List α) (n : Nat), enumL n (l.map f) = (l.zipIdx n).map fun x => .tuple [natD x.2, f x.1]
  | [], _ => rfl
  | x :: r, n => by
    rw [List.map_cons, List.zipIdx_cons, List.map_cons]
    show _ :: enumL (n + 1) (r.map f) = _
    rw [enum_map f r (n + 1)]; rfl
theorem zip_map {α β : Type} (f : α → D) (g : β → D) : ∀ (a : List α) (b : List β), zipL (a.map f) (b.map g) = (List.zip a b).map fun x => .tuple [f x.1, g x.2]
  | [], b => by cases b <;> rfl
  | _ :: _, [] => rfl
  | x :: a, y :: b => by
    rw [List.map_cons, List.map_cons, List.zip_cons_cons, List.map_cons]
    show _ :: zipL (a.map f) (b.map g) = _
    rw [zip_map f g a b]
theorem any_natD (d : Nat) : ∀ l : List Nat, ((l.map natD).any fun y => PyData.eqv y (natD d)) = decide (d ∈ l)
  | [] => by simp
  | x :: r => by
    rw [List.map_cons, List.any_cons, any_natD d r]
    show (PyData.eqv (.int x) (.int d) || _) = _
    rw [eqv_int, Bool.eq_iff_iff]
    simp only [Bool.or_eq_true, beq_iff_eq, decide_eq_true_eq, List.mem_cons]
    constructor
    · rintro (h | h)
      · exact .inl (by omega)
      · exact .inr h
    · rintro (h | h)
      · exact .inl (by omega)
      · exact .inr h
theorem in_natL (d : Nat) (l : List Nat) : inD (natD d) (natL l) = .ok (decide (d ∈ l)) := by
  show (if shp 8 (natD d) && shp 8 (.list (l.map natD)) then R.ok ((l.map natD).any fun y => PyData.eqv y (natD d)) else .bad) = _
  rw [if_pos, any_natD]
  rw [Bool.and_eq_true]
  refine ⟨rfl, ?_⟩
  show (l.map natD).all (shp 7) = true
  rw [List.all_eq_true]
  intro x hx
  obtain ⟨k, _, rfl⟩ := List.mem_map.mp hx
  rfl
theorem cp_nin_natL (d : Nat) (l : List Nat) : cpD .nin (natD d) (natL l) = .ok (!decide (d ∈ l)) := by
  show (inD _ _).bind _ = _
  rw [in_natL, R.bind_ok]
theorem cp_in_natL (d : Nat) (l : List Nat) : cpD .inn (natD d) (natL l) = .ok (decide (d ∈ l)) := in_natL d l
def Sp_inverse (g : List D → R D) : Prop := ∀ p x, prm p → 0 < x → x < p → ∃ v, g [.int p, .int x] = .ok v ∧ ∃ q, v = .int q ∧ 1 ≤ q ∧ q < p ∧ q * x % p = 1
theorem inv_some {p x : Int} (hp : prm p) (h1 : 0 < x) (h2 : x < p) : ∃ k ∈ List.range' 1 (p.toNat - 1), ((k : Int) * x % p) = 1 := by
  have hx : x = 1 ∨ x = 2 ∨ x = 3 ∨ x = 4 ∨ x = 5 ∨ x = 6 := by have := hp.le; omega
  rcases hp with rfl | rfl | rfl | rfl <;> rcases hx with rfl | rfl | rfl | rfl | rfl | rfl <;> first | (exfalso; omega) | decide
theorem run_inverse : Sp_inverse (runD G N d_inverse) := by
  intro p x hp h1 h2
  have hpp := hp.pos
  have hpl := hp.le
  have key : ∃ k r, (List.range' 1 (p.toNat - 1)).filter (fun k : Nat => decide ((k : Int) * x % p = 1)) = k :: r := by
    obtain ⟨k, hk, e⟩ := inv_some hp h1 h2
    cases q : (List.range' 1 (p.toNat - 1)).filter (fun k : Nat => decide ((k : Int) * x % p = 1)) with
    | nil =>
      have : k ∈ (List.range' 1 (p.toNat - 1)).filter (fun k : Nat => decide ((k : Int) * x % p = 1)) := List.mem_filter.mpr ⟨hk, by simpa using e⟩
      rw [q] at this; cases this
    | cons k r => exact ⟨k, r, rfl⟩
  obtain ⟨k, r, e⟩ := key
  have hk : k ∈ (List.range' 1 (p.toNat - 1)).filter (fun k : Nat => decide ((k : Int) * x % p = 1)) := by rw [e]; exact List.mem_cons_self
  obtain ⟨hk1, hk2⟩ := List.mem_filter.mp hk
  obtain ⟨hk3, hk4⟩ := List.mem_range'_1.mp hk1
  refine run_rtE rfl ⟨.int k, ?_, k, rfl, by omega, by omega, by simpa using hk2⟩
  dsimp only [d_inverse]
  rw [ess_cons, es_ret, ev_sub]
  rw [lc_one natD natD (List.range' 1 (p.toNat - 1)) (fun k : Nat => decide ((k : Int) * x % p = 1)) (fun k => k) (by simp (disch := omega) [Rr.start, rng1]) (by simp; omega) (fun j hj => by
    obtain ⟨hj3, hj4⟩ := List.mem_range'_1.mp hj
    refine ⟨?_, fun _ => by simp [Rr.start]⟩
    simp (disch := omega) [Rr.start, natD, op_muli, op_modi]
    by_cases q : (j : Int) * x % p = 1 <;> simp [q])]
  rw [e]
  simp [subD, nthD, ixI, natD]
def redL (p : Int) (a b : List Int) (f : Int) : List Int := (List.zip a b).map fun x => (x.1 - f * x.2) % p
def Sp_reduce_line (g : List D → R D) : Prop := ∀ p a b f, prm p → 0 ≤ f → f < p → a.length ≤ 10000 → g [.int p, lstI a, lstI b, .int f] = .ok (lstI (redL p a b f))
theorem run_reduce_line : Sp_reduce_line (runD G N d_reduce_line) := by
  intro p a b f hp h1 h2 hl
  have hpp := hp.pos
  have hpl := hp.le
  refine run_rt rfl ?_
  dsimp only [d_reduce_line]
  rw [ess_cons, es_ret]
  rw [lc_map2 (fun x : Int × Int => PyData.int x.1) (fun x => PyData.int x.2) PyData.int (List.zip a b) (fun x => (x.1 - f * x.2) % p) (by simp [Rr.start, lstI, zip_map]) (by simp; omega) (fun x hx => by
    simp (disch := omega) [Rr.start, op_muli, op_modi])]
  simp [redL, lstI]

/-! ### the loops of solve -/
theorem for_oneF {s : S} {α : Type} (enc : α → D) (l : List α) {i : Nat} {it : It} {b : Ss} (hi : evI G it s = .ok (l.map enc)) (I : Nat → S → Prop) (c : Nat → Bool) (rr : Nat → Q) (hrr : ∀ k f, (rr k).go f = rr k) (h0 : I 0 s)
    (h : ∀ k (hk : k < l.length) s, I k s → if c k then ∃ s', evSs G N b (s.set i (some (enc l[k]))) = .nx s' ∧ I (k + 1) s' else evSs G N b (s.set i (some (enc l[k]))) = rr k) :
    (∃ s', evS G N (.fr (.one i) it b) s = .nx s' ∧ I l.length s' ∧ ∀ k, k < l.length → c k = true) ∨ ∃ k, k < l.length ∧ c k = false ∧ (∀ j, j < k → c j = true) ∧ evS G N (.fr (.one i) it b) s = rr k := by
  rw [es_fr, hi, R.go_ok]
  have key : ∀ (m : List α) (n : Nat) s, n + m.length = l.length → (∀ k (hk : k < m.length), ∃ hk' : n + k < l.length, m[k] = l[n + k]) → I n s → (∀ j, j < n → c j = true) →
      (∃ s', forL (fun d s' => bindT (.one i) d s') (fun s' => evSs G N b s') (m.map enc) s = .nx s' ∧ I l.length s' ∧ ∀ k, k < l.length → c k = true) ∨ ∃ k, k < l.length ∧ c k = false ∧ (∀ j, j < k → c j = true) ∧ forL (fun d s' => bindT (.one i) d s') (fun s' => evSs G N b s') (m.map enc) s = rr k := by
    intro m
    induction m with
    | nil =>
      intro n s hn _ hI hc
      have : n = l.length := by simpa using hn
      subst this
      exact .inl ⟨s, rfl, hI, hc⟩
    | cons x r ih =>
      intro n s hn hm hI hc
      obtain ⟨hk', e0⟩ := hm 0 (by simp)
      have e0 : x = l[n]'(by omega) := e0
      have hb := h n (by omega) s hI
      rw [← e0] at hb
      rw [List.map_cons]
      unfold forL
      rw [show bindT (.one i) (enc x) s = .ok (s.set i (some (enc x))) from rfl, R.go_ok]
      cases q : c n with
      | true =>
        rw [q, if_pos rfl] at hb
        obtain ⟨s', e1, h1⟩ := hb
        rw [e1, Q.go_nx]
        refine ih (n + 1) s' (by simp at hn; omega) (fun k hk => ?_) h1 (fun j hj => ?_)
        · obtain ⟨hk2, e2⟩ := hm (k + 1) (by simpa using hk)
          exact ⟨by omega, by simpa [Nat.add_assoc, Nat.add_comm 1] using e2⟩
        · by_cases hjn : j = n
          · rw [hjn]; exact q
          · exact hc j (by omega)
      | false =>
        rw [q, if_neg Bool.false_ne_true] at hb
        right
        exact ⟨n, by omega, q, hc, by rw [hb, hrr]⟩
  exact key l 0 s (by simp) (fun k hk => ⟨by omega, by simp⟩) h0 (fun j hj => by omega)
section
variable {β : Type} {C : β → Q} {P : β → Prop} {s : S}
theorem seq_iffE {c : Ex} {a b r : Ss} {x : D} (k : Bool) (h : evE G c s = .ok x) (hb : truD x = .ok k) (h2 : ∃ s', evSs G N (if k then a else b) s = .nx s' ∧ ∃ v, evSs G N r s' = C v ∧ P v) : ∃ v, evSs G N (.cons (.iff c a b) r) s = C v ∧ P v := by
  obtain ⟨s', e, v, e2, hp⟩ := h2
  refine ⟨v, seq_nx (s' := s') ?_ e2, hp⟩
  rw [es_iff, h, R.go_ok, hb, R.go_ok]
  cases k <;> simpa using e
theorem nil_E {s : S} {P : S → Prop} (h : P s) : ∃ v, evSs G N .nil s = .nx v ∧ P v := ⟨s, by simp, h⟩
theorem seq_asgE {i : Nat} {e : Ex} {r : Ss} (v : D) (h : evE G e s = .ok v) (h2 : ∃ x, evSs G N r (s.set i (some v)) = C x ∧ P x) : ∃ x, evSs G N (.cons (.asg i e) r) s = C x ∧ P x :=
  seq_nxE (by rw [es_asg, h, R.go_ok]) h2
theorem seq_asgXE {i : Nat} {e : Ex} {r : Ss} {P0 : D → Prop} (h : ∃ v, evE G e s = .ok v ∧ P0 v) (h2 : ∀ v, P0 v → ∃ x, evSs G N r (s.set i (some v)) = C x ∧ P x) : ∃ x, evSs G N (.cons (.asg i e) r) s = C x ∧ P x := by
  obtain ⟨v, h, hp⟩ := h
  exact seq_asgE v h (h2 v hp)
theorem seq_forFE {α : Type} (enc : α → D) (l : List α) {i : Nat} {it : It} {b r : Ss} (hi : evI G it s = .ok (l.map enc)) (I : Nat → S → Prop) (c : Nat → Bool) (rr : Nat → Q) (hrr : ∀ k f, (rr k).go f = rr k) (h0 : I 0 s)
    (h : ∀ k (hk : k < l.length) s, I k s → if c k then ∃ s', evSs G N b (s.set i (some (enc l[k]))) = .nx s' ∧ I (k + 1) s' else evSs G N b (s.set i (some (enc l[k]))) = rr k)
    (hk : ∀ s', I l.length s' → (∀ k, k < l.length → c k = true) → ∃ v, evSs G N r s' = C v ∧ P v) (hk2 : ∀ k, k < l.length → c k = false → (∀ j, j < k → c j = true) → ∃ v, rr k = C v ∧ P v) : ∃ v, evSs G N (.cons (.fr (.one i) it b) r) s = C v ∧ P v := by
  rcases for_oneF enc l hi I c rr hrr h0 h with ⟨s', e, h1, h2⟩ | ⟨k, h1, h2, h3, e⟩
  · exact seq_nxE e (hk s' h1 h2)
  · obtain ⟨v, e2, hp⟩ := hk2 k h1 h2 h3
    exact ⟨v, by rw [seq_rr e (hrr k), e2], hp⟩
theorem seq_forF {q : Q} {α : Type} (enc : α → D) (l : List α) {i : Nat} {it : It} {b r : Ss} (hi : evI G it s = .ok (l.map enc)) (I : Nat → S → Prop) (c : Nat → Bool) (rr : Nat → Q) (hrr : ∀ k f, (rr k).go f = rr k) (h0 : I 0 s)
    (h : ∀ k (hk : k < l.length) s, I k s → if c k then ∃ s', evSs G N b (s.set i (some (enc l[k]))) = .nx s' ∧ I (k + 1) s' else evSs G N b (s.set i (some (enc l[k]))) = rr k)
    (hk : ∀ s', I l.length s' → (∀ k, k < l.length → c k = true) → evSs G N r s' = q) (hk2 : ∀ k, k < l.length → c k = false → (∀ j, j < k → c j = true) → rr k = q) : evSs G N (.cons (.fr (.one i) it b) r) s = q := by
  rcases for_oneF enc l hi I c rr hrr h0 h with ⟨s', e, h1, h2⟩ | ⟨k, h1, h2, h3, e⟩
  · exact seq_nx e (hk s' h1 h2)
  · rw [seq_rr e (hrr k), hk2 k h1 h2 h3]
end
end Rr

set_option linter.all false
set_option Elab.async false
set_option maxRecDepth 100000
set_option maxHeartbeats 2000000
/-! Contracts: solve. -/
namespace Rr
open PySem
variable {N : Nat} {G : Env}
theorem es_st2 (s : S) (i : Nat) (k l a b : Ex) : evS G N (.st2 i k l a b) s = (evE G a s).go fun v => (evE G b s).go fun w => (getV s i).go fun x => (evE G k s).go fun y => (putD x y v).go fun z =>
      (evE G l (s.set i (some z))).go fun u => (putD z u w).go fun z2 => .nx (s.set i (some z2)) := by rw [evS]
def ent (ls : List (List Int)) (i d : Nat) : Int := nthI (ls.getD i []) d
def Shp (p : Int) (n m : Nat) (ls : List (List Int)) : Prop := ls.length = n ∧ ∀ l ∈ ls, l.length = m ∧ fld p l
theorem Shp.get {p : Int} {n m : Nat} {ls : List (List Int)} (h : Shp p n m ls) {i : Nat} (hi : i < n) : (ls.getD i []).length = m ∧ fld p (ls.getD i []) := by
  have hi' : i < ls.length := by rw [h.1]; exact hi
  have : ls.getD i [] = ls[i] := by simp [hi']
  rw [this]
  exact h.2 _ (List.getElem_mem hi')
theorem Shp.ent {p : Int} {n m : Nat} {ls : List (List Int)} (h : Shp p n m ls) {i d : Nat} (hi : i < n) (hd : d < m) : 0 ≤ ent ls i d ∧ ent ls i d < p := by
  obtain ⟨h1, h2⟩ := h.get hi
  exact h2.nth (by omega)
theorem Shp.of {p : Int} {n m : Nat} {ls : List (List Int)} (h1 : ls.length = n) (h2 : ∀ i, i < n → (ls.getD i []).length = m ∧ fld p (ls.getD i [])) : Shp p n m ls := by
  refine ⟨h1, fun l hl => ?_⟩
  obtain ⟨i, hi, rfl⟩ := List.mem_iff_getElem.mp hl
  have := h2 i (by omega)
  rwa [show ls.getD i [] = ls[i] by simp [hi]] at this
theorem getD_set {α : Type} {l : List α} {i j : Nat} {v d : α} (h : i < l.length) : (l.set i v).getD j d = if j = i then v else l.getD j d := by
  by_cases e : j = i
  · subst e; simp [h]
  · rw [if_neg e]
    simp only [List.getD_eq_getElem?_getD]
    rw [List.getElem?_set_ne (by omega)]
theorem getD_map_range {α : Type} (f : Nat → α) {n i : Nat} {d : α} (h : i < n) : ((List.range n).map f).getD i d = f i := by
  simp [h]
theorem getD_append1 {α : Type} {l : List α} {v d : α} {j : Nat} : (l ++ [v]).getD j d = if j = l.length then v else l.getD j d := by
  by_cases e : j = l.length
  · subst e; simp
  · rw [if_neg e]
    simp only [List.getD_eq_getElem?_getD]
    rcases Nat.lt_or_ge j l.length with h | h
    · rw [List.getElem?_append_left h]
    · rw [List.getElem?_append_right h, List.getElem?_eq_none (l := l) h]
      rw [List.getElem?_eq_none (by simp; omega)]
theorem redL_len {p f : Int} {a b : List Int} (h : a.length = b.length) : (redL p a b f).length = a.length := by simp [redL, h]
theorem redL_fld {p f : Int} {a b : List Int} (hp : 0 < p) : fld p (redL p a b f) := fld_mod hp _ _
theorem redL_nth {p f : Int} {a b : List Int} {d : Nat} (h1 : d < a.length) (h2 : d < b.length) : nthI (redL p a b f) d = (nthI a d - f * nthI b d) % p := by
  rw [nthI_get (by simp [redL]; omega), nthI_get h1, nthI_get h2]
  simp [redL]
theorem redL_zero {p : Int} {a b : List Int} (h : a.length = b.length) (hf : fld p a) : redL p a b 0 = a := by
  refine List.ext_getElem (redL_len h) fun i h1 h2 => ?_
  rw [← nthI_get h1, ← nthI_get h2, redL_nth h2 (by omega)]
  have := hf.nth h2
  rw [Int.zero_mul, Int.sub_zero, Int.emod_eq_of_lt this.1 this.2]
/-- what solve returns -/
def FreeOk (p : Int) (eqs : List (List Int)) (u : Nat) (free : List Nat) : Prop := free.Pairwise (· < ·) ∧ (∀ d ∈ free, d < u) ∧ (∀ y : List Int, fld p y → y.length = u → ∃ x, Sol p eqs u x ∧ ∀ d ∈ free, nthI x d = nthI y d) ∧ ∀ x y, Sol p eqs u x → Sol p eqs u y → (∀ d ∈ free, nthI x d = nthI y d) → x = y
def SolveV (p : Int) (eqs : List (List Int)) (u : Nat) (v : D) : Prop := (∃ m, v = .tuple [.none, .none, lstI m] ∧ Cert p eqs u m) ∨ ∃ x free, v = .tuple [lstI x, natL free, .none] ∧ Sol p eqs u x ∧ FreeOk p eqs u free
def Sp_solve (g : List D → R D) : Prop := ∀ p eqs u, prm p → EqsOk p u eqs → u ≤ 1000 → eqs.length ≤ 1000 → ∃ v, g [.int p, lls eqs, .int (u : Nat)] = .ok v ∧ SolveV p eqs u v
section
variable {p : Int} {K : Type} [Lean.Grind.CommRing K] (H : Hm p K) {eqs : List (List Int)} {u : Nat}
def Ee (eqs : List (List Int)) (j d : Nat) : K := H.φ (ent eqs j d)
theorem sol_E {x : List Int} (hp : 0 < p) (he : EqsOk p u eqs) : Sol p eqs u x ↔ x.length = u ∧ fld p x ∧ ∀ j, j < eqs.length → sg u (fun d => Ee H eqs j d * sq H x d) = Ee H eqs j u := by
  unfold Sol
  constructor
  · rintro ⟨h1, h2, h3⟩
    refine ⟨h1, h2, fun j hj => ?_⟩
    have hm := List.getElem_mem hj
    have := (sol_φ (eqs := eqs) H hp h1 (he _ hm).1 (he _ hm).2).mp (h3 _ hm)
    have e : ∀ d, Ee H eqs j d = sq H eqs[j] d := fun d => by unfold Ee ent sq; simp [hj]
    rw [e, ← this]
    exact sg_congr fun d hd => by rw [e]; grind
  · rintro ⟨h1, h2, h3⟩
    refine ⟨h1, h2, fun e' hm => ?_⟩
    obtain ⟨j, hj, rfl⟩ := List.mem_iff_getElem.mp hm
    refine (sol_φ (eqs := eqs) H hp h1 (he _ hm).1 (he _ hm).2).mpr ?_
    have e : ∀ d, Ee H eqs j d = sq H eqs[j] d := fun d => by unfold Ee ent sq; simp [hj]
    rw [← e, ← h3 j hj]
    exact sg_congr fun d hd => by rw [e]; grind
variable {ls : List (List Int)} {used : List Nat}
/-- a certificate from a line without coefficients -/
theorem ginv_cert (hp : 0 < p) (he : EqsOk p u eqs) (hs : Shp p eqs.length (u + 1 + eqs.length) ls) (h : GInv eqs.length u (Ee H eqs) (fun i d => H.φ (ent ls i d)) used u) {i : Nat} (h1 : used.length ≤ i) (h2 : i < eqs.length) (h3 : ent ls i u ≠ 0) : Cert p eqs u ((ls.getD i []).drop (u + 1)) := by
  obtain ⟨l1, l2⟩ := hs.get h2
  have key : ∀ d, d ≤ u → sg eqs.length (fun j => sq H ((ls.getD i []).drop (u + 1)) j * sq H (colI eqs d) j) = H.φ (ent ls i d) := by
    intro d hd
    rw [h.cert i h2 d hd]
    refine sg_congr fun j hj => ?_
    unfold sq Ee ent
    rw [nthI_col hj]
    congr 2
    · unfold nthI; simp
    · simp [hj]
  refine ⟨by rw [List.length_drop, l1]; omega, fld_drop _ l2, fun c hc => ?_, fun e => ?_⟩
  · rw [cert_φ H hp (by rw [List.length_drop, l1]; omega), key c (by omega)]
    exact h.zer i h1 h2 c hc
  · rw [cert_φ H hp (by rw [List.length_drop, l1]; omega), key u (by omega)] at e
    exact h3 ((H.z' (hs.ent h2 (by omega))).mp e)
theorem ginv_free (hp : 0 < p) (he : EqsOk p u eqs) (h : GInv eqs.length u (Ee H eqs) (fun i d => H.φ (ent ls i d)) used u) (h0 : ∀ i, used.length ≤ i → i < eqs.length → ent ls i u = 0) :
    FreeOk p eqs u ((List.range u).filter fun d => !decide (d ∈ used)) := by
  have h0' : ∀ i, used.length ≤ i → i < eqs.length → H.φ (ent ls i u) = 0 := fun i h1 h2 => by rw [h0 i h1 h2, H.zero]
  refine ⟨List.Pairwise.filter _ List.pairwise_lt_range, fun d hd => List.mem_range.mp (List.mem_filter.mp hd).1, fun y hy hl => ?_, fun x y hx hy hf => ?_⟩
  · obtain ⟨x, h1, h2⟩ := h.exists h0' (sq H y)
    refine ⟨lstOf H x u, (sol_E H hp he).mpr ⟨lstOf_len H x u, lstOf_fld H x u, fun j hj => ?_⟩, fun d hd => ?_⟩
    · rw [← h1 j hj]
      exact sg_congr fun d hd => by rw [lstOf_sq H x hd]
    · obtain ⟨hd1, hd2⟩ := List.mem_filter.mp hd
      have hd1 := List.mem_range.mp hd1
      rw [← H.inj ((lstOf_fld H x u).nth (by rw [lstOf_len]; exact hd1)) (hy.nth (by omega))]
      have := lstOf_sq H x hd1
      unfold sq at this
      rw [this, h2 d (by simpa using hd2)]
      rfl
  · obtain ⟨x1, x2, x3⟩ := (sol_E H hp he).mp hx
    obtain ⟨y1, y2, y3⟩ := (sol_E H hp he).mp hy
    have := h.unique h0' x3 y3 fun d hd hn => by
      unfold sq
      rw [hf d (List.mem_filter.mpr ⟨List.mem_range.mpr hd, by simpa using hn⟩)]
    refine List.ext_getElem (by omega) fun i h1 h2 => ?_
    rw [← nthI_get h1, ← nthI_get h2]
    exact (H.inj (x2.nth h1) (y2.nth h2)).mp (this i (by omega))
theorem ginv_sol (hp : 0 < p) (he : EqsOk p u eqs) (hs : Shp p eqs.length (u + 1 + eqs.length) ls) (h : GInv eqs.length u (Ee H eqs) (fun i d => H.φ (ent ls i d)) used u) (h0 : ∀ i, used.length ≤ i → i < eqs.length → ent ls i u = 0) {x : List Int} (hl : x.length = u)
    (h1 : ∀ k (hk : k < used.length), nthI x used[k] = ent ls k u) (h2 : ∀ d, d < u → d ∉ used → nthI x d = 0) : Sol p eqs u x := by
  have h0' : ∀ i, used.length ≤ i → i < eqs.length → H.φ (ent ls i u) = 0 := fun i h1 h2 => by rw [h0 i h1 h2, H.zero]
  refine (sol_E H hp he).mpr ⟨hl, fun z hz => ?_, (h.sol h0' _).mpr fun k hk => ?_⟩
  · obtain ⟨d, hd, rfl⟩ := List.mem_iff_getElem.mp hz
    rw [← nthI_get hd]
    by_cases hm : d ∈ used
    · obtain ⟨k, hk, rfl⟩ := List.mem_iff_getElem.mp hm
      rw [h1 k hk]
      exact hs.ent (by have := h.rk; omega) (by omega)
    · rw [h2 d (by omega) hm]; omega
  · have e : sg u (fun d => if d ∈ used then 0 else H.φ (ent ls k d) * sq H x d) = 0 := sg_zero fun d hd => by
      split
      · rfl
      · rename_i hn
        unfold sq
        rw [h2 d hd hn, H.zero]; grind
    rw [e]
    unfold sq
    rw [h1 k hk]; grind
end
end Rr

set_option linter.all false
set_option Elab.async false
set_option maxRecDepth 100000
set_option maxHeartbeats 4000000
/-! Contracts: solve, the run. -/
namespace Rr
open PySem
variable {N : Nat} {G : Env}
def unitRow (n c : Nat) : List Int := (List.range c).map fun o => if n = o then 1 else 0
theorem unitRow_fld {p : Int} (hp : 2 ≤ p) (n c : Nat) : fld p (unitRow n c) := fun x hx => by
  obtain ⟨o, _, rfl⟩ := List.mem_map.mp hx
  split <;> omega
theorem int_bool (b : Bool) : biD .int [.bool b] = .ok (.int (if b then 1 else 0)) := rfl
theorem nthI_app {a b : List Int} {d : Nat} : nthI (a ++ b) d = if d < a.length then nthI a d else nthI b (d - a.length) := by
  unfold nthI
  simp only [List.getD_eq_getElem?_getD]
  split
  · rename_i h; rw [List.getElem?_append_left h]
  · rename_i h; rw [List.getElem?_append_right (by omega)]
theorem nthI_map_range (f : Nat → Int) {n i : Nat} (h : i < n) : nthI ((List.range n).map f) i = f i := by simp [nthI, h]
theorem nthI_map {f : Int → Int} {l : List Int} {i : Nat} (h : i < l.length) : nthI (l.map f) i = f (nthI l i) := by
  rw [nthI_get (by simpa using h), nthI_get h]; simp
theorem run_solve {g1 g2 : List D → R D} (h1 : G.fn "inverse" = some g1) (s1 : Sp_inverse g1) (h2 : G.fn "reduce_line" = some g2) (s2 : Sp_reduce_line g2) : Sp_solve (runD G N d_solve) := by
  intro p eqs u hp he hu hc
  obtain ⟨K, i1, i2, ⟨H⟩⟩ := field_of hp
  have hpp := hp.pos
  have hpl := hp.le
  have hp2 := hp.ge
  refine run_rtE rfl ?_
  dsimp only [d_solve]
  refine seq_nxE (by simp [Rr.start]; rfl) ?_
  refine seq_nxE (by simp; rfl) ?_
  -- the lines
  refine seq_for2E (fun x : List Int × Nat => natD x.2) (fun x => lstI x.1) (eqs.zipIdx 0) (by simp [enum_map]) (fun k s => ∃ ls x9 x10, s = [some (.int p), some (lls eqs), some (.int u), some (.int eqs.length), some (lls ls), none, none, none, none, x9, x10, none, none, none, none] ∧ ls.length = k ∧ ∀ i, i < k → ls.getD i [] = eqs.getD i [] ++ unitRow i eqs.length)
    ⟨[], none, none, rfl, rfl, fun i hi => by omega⟩ ?_ ?_
  · rintro k hk s ⟨ls, x9, x10, rfl, hl, hi⟩
    have hk' : k < eqs.length := by simpa using hk
    have ez : (eqs.zipIdx 0)[k] = (eqs[k], k) := by simp
    rw [ez]
    refine ⟨_, by
      simp [-ev_bi]
      rw [lc_map natD PyData.int (List.range eqs.length) (fun o => if k = o then 1 else 0) (by simp (disch := omega) [rng0]) (by simp; omega) (fun o ho => by
        simp [natD, int_bool, Int.ofNat_inj])]
      rw [lst_lit]
      have e1 : opD .add (lstI eqs[k]) (lstI ((List.range eqs.length).map fun o => if k = o then 1 else 0)) = .ok (lstI (eqs[k] ++ unitRow k eqs.length)) := add_lstI (by
        have := (he _ (List.getElem_mem hk')).1
        simp; omega)
      simp (disch := omega) [e1, app_lls]; rfl, ?_⟩
    refine ⟨_, _, _, rfl, by simp [hl], fun i hi' => ?_⟩
    rw [getD_append1, hl]
    split
    · rename_i e; subst e; simp [hk']
    · exact hi i (by omega)
  rintro s' ⟨ls0, x9, x10, rfl, hl0, hi0⟩
  have hl0 : ls0.length = eqs.length := by simpa using hl0
  have hi0 : ∀ i, i < eqs.length → ls0.getD i [] = eqs.getD i [] ++ unitRow i eqs.length := by simpa using hi0
  have hE : ∀ i, i < eqs.length → (eqs.getD i []).length = u + 1 ∧ fld p (eqs.getD i []) := fun i hi => by
    have := he _ (List.getElem_mem hi)
    simpa [hi] using this
  have shp0 : Shp p eqs.length (u + 1 + eqs.length) ls0 := Shp.of hl0 fun i hi => by
    rw [hi0 i hi]
    exact ⟨by rw [List.length_append, (hE i hi).1]; simp [unitRow], fld_append (hE i hi).2 (unitRow_fld hp2 _ _)⟩
  have inv0 : GInv eqs.length u (Ee H eqs) (fun i d => H.φ (ent ls0 i d)) [] 0 := GInv.init (fun i hi d hd => by
    unfold Ee ent
    rw [hi0 i hi, nthI_append_left (by rw [(hE i hi).1]; omega)]) (fun i hi j hj => by
    unfold ent
    rw [hi0 i hi, nthI_app, if_neg (by rw [(hE i hi).1]; omega), (hE i hi).1, show u + 1 + j - (u + 1) = j by omega]
    unfold unitRow
    rw [nthI_map_range _ hj]
    split
    · rw [H.one]
    · rw [H.zero])
  refine seq_nxE (by simp; rfl) ?_
  -- the columns
  refine seq_forE natD (List.range u) (by simp (disch := omega) [rng0]) (fun c s => ∃ ls used x6 x7 x9 x10 x11 x12 x13 x14, s = [some (.int p), some (lls eqs), some (.int u), some (.int eqs.length), some (lls ls), some (natL used), x6, x7, none, x9, x10, x11, x12, x13, x14] ∧ Shp p eqs.length (u + 1 + eqs.length) ls ∧ GInv eqs.length u (Ee H eqs) (fun i d => H.φ (ent ls i d)) used c)
    ⟨ls0, [], _, _, _, _, _, _, _, _, rfl, shp0, inv0⟩ ?_ ?_
  · rintro c hc' s ⟨ls, used, x6, x7, x9, x10, x11, x12, x13, x14, rfl, shp, inv⟩
    have hcu : c < u := by simpa using hc'
    have hll := shp.1
    have hrk := inv.rk
    rw [List.getElem_range]
    have eF : ∀ (s : S) , s = [some (.int p), some (lls eqs), some (.int u), some (.int eqs.length), some (lls ls), some (natL used), some (natD c), x7, none, x9, x10, x11, x12, x13, x14] → evE G (.lc (.one 7) (.rng2 (.bi .len (.cons (.var 5) .nil)) (.var 3)) (.cons (.cmp .ne (.sub (.sub (.var 4) (.var 7)) (.var 6)) (.cst (.int 0))) .nil) (.var 7)) s = .ok (natL ((List.range' used.length (eqs.length - used.length)).filter fun i => !decide (ent ls i c = 0))) := by
      rintro s rfl
      rw [lc_one natD natD (List.range' used.length (eqs.length - used.length)) (fun i => !decide (ent ls i c = 0)) (fun i => i) (by simp (disch := omega) [rng1]) (by simp; omega) (fun i hi => by
        obtain ⟨hi1, hi2⟩ := List.mem_range'_1.mp hi
        have := (shp.get (i := i) (by omega)).1
        refine ⟨?_, fun _ => by simp⟩
        have e1 : subD (lstI (ls.getD i [])) (.int c) = .ok (.int (ent ls i c)) := by
          rw [sub_lstI (by omega) (by omega)]; rfl
        simp (disch := omega) [natD, sub_lls, -List.getD_eq_getElem?_getD, e1]
        by_cases q : ent ls i c = 0 <;> simp [q])]
      simp [natL]
    refine seq_asgE _ (eF _ rfl) ?_
    cases hfr : (List.range' used.length (eqs.length - used.length)).filter fun i => !decide (ent ls i c = 0) with
    | nil =>
      refine ⟨_, by simp; rfl, ?_⟩
      refine ⟨_, _, _, _, _, _, _, _, _, _, rfl, shp, inv.skip fun i h1 h2 => ?_⟩
      have : ent ls i c = 0 := by
        have := List.filter_eq_nil_iff.mp hfr i (List.mem_range'_1.mpr ⟨h1, by omega⟩)
        simpa using this
      simp only [this, H.zero]
    | cons f rest =>
      have hfm : f ∈ (List.range' used.length (eqs.length - used.length)).filter fun i => !decide (ent ls i c = 0) := by rw [hfr]; exact List.mem_cons_self
      obtain ⟨hf1, hf2⟩ := List.mem_filter.mp hfm
      obtain ⟨hf3, hf4⟩ := List.mem_range'_1.mp hf1
      have hf5 : ent ls f c ≠ 0 := by simpa using hf2
      have hfc : f < eqs.length := by omega
      have hrc : used.length < eqs.length := by omega
      generalize hr0 : used.length = r at *
      have hu : used = used := rfl
      have hul : used.length = r := hr0
      let ls1 := (ls.set r (ls.getD f [])).set f (ls.getD r [])
      have g1' : ∀ i, ls1.getD i [] = if i = f then ls.getD r [] else if i = r then ls.getD f [] else ls.getD i [] := fun i => by
        show ((ls.set r (ls.getD f [])).set f (ls.getD r [])).getD i [] = _
        rw [getD_set (by simp; omega)]
        split
        · rfl
        · rw [getD_set (by omega)]
      have hx1 : ls1.getD r [] = ls.getD f [] := by
        rw [g1']
        split
        · rename_i e; rw [e]
        · rw [if_pos rfl]
      have l1l : ls1.length = eqs.length := by show ((ls.set r (ls.getD f [])).set f (ls.getD r [])).length = _; simp [hll]
      have hxf := shp.ent (i := f) (d := c) hfc (by omega)
      obtain ⟨_, eq1, q, rfl, hq1, hq2, hq3⟩ := s1 p (ent ls f c) hp (by omega) hxf.2
      have hlf := (shp.get hfc).1
      have hlr := (shp.get hrc).1
      let ls2 := ls1.set r ((ls.getD f []).map fun y => y * q % p)
      have l2l : ls2.length = eqs.length := by show (ls1.set r _).length = _; rw [List.length_set, l1l]
      have g2' : ∀ i, ls2.getD i [] = if i = r then (ls.getD f []).map (fun y => y * q % p) else if i = f then ls.getD r [] else ls.getD i [] := fun i => by
        show (ls1.set r _).getD i [] = _
        rw [getD_set (by omega)]
        split
        · rfl
        · rw [g1']
          split
          · rfl
          · first | rfl | rw [if_neg (by assumption)]
      have shp2 : Shp p eqs.length (u + 1 + eqs.length) ls2 := Shp.of l2l fun i hi => by
        rw [g2']
        split
        · exact ⟨by rw [List.length_map, hlf], fld_mod hpp _ _⟩
        · split
          · exact shp.get hrc
          · exact shp.get hi
      have eS1 : ∀ (i : Int), 0 ≤ i → i < eqs.length → subD (lls ls) (.int i) = .ok (lstI (ls.getD i.toNat [])) := fun i h0 h1 => sub_lls h0 (by omega)
      have eP1 : putD (lls ls) (.int r) (lstI (ls.getD f [])) = .ok (lls (ls.set r (ls.getD f []))) := by
        rw [put_lls (by omega) (by omega)]; simp
      have eP2 : putD (lls (ls.set r (ls.getD f []))) (.int f) (lstI (ls.getD r [])) = .ok (lls ls1) := by
        rw [put_lls (by omega) (by simp; omega)]; simp [ls1]
      have eF0 : subD (natL (f :: rest)) (.int 0) = .ok (.int f) := by
        rw [sub_natL (by omega) (by simp)]; simp [natD]
      have eS2 : subD (lls ls1) (.int r) = .ok (lstI (ls.getD f [])) := by
        rw [sub_lls (by omega) (by omega), Int.toNat_natCast, hx1]
      have eS3 : subD (lstI (ls.getD f [])) (.int c) = .ok (.int (ent ls f c)) := by
        rw [sub_lstI (by omega) (by omega)]; rfl
      refine seq_iffE true (by simp; rfl) (by simp) ?_
      rw [if_pos rfl]
      refine seq_asgE (.int r) (by simp [hul]) ?_
      refine seq_nxE (by
        rw [es_st2]
        simp (disch := omega) only [List.set_cons_zero, List.set_cons_succ, ev_sub, ev_var, ev_cst, getV_zero, getV_succ, R.bind_ok, R.go_ok, eF0, eS1, eP1, eP2, Int.toNat_natCast]; rfl) ?_
      refine seq_asgE (.int q) (by
        rw [ev_call _ _ h1]
        simp only [ev_sub, ev_var, ev_cst, ev_cons, ev_nil, getV_zero, getV_succ, R.bind_ok, R.go_ok, eS2, natD, eS3, eq1]) ?_
      have eP3 : putD (lls ls1) (.int r) (lstI ((ls.getD f []).map fun y => y * q % p)) = .ok (lls ls2) := by
        rw [put_lls (by omega) (by omega)]; simp [ls2]
      refine seq_nxE (by
        rw [es_sti, lc_map PyData.int PyData.int (ls.getD f []) (fun y => y * q % p) (by simp only [List.set_cons_zero, List.set_cons_succ, ei_seq, ev_sub, ev_var, getV_zero, getV_succ, R.bind_ok, eS2, seqE_lstI]) (by omega) (fun y hy => by
          simp (disch := omega) [op_muli, op_modi])]
        rw [lst_lit]
        simp only [List.set_cons_zero, List.set_cons_succ, ev_var, getV_zero, getV_succ, R.bind_ok, R.go_ok, eP3]; rfl) ?_
      refine seq_forE natD (List.range eqs.length) (by simp (disch := omega) [rng0]) (fun t s => ∃ l3 x7, s = [some (.int p), some (lls eqs), some (.int u), some (.int eqs.length), some (lls l3), some (natL used), some (natD c), x7, none, x9, x10, some (natL (f :: rest)), some (.int r), some (.int q), x14] ∧ l3.length = eqs.length ∧ ∀ i, i < eqs.length → l3.getD i [] = if i < t ∧ i ≠ r then redL p (ls2.getD i []) (ls2.getD r []) (ent ls2 i c) else ls2.getD i [])
        ⟨ls2, _, rfl, l2l, fun i hi => by rw [if_neg (by omega)]⟩ ?_ ?_
      · rintro t ht s ⟨l3, x7, rfl, h3l, h3⟩
        have ht' : t < eqs.length := by simpa using ht
        rw [List.getElem_range]
        have e3t : l3.getD t [] = ls2.getD t [] := by rw [h3 t ht', if_neg (by omega)]
        have e3r : l3.getD r [] = ls2.getD r [] := by rw [h3 r hrc, if_neg (by omega)]
        have eT : subD (lls l3) (.int t) = .ok (lstI (ls2.getD t [])) := by rw [sub_lls (by omega) (by omega), Int.toNat_natCast, e3t]
        have eR : subD (lls l3) (.int r) = .ok (lstI (ls2.getD r [])) := by rw [sub_lls (by omega) (by omega), Int.toNat_natCast, e3r]
        have eE : subD (lstI (ls2.getD t [])) (.int c) = .ok (.int (ent ls2 t c)) := by rw [sub_lstI (by omega) (by have := (shp2.get ht').1; omega)]; rfl
        have hx2 := shp2.ent (i := t) (d := c) ht' (by omega)
        have l2t := shp2.get ht'
        have l2r := shp2.get hrc
        by_cases htr : t = r
        · refine ⟨_, by simp [natD, htr]; rfl, ?_⟩
          refine ⟨l3, _, rfl, h3l, fun i hi => ?_⟩
          rw [h3 i hi]
          by_cases q1 : i < t ∧ i ≠ r
          · rw [if_pos q1, if_pos ⟨by omega, q1.2⟩]
          · rw [if_neg q1, if_neg (by omega)]
        · have htr' : ¬ ((t : Int) = r) := by omega
          by_cases hz : ent ls2 t c = 0
          · refine ⟨_, by simp [natD, htr', eT, eE, hz, -List.getD_eq_getElem?_getD]; rfl, ?_⟩
            refine ⟨l3, _, rfl, h3l, fun i hi => ?_⟩
            rw [h3 i hi]
            by_cases q1 : i < t ∧ i ≠ r
            · rw [if_pos q1, if_pos ⟨by omega, q1.2⟩]
            · rw [if_neg q1]
              by_cases q2 : i = t
              · subst q2
                rw [if_pos ⟨by omega, htr⟩, hz, redL_zero (by omega) l2t.2]
              · rw [if_neg (by omega)]
          · have e2 := s2 p (ls2.getD t []) (ls2.getD r []) (ent ls2 t c) hp hx2.1 hx2.2 (by omega)
            have eP4 : putD (lls l3) (.int t) (lstI (redL p (ls2.getD t []) (ls2.getD r []) (ent ls2 t c))) = .ok (lls (l3.set t (redL p (ls2.getD t []) (ls2.getD r []) (ent ls2 t c)))) := by
              rw [put_lls (by omega) (by omega)]; simp
            refine ⟨_, by simp [natD, htr', eT, eR, eE, hz, ev_call _ _ h2, e2, eP4, -List.getD_eq_getElem?_getD]; rfl, ?_⟩
            refine ⟨_, _, rfl, by simp [h3l], fun i hi => ?_⟩
            rw [getD_set (by omega)]
            by_cases q2 : i = t
            · subst q2; rw [if_pos rfl, if_pos ⟨by omega, htr⟩]
            · rw [if_neg q2, h3 i hi]
              by_cases q1 : i < t ∧ i ≠ r
              · rw [if_pos q1, if_pos ⟨by omega, q1.2⟩]
              · rw [if_neg q1, if_neg (by omega)]
      · rintro s' ⟨l3, x7, rfl, h3l, h3⟩
        rw [List.length_range] at h3
        refine seq_nxE (by simp (disch := omega) [app_natL]; rfl) ?_
        refine nil_E ?_
        refine nil_E ?_
        refine ⟨_, _, _, _, _, _, _, _, _, _, rfl, Shp.of h3l fun i hi => ?_, ?_⟩
        · rw [h3 i hi]
          split
          · exact ⟨by rw [redL_len (by rw [(shp2.get hi).1, (shp2.get hrc).1]), (shp2.get hi).1], redL_fld hpp⟩
          · exact shp2.get hi
        · have hφq : H.φ (ent ls f c) * H.φ q = 1 := by
            rw [← H.mul, ← H.one, H.eq, Int.mul_comm, hq3, Int.emod_eq_of_lt (by omega) (by omega)]
          have e2r : ∀ d, d < u + 1 + eqs.length → ent ls2 r d = ent ls f d * q % p := fun d hd => by
            unfold ent
            rw [g2', if_pos rfl, nthI_map (by omega)]
          refine inv.step hcu (f := f) (by omega) hfc (q := H.φ q) hφq (fun d hd => ?_) (fun i hi hir d hd => ?_)
          · rw [hul]
            rw [show ent l3 r d = ent ls2 r d by unfold ent; rw [h3 r hrc, if_neg (by omega)], e2r d hd, H.mod, H.mul]
          · rw [hul] at hir ⊢
            have e2i : ∀ d, ent ls2 i d = ent ls (if i = f then r else i) d := fun d => by
              unfold ent
              rw [g2', if_neg hir]
              split <;> rfl
            have e3i : ent l3 i d = (ent ls2 i d - ent ls2 i c * ent ls2 r d) % p := by
              show nthI (l3.getD i []) d = _
              rw [h3 i hi, if_pos ⟨hi, hir⟩, redL_nth (by rw [(shp2.get hi).1]; exact hd) (by rw [(shp2.get hrc).1]; exact hd)]
              rfl
            rw [e3i, H.mod, H.sub, H.mul, e2r d hd, H.mod, H.mul, e2i, e2i]
  · rintro s' ⟨ls, used, x6, x7, x9, x10, x11, x12, x13, x14, rfl, shp, inv⟩
    rw [List.length_range] at inv
    have hll := shp.1
    have hrk := inv.rk
    -- a line without coefficients
    refine seq_forFE lstI (ls.drop used.length) (by simp (disch := omega) [slc_lls]) (fun _ s => ∃ x7, s = [some (.int p), some (lls eqs), some (.int u), some (.int eqs.length), some (lls ls), some (natL used), x6, x7, none, x9, x10, x11, x12, x13, x14]) (fun k => decide (ent ls (used.length + k) u = 0)) (fun k => .rt (.tuple [.none, .none, lstI ((ls.getD (used.length + k) []).drop (u + 1))])) (fun _ _ => rfl) ⟨_, rfl⟩ ?_ ?_ ?_
    · rintro k hk s ⟨x7, rfl⟩
      have hk' : used.length + k < eqs.length := by
        rw [List.length_drop] at hk; omega
      have eg : (ls.drop used.length)[k] = ls.getD (used.length + k) [] := by
        rw [List.getElem_drop]
        simp [show used.length + k < ls.length by omega]
      rw [eg]
      have hlk := (shp.get hk').1
      have e1 : subD (lstI (ls.getD (used.length + k) [])) (.int u) = .ok (.int (ent ls (used.length + k) u)) := by
        rw [sub_lstI (by omega) (by omega)]; rfl
      by_cases hz : ent ls (used.length + k) u = 0
      · rw [if_pos (by simpa using hz)]
        exact ⟨_, by simp [e1, hz, -List.getD_eq_getElem?_getD]; rfl, _, rfl⟩
      · rw [if_neg (by simpa using hz)]
        simp (disch := omega) [e1, hz, slcL_lo, -List.getD_eq_getElem?_getD, show ((u : Int) + 1).toNat = u + 1 by omega]
    · rintro s' ⟨x7, rfl⟩ hall
      have h0 : ∀ i, used.length ≤ i → i < eqs.length → ent ls i u = 0 := fun i hi1 hi2 => by
        have := hall (i - used.length) (by rw [List.length_drop]; omega)
        rw [show used.length + (i - used.length) = i by omega] at this
        simpa using this
      have eM : opD .mul (.list [.int 0]) (.int u) = .ok (lstI (List.replicate u 0)) := by
        have := mul_lst1 (k := u) (x := 0) (by omega) (by omega)
        rwa [Int.toNat_natCast] at this
      refine seq_nxE (by simp [eM]; rfl) ?_
      refine seq_nxE (by simp; rfl) ?_
      refine seq_for2E (fun x : Nat × Nat => natD x.2) (fun x => natD x.1) (used.zipIdx 0) (by simp [enum_map]) (fun k s => ∃ res x12 x6, s = [some (.int p), some (lls eqs), some (.int u), some (.int eqs.length), some (lls ls), some (natL used), x6, x7, some (lstI res), x9, x10, x11, x12, x13, x14] ∧ res.length = u ∧ (∀ j (hj : j < used.length), j < k → nthI res used[j] = ent ls j u) ∧ ∀ d, d < u → d ∉ used.take k → nthI res d = 0)
        ⟨List.replicate u 0, _, _, rfl, by simp, fun j hj hk => by omega, fun d hd _ => by simp [nthI, hd]⟩ ?_ ?_
      · rintro k hk s ⟨res, x12, x6, rfl, hrl, hr1, hr2⟩
        have hk' : k < used.length := by simpa using hk
        have ez : (used.zipIdx 0)[k] = (used[k], k) := by simp
        rw [ez]
        have huk : used[k] < u := inv.lt _ (List.getElem_mem hk')
        have e1 : subD (lls ls) (.int k) = .ok (lstI (ls.getD k [])) := by rw [sub_lls (by omega) (by omega), Int.toNat_natCast]
        have e2 : subD (lstI (ls.getD k [])) (.int u) = .ok (.int (ent ls k u)) := by
          rw [sub_lstI (by omega) (by have := (shp.get (i := k) (by omega)).1; omega)]; rfl
        have e3 : putD (lstI res) (.int used[k]) (.int (ent ls k u)) = .ok (lstI (res.set used[k] (ent ls k u))) := by
          rw [put_lstI (by omega) (by omega), Int.toNat_natCast]
        have hset : ∀ d, nthI (res.set used[k] (ent ls k u)) d = if d = used[k] then ent ls k u else nthI res d := fun d => by
          show (res.set used[k] (ent ls k u)).getD d 0 = _
          rw [getD_set (by omega)]
          rfl
        refine ⟨_, by simp [natD, e1, e2, e3, -List.getD_eq_getElem?_getD]; rfl, ?_⟩
        refine ⟨_, _, _, rfl, by simp [hrl], fun j hj hjk => ?_, fun d hd hdn => ?_⟩
        · rw [hset]
          by_cases q : j = k
          · subst q; rw [if_pos rfl]
          · rw [if_neg fun e => q (asc_inj inv.asc hj hk' e), hr1 j hj (by omega)]
        · rw [hset]
          rw [List.take_succ_eq_append_getElem hk'] at hdn
          rw [if_neg fun e => hdn (by rw [e]; exact List.mem_append_right _ List.mem_cons_self), hr2 d hd fun q => hdn (List.mem_append_left _ q)]
      · rintro s' ⟨res, x12, x6, rfl, hrl, hr1, hr2⟩
        have hzl : (used.zipIdx 0).length = used.length := by simp
        rw [hzl] at hr1 hr2
        rw [List.take_length] at hr2
        refine seq_nxE (by simp; rfl) ?_
        have eL : evE G (.lc (.one 6) (.rng (.var 2)) (.cons (.cmp .nin (.var 6) (.var 5)) .nil) (.var 6)) [some (.int p), some (lls eqs), some (.int u), some (.int eqs.length), some (lls ls), some (natL used), x6, x7, some (lstI res), x9, x10, x11, x12, x13, x14] = .ok (natL ((List.range u).filter fun d => !decide (d ∈ used))) := by
          rw [lc_one natD natD (List.range u) (fun d => !decide (d ∈ used)) (fun d => d) (by simp (disch := omega) [rng0]) (by simp; omega) (fun d hd => by
            refine ⟨?_, fun _ => by simp⟩
            simp [cp_nin_natL]
            by_cases q : d ∈ used <;> simp [q])]
          simp [natL]
        refine ⟨_, by
          simp only [ess_cons, es_ret, ev_tup, ev_cons, ev_nil, ev_var, getV_zero, getV_succ, R.bind_ok, eL, ev_cst, R.go_ok, Q.go_rt], .inr ⟨res, _, rfl, ginv_sol H hpp he shp inv h0 hrl (fun k hk => hr1 k hk hk) hr2, ginv_free H hpp he inv h0⟩⟩
    · intro k hk hc1 hc2
      have hk' : used.length + k < eqs.length := by
        rw [List.length_drop] at hk; omega
      exact ⟨_, rfl, .inl ⟨_, rfl, ginv_cert H hpp he shp inv (by omega) hk' (by simpa using hc1)⟩⟩
end Rr

set_option linter.all false
set_option Elab.async false
set_option maxRecDepth 100000
set_option maxHeartbeats 2000000
/-! Contracts: equations of rows, lengths. -/
namespace Rr
open PySem
variable {N : Nat} {G : Env}
/-- rows in a list or a tuple -/
def rowsL (l : List (List Int)) : D := .list (l.map tupI)
def rowsT (l : List (List Int)) : D := .tuple (l.map tupI)
@[simp] theorem seqE_rowsL (l : List (List Int)) : seqE (rowsL l) = .ok (l.map tupI) := Eq.trans rfl rfl
@[simp] theorem seqE_rowsT (l : List (List Int)) : seqE (rowsT l) = .ok (l.map tupI) := Eq.trans rfl rfl
theorem rowsL_one (r : List Int) : PyData.list [tupI r] = rowsL [r] := rfl
def Sp_equations_of (g : List D → R D) : Prop := ∀ row (L : Nat), row.length ≤ 1000 → L ≤ 1000 → g [tupI row, .int L] = .ok (lls (eqsOf row L))
theorem run_equations_of : Sp_equations_of (runD G N d_equations_of) := by
  intro row L hr hL
  refine run_rt rfl ?_
  dsimp only [d_equations_of]
  rw [ess_cons, es_ret]
  rw [lc_map natD lstI (List.range' L (row.length - L)) (eqAt row L) (by simp (disch := omega) [Rr.start, rng1]) (by simp; omega) (fun n hn => by
    obtain ⟨h1, h2⟩ := List.mem_range'_1.mp hn
    have e1 : slcD (some ((n : Int) - L)) (some (n : Int)) (tupI row) = .ok (tupI ((row.drop (n - L)).take L)) := by
      rw [slcI_both (by omega) (by omega), show ((n : Int) - L).toNat = n - L by omega, Int.toNat_natCast, show n - (n - L) = L by omega]
    have e2 : opD .add (lstI ((row.drop (n - L)).take L).reverse) (.list [.int (nthI row n)]) = .ok (lstI (eqAt row L n)) := add_lstI (a := ((row.drop (n - L)).take L).reverse) (b := [nthI row n]) (by simp; omega)
    simp (disch := omega) [Rr.start, natD, e1, sub_tupI, e2])]
  rfl
def SeqR (w : D) (rows : List (List Int)) : Prop := w = rowsL rows ∨ w = rowsT rows
/-- rows of numbers -/
def RowsOk (p : Int) (rows : List (List Int)) : Prop := (∀ row ∈ rows, fld p row ∧ row.length ≤ 30) ∧ rows.length ≤ 30
theorem RowsOk.f {p : Int} {rows : List (List Int)} (h : RowsOk p rows) : ∀ row ∈ rows, fld p row := fun r hr => (h.1 r hr).1
theorem RowsOk.one {p : Int} {row : List Int} (h : fld p row) (hl : row.length ≤ 30) : RowsOk p [row] := ⟨fun r hr => by rw [List.mem_singleton.mp hr]; exact ⟨h, hl⟩, by simp⟩
theorem eqsAll_len {p : Int} {rows : List (List Int)} (h : RowsOk p rows) (L : Nat) : (eqsAll rows L).length ≤ 900 := by
  have key : ∀ (rs : List (List Int)), (∀ row ∈ rs, row.length ≤ 30) → (eqsAll rs L).length ≤ 30 * rs.length := by
    intro rs
    induction rs with
    | nil => intro _; simp [eqsAll]
    | cons r rs ih =>
      intro h
      have h1 := ih fun row hr => h row (List.mem_cons_of_mem _ hr)
      have h2 := h r List.mem_cons_self
      have : (eqsAll (r :: rs) L).length = (eqsOf r L).length + (eqsAll rs L).length := by simp [eqsAll]
      rw [this, List.length_cons]
      have h3 : (eqsOf r L).length = r.length - L := by simp [eqsOf]
      omega
  have := key rows fun row hr => (h.1 row hr).2
  have := h.2
  omega
def Sp_attempt (g : List D → R D) : Prop := ∀ p rows w (L : Nat), prm p → RowsOk p rows → SeqR w rows → L ≤ 1000 → ∃ v, g [.int p, w, .int L] = .ok v ∧ SolveV p (eqsAll rows L) L v
theorem run_attempt {g1 g2 : List D → R D} (h1 : G.fn "equations_of" = some g1) (s1 : Sp_equations_of g1) (h2 : G.fn "solve" = some g2) (s2 : Sp_solve g2) : Sp_attempt (runD G N d_attempt) := by
  intro p rows w L hp hr hw hL
  have hsq : seqE w = .ok (rows.map tupI) := by rcases hw with rfl | rfl <;> simp
  have hlen := eqsAll_len hr L
  refine run_rtE rfl ?_
  dsimp only [d_attempt]
  refine seq_nxE (by simp [Rr.start]; rfl) ?_
  refine seq_forE tupI rows (by simp [hsq]) (fun k s => ∃ x, s = [some (.int p), some w, some (.int L), some (lls (eqsAll (rows.take k) L)), x]) ⟨none, rfl⟩ ?_ ?_
  · rintro k hk s ⟨x, rfl⟩
    have hm := hr.1 _ (List.getElem_mem hk)
    have e1 := s1 rows[k] L (by omega) hL
    have hl1 : (eqsAll (rows.take k) L).length ≤ 900 := eqsAll_len (p := p) ⟨fun r h => hr.1 r (List.mem_of_mem_take h), by have := hr.2; simp; omega⟩ L
    have hl2 : (eqsOf rows[k] L).length ≤ 30 := by simp [eqsOf]; omega
    have e2 : extD (lls (eqsAll (rows.take k) L)) (lls (eqsOf rows[k] L)) = .ok (lls (eqsAll (rows.take (k + 1)) L)) := by
      show extD (.list _) (.list _) = _
      rw [ext_list (by simp; omega), List.take_succ_eq_append_getElem hk]
      unfold lls eqsAll
      rw [List.flatMap_append, List.map_append, List.flatMap_singleton]
    exact ⟨_, by simp [ev_call _ _ h1, e1, e2]; rfl, _, rfl⟩
  · rintro s' ⟨x, rfl⟩
    rw [List.take_length]
    obtain ⟨v, e, hv⟩ := s2 p (eqsAll rows L) L hp (eqsAll_ok hr.f L) hL (by omega)
    exact ⟨v, by simp [ev_call _ _ h2, e], hv⟩
/-- what attempt returns tells whether there is a rule -/
theorem SolveV.has {p : Int} (hp : prm p) {rows : List (List Int)} (hr : RowsOk p rows) {L : Nat} {v : D} (h : SolveV p (eqsAll rows L) L v) : (∃ m, v = .tuple [.none, .none, lstI m] ∧ Cert p (eqsAll rows L) L m ∧ ¬ HasI p rows L) ∨ ∃ x free, v = .tuple [lstI x, natL free, .none] ∧ Sol p (eqsAll rows L) L x ∧ FreeOk p (eqsAll rows L) L free ∧ HasI p rows L := by
  rcases h with ⟨m, h1, h2⟩ | ⟨x, free, h1, h2, h3⟩
  · refine .inl ⟨m, h1, h2, fun ⟨rule, q1, q2, q3⟩ => ?_⟩
    exact h2.no hp (eqsAll_ok hr.f L) (sol_all.mpr ⟨q1, q2, q3⟩)
  · refine .inr ⟨x, free, h1, h2, h3, ?_⟩
    obtain ⟨q1, q2, q3⟩ := sol_all.mp h2
    exact ⟨x, q1, q2, q3⟩
def Sp_least_length (g : List D → R D) : Prop := ∀ p rows w, prm p → RowsOk p rows → SeqR w rows → g [.int p, w] = .ok (.int (lenI p rows))
theorem run_least_length {g1 : List D → R D} (h1 : G.fn "attempt" = some g1) (s1 : Sp_attempt g1) (hN : 2000 ≤ N) : Sp_least_length (runD G N d_least_length) := by
  intro p rows w hp hr hw
  have hle : lenI p rows ≤ 30 := lenI_le hp.pos fun r h => (hr.1 r h).2
  refine run_rt rfl ?_
  dsimp only [d_least_length]
  refine seq_nx (by simp [Rr.start]; rfl) ?_
  refine seq_while (A := Nat) (fun L s => s = [some (.int p), some w, some (.int L)] ∧ L ≤ lenI p rows) (fun L => decide (L < lenI p rows)) (fun L => lenI p rows - L) 0 ⟨rfl, by omega⟩ (by omega) ?_ ?_ ?_
  · rintro L s ⟨rfl, hL⟩
    obtain ⟨v, e, hv⟩ := s1 p rows w L hp hr hw (by omega)
    rcases hv.has hp hr with ⟨m, rfl, _, hn⟩ | ⟨x, free, rfl, _, _, hh⟩
    · have : L < lenI p rows := Nat.lt_of_not_le fun q => hn ((hasI_iff hp hr.f).mpr q)
      simp [ev_call _ _ h1, e, subD, nthD, ixI, cpD, isNone, this]
    · have : ¬ L < lenI p rows := by have := (hasI_iff hp hr.f).mp hh; omega
      simp [ev_call _ _ h1, e, subD, nthD, ixI, cpD, lstI, isNone, this]
  · rintro L s ⟨rfl, hL⟩ hc
    have hc : L < lenI p rows := by simpa using hc
    refine ⟨_, by simp; rfl, ?_⟩
    exact ⟨L + 1, ⟨by simp, by omega⟩, by omega⟩
  · rintro L s ⟨rfl, hL⟩ hc
    have hc : ¬ L < lenI p rows := by simpa using hc
    have : L = lenI p rows := by omega
    subst this
    simp
end Rr

set_option linter.all false
set_option Elab.async false
set_option maxRecDepth 100000
set_option maxHeartbeats 4000000
/-! Contracts: the laws' own length, number by number. -/
namespace Rr
open PySem
variable {N : Nat} {G : Env}
theorem nthI_big {l : List Int} {i : Nat} (h : l.length ≤ i) : nthI l i = 0 := by simp [nthI, h]
theorem sq_big {p : Int} {K : Type} [Lean.Grind.CommRing K] (H : Hm p K) {l : List Int} {i : Nat} (h : l.length ≤ i) : sq H l i = 0 := by unfold sq; rw [nthI_big h, H.zero]
theorem min2 (i j : Int) : biD .min2 [.int i, .int j] = .ok (.int (min i j)) := by
  show R.ok (PyData.int (if j < i then j else i)) = _
  congr 2
  split <;> omega
theorem max2 (i j : Int) : biD .max2 [.int i, .int j] = .ok (.int (max i j)) := by
  show R.ok (PyData.int (if j > i then j else i)) = _
  congr 2
  split <;> omega
/-- [one for one in range(1, prime) if one * x % prime == 1][0] -/
theorem ev_inv {s : S} {p x : Int} {i j : Nat} (hp : prm p) (hx1 : 0 < x) (hx2 : x < p) (h1 : ∀ k, getV (s.set i k) 0 = .ok (.int p)) (h1' : getV s 0 = .ok (.int p)) (h2 : ∀ k, getV (s.set i k) j = .ok (.int x)) (h3 : i < s.length) :
    ∃ q : Int, evE G (.sub (.lc (.one i) (.rng2 (.cst (.int 1)) (.var 0)) (.cons (.cmp .eq (.bin .mod (.bin .mul (.var i) (.var j)) (.var 0)) (.cst (.int 1))) .nil) (.var i)) (.cst (.int 0))) s = .ok (.int q) ∧ 1 ≤ q ∧ q < p ∧ q * x % p = 1 := by
  have hpp := hp.pos
  have hpl := hp.le
  have key : ∃ k r, (List.range' 1 (p.toNat - 1)).filter (fun k : Nat => decide ((k : Int) * x % p = 1)) = k :: r := by
    obtain ⟨k, hk, e⟩ := inv_some hp hx1 hx2
    cases q : (List.range' 1 (p.toNat - 1)).filter (fun k : Nat => decide ((k : Int) * x % p = 1)) with
    | nil =>
      have : k ∈ (List.range' 1 (p.toNat - 1)).filter (fun k : Nat => decide ((k : Int) * x % p = 1)) := List.mem_filter.mpr ⟨hk, by simpa using e⟩
      rw [q] at this; cases this
    | cons k r => exact ⟨k, r, rfl⟩
  obtain ⟨k, r, e⟩ := key
  have hk : k ∈ (List.range' 1 (p.toNat - 1)).filter (fun k : Nat => decide ((k : Int) * x % p = 1)) := by rw [e]; exact List.mem_cons_self
  obtain ⟨hk1, hk2⟩ := List.mem_filter.mp hk
  obtain ⟨hk3, hk4⟩ := List.mem_range'_1.mp hk1
  refine ⟨k, ?_, by omega, by omega, by simpa using hk2⟩
  rw [ev_sub]
  rw [lc_one natD natD (List.range' 1 (p.toNat - 1)) (fun k : Nat => decide ((k : Int) * x % p = 1)) (fun k => k) (by simp (disch := omega) [h1', rng1]) (by simp; omega) (fun t ht => by
    obtain ⟨hj3, hj4⟩ := List.mem_range'_1.mp ht
    have e0 : getV (s.set i (some (natD t))) i = .ok (natD t) := by simp [getV, h3]
    refine ⟨?_, fun _ => by rw [ev_var, e0]⟩
    have e0' : getV (s.set i (some (.int t))) i = .ok (.int t) := e0
    simp (disch := omega) [e0', h1, h2, natD, op_muli, op_modi]
    by_cases q : (t : Int) * x % p = 1 <;> simp [q])]
  rw [e]
  simp [subD, nthD, ixI, natD]
section
variable {p : Int} {K : Type} [Lean.Grind.CommRing K] (H : Hm p K)
/-- what the search keeps before a place -/
structure BInv (row : List Int) (n : Nat) (now old : List Int) (L shift : Nat) (last : Int) : Prop where
  fn : fld p now
  fo : fld p old
  la : 0 < last ∧ last < p
  len : IsL (sq H row) n L
  nl : now.length ≤ L + 1
  n1 : 1 ≤ now.length
  cp : CP (sq H now) L (sq H row) n
  sl : shift + old.length ≤ n + 2 - L
  s1 : 1 ≤ shift
  ol : (L = 0 ∧ shift = n + 1) ∨ ∃ m Lb, CP (sq H old) Lb (sq H row) m ∧ old.length ≤ Lb + 1 ∧ m < n ∧ Lb ≤ m ∧ sg (Lb + 1) (fun i => sq H old i * sq H row (m - i)) = H.φ last ∧ L + Lb = m + 1 ∧ shift = n - m
variable {row now old : List Int} {n L shift : Nat} {last : Int} [Fld K]
theorem BInv.disc (h : BInv H row n now old L shift last) (hn : n < row.length) : H.φ (dot now (row.take (n + 1)).reverse % p) = sg (L + 1) (fun i => sq H now i * sq H row (n - i)) := by
  have hL := h.len.le
  rw [H.mod, φ_dot H _ _ (by simp; have := h.nl; omega), sg_more (n := now.length) (m := L + 1) h.nl fun i h1 h2 => by rw [sq_big H h1]; grind]
  refine sg_congr fun i hi => ?_
  have : nthI (row.take (n + 1)).reverse i = nthI row (n - i) := by
    have := h.nl
    rw [take_rev_nth (by omega) (by omega)]
    congr 1
  unfold sq
  rw [this]
theorem BInv.stay (h : BInv H row n now old L shift last) (hn : n < row.length) (e : dot now (row.take (n + 1)).reverse % p = 0) : BInv H row (n + 1) now old L (shift + 1) last := by
  have hd := h.disc H hn
  rw [e, H.zero] at hd
  have hc := h.cp.next hd.symm
  refine { h with len := ⟨⟨_, hc.hasR⟩, fun L' h' => h.len.2 L' (h'.mono (by omega))⟩, cp := hc, sl := ?_, s1 := by omega, ol := ?_ }
  · have := h.sl; have := h.len.le; omega
  · rcases h.ol with ⟨h1, h2⟩ | ⟨m, Lb, h1, h2, h3, h4, h5, h6, h7⟩
    · exact .inl ⟨h1, by omega⟩
    · exact .inr ⟨m, Lb, h1, h2, by omega, h4, h5, h6, by omega⟩
/-- the next polynomial -/
theorem BInv.go (h : BInv H row n now old L shift last) (hp : 0 < p) (hn : n < row.length) {e q : Int} (he : dot now (row.take (n + 1)).reverse % p = e) (he0 : e ≠ 0) (hq : q * last % p = 1) (hp2 : 2 ≤ p) {lon : List Int} (hf : fld p lon) (hll : lon.length = max now.length (old.length + shift))
    (hlon : ∀ i, H.φ (nthI lon i) = sq H now i - H.φ (e * q) * (if shift ≤ i then sq H old (i - shift) else 0)) :
    (2 * L ≤ n → BInv H row (n + 1) lon now (n + 1 - L) 1 e) ∧ (n < 2 * L → BInv H row (n + 1) lon old L (shift + 1) last) := by
  have hL := h.len.le
  have hd := h.disc H hn
  rw [he] at hd
  have heb : 0 ≤ e ∧ e < p := by rw [← he]; exact ⟨Int.emod_nonneg _ (by omega), Int.emod_lt_of_pos _ hp⟩
  have hd0 : sg (L + 1) (fun i => sq H now i * sq H row (n - i)) ≠ 0 := fun q => he0 ((H.z' heb).mp (by rw [hd, q]))
  have key : CP (sq H lon) (max L (n + 1 - L)) (sq H row) (n + 1) := by
    rcases h.ol with ⟨h1, h2⟩ | ⟨m, Lb, h1, h2, h3, h4, h5, h6, h7⟩
    · refine ⟨?_, fun k k1 k2 => by omega⟩
      show H.φ (nthI lon 0) = 1
      rw [hlon, if_neg (by omega), h.cp.1]; grind
    · have hr : H.φ last * H.φ q = 1 := by
        rw [← H.mul, ← H.one, H.eq, Int.mul_comm, hq, Int.emod_eq_of_lt (by omega) (by omega)]
      refine (bm_step h.cp hL (fun i hi => sq_big H (by have := h.nl; omega)) h1 (fun i hi => sq_big H (by omega)) h3 h4 h5 hr h6 rfl (C' := sq H lon) fun i => ?_).1
      show H.φ (nthI lon i) = _
      rw [hlon, H.mul, hd, h7]
  have hl' : lon.length ≤ max L (n + 1 - L) + 1 := by
    have := h.nl; have := h.sl; omega
  have hI := h.len.grow h.cp hd0 ⟨_, key.hasR⟩
  have hn1 := h.n1
  constructor
  · intro h2
    have e1 : max L (n + 1 - L) = n + 1 - L := by omega
    rw [e1] at key hl' hI
    refine ⟨hf, h.fn, ⟨by omega, heb.2⟩, hI, hl', by omega, key, by have := h.nl; omega, by omega, .inr ⟨n, L, h.cp, h.nl, by omega, hL, hd.symm, by omega, by omega⟩⟩
  · intro h2
    have e1 : max L (n + 1 - L) = L := by omega
    rw [e1] at key hl' hI
    refine ⟨hf, h.fo, h.la, hI, hl', by omega, key, by have := h.sl; omega, by omega, ?_⟩
    rcases h.ol with ⟨h1, h2⟩ | ⟨m, Lb, h1, h2, h3, h4, h5, h6, h7⟩
    · omega
    · exact .inr ⟨m, Lb, h1, h2, by omega, h4, h5, h6, by omega⟩
theorem BInv.init (hp : 2 ≤ p) : BInv H row 0 [1] [1] 0 1 1 where
  fn := fun x hx => by rw [List.mem_singleton.mp hx]; omega
  fo := fun x hx => by rw [List.mem_singleton.mp hx]; omega
  la := by omega
  len := ⟨⟨fun _ => 0, fun n h1 h2 => by omega⟩, fun L' _ => by omega⟩
  nl := by simp
  n1 := by simp
  cp := ⟨by show H.φ (nthI [1] 0) = 1; rw [nthI_cons_zero, H.one], fun n h1 h2 => by omega⟩
  sl := by simp
  s1 := by omega
  ol := .inl ⟨rfl, rfl⟩
end

def Sp__law_length (g : List D → R D) : Prop := ∀ p row, prm p → fld p row → row.length ≤ 30 → g [.int p, tupI row] = .ok (.int (lenI p [row]))
theorem par2_eq (s : S) (i j : Nat) (a b : Ex) : evS G N (.par2 i j a b) s = (evE G a s).go fun x => (evE G b s).go fun y => .nx ((s.set i (some x)).set j (some y)) := by rw [evS]
theorem lst1 (x : Int) : PyData.list [.int x] = lstI [x] := rfl
theorem run__law_length : Sp__law_length (runD G N d__law_length) := by
  intro p row hp hr hl
  obtain ⟨K, i1, i2, ⟨H⟩⟩ := field_of hp
  have hpp := hp.pos
  have hpl := hp.le
  have hp2 := hp.ge
  refine run_rt rfl ?_
  dsimp only [d__law_length]
  refine seq_nx (by simp [Rr.start]; rfl) ?_
  refine seq_nx (by simp [unpL]; rfl) ?_
  simp only [lst1]
  refine seq_for natD (List.range row.length) (by simp (disch := omega) [rng0]) (fun n s => ∃ now old L shift last x2 x8 x9 x10 x11 x12, s = [some (.int p), some (tupI row), x2, some (lstI now), some (lstI old), some (.int (L : Nat)), some (.int (shift : Nat)), some (.int last), x8, x9, x10, x11, x12, none] ∧ BInv H row n now old L shift last)
    ⟨[1], [1], 0, 1, 1, none, none, none, none, none, none, rfl, BInv.init H hp2⟩ ?_ ?_
  · rintro n hn s ⟨now, old, L, shift, last, x2, x8, x9, x10, x11, x12, rfl, h⟩
    have hn : n < row.length := by simpa using hn
    rw [List.getElem_range]
    have hL := h.len.le
    have hnl := h.nl
    have hn1 := h.n1
    have hsl := h.sl
    have hs1 := h.s1
    refine seq_asgE (.int 0) (by simp) ?_
    have emin : min (now.length : Int) ((n : Int) + 1) = now.length := by omega
    refine seq_forE natD (List.range now.length) (by simp (disch := omega) [rng0, min2, natD, emin]) (fun k s => ∃ x9, s = [some (.int p), some (tupI row), some (natD n), some (lstI now), some (lstI old), some (.int (L : Nat)), some (.int (shift : Nat)), some (.int last), some (.int (dot (now.take k) (row.take (n + 1)).reverse)), x9, x10, x11, x12, none])
      ⟨x9, by simp [dot]⟩ ?_ ?_
    · rintro k hk s ⟨x9, rfl⟩
      have hk : k < now.length := by simpa using hk
      rw [List.getElem_range]
      have hb := h.fn.nth hk
      refine ⟨_, by simp (disch := omega) [natD, sub_lstI, sub_tupI, op_muli]; rfl, ?_⟩
      rw [dot_take_succ _ _ _ hk (by simp; omega), take_rev_nth (by omega) (by omega), show n + 1 - 1 - k = n - k by omega]
      exact ⟨_, rfl⟩
    rintro s' ⟨x9, rfl⟩
    rw [List.length_range, List.take_length]
    obtain ⟨e, he⟩ : ∃ e, dot now (row.take (n + 1)).reverse % p = e := ⟨_, rfl⟩
    have heb : 0 ≤ e ∧ e < p := by rw [← he]; exact ⟨Int.emod_nonneg _ (by omega), Int.emod_lt_of_pos _ hpp⟩
    refine seq_asgE (.int e) (by simp (disch := omega) [op_modi, he]) ?_
    refine seq_asgE (.int (shift + 1 : Nat)) (by simp) ?_
    by_cases hz : e = 0
    · refine seq_iffE false (by simp [hz]; rfl) (by simp) ?_
      refine nil_E (nil_E ?_)
      exact ⟨now, old, L, shift + 1, last, _, _, _, _, _, _, rfl, h.stay H hn (by rw [he, hz])⟩
    · refine seq_iffE true (by simp [hz]; rfl) (by simp) ?_
      rw [if_pos rfl]
      obtain ⟨q, eq, hq1, hq2, hq3⟩ := ev_inv (G := G) (s := [some (.int p), some (tupI row), some (natD n), some (lstI now), some (lstI old), some (.int (L : Nat)), some (.int (shift + 1 : Nat)), some (.int last), some (.int e), x9, x10, x11, x12, none]) (i := 13) (j := 7) (x := last) hp h.la.1 h.la.2 (by simp) (by simp) (by simp) (by simp)
      refine seq_asgE (.int (e * q)) (by
        rw [ev_bin]
        erw [eq]
        simp (disch := omega) [op_muli]) ?_
      have e1 : opD .mul (.list [.int 0]) (.int (max 0 ((old.length : Int) + ((shift : Int) + 1) - 1 - now.length))) = .ok (lstI (List.replicate (old.length + shift - now.length) 0)) := by
        have := mul_lst1 (k := max 0 ((old.length : Int) + ((shift : Int) + 1) - 1 - now.length)) (x := 0) (by omega) (by omega)
        rw [lst1, this, show (max 0 ((old.length : Int) + ((shift : Int) + 1) - 1 - now.length)).toNat = old.length + shift - now.length by omega]
      have e2 : opD .add (lstI now) (lstI (List.replicate (old.length + shift - now.length) 0)) = .ok (lstI (now ++ List.replicate (old.length + shift - now.length) 0)) := add_lstI (by simp; omega)
      refine seq_nxE (by simp [max2, e1, e2]; rfl) ?_
      have hfl : fld p (now ++ List.replicate (old.length + shift - now.length) 0) := fld_append h.fn (fld_rep hpp _)
      have hll : (now ++ List.replicate (old.length + shift - now.length) 0).length = max now.length (old.length + shift) := by simp; omega
      have hent : ∀ i, nthI (now ++ List.replicate (old.length + shift - now.length) 0) i = nthI now i := fun i => by
        rw [nthI_app]
        split
        · rfl
        · rename_i hi
          rw [nthI_big (l := now) (by omega)]
          simp [nthI, List.getElem?_replicate]
          split <;> rfl
      generalize now ++ List.replicate (old.length + shift - now.length) 0 = lon0 at hfl hll hent
      refine seq_forE natD (List.range old.length) (by simp (disch := omega) [rng0]) (fun k s => ∃ lon x9 x12, s = [some (.int p), some (tupI row), some (natD n), some (lstI now), some (lstI old), some (.int (L : Nat)), some (.int (shift + 1 : Nat)), some (.int last), some (.int e), x9, some (.int (e * q)), some (lstI lon), x12, none] ∧ fld p lon ∧ lon.length = max now.length (old.length + shift) ∧ ∀ i, nthI lon i = if shift ≤ i ∧ i < shift + k then (nthI now i - e * q * nthI old (i - shift)) % p else nthI now i)
        ⟨lon0, _, _, rfl, hfl, hll, fun i => by rw [if_neg (by omega), hent]⟩ ?_ ?_
      · rintro k hk s ⟨lon, x9, x12, rfl, g1, g2, g3⟩
        have hk : k < old.length := by simpa using hk
        rw [List.getElem_range]
        refine seq_asgE (.int (k + shift : Nat)) (by simp [natD]; omega) ?_
        have gk := g3 (k + shift)
        rw [if_neg (by omega)] at gk
        have e3 : subD (lstI lon) (.int (k + shift : Nat)) = .ok (.int (nthI now (k + shift))) := by
          rw [sub_lstI (by omega) (by omega), Int.toNat_natCast, gk]
        have e4 : subD (lstI old) (.int k) = .ok (.int (nthI old k)) := by
          rw [sub_lstI (by omega) (by omega), Int.toNat_natCast]
        have hob := h.fo.nth hk
        have e5 : putD (lstI lon) (.int (k + shift : Nat)) (.int ((nthI now (k + shift) - e * q * nthI old k) % p)) = .ok (lstI (lon.set (k + shift) ((nthI now (k + shift) - e * q * nthI old k) % p))) := by
          rw [put_lstI (by omega) (by omega), Int.toNat_natCast]
        refine ⟨_, by
          simp (disch := omega) only [ess_cons, es_sti, ev_bin, ev_sub, ev_var, List.set_cons_zero, List.set_cons_succ, getV_zero, getV_succ, R.bind_ok, R.go_ok, natD, e3, e4, op_muli, op_subi, op_modi, e5, Q.go_nx, ess_nil]; rfl, ?_⟩
        refine ⟨_, _, _, rfl, fun y hy => ?_, by simp [g2], fun i => ?_⟩
        · rcases List.mem_or_eq_of_mem_set hy with hy | rfl
          · exact g1 y hy
          · exact ⟨Int.emod_nonneg _ (by omega), Int.emod_lt_of_pos _ hpp⟩
        · show (lon.set (k + shift) _).getD i 0 = _
          rw [getD_set (by omega)]
          by_cases hi : i = k + shift
          · subst hi
            rw [if_pos rfl, if_pos (by omega), show k + shift - shift = k by omega]
          · rw [if_neg hi]
            show nthI lon i = _
            rw [g3 i]
            by_cases c1 : shift ≤ i ∧ i < shift + k
            · rw [if_pos c1, if_pos (by omega)]
            · rw [if_neg c1, if_neg (by omega)]
      rintro s' ⟨lon, x9, x12, rfl, g1, g2, g3⟩
      rw [List.length_range] at g3
      have hgo := h.go H hpp hn he hz hq3 hp2 g1 g2 fun i => by
        rw [g3]
        by_cases c1 : shift ≤ i
        · by_cases c2 : i < shift + old.length
          · rw [if_pos ⟨c1, c2⟩, if_pos c1, H.mod, H.sub, H.mul]; rfl
          · rw [if_neg (by omega), if_pos c1, sq_big H (l := old) (by omega)]
            show sq H now i = _
            grind
        · rw [if_neg (by omega), if_neg c1]
          show sq H now i = _
          grind
      by_cases h2 : 2 * L ≤ n
      · have h2' : (2 : Int) * (L : Int) ≤ n := by omega
        refine seq_iffE true (by simp (disch := omega) [natD, op_muli]; rfl) (by simp [h2']) ?_
        rw [if_pos rfl]
        refine seq_nxE (by simp [unpL]; rfl) ?_
        refine seq_asgE (.int (n + 1 - L : Nat)) (by simp [natD]; omega) ?_
        refine nil_E ?_
        refine seq_nxE (by simp; rfl) ?_
        refine seq_nxE (by simp; rfl) ?_
        refine nil_E (nil_E ?_)
        exact ⟨lon, now, n + 1 - L, 1, e, _, _, _, _, _, _, rfl, hgo.1 h2⟩
      · have h2' : ¬ (2 : Int) * (L : Int) ≤ n := by omega
        refine seq_iffE false (by simp (disch := omega) [natD, op_muli]; rfl) (by simp [h2']) ?_
        refine nil_E ?_
        refine seq_nxE (by simp; rfl) ?_
        refine seq_nxE (by simp; rfl) ?_
        refine nil_E (nil_E ?_)
        exact ⟨lon, old, L, shift + 1, last, _, _, _, _, _, _, rfl, hgo.2 (by omega)⟩
  · rintro s' ⟨now, old, L, shift, last, x2, x8, x9, x10, x11, x12, rfl, h⟩
    have hI := h.len
    rw [List.length_range] at hI
    rw [((isLen_one H hpp hr).mpr hI).eq hpp]
    simp
end Rr

set_option linter.all false
set_option Elab.async false
set_option maxRecDepth 100000
set_option maxHeartbeats 2000000
/-! Contracts: lengths, shortest rules, papers. -/
namespace Rr
open PySem
variable {N : Nat} {G : Env}
theorem eqsAll_one (row : List Int) (L : Nat) : eqsAll [row] L = eqsOf row L := by simp [eqsAll]
structure Sp_length_of (g : List D → R D) : Prop where
  bad : BadP 1 g
  row : ∀ p w, prm p → ndT w = true → okN p w = false → g [.int p, w] = .ex "InvalidRow" none
  ok : ∀ p row, prm p → fld p row → row.length ≤ 24 → g [.int p, tupI row] = .ok (.int (lenI p [row]))
theorem run_length_of {g1 g2 : List D → R D} (h1 : G.fn "check_row" = some g1) (s1 : Sp_check_row g1) (h2 : G.fn "least_length" = some g2) (s2 : Sp_least_length g2) : Sp_length_of (runD G N d_length_of) := by
  constructor
  · intro v r hr hv hb
    match r, hr with
    | [a], _ => simp [runD, Rr.start, d_length_of, ev_call _ _ h1, s1.1 v [a] rfl hv hb, Q.out]
  · intro p w hp hw ho
    simp [runD, Rr.start, d_length_of, ev_call _ _ h1, s1.2 p w hp hw, ho, Q.out]
  · intro p row hp hf hl
    have e := s2 p [row] (rowsL [row]) hp (.one hf (by omega)) (.inl rfl)
    simp [runD, Rr.start, d_length_of, ev_call _ _ h1, ev_call _ _ h2, s1.2 p (tupI row) hp (by simp), okN_of hf hl, rowsL_one, e, Q.out]
/-- a shortest rule -/
def ShortR (p : Int) (rows : List (List Int)) (rule : List Int) : Prop := rule.length = lenI p rows ∧ fld p rule ∧ ∀ row ∈ rows, fitsB p rule row = true
def Sp_shortest_rule (g : List D → R D) : Prop := ∀ p row, prm p → fld p row → row.length ≤ 24 → ∃ v, g [.int p, tupI row] = .ok v ∧ ∃ rule, v = tupI rule ∧ ShortR p [row] rule
theorem attempt_short {g1 : List D → R D} (s1 : Sp_attempt g1) {p : Int} {rows : List (List Int)} {w : D} (hp : prm p) (hr : RowsOk p rows) (hw : SeqR w rows) : ∃ x free, g1 [.int p, w, .int (lenI p rows)] = .ok (.tuple [lstI x, natL free, .none]) ∧ ShortR p rows x := by
  obtain ⟨v, e, hv⟩ := s1 p rows w (lenI p rows) hp hr hw (by have := lenI_le hp.pos (rows := rows) (n := 30) fun r h => (hr.1 r h).2; omega)
  rcases hv.has hp hr with ⟨m, rfl, _, hn⟩ | ⟨x, free, rfl, h1, _, _⟩
  · exact absurd (lenI_is hp.pos rows).1 hn
  · exact ⟨x, free, e, sol_all.mp h1⟩
theorem run_shortest_rule {g1 g2 g3 : List D → R D} (h1 : G.fn "check_row" = some g1) (s1 : Sp_check_row g1) (h2 : G.fn "attempt" = some g2) (s2 : Sp_attempt g2) (h3 : G.fn "least_length" = some g3) (s3 : Sp_least_length g3) : Sp_shortest_rule (runD G N d_shortest_rule) := by
  intro p row hp hf hl
  have e3 := s3 p [row] (rowsL [row]) hp (.one hf (by omega)) (.inl rfl)
  obtain ⟨x, free, e2, hx⟩ := attempt_short s2 (w := rowsL [row]) hp (.one hf (by omega)) (.inl rfl)
  refine ⟨tupI x, ?_, x, rfl, hx⟩
  simp [runD, Rr.start, d_shortest_rule, ev_call _ _ h1, ev_call _ _ h2, ev_call _ _ h3, s1.2 p (tupI row) hp (by simp), okN_of hf hl, rowsL_one, e2, e3, subD, nthD, ixI, Q.out]
/-! ### papers -/
/-- the numbers some places before -/
def bk (row : List Int) (L b n : Nat) : List Int := (List.range n).map fun j => nthI row (L + j - b)
def paperB (p : Int) (row : List Int) (L : Nat) (m : List Int) : Bool := decide (m.length = row.length - L) && (List.range L).all (fun c => decide (dot m (bk row L (c + 1) m.length) % p = 0)) && !decide (dot m (bk row L 0 m.length) % p = 0)
theorem eqsOf_len (row : List Int) (L : Nat) : (eqsOf row L).length = row.length - L := by simp [eqsOf]
theorem col_bk {row : List Int} {L c : Nat} (hc : c < L) : colI (eqsOf row L) c = bk row L (c + 1) (row.length - L) := by
  refine List.ext_getElem (by simp [colI, eqsOf, bk]) fun j h1 h2 => ?_
  have hj : j < row.length - L := by simpa [colI, eqsOf] using h1
  simp only [colI, eqsOf, bk, List.getElem_map, List.getElem_range', List.getElem_range]
  rw [eqAt_nth (by omega) (by omega) hc]
  congr 1
  omega
theorem col_last {row : List Int} {L : Nat} : colI (eqsOf row L) L = bk row L 0 (row.length - L) := by
  refine List.ext_getElem (by simp [colI, eqsOf, bk]) fun j h1 h2 => ?_
  have hj : j < row.length - L := by simpa [colI, eqsOf] using h1
  simp only [colI, eqsOf, bk, List.getElem_map, List.getElem_range', List.getElem_range]
  rw [eqAt_last (by omega) (by omega)]
  congr 1
  omega
theorem cert_paper {p : Int} {row m : List Int} {L : Nat} : Cert p (eqsOf row L) L m ↔ fld p m ∧ paperB p row L m = true := by
  unfold Cert paperB
  rw [eqsOf_len]
  simp only [Bool.and_eq_true, decide_eq_true_eq, List.all_eq_true, List.mem_range, Bool.not_eq_true', decide_eq_false_iff_not]
  constructor
  · rintro ⟨h1, h2, h3, h4⟩
    refine ⟨h2, ⟨h1, fun c hc => ?_⟩, ?_⟩
    · rw [h1, ← col_bk hc]; exact h3 c hc
    · rw [h1, ← col_last]; exact h4
  · rintro ⟨h2, ⟨h1, h3⟩, h4⟩
    refine ⟨h1, h2, fun c hc => ?_, ?_⟩
    · rw [col_bk hc, ← h1]; exact h3 c hc
    · rw [col_last, ← h1]; exact h4
structure Sp_paper (g : List D → R D) : Prop where
  len : ∀ p row w, prm p → fld p row → row.length ≤ 24 → nd w = true → inR 0 24 w = false → g [.int p, tupI row, w] = .ex "InvalidLength" none
  no : ∀ p row (L : Nat), prm p → fld p row → row.length ≤ 24 → L ≤ 24 → lenI p [row] ≤ L → g [.int p, tupI row, .int L] = .ex "RuleExists" none
  ok : ∀ p row (L : Nat), prm p → fld p row → row.length ≤ 24 → L ≤ 24 → L < lenI p [row] → ∃ v, g [.int p, tupI row, .int L] = .ok v ∧ ∃ m, v = tupI m ∧ fld p m ∧ paperB p row L m = true
theorem run_paper {g1 g2 g3 : List D → R D} (h1 : G.fn "check_row" = some g1) (s1 : Sp_check_row g1) (h2 : G.fn "check_length" = some g2) (s2 : Sp_check_length g2) (h3 : G.fn "attempt" = some g3) (s3 : Sp_attempt g3) (h4 : G.gl "MAX_ROW" = some (.int 24)) : Sp_paper (runD G N d_paper) := by
  have inr : ∀ L : Nat, L ≤ 24 → inR 0 24 (.int L) = true := fun L h => by simp [inR]; omega
  constructor
  · intro p row w hp hf hl hw ho
    simp [runD, Rr.start, d_paper, ev_call _ _ h1, ev_call _ _ h2, s1.2 p (tupI row) hp (by simp), okN_of hf hl, s2 w 24 hw, ho, h4, Q.out]
  · intro p row L hp hf hl hL hle
    obtain ⟨v, e, hv⟩ := s3 p [row] (rowsL [row]) L hp (.one hf (by omega)) (.inl rfl) (by omega)
    rcases hv.has hp (.one hf (by omega)) with ⟨m, rfl, _, hn⟩ | ⟨x, free, rfl, _, _, _⟩
    · exact absurd ((hasI_iff hp (by simpa using hf)).mpr hle) hn
    · simp [runD, Rr.start, d_paper, ev_call _ _ h1, ev_call _ _ h2, ev_call _ _ h3, s1.2 p (tupI row) hp (by simp), okN_of hf hl, s2 (.int L) 24 rfl, inr L hL, h4, rowsL_one, e, subD, nthD, ixI, cpD, isNone, Q.out]
  · intro p row L hp hf hl hL hle
    obtain ⟨v, e, hv⟩ := s3 p [row] (rowsL [row]) L hp (.one hf (by omega)) (.inl rfl) (by omega)
    rcases hv.has hp (.one hf (by omega)) with ⟨m, rfl, hc, hn⟩ | ⟨x, free, rfl, _, _, hh⟩
    · rw [eqsAll_one] at hc
      have hc := cert_paper.mp hc
      refine ⟨tupI m, ?_, m, rfl, hc.1, hc.2⟩
      have e9 : cpD .isn (lstI m) .none = .ok false := rfl
      simp [runD, Rr.start, d_paper, ev_call _ _ h1, ev_call _ _ h2, ev_call _ _ h3, s1.2 p (tupI row) hp (by simp), okN_of hf hl, s2 (.int L) 24 rfl, inr L hL, h4, rowsL_one, e, subD, nthD, ixI, e9, Q.out]
    · have := (hasI_iff hp (by simpa using hf)).mp hh; omega
/-- whether an object is a paper -/
def isPap (p : Int) (row : List Int) (L : Nat) (w : D) : Bool := okN p w && (match w with | .tuple l => paperB p row L ((intsOf l).getD []) | _ => false)
theorem isPap_tup {p : Int} {row m : List Int} {L : Nat} (h : fld p m) (hl : m.length ≤ 24) : isPap p row L (tupI m) = paperB p row L m := by
  unfold isPap
  rw [okN_of h hl]
  simp [tupI, intsOf_map]
def Sp_is_paper (g : List D → R D) : Prop := ∀ p row (L : Nat) w, prm p → fld p row → row.length ≤ 24 → L ≤ 24 → ndT w = true → g [.int p, tupI row, .int L, w] = .ok (.bool (isPap p row L w))
theorem all_shift {L : Nat} {f : Nat → Bool} : (List.range L).all f = (List.range L).all f := rfl
theorem run_is_paper {g1 g2 g3 : List D → R D} (h1 : G.fn "check_row" = some g1) (s1 : Sp_check_row g1) (h2 : G.fn "check_length" = some g2) (s2 : Sp_check_length g2) (h3 : G.fn "are_numbers" = some g3) (s3 : Sp_are_numbers g3) (h4 : G.gl "MAX_ROW" = some (.int 24)) : Sp_is_paper (runD G N d_is_paper) := by
  intro p row L w hp hf hl hL hw
  have hpp := hp.pos
  have hpl := hp.le
  have inr : inR 0 24 (.int L) = true := by simp [inR]; omega
  refine run_rt rfl ?_
  dsimp only [d_is_paper]
  refine seq_nx (by simp [Rr.start, ev_call _ _ h1, s1.2 p (tupI row) hp (by simp), okN_of hf hl]; rfl) ?_
  refine seq_nx (by simp [ev_call _ _ h2, s2 (.int L) 24 rfl, inr, h4]; rfl) ?_
  cases ho : okN p w with
  | false =>
    have e : isPap p row L w = false := by simp [isPap, ho]
    rw [e]
    refine seq_rr ?_ (fun _ => rfl)
    simp [ev_call _ _ h3, s3 p w hw, ho]
  | true =>
    obtain ⟨m, rfl, fm, lm⟩ := okN_tup ho
    rw [isPap_tup fm lm]
    have emax : max ((row.length : Int) - L) 0 = (row.length - L : Nat) := by omega
    by_cases hlen : m.length = row.length - L
    · refine seq_nx (by simp [ev_call _ _ h3, s3 p (tupI m) (by simp), ho, max2, emax, hlen]; rfl) ?_
      have eprod : ∀ (s : S) (b : Nat) (ex : Ex), b ≤ L → getV s 1 = .ok (tupI row) → (∀ j k, evE G ex ((s.set 6 (some (natD j))).set 7 k) = .ok (.int (L + j - b : Nat))) → (∀ j x, getV ((s.set 6 j).set 7 (some x)) 7 = .ok x) → (∀ j k, getV ((s.set 6 j).set 7 k) 1 = .ok (tupI row)) → getV s 3 = .ok (tupI m) →
          evE G (.lc (.two 6 7) (.enm (.var 3)) .nil (.bin .mul (.var 7) (.sub (.var 1) ex))) s = .ok (lstI (List.zipWith (· * ·) m (bk row L b m.length))) := by
        intro s b ex hb g1 g2 g3 g4 g5
        rw [lc_map2 (fun x : Int × Nat => natD x.2) (fun x => PyData.int x.1) PyData.int (m.zipIdx 0) (fun x => x.1 * nthI row (L + x.2 - b)) (by simp [g5, enum_map]) (by simp; omega) (fun x hx => by
          obtain ⟨x1, x2⟩ := x
          have hx' := List.mem_zipIdx hx
          have hlt : x2 < m.length := by simpa using hx'.2.1
          have hb1 := fm.nth hlt
          have e7 : x1 = nthI m x2 := by rw [nthI_get hlt]; simpa using hx'.2.2
          rw [ev_bin, ev_sub, ev_var, ev_var, g3, g4, g2]
          simp (disch := omega) only [R.bind_ok, sub_tupI, Int.toNat_natCast, op_muli])]
        congr 2
        rw [List.map_map]
        refine List.ext_getElem (by simp [bk]) fun i q1 q2 => ?_
        simp [bk]
      refine seq_forR natD (List.range' 1 L) (by simp (disch := omega) [rng1]) (fun _ s => ∃ x4 x5, s = [some (.int p), some (tupI row), some (.int L), some (tupI m), x4, x5, none, none]) (fun c => decide (dot m (bk row L (c + 1) m.length) % p = 0)) (.rt (.bool false)) (fun _ => rfl) ⟨_, _, rfl⟩ ?_ ?_ ?_
      · rintro c hc s ⟨x4, x5, rfl⟩
        have hc : c < L := by simpa using hc
        rw [List.getElem_range', Nat.one_mul, Nat.add_comm 1 c]
        have e1 := eprod [some (.int p), some (tupI row), some (.int L), some (tupI m), some (natD (c + 1)), x5, none, none] (c + 1) (.bin .sub (.bin .add (.var 2) (.var 6)) (.var 4)) (by omega) (by simp) (fun j k => by simp [natD]; omega) (by simp) (by simp) (by simp)
        by_cases hd : dot m (bk row L (c + 1) m.length) % p = 0
        · rw [if_pos (by simpa using hd)]
          refine seq_asgE _ e1 ?_
          refine ⟨_, by simp (disch := omega) [op_modi, show (List.zipWith (fun x1 x2 => x1 * x2) m (bk row L (c + 1) m.length)).sum % p = 0 from hd]; rfl, ?_⟩
          exact ⟨_, _, rfl⟩
        · rw [if_neg (by simpa using hd)]
          refine seq_asg _ e1 ?_
          simp (disch := omega) [op_modi, show ¬ (List.zipWith (fun x1 x2 => x1 * x2) m (bk row L (c + 1) m.length)).sum % p = 0 from hd]
      · rintro s' ⟨x4, x5, rfl⟩ hall
        rw [List.length_range'] at hall
        have e1 := eprod [some (.int p), some (tupI row), some (.int L), some (tupI m), x4, x5, none, none] 0 (.bin .add (.var 2) (.var 6)) (by omega) (by simp) (fun j k => by simp [natD]) (by simp) (by simp) (by simp)
        have e2 : paperB p row L m = !decide (dot m (bk row L 0 m.length) % p = 0) := by
          unfold paperB
          rw [hall, decide_eq_true hlen]; rfl
        rw [e2]
        simp (disch := omega) [e1, op_modi]
        rfl
      · intro hall
        rw [List.length_range'] at hall
        have e2 : paperB p row L m = false := by
          unfold paperB
          rw [hall]; simp
        rw [e2]
    · have e : paperB p row L m = false := by simp [paperB, hlen]
      have hne : ¬ ((m.length : Int) = (row.length - L : Nat)) := by omega
      rw [e]
      refine seq_rr ?_ (fun _ => rfl)
      simp [ev_call _ _ h3, s3 p (tupI m) (by simp), ho, max2, emax, hne]
end Rr

set_option linter.all false
set_option Elab.async false
set_option maxRecDepth 100000
set_option maxHeartbeats 2000000
/-! Contracts: the laws' own papers. -/
namespace Rr
open PySem
variable {N : Nat} {G : Env}
def wholeB : D → Bool
  | .int _ => true
  | _ => false
def Sp__law_whole (g : List D → R D) : Prop := ∀ v, nd v = true → g [v] = .ok (.bool (wholeB v))
theorem run__law_whole : Sp__law_whole (runD G N d__law_whole) := by
  intro v h
  cases v <;> simp [runD, start, d__law_whole, isiD, wholeB, Q.out, nd] at h ⊢
def Sp__law_in := Sp_in_range
theorem run__law_in {g1 : List D → R D} (h1 : G.fn "_law_whole" = some g1) (s1 : Sp__law_whole g1) : Sp__law_in (runD G N d__law_in) := by
  intro v lo hi h
  have e := s1 v h
  cases v with
  | int i => by_cases q : lo ≤ i <;> simp [runD, start, d__law_in, ev_call _ _ h1, e, wholeB, inR, q, Q.out]
  | dict l => cases h
  | _ => simp [runD, start, d__law_in, ev_call _ _ h1, e, wholeB, inR, Q.out]
theorem eqD_lnil (l : List D) (h : (l.all (shp 7)) = true) : cpD .eq (.list l) (.list []) = .ok l.isEmpty := by
  show eqD _ _ = _
  unfold eqD
  rw [if_pos (by
    rw [Bool.and_eq_true]
    exact ⟨h, rfl⟩)]
  cases l <;> rfl
theorem shp_nd {n : Nat} {v : D} (h : shp n v = true) : nd v = true := by
  cases v <;> first | rfl | (cases n <;> cases h)
def Sp__law_is_row (g : List D → R D) : Prop := ∀ p v, shp 8 v = true → g [.int p, v] = .ok (.bool (okN p v))
theorem run__law_is_row {g1 : List D → R D} (h1 : G.fn "_law_in" = some g1) (s1 : Sp__law_in g1) : Sp__law_is_row (runD G N d__law_is_row) := by
  intro p v hv
  cases v with
  | tuple l =>
    have hv : l.all (shp 7) = true := hv
    by_cases hl : l.length ≤ 24
    · have hl2 : ¬ (24 < (l.length : Int)) := by omega
      refine run_rt rfl ?_
      dsimp only [d__law_is_row]
      refine seq_nx (by simp [start, isiD, hl2]; rfl) ?_
      rw [ess_cons, es_ret, ev_cmp]
      rw [lc_one (fun d : D => d) (fun d : D => d) l (fun d => !inR 0 (p - 1) d) (fun d => d) (by simp) (by omega) (fun d hd => by
        refine ⟨?_, fun _ => by simp⟩
        have hn : nd d = true := shp_nd (List.all_eq_true.mp hv d hd)
        simp [ev_call _ _ h1, s1 d 0 (p - 1) hn]
        cases inR 0 (p - 1) d <;> rfl)]
      have e : cpD .eq (.list (((l.filter fun d => !inR 0 (p - 1) d).map fun d => d).map fun d => d)) (.list []) = .ok (okN p (.tuple l)) := by
        rw [eqD_lnil]
        · simp [okN, hl, filter_not]
        · simp only [List.map_id']
          rw [List.all_eq_true]
          intro x hx
          exact List.all_eq_true.mp hv x (List.mem_filter.mp hx).1
      rw [ev_lst, ev_nil, R.bind_ok, R.bind_ok, R.bind_ok, e]
      simp
    · have hl2 : 24 < (l.length : Int) := by omega
      simp [runD, start, d__law_is_row, Q.out, isiD, hl2, okN, hl]
  | dict l => cases hv
  | _ => simp [runD, start, d__law_is_row, isiD, Q.out, okN]
def Sp__law_is_paper (g : List D → R D) : Prop := ∀ p row (L : Nat) w, prm p → fld p row → row.length ≤ 24 → L ≤ 24 → shp 8 w = true → g [.int p, tupI row, .int L, w] = .ok (.bool (isPap p row L w))
theorem bk_nth {row : List Int} {L b n j : Nat} (h : j < n) : nthI (bk row L b n) j = nthI row (L + j - b) := nthI_map_range _ h
theorem bk_len (row : List Int) (L b n : Nat) : (bk row L b n).length = n := by simp [bk]
theorem run__law_is_paper {g3 : List D → R D} (h3 : G.fn "_law_is_row" = some g3) (s3 : Sp__law_is_row g3) : Sp__law_is_paper (runD G N d__law_is_paper) := by
  intro p row L w hp hf hl hL hw
  have hpp := hp.pos
  have hpl := hp.le
  refine run_rt rfl ?_
  dsimp only [d__law_is_paper]
  cases ho : okN p w with
  | false =>
    have e : isPap p row L w = false := by simp [isPap, ho]
    rw [e]
    refine seq_rr ?_ (fun _ => rfl)
    simp [Rr.start, ev_call _ _ h3, s3 p w hw, ho]
  | true =>
    obtain ⟨m, rfl, fm, lm⟩ := okN_tup ho
    rw [isPap_tup fm lm]
    have emax : max ((row.length : Int) - L) 0 = (row.length - L : Nat) := by omega
    by_cases hlen : m.length = row.length - L
    · refine seq_nx (by simp [Rr.start, ev_call _ _ h3, s3 p (tupI m) hw, ho, max2, emax, hlen]; rfl) ?_
      refine seq_forR natD (List.range (L + 1)) (by simp (disch := omega) [rng0]) (fun _ s => ∃ x4 x5 x6, s = [some (.int p), some (tupI row), some (.int L), some (tupI m), x4, x5, x6]) (fun b => !(decide (dot m (bk row L b m.length) % p = 0) == decide (b = 0))) (.rt (.bool false)) (fun _ => rfl) ⟨_, _, _, rfl⟩ ?_ ?_ ?_
      · rintro b hb s ⟨x4, x5, x6, rfl⟩
        have hb : b < L + 1 := by simpa using hb
        rw [List.getElem_range]
        have step : ∀ j (hj : j < (List.range m.length).length) s, (∃ z, s = [some (.int p), some (tupI row), some (.int L), some (tupI m), some (natD b), some (.int (dot (m.take j) (bk row L b m.length))), z]) →
            ∃ s', evSs G N (.cons (.asg 5 (.bin .add (.var 5) (.bin .mul (.sub (.var 3) (.var 6)) (.sub (.var 1) (.bin .sub (.bin .add (.var 2) (.var 6)) (.var 4)))))) .nil) (s.set 6 (some (natD (List.range m.length)[j]))) = .nx s' ∧
              ∃ z, s' = [some (.int p), some (tupI row), some (.int L), some (tupI m), some (natD b), some (.int (dot (m.take (j + 1)) (bk row L b m.length))), z] := by
          rintro j hj s ⟨z, rfl⟩
          have hj : j < m.length := by simpa using hj
          rw [List.getElem_range]
          have hb1 := fm.nth hj
          refine ⟨_, by simp (disch := omega) [natD, sub_tupI, op_muli]; rfl, ?_⟩
          rw [dot_take_succ _ _ _ hj (by rw [bk_len]; exact hj), bk_nth hj]
          refine ⟨some (.int j), ?_⟩
          rw [show ((L : Int) + j).toNat - b = L + j - b by omega]
          rfl
        have hcond : ∀ z, evE G (.cmp .eq (.cmp .eq (.bin .mod (.var 5) (.var 0)) (.cst (.int 0))) (.cmp .eq (.var 4) (.cst (.int 0)))) [some (.int p), some (tupI row), some (.int L), some (tupI m), some (natD b), some (.int (dot m (bk row L b m.length))), z] = .ok (.bool (decide (dot m (bk row L b m.length) % p = 0) == decide (b = 0))) := by
          intro z
          simp (disch := omega) [op_modi, natD, Int.natCast_eq_zero]
        cases hq : (decide (dot m (bk row L b m.length) % p = 0) == decide (b = 0)) with
        | false =>
          rw [if_pos (by rfl)]
          refine seq_asgE (.int 0) (by simp) ?_
          refine seq_forE natD (List.range m.length) (by simp (disch := omega) [rng0]) _ ⟨x6, by simp [dot]⟩ step ?_
          rintro s' ⟨z, rfl⟩
          rw [List.length_range, List.take_length]
          refine ⟨_, by rw [ess_cons, es_iff, hcond, hq]; simp; rfl, ?_⟩
          exact ⟨_, _, _, rfl⟩
        | true =>
          rw [if_neg (by simp)]
          refine seq_asg (.int 0) (by simp) ?_
          refine seq_for natD (List.range m.length) (by simp (disch := omega) [rng0]) _ ⟨x6, by simp [dot]⟩ step ?_
          rintro s' ⟨z, rfl⟩
          rw [List.length_range, List.take_length]
          rw [ess_cons, es_iff, hcond, hq]
          simp
      · rintro s' ⟨x4, x5, x6, rfl⟩ hall
        rw [List.length_range, List.range_succ_eq_map, List.all_cons, Bool.and_eq_true] at hall
        have e2 : paperB p row L m = true := by
          unfold paperB
          rw [decide_eq_true hlen, Bool.true_and, Bool.and_eq_true]
          refine ⟨?_, by simpa using hall.1⟩
          have h2 := hall.2
          rw [List.all_map] at h2
          rw [List.all_eq_true] at h2 ⊢
          intro c hc
          simpa using h2 c hc
        rw [e2]
        simp
      · intro hall
        rw [List.length_range] at hall
        have e2 : paperB p row L m = false := by
          cases hq : paperB p row L m with
          | false => rfl
          | true =>
            exfalso
            unfold paperB at hq
            simp only [Bool.and_eq_true, decide_eq_true_eq, List.all_eq_true, List.mem_range, Bool.not_eq_true', decide_eq_false_iff_not] at hq
            have : (List.range (L + 1)).all (fun b => !(decide (dot m (bk row L b m.length) % p = 0) == decide (b = 0))) = true := by
              rw [List.all_eq_true]
              intro b hb
              have hb := List.mem_range.mp hb
              cases b with
              | zero => simp [hq.2]
              | succ c => simp [hq.1.2 c (by omega)]
            rw [this] at hall
            cases hall
        rw [e2]
    · have e : paperB p row L m = false := by simp [paperB, hlen]
      have hne : ¬ ((m.length : Int) = (row.length - L : Nat)) := by omega
      rw [e]
      refine seq_rr ?_ (fun _ => rfl)
      simp [Rr.start, ev_call _ _ h3, s3 p (tupI m) hw, ho, max2, emax, hne]
structure Sp__law_paper (g : List D → R D) : Prop where
  len : ∀ p row w, prm p → fld p row → row.length ≤ 24 → nd w = true → inR 0 24 w = false → g [.int p, tupI row, w] = .ok (.str "length")
  no : ∀ p row (L : Nat), prm p → fld p row → row.length ≤ 24 → L ≤ 24 → lenI p [row] ≤ L → g [.int p, tupI row, .int L] = .ok (.str "exists")
  ok : ∀ p row (L : Nat), prm p → fld p row → row.length ≤ 24 → L ≤ 24 → L < lenI p [row] → ∃ v, g [.int p, tupI row, .int L] = .ok v ∧ ∃ m, v = tupI m ∧ fld p m ∧ paperB p row L m = true
theorem run__law_paper {g1 : List D → R D} (h1 : G.fn "paper" = some g1) (s1 : Sp_paper g1) (hE : clsB G ["RuleExists", "InvalidLength"] = true) : Sp__law_paper (runD G N d__law_paper) := by
  simp [clsB] at hE
  constructor
  · intro p row w hp hf hl hw ho
    simp [runD, start, d__law_paper, es_trh, ev_call _ _ h1, s1.len p row w hp hf hl hw ho, hdQ, hE, Q.out]
  · intro p row L hp hf hl hL hle
    simp [runD, start, d__law_paper, es_trh, ev_call _ _ h1, s1.no p row L hp hf hl hL hle, hdQ, hE, Q.out]
  · intro p row L hp hf hl hL hle
    obtain ⟨_, e, m, rfl, h2, h3⟩ := s1.ok p row L hp hf hl hL hle
    exact ⟨tupI m, by simp [runD, start, d__law_paper, es_trh, ev_call _ _ h1, e, Q.out], m, rfl, h2, h3⟩

/-- [None, -1, 25, True][d % 4] -/
theorem wrong_len4 (d : Int) (s : S) (e : Ex) (h3 : evE G e s = .ok (.int (d % 4))) :
    ∃ w, evE G (.sub (.lst (.cons (.cst .none) (.cons (.neg 1) (.cons (.cst (.int 25)) (.cons (.cst (.bool true)) .nil))))) e) s = .ok w ∧ nd w = true ∧ inR 0 24 w = false := by
  have hd : d % 4 = 0 ∨ d % 4 = 1 ∨ d % 4 = 2 ∨ d % 4 = 3 := by omega
  rcases hd with h | h | h | h <;> rw [h] at h3 <;> refine ⟨_, by simp (disch := omega) [h3, subD, nth_D]; rfl, ?_⟩
  all_goals exact ⟨rfl, rfl⟩
end Rr

set_option linter.all false
set_option Elab.async false
set_option maxRecDepth 100000
set_option maxHeartbeats 2000000
/-! Laws of lengths, of lists of ints. -/
namespace Rr
open PySem
section
variable {K : Type} [Lean.Grind.CommRing K]
theorem Mk.congr {c a b : Nat → K} {L N : Nat} (h : Mk c L a N) (e : ∀ n, n < N → a n = b n) : Mk c L b N := fun n h1 h2 => by
  rw [← e n h2, h n h1 h2]
  exact sg_congr fun i hi => by rw [e (n - 1 - i) (by omega)]
theorem IsL.congr {a b : Nat → K} {N L : Nat} (h : IsL a N L) (e : ∀ n, n < N → a n = b n) : IsL b N L := ⟨h.1.congr e, fun L' h' => h.2 L' (h'.congr fun n hn => (e n hn).symm)⟩
end
section
variable {p : Int} {K : Type} [Lean.Grind.CommRing K] [Fld K] (H : Hm p K)
theorem lenI_take {row : List Int} (hp : 0 < p) (hr : fld p row) {c : Nat} (hc : c ≤ row.length) : IsL (sq H row) c (lenI p [row.take c]) := by
  have := lenI_isL H hp (fld_take c hr)
  rw [List.length_take, Nat.min_eq_left hc] at this
  exact this.congr fun n hn => by unfold sq; rw [nthI_take hn]
theorem lenI_isL' {row : List Int} (hp : 0 < p) (hr : fld p row) : IsL (sq H row) row.length (lenI p [row]) := lenI_isL H hp hr
end
theorem len_next {p : Int} {row : List Int} (hp : prm p) (hr : fld p row) {c : Nat} (hc : c < row.length) :
    lenI p [row.take c] ≤ lenI p [row.take (c + 1)] ∧ (lenI p [row.take (c + 1)] = lenI p [row.take c] ∨ lenI p [row.take (c + 1)] = c + 1 - lenI p [row.take c]) := by
  obtain ⟨K, i1, i2, ⟨H⟩⟩ := field_of hp
  have h1 := lenI_take H hp.pos hr (c := c) (by omega)
  have h2 := lenI_take H hp.pos hr (c := c + 1) (by omega)
  rcases h1.next h2 with ⟨_, h⟩ | ⟨_, h3, h⟩
  · exact ⟨by omega, .inl h⟩
  · exact ⟨by omega, .inr h⟩
/-- the length of a beginning is at most that of the row -/
theorem len_take_le {p : Int} {row : List Int} (hp : prm p) (hr : fld p row) (c : Nat) : lenI p [row.take c] ≤ lenI p [row] := by
  obtain ⟨K, i1, i2, ⟨H⟩⟩ := field_of hp
  rcases Nat.lt_or_ge c row.length with h | h
  · exact (lenI_take H hp.pos hr (by omega)).2 _ ((lenI_isL H hp.pos hr).1.mono (by omega))
  · rw [List.take_of_length_le h]; exact Nat.le_refl _
theorem nthI_drop (l : List Int) (k n : Nat) : nthI (l.drop k) n = nthI l (n + k) := by
  unfold nthI
  simp only [List.getD_eq_getElem?_getD, List.getElem?_drop]
  rw [Nat.add_comm]
theorem len_drop_le {p : Int} {row : List Int} (hp : prm p) (hr : fld p row) (k : Nat) : lenI p [row.drop k] ≤ lenI p [row] := by
  obtain ⟨K, i1, i2, ⟨H⟩⟩ := field_of hp
  have h := (lenI_isL H hp.pos hr).1.tail k
  have h2 := lenI_isL H hp.pos (fld_drop k hr)
  rw [List.length_drop] at h2
  refine h2.2 _ (h.congr fun n hn => ?_)
  unfold sq
  rw [nthI_drop]
/-! ### lists of lengths -/
theorem eqvAll_natD : ∀ a b : List Nat, PyData.eqvAll (a.map natD) (b.map natD) = decide (a = b)
  | [], [] => by simp [PyData.eqvAll]
  | [], _ :: _ => by simp [PyData.eqvAll]
  | _ :: _, [] => by simp [PyData.eqvAll]
  | x :: a, y :: b => by
    rw [List.map_cons, List.map_cons]
    show (PyData.eqv (.int x) (.int y) && PyData.eqvAll (a.map natD) (b.map natD)) = _
    rw [eqvAll_natD a b, eqv_int]
    by_cases h : x = y
    · simp [h]
    · have : ¬ ((x : Int) = y) := by omega
      simp [h, this]
theorem shp_natL (n : Nat) (l : List Nat) : (l.map natD).all (shp n) = true := by
  rw [List.all_eq_true]
  intro x hx
  obtain ⟨k, _, rfl⟩ := List.mem_map.mp hx
  cases n <;> rfl
theorem eqD_natL (a b : List Nat) : eqD (natL a) (natL b) = .ok (decide (a = b)) := by
  unfold eqD
  rw [if_pos (by
    rw [Bool.and_eq_true]
    exact ⟨shp_natL 7 a, shp_natL 7 b⟩)]
  show R.ok (PyData.eqvAll _ _) = _
  rw [eqvAll_natD]
theorem cp_ne_natL (a b : List Nat) : cpD .ne (natL a) (natL b) = .ok (!decide (a = b)) := by
  show (eqD _ _).bind _ = _
  rw [eqD_natL, R.bind_ok]
theorem cp_eq_natL (a b : List Nat) : cpD .eq (natL a) (natL b) = .ok (decide (a = b)) := eqD_natL a b
variable {N : Nat} {G : Env}
noncomputable def profL (p : Int) (row : List Int) : List Nat := (List.range (row.length + 1)).map fun c => lenI p [row.take c]
structure Sp_profile (g : List D → R D) : Prop where
  bad : BadP 1 g
  row : ∀ p w, prm p → ndT w = true → okN p w = false → g [.int p, w] = .ex "InvalidRow" none
  ok : ∀ p row, prm p → fld p row → row.length ≤ 24 → g [.int p, tupI row] = .ok (natL (profL p row))
theorem run_profile {g1 g2 : List D → R D} (h1 : G.fn "check_row" = some g1) (s1 : Sp_check_row g1) (h2 : G.fn "least_length" = some g2) (s2 : Sp_least_length g2) : Sp_profile (runD G N d_profile) := by
  constructor
  · intro v r hr hv hb
    match r, hr with
    | [a], _ => simp [runD, Rr.start, d_profile, ev_call _ _ h1, s1.1 v [a] rfl hv hb, Q.out]
  · intro p w hp hw ho
    simp [runD, Rr.start, d_profile, ev_call _ _ h1, s1.2 p w hp hw, ho, Q.out]
  · intro p row hp hf hl
    refine run_rt rfl ?_
    dsimp only [d_profile]
    refine seq_nx (by simp [Rr.start, ev_call _ _ h1, s1.2 p (tupI row) hp (by simp), okN_of hf hl]; rfl) ?_
    rw [ess_cons, es_ret]
    rw [lc_map natD natD (List.range (row.length + 1)) (fun c => lenI p [row.take c]) (by simp (disch := omega) [rng0]) (by simp; omega) (fun c hc => by
      have e := s2 p [row.take c] (rowsL [row.take c]) hp (.one (fld_take c hf) (by simp; omega)) (.inl rfl)
      simp (disch := omega) [ev_call _ _ h2, natD, slcI_hi, rowsL_one, e])]
    rfl
end Rr

set_option linter.all false
set_option Elab.async false
set_option maxRecDepth 100000
set_option maxHeartbeats 2000000
/-! Rows made of rows. -/
namespace Rr
open PySem
variable {N : Nat} {G : Env}
structure Sp_check_pair (g : List D → R D) : Prop where
  bad : BadP 2 g
  one : ∀ p w v, prm p → ndT w = true → okN p w = false → g [.int p, w, v] = .ex "InvalidRow" none
  two : ∀ p a w, prm p → fld p a → a.length ≤ 24 → ndT w = true → okN p w = false → g [.int p, tupI a, w] = .ex "InvalidRow" none
  len : ∀ p a b, prm p → fld p a → a.length ≤ 24 → fld p b → b.length ≤ 24 → a.length ≠ b.length → g [.int p, tupI a, tupI b] = .ex "InvalidRow" none
  ok : ∀ p a b, prm p → fld p a → a.length ≤ 24 → fld p b → a.length = b.length → g [.int p, tupI a, tupI b] = .ok .none
theorem run_check_pair {g1 : List D → R D} (h1 : G.fn "check_row" = some g1) (s1 : Sp_check_row g1) : Sp_check_pair (runD G N d_check_pair) := by
  constructor
  · intro v r hr hv hb
    match r, hr with
    | [a, b], _ => simp [runD, Rr.start, d_check_pair, ev_call _ _ h1, s1.1 v [a] rfl hv hb, Q.out]
  · intro p w v hp hw ho
    simp [runD, Rr.start, d_check_pair, ev_call _ _ h1, s1.2 p w hp hw, ho, Q.out]
  · intro p a w hp hf hl hw ho
    simp [runD, Rr.start, d_check_pair, ev_call _ _ h1, s1.2 p (tupI a) hp (by simp), okN_of hf hl, s1.2 p w hp hw, ho, Q.out]
  · intro p a b hp hf hl hg hm hne
    have : ¬ ((a.length : Int) = b.length) := by omega
    simp [runD, Rr.start, d_check_pair, ev_call _ _ h1, s1.2 p (tupI a) hp (by simp), okN_of hf hl, s1.2 p (tupI b) hp (by simp), okN_of hg hm, this, Q.out]
  · intro p a b hp hf hl hg he
    simp [runD, Rr.start, d_check_pair, ev_call _ _ h1, s1.2 p (tupI a) hp (by simp), okN_of hf hl, s1.2 p (tupI b) hp (by simp), okN_of hg (by omega), he, Q.out]
/-- what add and multiply do -/
structure Sp_pair (f : Int → Int → Int) (g : List D → R D) : Prop where
  bad : BadP 2 g
  one : ∀ p w v, prm p → ndT w = true → okN p w = false → g [.int p, w, v] = .ex "InvalidRow" none
  two : ∀ p a w, prm p → fld p a → a.length ≤ 24 → ndT w = true → okN p w = false → g [.int p, tupI a, w] = .ex "InvalidRow" none
  len : ∀ p a b, prm p → fld p a → a.length ≤ 24 → fld p b → b.length ≤ 24 → a.length ≠ b.length → g [.int p, tupI a, tupI b] = .ex "InvalidRow" none
  ok : ∀ p a b, prm p → fld p a → a.length ≤ 24 → fld p b → a.length = b.length → g [.int p, tupI a, tupI b] = .ok (tupI ((List.zip a b).map fun x => f x.1 x.2 % p))
def Sp_add := Sp_pair (· + ·)
def Sp_multiply := Sp_pair (· * ·)
theorem run_add {g1 : List D → R D} (h1 : G.fn "check_pair" = some g1) (s1 : Sp_check_pair g1) : Sp_add (runD G N d_add) := by
  constructor
  · intro v r hr hv hb
    match r, hr with
    | [a, b], _ => simp [runD, Rr.start, d_add, ev_call _ _ h1, s1.bad v [a, b] rfl hv hb, Q.out]
  · intro p w v hp hw ho
    simp [runD, Rr.start, d_add, ev_call _ _ h1, s1.one p w v hp hw ho, Q.out]
  · intro p a w hp hf hl hw ho
    simp [runD, Rr.start, d_add, ev_call _ _ h1, s1.two p a w hp hf hl hw ho, Q.out]
  · intro p a b hp hf hl hg hm hne
    simp [runD, Rr.start, d_add, ev_call _ _ h1, s1.len p a b hp hf hl hg hm hne, Q.out]
  · intro p a b hp hf hl hg he
    have hpp := hp.pos
    refine run_rt rfl ?_
    dsimp only [d_add]
    refine seq_nx (by simp [Rr.start, ev_call _ _ h1, s1.ok p a b hp hf hl hg he]; rfl) ?_
    rw [ess_cons, es_ret, ev_bi, ev_cons]
    rw [lc_map2 (fun x : Int × Int => PyData.int x.1) (fun x => PyData.int x.2) PyData.int (List.zip a b) (fun x => (x.1 + x.2) % p) (by simp [tupI, zip_map]) (by simp; omega) (fun x hx => by
      simp (disch := omega) [op_modi])]
    rw [lst_lit]
    simp
theorem run_multiply {g1 : List D → R D} (h1 : G.fn "check_pair" = some g1) (s1 : Sp_check_pair g1) : Sp_multiply (runD G N d_multiply) := by
  constructor
  · intro v r hr hv hb
    match r, hr with
    | [a, b], _ => simp [runD, Rr.start, d_multiply, ev_call _ _ h1, s1.bad v [a, b] rfl hv hb, Q.out]
  · intro p w v hp hw ho
    simp [runD, Rr.start, d_multiply, ev_call _ _ h1, s1.one p w v hp hw ho, Q.out]
  · intro p a w hp hf hl hw ho
    simp [runD, Rr.start, d_multiply, ev_call _ _ h1, s1.two p a w hp hf hl hw ho, Q.out]
  · intro p a b hp hf hl hg hm hne
    simp [runD, Rr.start, d_multiply, ev_call _ _ h1, s1.len p a b hp hf hl hg hm hne, Q.out]
  · intro p a b hp hf hl hg he
    have hpp := hp.pos
    have hpl := hp.le
    refine run_rt rfl ?_
    dsimp only [d_multiply]
    refine seq_nx (by simp [Rr.start, ev_call _ _ h1, s1.ok p a b hp hf hl hg he]; rfl) ?_
    rw [ess_cons, es_ret, ev_bi, ev_cons]
    rw [lc_map2 (fun x : Int × Int => PyData.int x.1) (fun x => PyData.int x.2) PyData.int (List.zip a b) (fun x => (x.1 * x.2) % p) (by simp [tupI, zip_map]) (by simp; omega) (fun x hx => by
      have := hf x.1 (List.of_mem_zip (a := x.1) (b := x.2) hx).1
      simp (disch := omega) [op_modi, op_muli])]
    rw [lst_lit]
    simp
/-! ### their lengths -/
theorem sq_zip {p : Int} {K : Type} [Lean.Grind.CommRing K] (H : Hm p K) {f : Int → Int → Int} {a b : List Int} (h : a.length = b.length) {n : Nat} (hn : n < a.length) : sq H ((List.zip a b).map fun x => f x.1 x.2 % p) n = H.φ (f (nthI a n) (nthI b n)) := by
  unfold sq
  rw [nthI_get (by simp; omega), nthI_get hn, nthI_get (by omega)]
  simp [H.mod]
theorem len_add {p : Int} {a b : List Int} (hp : prm p) (ha : fld p a) (hb : fld p b) (h : a.length = b.length) : lenI p [(List.zip a b).map fun x => (x.1 + x.2) % p] ≤ lenI p [a] + lenI p [b] := by
  obtain ⟨K, i1, i2, ⟨H⟩⟩ := field_of hp
  have hl : ((List.zip a b).map fun x => (x.1 + x.2) % p).length = a.length := by simp [h]
  have q := lenI_isL H hp.pos (fld_mod hp.pos (fun x : Int × Int => x.1 + x.2) (List.zip a b))
  rw [hl] at q
  have q2 := (lenI_isL H hp.pos hb).1
  rw [← h] at q2
  refine q.2 _ (((lenI_isL H hp.pos ha).1.add q2).congr fun n hn => ?_)
  rw [sq_zip H (f := (· + ·)) h hn, H.add]; rfl
theorem len_mul {p : Int} {a b : List Int} (hp : prm p) (ha : fld p a) (hb : fld p b) (h : a.length = b.length) : lenI p [(List.zip a b).map fun x => (x.1 * x.2) % p] ≤ lenI p [a] * lenI p [b] := by
  obtain ⟨K, i1, i2, ⟨H⟩⟩ := field_of hp
  have hl : ((List.zip a b).map fun x => (x.1 * x.2) % p).length = a.length := by simp [h]
  have q := lenI_isL H hp.pos (fld_mod hp.pos (fun x : Int × Int => x.1 * x.2) (List.zip a b))
  rw [hl] at q
  have q2 := (lenI_isL H hp.pos hb).1
  rw [← h] at q2
  refine q.2 _ (((lenI_isL H hp.pos ha).1.mul q2).congr fun n hn => ?_)
  rw [sq_zip H (f := (· * ·)) h hn, H.mul]; rfl
theorem sq_scale {p : Int} {K : Type} [Lean.Grind.CommRing K] (H : Hm p K) {f : Int} {a : List Int} {n : Nat} (hn : n < a.length) : sq H (a.map fun x => f * x % p) n = H.φ f * sq H a n := by
  unfold sq
  rw [nthI_map hn, H.mod, H.mul]
theorem fits_scale {p f : Int} {rule row : List Int} (hp : prm p) (hr : fld p row) (h : fitsB p rule row = true) : fitsB p rule (row.map fun x => f * x % p) = true := by
  obtain ⟨K, i1, i2, ⟨H⟩⟩ := field_of hp
  rw [fits_mk H hp.pos (fld_mod hp.pos _ _), List.length_map]
  exact (((fits_mk H hp.pos hr).mp h).scale (H.φ f)).congr fun n hn => (sq_scale H hn).symm
theorem len_scale {p f : Int} {row : List Int} (hp : prm p) (hr : fld p row) (h1 : 0 < f) (h2 : f < p) : lenI p [row.map fun x => f * x % p] = lenI p [row] := by
  obtain ⟨K, i1, i2, ⟨H⟩⟩ := field_of hp
  have q := lenI_isL H hp.pos (fld_mod hp.pos (fun x => f * x) row)
  rw [List.length_map] at q
  have q0 := lenI_isL H hp.pos hr
  have hf : H.φ f ≠ 0 := fun e => by have := (H.z' ⟨by omega, h2⟩).mp e; omega
  obtain ⟨r, hr'⟩ := Fld.inv _ hf
  refine q.eq ⟨?_, fun L' h' => q0.2 L' ?_⟩
  · obtain ⟨c, hc⟩ := q0.1
    exact ⟨c, (hc.scale (H.φ f)).congr fun n hn => (sq_scale H hn).symm⟩
  · obtain ⟨c, hc⟩ := h'
    refine ⟨c, (hc.scale r).congr fun n hn => ?_⟩
    rw [sq_scale H hn]
    grind
theorem len_front {p : Int} {row : List Int} (hp : prm p) (hr : fld p row) : lenI p [0 :: row] ≤ lenI p [row] + 1 := by
  obtain ⟨K, i1, i2, ⟨H⟩⟩ := field_of hp
  have hpp := hp.pos
  have hr0 : fld p (0 :: row) := fun x hx => by
    rcases List.mem_cons.mp hx with rfl | hx
    · omega
    · exact hr x hx
  have q := lenI_isL H hp.pos hr0
  rw [List.length_cons] at q
  refine q.2 _ ((lenI_isL H hp.pos hr).1.zero_front fun n => ?_)
  unfold sq
  rw [nthI_cons_succ]
theorem len_zero {p : Int} {row : List Int} (hp : prm p) (h : ∀ x ∈ row, x = 0) : lenI p [row] = 0 := by
  refine IsLen.eq hp.pos ⟨⟨[], rfl, (fun x hx => by cases hx), fun r hr => ?_⟩, fun L' _ => by omega⟩
  rw [List.mem_singleton.mp hr]
  unfold fitsB
  rw [List.all_eq_true]
  intro j hj
  have hj := List.mem_range.mp hj
  rw [decide_eq_true_eq]
  have : nthI row ([] : List Int).length = nthI row 0 := rfl
  rw [h _ (nthI_mem (by simp at hj ⊢; omega))]
  simp [nxt, dot_zero_l]
end Rr

set_option linter.all false
set_option Elab.async false
set_option maxRecDepth 100000
set_option maxHeartbeats 2000000
/-! Suspects. -/
namespace Rr
open PySem
variable {N : Nat} {G : Env}
/-! ### a thing is equal to itself -/
theorem eqvAll_self : ∀ l : List D, (∀ x ∈ l, PyData.eqv x x = true) → PyData.eqvAll l l = true
  | [], _ => rfl
  | x :: r, h => by
    show (PyData.eqv x x && PyData.eqvAll r r) = true
    rw [h x List.mem_cons_self, eqvAll_self r fun y hy => h y (List.mem_cons_of_mem _ hy)]; rfl
theorem eqv_self : ∀ (n : Nat) (x : D), shp n x = true → PyData.eqv x x = true := by
  intro n
  induction n with
  | zero => intro x h; cases x <;> first | (cases h; done) | (simp [PyData.eqv])
  | succ n ih =>
    intro x h
    cases x with
    | list l => exact eqvAll_self l fun y hy => ih y (List.all_eq_true.mp h y hy)
    | tuple l => exact eqvAll_self l fun y hy => ih y (List.all_eq_true.mp h y hy)
    | dict l => cases h
    | _ => simp [PyData.eqv]
theorem eqD_self {x : D} (h : shp 8 x = true) : eqD x x = .ok true := by
  unfold eqD
  rw [if_pos (by simp [h]), eqv_self 8 x h]
theorem cp_eq_self {x : D} (h : shp 8 x = true) : cpD .eq x x = .ok true := eqD_self h
theorem cp_ne_self {x : D} (h : shp 8 x = true) : cpD .ne x x = .ok false := by
  show (eqD _ _).bind _ = _
  rw [eqD_self h, R.bind_ok]; rfl
/-! ### rows that agree -/
theorem agreeI {p : Int} {a b : List Int} {L : Nat} (hp : prm p) (ha : fld p a) (hb : fld p b) (hl : a.length = b.length) (h1 : lenI p [a] ≤ L) (h2 : lenI p [b] ≤ L) (h : ∀ n, n < 2 * L → nthI a n = nthI b n) : a = b := by
  obtain ⟨K, i1, i2, ⟨H⟩⟩ := field_of hp
  obtain ⟨c, hc⟩ := (lenI_isL H hp.pos ha).1.longer h1
  obtain ⟨c', hc'⟩ := (lenI_isL H hp.pos hb).1.longer h2
  rw [← hl] at hc'
  have key := agree hc hc' fun n h1 h2 => by unfold sq; rw [h n (by omega)]
  refine List.ext_getElem hl fun i q1 q2 => ?_
  rw [← nthI_get q1, ← nthI_get q2]
  exact (H.inj (ha.nth q1) (hb.nth q2)).mp (key i q1)
/-- another number at a place -/
def repl (row : List Int) (n : Nat) (x : Int) : List Int := row.take n ++ ([x] ++ row.drop (n + 1))
theorem repl_len {row : List Int} {n : Nat} (h : n < row.length) (x : Int) : (repl row n x).length = row.length := by simp [repl]; omega
theorem repl_nth {row : List Int} {n : Nat} (h : n < row.length) (x : Int) (i : Nat) : nthI (repl row n x) i = if i = n then x else nthI row i := by
  unfold repl
  rw [nthI_app, List.length_take, Nat.min_eq_left (by omega)]
  split
  · rename_i hi
    rw [if_neg (by omega), nthI_take hi]
  · rename_i hi
    by_cases e : i = n
    · subst e
      rw [if_pos rfl, Nat.sub_self]; rfl
    · rw [if_neg e]
      obtain ⟨k, rfl⟩ : ∃ k, i = n + 1 + k := ⟨i - (n + 1), by omega⟩
      rw [show n + 1 + k - n = k + 1 by omega]
      show nthI (x :: row.drop (n + 1)) (k + 1) = _
      rw [nthI_cons_succ, nthI_drop, Nat.add_comm k]
theorem repl_fld {p : Int} {row : List Int} {n : Nat} {x : Int} (h : fld p row) (hx : 0 ≤ x ∧ x < p) : fld p (repl row n x) := fld_append (fld_take _ h) (fld_append (fun y hy => by rw [List.mem_singleton.mp hy]; exact hx) (fld_drop _ h))
/-- the numbers that make a place a suspect -/
noncomputable def foundN (p : Int) (row : List Int) (L n t : Nat) : List Nat := (List.range t).filter fun o => !decide ((o : Int) = nthI row n) && decide (lenI p [repl row n o] ≤ L)
noncomputable def suspN (p : Int) (row : List Int) (L k : Nat) : List (Nat × List Nat) := ((List.range k).filter fun n => !(foundN p row L n p.toNat).isEmpty).map fun n => (n, foundN p row L n p.toNat)
def natT (l : List Nat) : D := .tuple (l.map natD)
def suspD (x : Nat × List Nat) : D := .tuple [natD x.1, natT x.2]
theorem foundN_succ (p : Int) (row : List Int) (L n t : Nat) : foundN p row L n (t + 1) = if (!decide ((t : Int) = nthI row n) && decide (lenI p [repl row n t] ≤ L)) then foundN p row L n t ++ [t] else foundN p row L n t := by
  unfold foundN
  rw [List.range_succ, List.filter_append, List.filter_cons, List.filter_nil]
  split <;> simp
theorem suspN_succ (p : Int) (row : List Int) (L k : Nat) : suspN p row L (k + 1) = if (foundN p row L k p.toNat).isEmpty then suspN p row L k else suspN p row L k ++ [(k, foundN p row L k p.toNat)] := by
  unfold suspN
  rw [List.range_succ, List.filter_append, List.filter_cons, List.filter_nil, List.map_append]
  cases (foundN p row L k p.toNat).isEmpty <;> simp
theorem bi_tup_natL (l : List Nat) : biD .tuple [natL l] = .ok (natT l) := rfl
theorem shp_natT (n : Nat) (l : List Nat) : shp (n + 1) (natT l) = true := shp_natL n l
theorem shp_susp (l : List (Nat × List Nat)) : shp 8 (.list (l.map suspD)) = true := by
  show (l.map suspD).all (shp 7) = true
  rw [List.all_eq_true]
  intro x hx
  obtain ⟨k, _, rfl⟩ := List.mem_map.mp hx
  show [natD k.1, natT k.2].all (shp 6) = true
  simp only [List.all_cons, List.all_nil, shp_natT, Bool.and_true]
  rfl
structure Sp_suspects (g : List D → R D) : Prop where
  bad : BadP 2 g
  row : ∀ p w v, prm p → ndT w = true → okN p w = false → g [.int p, w, v] = .ex "InvalidRow" none
  ok : ∀ p row (L : Nat), prm p → fld p row → row.length ≤ 24 → L ≤ 24 → g [.int p, tupI row, .int L] = .ok (.list ((suspN p row L row.length).map suspD))
theorem add3 {row : List Int} {n : Nat} {x : Int} (hl : row.length ≤ 100) : (opD .add (tupI (row.take n)) (.tuple [.int x])).bind (fun y => opD .add y (tupI (row.drop (n + 1)))) = .ok (tupI (repl row n x)) := by
  rw [show PyData.tuple [.int x] = tupI [x] from rfl, add_tupI (by simp; omega), R.bind_ok, add_tupI (by simp; omega)]
  simp [repl]
theorem run_suspects {g1 g2 g3 : List D → R D} (h1 : G.fn "check_row" = some g1) (s1 : Sp_check_row g1) (h2 : G.fn "check_length" = some g2) (s2 : Sp_check_length g2) (h3 : G.fn "least_length" = some g3) (s3 : Sp_least_length g3) (h4 : G.gl "MAX_ROW" = some (.int 24)) : Sp_suspects (runD G N d_suspects) := by
  constructor
  · intro v r hr hv hb
    match r, hr with
    | [a, b], _ => simp [runD, Rr.start, d_suspects, ev_call _ _ h1, s1.1 v [a] rfl hv hb, Q.out]
  · intro p w v hp hw ho
    simp [runD, Rr.start, d_suspects, ev_call _ _ h1, s1.2 p w hp hw, ho, Q.out]
  · intro p row L hp hf hl hL
    have hpp := hp.pos
    have hpl := hp.le
    have inr : inR 0 24 (.int L) = true := by simp [inR]; omega
    refine run_rt rfl ?_
    dsimp only [d_suspects]
    refine seq_nx (by simp [Rr.start, ev_call _ _ h1, s1.2 p (tupI row) hp (by simp), okN_of hf hl]; rfl) ?_
    refine seq_nx (by simp [ev_call _ _ h2, s2 (.int L) 24 rfl, inr, h4]; rfl) ?_
    refine seq_nx (by simp; rfl) ?_
    refine seq_for2 (fun x : Int × Nat => natD x.2) (fun x => PyData.int x.1) (row.zipIdx 0) (by simp [enum_map]) (fun k s => ∃ x4 x5 x6 x7, s = [some (.int p), some (tupI row), some (.int L), some (.list ((suspN p row L k).map suspD)), x4, x5, x6, x7]) ⟨none, none, none, none, by simp [suspN]⟩ ?_ ?_
    · rintro n hn s ⟨x4, x5, x6, x7, rfl⟩
      have hn : n < row.length := by simpa using hn
      have ez : (row.zipIdx 0)[n] = (nthI row n, n) := by simp [nthI_get hn]
      rw [ez]
      refine seq_nxE (by simp; rfl) ?_
      refine seq_forE natD (List.range p.toNat) (by simp (disch := omega) [rng0]) (fun t s => ∃ x7, s = [some (.int p), some (tupI row), some (.int L), some (.list ((suspN p row L n).map suspD)), some (natD n), some (.int (nthI row n)), some (natL (foundN p row L n t)), x7]) ⟨x7, by simp [foundN, natL]⟩ ?_ ?_
      · rintro t ht s ⟨x7, rfl⟩
        have ht : t < p.toNat := by simpa using ht
        rw [List.getElem_range, foundN_succ]
        have hlt : (foundN p row L n t).length ≤ 7 := by
          have := List.length_filter_le (fun o : Nat => !decide ((o : Int) = nthI row n) && decide (lenI p [repl row n o] ≤ L)) (List.range t)
          rw [List.length_range] at this
          unfold foundN; omega
        have e3 := s3 p [repl row n t] (rowsL [repl row n t]) hp (.one (repl_fld hf ⟨by omega, by omega⟩) (by rw [repl_len hn]; omega)) (.inl rfl)
        have e4 := add3 (n := n) (x := (t : Int)) (row := row) (by omega)
        by_cases ht1 : (t : Int) = nthI row n
        · refine ⟨_, by simp [natD, ht1]; rfl, ?_⟩
          rw [if_neg (by simp [ht1])]
          exact ⟨_, rfl⟩
        · have eS : evE G (.bin .add (.bin .add (.shi (.var 1) (.var 4)) (.tup (.cons (.var 7) .nil))) (.slo (.var 1) (.bin .add (.var 4) (.cst (.int 1))))) [some (.int p), some (tupI row), some (.int L), some (.list ((suspN p row L n).map suspD)), some (natD n), some (.int (nthI row n)), some (natL (foundN p row L n t)), some (natD t)] = .ok (tupI (repl row n t)) := by
            rw [ev_bin]
            simp (disch := omega) only [ev_bin, ev_shi, ev_slo, ev_tup, ev_cons, ev_nil, ev_var, ev_cst, getV_zero, getV_succ, R.bind_ok, natD, intD_int, slcI_hi, slcI_lo, op_addi, Int.toNat_natCast, show ((n : Int) + 1).toNat = n + 1 by omega]
            exact e4
          have eC : evE G (.and (.cmp .ne (.var 7) (.var 5)) (.cmp .le (.call "least_length" (.cons (.var 0) (.cons (.lst (.cons (.bin .add (.bin .add (.shi (.var 1) (.var 4)) (.tup (.cons (.var 7) .nil))) (.slo (.var 1) (.bin .add (.var 4) (.cst (.int 1))))) .nil)) .nil))) (.var 2))) [some (.int p), some (tupI row), some (.int L), some (.list ((suspN p row L n).map suspD)), some (natD n), some (.int (nthI row n)), some (natL (foundN p row L n t)), some (natD t)] = .ok (.bool (decide (lenI p [repl row n t] ≤ L))) := by
            rw [ev_and, ev_cmp, ev_cmp, ev_call _ _ h3]
            simp only [ev_cons, ev_nil, ev_lst, eS, ev_var, getV_zero, getV_succ, R.bind_ok, rowsL_one, e3]
            simp [natD, ht1]
          refine seq_iffE _ eC (truD_bool _) ?_
          by_cases hq : lenI p [repl row n t] ≤ L
          · rw [decide_eq_true hq, if_pos rfl, if_pos (by simp [ht1])]
            refine seq_nxE (by simp (disch := omega) [app_natL]; rfl) ?_
            exact nil_E (nil_E ⟨_, rfl⟩)
          · rw [decide_eq_false hq, if_neg (by simp), if_neg (by simp)]
            exact nil_E (nil_E ⟨_, rfl⟩)
      · rintro s' ⟨x7, rfl⟩
        rw [List.length_range, suspN_succ]
        have hls : (suspN p row L n).length ≤ 24 := by
          have := List.length_filter_le (fun n => !(foundN p row L n p.toNat).isEmpty) (List.range n)
          rw [List.length_range] at this
          unfold suspN
          rw [List.length_map]; omega
        cases hem : (foundN p row L n p.toNat).isEmpty with
        | true =>
          refine ⟨_, by simp [hem]; rfl, ?_⟩
          exact ⟨_, _, _, _, rfl⟩
        | false =>
          have e5 : appD (.list ((suspN p row L n).map suspD)) (.tuple [natD n, natT (foundN p row L n p.toNat)]) = .ok (.list ((suspN p row L n ++ [(n, foundN p row L n p.toNat)]).map suspD)) := by
            rw [app_list (by simp; omega)]; simp [suspD]
          refine ⟨_, by simp [hem, bi_tup_natL, e5]; rfl, ?_⟩
          rw [if_neg (by simp), List.map_append]
          exact ⟨_, _, _, _, rfl⟩
    · rintro s' ⟨x4, x5, x6, x7, rfl⟩
      have hz : (row.zipIdx 0).length = row.length := by simp
      rw [hz]
      simp
end Rr

set_option linter.all false
set_option Elab.async false
set_option maxRecDepth 100000
set_option maxHeartbeats 2000000
/-! All rows of a count of numbers; how many have a length. -/
namespace Rr
def tupN (p : Nat) : Nat → List (List Int)
  | 0 => [[]]
  | n + 1 => (tupN p n).flatMap fun t => (List.range p).map fun x : Nat => t ++ [(x : Int)]
theorem mem_tupN {p : Nat} : ∀ {n : Nat} {t : List Int}, t ∈ tupN p n ↔ t.length = n ∧ fld p t
  | 0, t => by
    simp only [tupN, List.mem_singleton]
    constructor
    · rintro rfl; exact ⟨rfl, fun k hk => by cases hk⟩
    · rintro ⟨h, _⟩; exact List.length_eq_zero_iff.mp h
  | n + 1, t => by
    simp only [tupN, List.mem_flatMap, List.mem_map, List.mem_range]
    constructor
    · rintro ⟨s, hs, x, hx, rfl⟩
      obtain ⟨h1, h2⟩ := mem_tupN.mp hs
      exact ⟨by simp [h1], fld_append h2 fun k hk => by rw [List.mem_singleton.mp hk]; omega⟩
    · rintro ⟨h1, h2⟩
      have hne : t ≠ [] := fun e => by rw [e] at h1; simp at h1
      refine ⟨t.dropLast, mem_tupN.mpr ⟨by simp [h1], fun k hk => h2 k ((List.dropLast_sublist t).subset hk)⟩, (t.getLast hne).toNat, ?_, ?_⟩
      · have := h2 _ (List.getLast_mem hne); omega
      · have := h2 _ (List.getLast_mem hne)
        rw [Int.toNat_of_nonneg this.1]
        exact List.dropLast_concat_getLast hne
theorem tupN_len (p : Nat) : ∀ n, (tupN p n).length = p ^ n
  | 0 => rfl
  | n + 1 => by
    simp only [tupN, List.length_flatMap, List.length_map, List.length_range, List.map_const', List.sum_replicate_nat]
    rw [tupN_len p n, Nat.pow_succ]
/-- the numbers that may follow -/
theorem next_keep {p : Int} {t : List Int} (hp : prm p) (ht : fld p t) :
    (t.length < 2 * lenI p [t] → ∀ x, 0 ≤ x → x < p → lenI p [t ++ [x]] = lenI p [t]) ∧
    (2 * lenI p [t] ≤ t.length → ∃ x0, (0 ≤ x0 ∧ x0 < p) ∧ ∀ x, 0 ≤ x → x < p → lenI p [t ++ [x]] = if x = x0 then lenI p [t] else t.length + 1 - lenI p [t]) := by
  obtain ⟨K, i1, i2, ⟨H⟩⟩ := field_of hp
  have hpp := hp.pos
  have fx : ∀ x, 0 ≤ x → x < p → fld p (t ++ [x]) := fun x h1 h2 => fld_append ht fun k hk => by rw [List.mem_singleton.mp hk]; exact ⟨h1, h2⟩
  have hx1 : ∀ x, 0 ≤ x → x < p → IsL (sq H (t ++ [x])) t.length (lenI p [t]) := fun x h1 h2 => by
    have := lenI_take H hpp (fx x h1 h2) (c := t.length) (by simp)
    rwa [List.take_left] at this
  have hx2 : ∀ x, 0 ≤ x → x < p → IsL (sq H (t ++ [x])) (t.length + 1) (lenI p [t ++ [x]]) := fun x h1 h2 => by
    have := lenI_isL H hpp (fx x h1 h2)
    simpa using this
  constructor
  · intro h x h1 h2
    rcases (hx1 x h1 h2).next (hx2 x h1 h2) with ⟨_, q⟩ | ⟨_, q, _⟩
    · exact q
    · omega
  · intro h
    obtain ⟨c, hc⟩ := (lenI_isL H hpp ht).1
    have hL := (lenI_isL H hpp ht).le
    obtain ⟨x0, hx0⟩ : ∃ x0, x0 = H.rep (sg (lenI p [t]) fun i => c i * sq H t (t.length - 1 - i)) := ⟨_, rfl⟩
    have b1 : 0 ≤ x0 := by rw [hx0]; exact H.lo _
    have b2 : x0 < p := by rw [hx0]; exact H.hi _
    have e0 : lenI p [t ++ [x0]] = lenI p [t] := by
      rcases (hx1 x0 b1 b2).next (hx2 x0 b1 b2) with ⟨_, q⟩ | ⟨q, _, _⟩
      · exact q
      · refine absurd ⟨c, fun n h1 h2 => ?_⟩ q
        have hs : ∀ m, m < t.length → sq H (t ++ [x0]) m = sq H t m := fun m hm => by unfold sq; rw [nthI_append_left hm]
        have e : sg (lenI p [t]) (fun i => c i * sq H (t ++ [x0]) (n - 1 - i)) = sg (lenI p [t]) (fun i => c i * sq H t (n - 1 - i)) := sg_congr fun i hi => by rw [hs _ (by omega)]
        rw [e]
        rcases Nat.lt_or_ge n t.length with hn | hn
        · rw [hs n hn]; exact hc n h1 hn
        · have : n = t.length := by omega
          subst this
          have : sq H (t ++ [x0]) t.length = H.φ x0 := by unfold sq; rw [nthI_app, if_neg (by omega), Nat.sub_self, nthI_cons_zero]
          rw [this, hx0, H.φrep]
    refine ⟨x0, ⟨b1, b2⟩, fun x h1 h2 => ?_⟩
    split
    · rename_i e; rw [e, e0]
    · rename_i hne
      rcases (hx1 x h1 h2).next (hx2 x h1 h2) with ⟨_, q⟩ | ⟨_, _, q⟩
      · exfalso
        apply hne
        have := agreeI (L := lenI p [t]) hp (fx x h1 h2) (fx x0 b1 b2) (by simp) (by omega) (by omega) fun n hn => by
          rw [nthI_append_left (by omega), nthI_append_left (by omega)]
        simpa using this
      · exact q
/-! ### counts -/
noncomputable def cnt (p n L : Nat) : Nat := (tupN p n).countP fun t => decide (lenI p [t] = L)
theorem countP_one {n x0 : Nat} (h : x0 < n) : (List.range n).countP (fun x => decide (x = x0)) = 1 := by
  have : (List.range n).countP (fun x => decide (x = x0)) = (List.range n).count x0 := by
    rw [List.count_eq_countP]
    exact List.countP_congr fun x _ => by simp
  rw [this, List.count_range, if_pos h]
theorem countP_other {n x0 : Nat} (h : x0 < n) : (List.range n).countP (fun x => !decide (x = x0)) = n - 1 := by
  have h1 := List.length_eq_countP_add_countP (fun x => decide (x = x0)) (l := List.range n)
  rw [countP_one h, List.length_range] at h1
  have h2 : (List.range n).countP (fun x => decide ¬ decide (x = x0) = true) = (List.range n).countP (fun x => !decide (x = x0)) := List.countP_congr fun x _ => by simp
  omega
theorem count_next {p : Nat} (hp : prm p) {t : List Int} (ht : fld p t) (L : Nat) : (List.range p).countP (fun x : Nat => decide (lenI p [t ++ [(x : Int)]] = L)) = if 2 * lenI p [t] ≤ t.length then (if lenI p [t] = L then 1 else if t.length + 1 - lenI p [t] = L then p - 1 else 0) else (if lenI p [t] = L then p else 0) := by
  obtain ⟨h1, h2⟩ := next_keep hp ht
  split
  · rename_i h
    obtain ⟨x0, ⟨b1, b2⟩, hx⟩ := h2 h
    obtain ⟨y, rfl⟩ := nat_of b1
    have hy : y < p := by omega
    have key : ∀ x, x ∈ List.range p → lenI p [t ++ [(x : Int)]] = if x = y then lenI p [t] else t.length + 1 - lenI p [t] := fun x hm => by
      rw [hx x (by omega) (by have := List.mem_range.mp hm; omega)]
      by_cases e : x = y
      · rw [if_pos e, if_pos (by omega)]
      · rw [if_neg e, if_neg (by omega)]
    by_cases c1 : lenI p [t] = L
    · rw [if_pos c1, ← countP_one hy]
      refine List.countP_congr fun x hm => ?_
      rw [key x hm, decide_eq_true_eq, decide_eq_true_eq]
      by_cases e : x = y
      · simp [e, c1]
      · rw [if_neg e]; constructor
        · intro q; omega
        · intro q; exact absurd q e
    · rw [if_neg c1]
      by_cases c2 : t.length + 1 - lenI p [t] = L
      · rw [if_pos c2, ← countP_other hy]
        refine List.countP_congr fun x hm => ?_
        rw [key x hm]
        by_cases e : x = y
        · simp [e, c1]
        · simp [e, c2]
      · rw [if_neg c2, List.countP_eq_zero]
        intro x hm
        rw [key x hm, decide_eq_true_eq]
        by_cases e : x = y
        · rw [if_pos e]; exact c1
        · rw [if_neg e]; exact c2
  · rename_i h
    have key : ∀ x, x ∈ List.range p → lenI p [t ++ [(x : Int)]] = lenI p [t] := fun x hm => h1 (by omega) x (by omega) (by have := List.mem_range.mp hm; omega)
    by_cases c1 : lenI p [t] = L
    · rw [if_pos c1]
      have : (List.range p).countP (fun x : Nat => decide (lenI p [t ++ [(x : Int)]] = L)) = (List.range p).length := List.countP_eq_length.mpr fun x hm => by rw [key x hm]; simpa using c1
      rw [this, List.length_range]
    · rw [if_neg c1, List.countP_eq_zero]
      intro x hm
      rw [key x hm]; simpa using c1
theorem sum_two {α : Type} (l : List α) (f : α → Nat) (q1 q2 : α → Bool) (u v : Nat) (h : ∀ x ∈ l, f x = (if q1 x then u else 0) + (if q2 x then v else 0)) : (l.map f).sum = u * l.countP q1 + v * l.countP q2 := by
  induction l with
  | nil => simp
  | cons x r ih =>
    rw [List.map_cons, List.sum_cons, ih fun y hy => h y (List.mem_cons_of_mem _ hy), h x List.mem_cons_self, List.countP_cons, List.countP_cons]
    cases q1 x <;> cases q2 x <;> simp [Nat.mul_add] <;> omega
theorem cnt_succ {p : Nat} (hp : prm p) (n L : Nat) : cnt p (n + 1) L = (if 2 * L ≤ n then 1 else p) * cnt p n L + (if L ≤ n + 1 ∧ 2 * (n + 1 - L) ≤ n then p - 1 else 0) * cnt p n (n + 1 - L) := by
  unfold cnt
  rw [tupN, List.countP_flatMap]
  refine sum_two _ _ (fun t => decide (lenI p [t] = L)) (fun t => decide (lenI p [t] = n + 1 - L)) _ _ fun t ht => ?_
  obtain ⟨hl, hf⟩ := mem_tupN.mp ht
  have hle : lenI p [t] ≤ n := by rw [← hl]; exact lenI_le hp.pos (by simp)
  show List.countP _ (List.map _ _) = _
  rw [List.countP_map]
  rw [show ((fun t => decide (lenI p [t] = L)) ∘ fun x : Nat => t ++ [(x : Int)]) = fun x : Nat => decide (lenI p [t ++ [(x : Int)]] = L) from rfl, count_next hp hf, hl]
  simp only [decide_eq_true_eq]
  generalize lenI p [t] = a at hle
  by_cases c1 : a = L
  · subst c1
    by_cases c2 : 2 * a ≤ n
    · rw [if_pos c2, if_pos rfl, if_pos rfl, if_pos c2]
      rw [if_neg (by omega)]
    · rw [if_neg c2, if_pos rfl, if_pos rfl, if_neg c2]
      by_cases c3 : a = n + 1 - a
      · rw [if_pos c3, if_neg (by omega)]; omega
      · rw [if_neg c3]; omega
  · rw [if_neg c1, if_neg c1, if_neg c1]
    by_cases c3 : a = n + 1 - L
    · by_cases c4 : L ≤ n + 1 ∧ 2 * (n + 1 - L) ≤ n
      · rw [if_pos (by omega), if_pos (by omega), if_pos c3, if_pos c4]; omega
      · rw [if_pos c3, if_neg c4]
        by_cases c5 : 2 * a ≤ n
        · rw [if_pos c5]
          rw [if_neg (by omega)]
        · rw [if_neg c5]
    · rw [if_neg c3]
      by_cases c5 : 2 * a ≤ n
      · rw [if_pos c5, if_neg (by omega)]
      · rw [if_neg c5]
/-- the document's number -/
def cntF (p n L : Nat) : Nat := if n < L then 0 else if L = 0 then 1 else if 2 * L ≤ n then (p - 1) * p ^ (2 * L - 1) else (p - 1) * p ^ (2 * (n - L))
theorem cnt_eq {p : Nat} (hp : prm p) : ∀ n L, cnt p n L = cntF p n L
  | 0, L => by
    have h0 : lenI p [[]] = 0 := by
      have := lenI_le hp.pos (rows := [[]]) (n := 0) (by simp); omega
    unfold cnt cntF
    rw [tupN, List.countP_cons, List.countP_nil, h0]
    by_cases c : L = 0
    · subst c; simp
    · rw [if_neg (by simp; omega), if_pos (by omega)]
  | n + 1, L => by
    rw [cnt_succ hp, cnt_eq hp n L, cnt_eq hp n (n + 1 - L)]
    have hp2 : 2 ≤ p := by have := hp.ge; omega
    unfold cntF
    by_cases a1 : n + 1 < L
    · rw [if_pos (show n < L by omega), if_neg (show ¬ (L ≤ n + 1 ∧ 2 * (n + 1 - L) ≤ n) by omega), if_pos a1]; simp
    · by_cases a2 : L = n + 1
      · subst a2
        rw [if_pos (show n < n + 1 by omega), if_pos (show n + 1 ≤ n + 1 ∧ 2 * (n + 1 - (n + 1)) ≤ n by omega), if_neg (show ¬ n < n + 1 - (n + 1) by omega), if_pos (show n + 1 - (n + 1) = 0 by omega), if_neg (show ¬ n + 1 < n + 1 by omega), if_neg (show ¬ n + 1 = 0 by omega), if_neg (show ¬ 2 * (n + 1) ≤ n + 1 by omega), Nat.sub_self]
        simp
      · by_cases a3 : L = 0
        · subst a3
          rw [if_pos (show 2 * 0 ≤ n by omega), if_neg (show ¬ n < 0 by omega), if_pos rfl, if_neg (show ¬ (0 ≤ n + 1 ∧ 2 * (n + 1 - 0) ≤ n) by omega), if_neg (show ¬ n + 1 < 0 by omega), if_pos rfl]; omega
        · rw [if_neg (show ¬ n < L by omega), if_neg a3, if_neg a1, if_neg a3]
          by_cases a4 : 2 * L ≤ n
          · rw [if_pos a4, if_pos a4, if_neg (show ¬ (L ≤ n + 1 ∧ 2 * (n + 1 - L) ≤ n) by omega), if_pos (show 2 * L ≤ n + 1 by omega)]; omega
          · rw [if_neg a4, if_neg a4]
            by_cases a5 : 2 * L = n + 1
            · rw [if_neg (show ¬ (L ≤ n + 1 ∧ 2 * (n + 1 - L) ≤ n) by omega), if_pos (show 2 * L ≤ n + 1 by omega), Nat.zero_mul, Nat.add_zero]
              have e : 2 * L - 1 = 2 * (n - L) + 1 := by omega
              rw [e, Nat.pow_succ]
              grind
            · rw [if_pos (show L ≤ n + 1 ∧ 2 * (n + 1 - L) ≤ n by omega), if_neg (show ¬ n < n + 1 - L by omega), if_neg (show ¬ n + 1 - L = 0 by omega), if_pos (show 2 * (n + 1 - L) ≤ n by omega), if_neg (show ¬ 2 * L ≤ n + 1 by omega)]
              have e1 : 2 * (n + 1 - L) - 1 = 2 * (n - L) + 1 := by omega
              have e2 : 2 * (n + 1 - L) = 2 * (n - L) + 1 + 1 := by omega
              rw [e1, e2]
              simp only [Nat.pow_succ]
              obtain ⟨q, rfl⟩ : ∃ q, p = q + 1 := ⟨p - 1, by omega⟩
              rw [Nat.add_sub_cancel]
              generalize (q + 1) ^ (2 * (n - L)) = z
              grind
/-- all lengths together -/
theorem cnt_total {p : Nat} (hp : prm p) (n m : Nat) (h : n < m) : ((List.range m).map fun L => cntF p n L).sum = p ^ n := by
  rw [← tupN_len p n]
  have e : ((List.range m).map fun L => cntF p n L) = (List.range m).map fun L => cnt p n L := List.map_congr_left fun L _ => (cnt_eq hp n L).symm
  rw [e]
  unfold cnt
  have hb : ∀ t ∈ tupN p n, lenI p [t] < m := fun t ht => by
    have := lenI_le hp.pos (rows := [t]) (n := n) (by simp [(mem_tupN.mp ht).1]); omega
  generalize tupN p n = l at hb
  induction l with
  | nil =>
    simp only [List.countP_nil, List.length_nil]
    rw [List.map_const', List.sum_replicate_nat]; simp
  | cons t r ih =>
    have h1 := ih fun x hx => hb x (List.mem_cons_of_mem _ hx)
    have e2 : ((List.range m).map fun L => (t :: r).countP fun t => decide (lenI p [t] = L)) = (List.range m).map fun L => (r.countP fun t => decide (lenI p [t] = L)) + (if decide (L = lenI p [t]) then 1 else 0) := List.map_congr_left fun L _ => by
      rw [List.countP_cons]
      by_cases q : lenI p [t] = L
      · simp [q]
      · have : ¬ L = lenI p [t] := fun e => q e.symm
        simp [q, this]
    rw [e2, List.length_cons, ← h1]
    have e3 : ∀ (l : List Nat) (f g : Nat → Nat), (l.map fun x => f x + g x).sum = (l.map f).sum + (l.map g).sum := by
      intro l f g
      induction l with
      | nil => rfl
      | cons x r ih => simp [ih]; omega
    rw [e3]
    congr 1
    have e4 := sum_two (List.range m) (fun L => if decide (L = lenI p [t]) then 1 else 0) (fun L => decide (L = lenI p [t])) (fun _ => false) 1 0 fun x _ => by simp
    rw [e4, countP_one (hb t List.mem_cons_self)]
    omega
end Rr

set_option linter.all false
set_option Elab.async false
set_option maxRecDepth 100000
set_option maxHeartbeats 2000000
/-! Contracts: all tuples, powers, counts. -/
namespace Rr
open PySem
variable {N : Nat} {G : Env}
theorem prm.nat {p : Int} (h : prm p) : ∃ q : Nat, p = q ∧ prm q := by
  refine ⟨p.toNat, ?_, ?_⟩
  · have := h.pos; omega
  · have : ((p.toNat : Nat) : Int) = p := by have := h.pos; omega
    rwa [this]
theorem flat_take_len {α β : Type} (l : List α) (f : α → List β) (j : Nat) : ((l.take j).flatMap f).length ≤ (l.flatMap f).length := by
  have : l.flatMap f = (l.take j).flatMap f ++ (l.drop j).flatMap f := by rw [← List.flatMap_append, List.take_append_drop]
  rw [this, List.length_append]; omega
/-- the tuples of one more number -/
theorem tupN_succ (p n : Nat) : tupN p (n + 1) = (tupN p n).flatMap fun t => (List.range p).map fun x : Nat => t ++ [(x : Int)] := rfl
def Sp_tuples (g : List D → R D) : Prop := ∀ (p n : Nat), p ≤ 7 → p ^ n ≤ 100000 → n ≤ 1000 → 0 < p → g [.int p, .int n] = .ok (rowsL (tupN p n))
theorem ext_comp {s : S} {p : Nat} {t : List Int} {i j k : Nat} (hp : p ≤ 7) (ht : t.length ≤ 1000) (h0 : getV s i = .ok (.int p)) (h1 : ∀ x, getV (s.set k x) j = .ok (tupI t)) (h2 : k < s.length) : evE G (.lc (.one k) (.rng (.var i)) .nil (.bin .add (.var j) (.tup (.cons (.var k) .nil)))) s = .ok (rowsL ((List.range p).map fun x : Nat => t ++ [(x : Int)])) := by
  rw [lc_map natD tupI (List.range p) (fun x : Nat => t ++ [(x : Int)]) (by simp (disch := omega) [h0, rng0]) (by simp; omega) (fun x hx => by
    have e0 : getV (s.set k (some (natD x))) k = .ok (natD x) := by simp [getV, h2]
    rw [ev_bin, ev_var, h1, R.bind_ok, ev_tup, ev_cons, ev_nil, ev_var, e0]
    simp only [R.bind_ok]
    rw [show PyData.tuple [natD x] = tupI [(x : Int)] from rfl, add_tupI (by simp; omega)])]
  rfl
theorem run_tuples : Sp_tuples (runD G N d_tuples) := by
  intro p n hp hn hn2 hp0
  refine run_rt rfl ?_
  dsimp only [d_tuples]
  refine seq_nx (by simp [Rr.start]; rfl) ?_
  refine seq_for natD (List.range n) (by simp (disch := omega) [rng0]) (fun k s => ∃ x3 x4 x5, s = [some (.int p), some (.int n), some (rowsL (tupN p k)), x3, x4, x5, none]) ⟨none, none, none, rfl⟩ ?_ ?_
  · rintro k hk s ⟨x3, x4, x5, rfl⟩
    have hk : k < n := by simpa using hk
    rw [List.getElem_range]
    have hlen : (tupN p (k + 1)).length ≤ 100000 := by
      rw [tupN_len]
      exact Nat.le_trans (Nat.pow_le_pow_right hp0 (by omega)) hn
    refine seq_nxE (by simp; rfl) ?_
    refine seq_forE tupI (tupN p k) (by simp) (fun j s => ∃ x5, s = [some (.int p), some (.int n), some (rowsL (tupN p k)), some (natD k), some (rowsL (((tupN p k).take j).flatMap fun t => (List.range p).map fun x : Nat => t ++ [(x : Int)])), x5, none]) ⟨x5, by simp [rowsL]⟩ ?_ ?_
    · rintro j hj s ⟨x5, rfl⟩
      have htl : ((tupN p k)[j]).length = k := (mem_tupN.mp (List.getElem_mem hj)).1
      have e1 := ext_comp (G := G) (s := [some (.int p), some (.int n), some (rowsL (tupN p k)), some (natD k), some (rowsL (((tupN p k).take j).flatMap fun t => (List.range p).map fun x : Nat => t ++ [(x : Int)])), some (tupI (tupN p k)[j]), none]) (p := p) (t := (tupN p k)[j]) (i := 0) (j := 5) (k := 6) hp (by omega) (by simp) (by simp) (by simp)
      have hsub : (((tupN p k).take j).flatMap fun t => (List.range p).map fun x : Nat => t ++ [(x : Int)]).length ≤ 100000 := by
        refine Nat.le_trans ?_ hlen
        rw [tupN_succ]
        exact flat_take_len _ _ _
      have e2 : extD (rowsL (((tupN p k).take j).flatMap fun t => (List.range p).map fun x : Nat => t ++ [(x : Int)])) (rowsL ((List.range p).map fun x : Nat => (tupN p k)[j] ++ [(x : Int)])) = .ok (rowsL (((tupN p k).take (j + 1)).flatMap fun t => (List.range p).map fun x : Nat => t ++ [(x : Int)])) := by
        show extD (.list _) (.list _) = _
        rw [ext_list (by simp only [List.length_map, List.length_range]; omega), List.take_succ_eq_append_getElem hj, List.flatMap_append, List.flatMap_singleton, ← List.map_append]
        rfl
      refine ⟨_, by
        rw [ess_cons, es_ext]
        simp only [List.set_cons_zero, List.set_cons_succ, getV_zero, getV_succ, R.go_ok, e1, e2]
        simp; rfl, ?_⟩
      exact ⟨_, rfl⟩
    · rintro s' ⟨x5, rfl⟩
      rw [List.take_length]
      refine seq_nxE (by simp; rfl) ?_
      refine seq_nxE (by simp; rfl) ?_
      exact nil_E ⟨_, _, _, rfl⟩
  · rintro s' ⟨x3, x4, x5, rfl⟩
    rw [List.length_range]
    simp
def Sp__law_tuples := Sp_tuples
theorem run__law_tuples : Sp__law_tuples (runD G N d__law_tuples) := by
  intro p n hp hn hn2 hp0
  refine run_rt rfl ?_
  dsimp only [d__law_tuples]
  refine seq_nx (by simp [Rr.start]; rfl) ?_
  refine seq_for natD (List.range n) (by simp (disch := omega) [rng0]) (fun k s => ∃ x3 x4 x5, s = [some (.int p), some (.int n), some (rowsL (tupN p k)), x3, x4, x5, none]) ⟨none, none, none, rfl⟩ ?_ ?_
  · rintro k hk s ⟨x3, x4, x5, rfl⟩
    have hk : k < n := by simpa using hk
    rw [List.getElem_range]
    have hlen : (tupN p (k + 1)).length ≤ 100000 := by
      rw [tupN_len]
      exact Nat.le_trans (Nat.pow_le_pow_right hp0 (by omega)) hn
    refine seq_nxE (by simp; rfl) ?_
    refine seq_forE tupI (tupN p k) (by simp) (fun j s => ∃ x5, s = [some (.int p), some (.int n), some (rowsL (tupN p k)), some (natD k), some (rowsL (((tupN p k).take j).flatMap fun t => (List.range p).map fun x : Nat => t ++ [(x : Int)])), x5, none]) ⟨x5, by simp [rowsL]⟩ ?_ ?_
    · rintro j hj s ⟨x5, rfl⟩
      have htl : ((tupN p k)[j]).length = k := (mem_tupN.mp (List.getElem_mem hj)).1
      have e1 := ext_comp (G := G) (s := [some (.int p), some (.int n), some (rowsL (tupN p k)), some (natD k), some (rowsL (((tupN p k).take j).flatMap fun t => (List.range p).map fun x : Nat => t ++ [(x : Int)])), some (tupI (tupN p k)[j]), none]) (p := p) (t := (tupN p k)[j]) (i := 0) (j := 5) (k := 6) hp (by omega) (by simp) (by simp) (by simp)
      have hsub : (((tupN p k).take j).flatMap fun t => (List.range p).map fun x : Nat => t ++ [(x : Int)]).length ≤ 100000 := by
        refine Nat.le_trans ?_ hlen
        rw [tupN_succ]
        exact flat_take_len _ _ _
      have e2 : opD .add (rowsL (((tupN p k).take j).flatMap fun t => (List.range p).map fun x : Nat => t ++ [(x : Int)])) (rowsL ((List.range p).map fun x : Nat => (tupN p k)[j] ++ [(x : Int)])) = .ok (rowsL (((tupN p k).take (j + 1)).flatMap fun t => (List.range p).map fun x : Nat => t ++ [(x : Int)])) := by
        show (if _ then _ else _) = _
        rw [if_pos (by simp only [List.length_map, List.length_range]; show _ ≤ 1000000; omega), List.take_succ_eq_append_getElem hj, List.flatMap_append, List.flatMap_singleton, ← List.map_append]
        rfl
      refine ⟨_, by
        rw [ess_cons, es_asg, ev_bin]
        simp only [List.set_cons_zero, List.set_cons_succ, ev_var, getV_zero, getV_succ, R.bind_ok, R.go_ok, e1, e2]
        simp; rfl, ?_⟩
      exact ⟨_, rfl⟩
    · rintro s' ⟨x5, rfl⟩
      rw [List.take_length]
      refine seq_nxE (by simp; rfl) ?_
      exact nil_E ⟨_, _, _, rfl⟩
  · rintro s' ⟨x3, x4, x5, rfl⟩
    rw [List.length_range]
    simp
def Sp_power (g : List D → R D) : Prop := ∀ (p n : Nat), p ≤ 7 → n ≤ 1000 → g [.int p, .int n] = .ok (.int (p ^ n : Nat))
theorem run_power : Sp_power (runD G N d_power) := by
  intro p n hp hn
  refine run_rt rfl ?_
  dsimp only [d_power]
  refine seq_nx (by simp [Rr.start]; rfl) ?_
  refine seq_for natD (List.range n) (by simp (disch := omega) [rng0]) (fun k s => ∃ x3, s = [some (.int p), some (.int n), some (.int (p ^ k : Nat)), x3]) ⟨none, rfl⟩ ?_ ?_
  · rintro k hk s ⟨x3, rfl⟩
    have e : opD .mul (.int (p ^ k : Nat)) (.int p) = .ok (.int (p ^ (k + 1) : Nat)) := by
      rw [op_muli (by omega), Nat.pow_succ, Int.natCast_mul]
    refine ⟨_, by
      rw [ess_cons, es_aug]
      simp only [List.set_cons_zero, List.set_cons_succ, ev_var, getV_zero, getV_succ, R.go_ok, e]
      simp; rfl, ?_⟩
    exact ⟨_, rfl⟩
  · rintro s' ⟨x3, rfl⟩
    rw [List.length_range]
    simp
structure Sp_count_rows (g : List D → R D) : Prop where
  ok : ∀ (p n L : Nat), prm p → n ≤ 24 → L ≤ 24 → g [.int p, .int n, .int L] = .ok (.int (cntF p n L))
  one : ∀ p w v, prm p → nd w = true → inR 0 24 w = false → g [.int p, w, v] = .ex "InvalidLength" none
  two : ∀ p (n : Nat) w, prm p → n ≤ 24 → nd w = true → inR 0 24 w = false → g [.int p, .int n, w] = .ex "InvalidLength" none
theorem run_count_rows {g1 g2 g3 : List D → R D} (h1 : G.fn "check_prime" = some g1) (s1 : Sp_check_prime g1) (h2 : G.fn "check_length" = some g2) (s2 : Sp_check_length g2) (h3 : G.fn "power" = some g3) (s3 : Sp_power g3) (h4 : G.gl "MAX_ROW" = some (.int 24)) : Sp_count_rows (runD G N d_count_rows) := by
  have inr : ∀ L : Nat, L ≤ 24 → inR 0 24 (.int L) = true := fun L h => by simp [inR]; omega
  constructor
  · intro p n L hp hn hL
    have hpl := hp.le
    have hpg := hp.ge
    refine run_rt rfl ?_
    dsimp only [d_count_rows]
    refine seq_nx (by simp [Rr.start, ev_call _ _ h1, s1 (.int p) rfl, hp.isPr]; rfl) ?_
    refine seq_nx (by simp [ev_call _ _ h2, s2 (.int n) 24 rfl, inr n hn, h4]; rfl) ?_
    refine seq_nx (by simp [ev_call _ _ h2, s2 (.int L) 24 rfl, inr L hL, h4]; rfl) ?_
    unfold cntF
    by_cases c1 : n < L
    · rw [if_pos c1]
      refine seq_rr ?_ (fun _ => rfl)
      simp [c1]
    rw [if_neg c1]
    refine seq_nx (by simp [c1]; rfl) ?_
    by_cases c2 : L = 0
    · rw [if_pos c2]
      refine seq_rr ?_ (fun _ => rfl)
      simp [c2]
    rw [if_neg c2]
    have c2' : ¬ (L : Int) = 0 := by omega
    refine seq_nx (by simp [c2]; rfl) ?_
    by_cases c3 : 2 * L ≤ n
    · rw [if_pos c3]
      have c3' : 2 * (L : Int) ≤ n := by omega
      have e := s3 p (2 * L - 1) (by omega) (by omega)
      rw [show ((2 * L - 1 : Nat) : Int) = 2 * (L : Int) - 1 by omega] at e
      have e2 : opD .mul (.int ((p : Int) - 1)) (.int (p ^ (2 * L - 1) : Nat)) = .ok (.int ((p - 1) * p ^ (2 * L - 1) : Nat)) := by
        rw [op_muli (by omega), Int.natCast_mul, Int.natCast_sub (by omega)]; rfl
      refine seq_rr ?_ (fun _ => rfl)
      simp only [es_iff, ev_cmp, ev_bin, ev_cst, ev_var, getV_zero, getV_succ, R.bind_ok, op_muli (show -1000000 ≤ (2 : Int) ∧ (2 : Int) ≤ 1000000 ∨ _ from .inl ⟨by omega, by omega⟩), cp_le, decide_eq_true c3', R.go_ok, truD_bool, if_true, ess_cons, es_ret, ev_call _ _ h3, ev_cons, ev_nil, op_subi, e, e2, Q.go_rt]
    · rw [if_neg c3]
      have c3' : ¬ 2 * (L : Int) ≤ n := by omega
      refine seq_nx (by simp (disch := omega) [op_muli, c3']; rfl) ?_
      have e := s3 p (2 * (n - L)) (by omega) (by omega)
      rw [show ((2 * (n - L) : Nat) : Int) = 2 * ((n : Int) - L) by omega] at e
      have e2 : opD .mul (.int ((p : Int) - 1)) (.int (p ^ (2 * (n - L)) : Nat)) = .ok (.int ((p - 1) * p ^ (2 * (n - L)) : Nat)) := by
        rw [op_muli (by omega), Int.natCast_mul, Int.natCast_sub (by omega)]; rfl
      simp only [ess_cons, es_ret, ev_call _ _ h3, ev_bin, ev_cst, ev_var, getV_zero, getV_succ, R.bind_ok, ev_cons, ev_nil, op_muli (show -1000000 ≤ (2 : Int) ∧ (2 : Int) ≤ 1000000 ∨ _ from .inl ⟨by omega, by omega⟩), op_subi, e, e2, R.go_ok, Q.go_rt]
  · intro p w v hp hw ho
    simp [runD, Rr.start, d_count_rows, ev_call _ _ h1, ev_call _ _ h2, s1 (.int p) rfl, hp.isPr, s2 w 24 hw, ho, h4, Q.out]
  · intro p n w hp hn hw ho
    simp [runD, Rr.start, d_count_rows, ev_call _ _ h1, ev_call _ _ h2, s1 (.int p) rfl, hp.isPr, s2 (.int n) 24 rfl, inr n hn, s2 w 24 hw, ho, h4, Q.out]
structure Sp__law_counted (g : List D → R D) : Prop where
  one : ∀ p w v, prm p → nd w = true → inR 0 24 w = false → g [.int p, w, v] = .ok (.str "length")
  two : ∀ p (n : Nat) w, prm p → n ≤ 24 → nd w = true → inR 0 24 w = false → g [.int p, .int n, w] = .ok (.str "length")
theorem run__law_counted {g1 : List D → R D} (h1 : G.fn "count_rows" = some g1) (s1 : Sp_count_rows g1) (hE : clsB G ["InvalidLength", "InvalidPrime"] = true) : Sp__law_counted (runD G N d__law_counted) := by
  simp [clsB] at hE
  constructor
  · intro p w v hp hw ho
    simp [runD, start, d__law_counted, es_trh, ev_call _ _ h1, s1.one p w v hp hw ho, hdQ, hE, Q.out]
  · intro p n w hp hn hw ho
    simp [runD, start, d__law_counted, es_trh, ev_call _ _ h1, s1.two p n w hp hn hw ho, hdQ, hE, Q.out]
end Rr

set_option linter.all false
set_option Elab.async false
set_option maxRecDepth 100000
set_option maxHeartbeats 2000000
/-! Longest beginnings and endings. -/
namespace Rr
open PySem
variable {N : Nat} {G : Env}
theorem intsOf_natD : ∀ l : List Nat, intsOf (l.map natD) = some (l.map fun (k : Nat) => (k : Int))
  | [] => rfl
  | k :: r => by
    rw [List.map_cons]
    show (intsOf (r.map natD)).map ((k : Int) :: ·) = _
    rw [intsOf_natD r]; rfl
theorem maxI_eq : ∀ (l : List Int) (M : Int), M ∈ l → (∀ x ∈ l, x ≤ M) → maxI l = M
  | [], _, h, _ => by cases h
  | [x], M, h, _ => by rw [List.mem_singleton.mp h]; rfl
  | x :: y :: r, M, h, hb => by
    show (if x < maxI (y :: r) then maxI (y :: r) else x) = M
    rcases List.mem_cons.mp h with rfl | h
    · by_cases q : M ∈ y :: r
      · rw [maxI_eq (y :: r) M q fun z hz => hb z (List.mem_cons_of_mem _ hz)]
        simp
      · have : ∀ l : List Int, l ≠ [] → maxI l ∈ l := by
          intro l
          induction l with
          | nil => intro h; exact absurd rfl h
          | cons a s ih =>
            intro _
            cases s with
            | nil => simp [maxI]
            | cons b s =>
              show (if a < maxI (b :: s) then maxI (b :: s) else a) ∈ _
              split
              · exact List.mem_cons_of_mem _ (ih (by simp))
              · exact List.mem_cons_self
        have h1 := hb _ (List.mem_cons_of_mem _ (this (y :: r) (by simp)))
        rw [if_neg (by omega)]
    · rw [maxI_eq (y :: r) M h fun z hz => hb z (List.mem_cons_of_mem _ hz)]
      have := hb x List.mem_cons_self
      split <;> omega
theorem max_natL {l : List Nat} {m : Nat} (h1 : m ∈ l) (h2 : ∀ x ∈ l, x ≤ m) : biD .max [natL l] = .ok (.int m) := by
  have e : intsOf (l.map natD) = some (l.map fun (k : Nat) => (k : Int)) := intsOf_natD l
  show (match intsOf (l.map natD) with | some (k :: ks) => R.ok (PyData.int (maxI (k :: ks))) | _ => .bad) = _
  rw [e]
  cases l with
  | nil => cases h1
  | cons k ks =>
    show R.ok (PyData.int (maxI ((k :: ks).map fun (k : Nat) => (k : Int)))) = _
    rw [maxI_eq _ (m : Int) (List.mem_map.mpr ⟨m, h1, rfl⟩) fun x hx => by
      obtain ⟨y, hy, rfl⟩ := List.mem_map.mp hx
      have := h2 y hy; omega]
/-- a property of a beginning of the numbers -/
theorem filter_begin {n m : Nat} (P : Nat → Bool) (h : ∀ c, c ≤ n → (P c = true ↔ c ≤ m)) (hm : m ≤ n) : (List.range (n + 1)).filter P = List.range (m + 1) := by
  have : (List.range (n + 1)).filter P = (List.range (n + 1)).filter fun c => decide (c < m + 1) := List.filter_congr fun c hc => by
    have := List.mem_range.mp hc
    rw [Bool.eq_iff_iff, h c (by omega), decide_eq_true_eq]; omega
  rw [this]
  clear this h
  induction n with
  | zero =>
    have : m = 0 := by omega
    subst this; rfl
  | succ n ih =>
    rw [List.range_succ, List.filter_append]
    by_cases q : m = n + 1
    · subst q
      have e : (List.range (n + 1)).filter (fun c => decide (c < n + 1 + 1)) = List.range (n + 1) := List.filter_eq_self.mpr fun c hc => by
        have := List.mem_range.mp hc; simp; omega
      rw [e]
      simp [List.range_succ]
    · rw [ih (by omega)]
      have : ¬ (n + 1 < m + 1) := by omega
      simp [this]
/-- the longest beginning, the longest ending -/
def IsBeg (p : Int) (row : List Int) (L m : Nat) : Prop := m ≤ row.length ∧ lenI p [row.take m] ≤ L ∧ (m = row.length ∨ L < lenI p [row.take (m + 1)])
def IsEnd (p : Int) (row : List Int) (L m : Nat) : Prop := m ≤ row.length ∧ lenI p [row.drop (row.length - m)] ≤ L ∧ (m = row.length ∨ L < lenI p [row.drop (row.length - (m + 1))])
theorem IsBeg.iff {p : Int} {row : List Int} {L m : Nat} (hp : prm p) (hf : fld p row) (h : IsBeg p row L m) {c : Nat} (hc : c ≤ row.length) : lenI p [row.take c] ≤ L ↔ c ≤ m := by
  obtain ⟨h1, h2, h3⟩ := h
  constructor
  · intro q
    refine Nat.le_of_not_lt fun hl => ?_
    rcases h3 with h3 | h3
    · omega
    · have := len_take_le hp (fld_take c hf) (m + 1)
      rw [List.take_take, Nat.min_eq_left (by omega)] at this
      omega
  · intro q
    have := len_take_le hp (fld_take m hf) c
    rw [List.take_take, Nat.min_eq_left q] at this
    omega
theorem IsEnd.iff {p : Int} {row : List Int} {L m : Nat} (hp : prm p) (hf : fld p row) (h : IsEnd p row L m) {c : Nat} (hc : c ≤ row.length) : lenI p [row.drop (row.length - c)] ≤ L ↔ c ≤ m := by
  obtain ⟨h1, h2, h3⟩ := h
  constructor
  · intro q
    refine Nat.le_of_not_lt fun hl => ?_
    rcases h3 with h3 | h3
    · omega
    · have := len_drop_le hp (fld_drop (row.length - c) hf) (c - (m + 1))
      rw [List.drop_drop, show row.length - c + (c - (m + 1)) = row.length - (m + 1) by omega] at this
      omega
  · intro q
    have := len_drop_le hp (fld_drop (row.length - m) hf) (m - c)
    rw [List.drop_drop, show row.length - m + (m - c) = row.length - c by omega] at this
    omega
theorem lenI_nil {p : Int} (hp : prm p) : lenI p [[]] = 0 := by have := lenI_le hp.pos (rows := [[]]) (n := 0) (by simp); omega
structure Sp_end (A : Int → List Int → Nat → Nat → Prop) (g : List D → R D) : Prop where
  bad : BadP 2 g
  row : ∀ p w v, prm p → ndT w = true → okN p w = false → g [.int p, w, v] = .ex "InvalidRow" none
  ok : ∀ p row (L : Nat), prm p → fld p row → row.length ≤ 24 → L ≤ 24 → ∃ v, g [.int p, tupI row, .int L] = .ok v ∧ ∃ m : Nat, v = .int m ∧ A p row L m
def Sp_longest_beginning := Sp_end IsBeg
def Sp_longest_ending := Sp_end IsEnd
theorem run_longest_beginning {g1 g2 g3 : List D → R D} (h1 : G.fn "check_row" = some g1) (s1 : Sp_check_row g1) (h2 : G.fn "check_length" = some g2) (s2 : Sp_check_length g2) (h3 : G.fn "least_length" = some g3) (s3 : Sp_least_length g3) (h4 : G.gl "MAX_ROW" = some (.int 24)) (hN : 2000 ≤ N) : Sp_longest_beginning (runD G N d_longest_beginning) := by
  constructor
  · intro v r hr hv hb
    match r, hr with
    | [a, b], _ => simp [runD, Rr.start, d_longest_beginning, ev_call _ _ h1, s1.1 v [a] rfl hv hb, Q.out]
  · intro p w v hp hw ho
    simp [runD, Rr.start, d_longest_beginning, ev_call _ _ h1, s1.2 p w hp hw, ho, Q.out]
  · intro p row L hp hf hl hL
    have inr : inR 0 24 (.int L) = true := by simp [inR]; omega
    refine run_rtE rfl ?_
    dsimp only [d_longest_beginning]
    refine seq_nxE (by simp [Rr.start, ev_call _ _ h1, s1.2 p (tupI row) hp (by simp), okN_of hf hl]; rfl) ?_
    refine seq_nxE (by simp [ev_call _ _ h2, s2 (.int L) 24 rfl, inr, h4]; rfl) ?_
    refine seq_nxE (by simp; rfl) ?_
    refine seq_whileE (A := Nat) (fun c s => s = [some (.int p), some (tupI row), some (.int L), some (.int c)] ∧ c ≤ row.length ∧ lenI p [row.take c] ≤ L) (fun c => decide (c < row.length) && decide (lenI p [row.take (c + 1)] ≤ L)) (fun c => row.length - c) 0 ⟨rfl, by omega, by rw [List.take_zero, lenI_nil hp]; omega⟩ (by omega) ?_ ?_ ?_
    · rintro c s ⟨rfl, hc, hle⟩
      have e := s3 p [row.take (c + 1)] (rowsL [row.take (c + 1)]) hp (.one (fld_take _ hf) (by simp; omega)) (.inl rfl)
      by_cases q : c < row.length
      · simp (disch := omega) [q, ev_call _ _ h3, slcI_hi, rowsL_one, e, show ((c : Int) + 1).toNat = c + 1 by omega]
      · simp [q]
    · rintro c s ⟨rfl, hc, hle⟩ hq
      rw [Bool.and_eq_true, decide_eq_true_eq, decide_eq_true_eq] at hq
      refine ⟨_, by simp; rfl, ?_⟩
      exact ⟨c + 1, ⟨by simp, by omega, hq.2⟩, by omega⟩
    · rintro c s ⟨rfl, hc, hle⟩ hq
      refine ⟨_, by simp; rfl, ?_⟩
      refine ⟨c, rfl, hc, hle, ?_⟩
      rw [Bool.and_eq_false_iff, decide_eq_false_iff_not, decide_eq_false_iff_not] at hq
      omega
theorem run_longest_ending {g1 g2 g3 : List D → R D} (h1 : G.fn "check_row" = some g1) (s1 : Sp_check_row g1) (h2 : G.fn "check_length" = some g2) (s2 : Sp_check_length g2) (h3 : G.fn "least_length" = some g3) (s3 : Sp_least_length g3) (h4 : G.gl "MAX_ROW" = some (.int 24)) (hN : 2000 ≤ N) : Sp_longest_ending (runD G N d_longest_ending) := by
  constructor
  · intro v r hr hv hb
    match r, hr with
    | [a, b], _ => simp [runD, Rr.start, d_longest_ending, ev_call _ _ h1, s1.1 v [a] rfl hv hb, Q.out]
  · intro p w v hp hw ho
    simp [runD, Rr.start, d_longest_ending, ev_call _ _ h1, s1.2 p w hp hw, ho, Q.out]
  · intro p row L hp hf hl hL
    have inr : inR 0 24 (.int L) = true := by simp [inR]; omega
    refine run_rtE rfl ?_
    dsimp only [d_longest_ending]
    refine seq_nxE (by simp [Rr.start, ev_call _ _ h1, s1.2 p (tupI row) hp (by simp), okN_of hf hl]; rfl) ?_
    refine seq_nxE (by simp [ev_call _ _ h2, s2 (.int L) 24 rfl, inr, h4]; rfl) ?_
    refine seq_nxE (by simp; rfl) ?_
    refine seq_whileE (A := Nat) (fun c s => s = [some (.int p), some (tupI row), some (.int L), some (.int c)] ∧ c ≤ row.length ∧ lenI p [row.drop (row.length - c)] ≤ L) (fun c => decide (c < row.length) && decide (lenI p [row.drop (row.length - (c + 1))] ≤ L)) (fun c => row.length - c) 0 ⟨rfl, by omega, by rw [Nat.sub_zero, List.drop_length, lenI_nil hp]; omega⟩ (by omega) ?_ ?_ ?_
    · rintro c s ⟨rfl, hc, hle⟩
      have e := s3 p [row.drop (row.length - (c + 1))] (rowsL [row.drop (row.length - (c + 1))]) hp (.one (fld_drop _ hf) (by simp; omega)) (.inl rfl)
      by_cases q : c < row.length
      · simp (disch := omega) only [ev_and, ev_cmp, ev_call _ _ h3, ev_bi, ev_cons, ev_nil, ev_lst, ev_slo, ev_bin, ev_cst, ev_var, getV_zero, getV_succ, R.bind_ok, len_tupI, op_subi, intD_int, slcI_lo, show ((row.length : Int) - c - 1).toNat = row.length - (c + 1) by omega, rowsL_one, e]
        simp [q]
      · simp [q]
    · rintro c s ⟨rfl, hc, hle⟩ hq
      rw [Bool.and_eq_true, decide_eq_true_eq, decide_eq_true_eq] at hq
      refine ⟨_, by simp; rfl, ?_⟩
      exact ⟨c + 1, ⟨by simp, by omega, hq.2⟩, by omega⟩
    · rintro c s ⟨rfl, hc, hle⟩ hq
      refine ⟨_, by simp; rfl, ?_⟩
      refine ⟨c, rfl, hc, hle, ?_⟩
      rw [Bool.and_eq_false_iff, decide_eq_false_iff_not, decide_eq_false_iff_not] at hq
      omega
theorem cp_net0 (a : List Int) : cpD .ne (tupI a) (.tuple []) = .ok (!a.isEmpty) := by
  rw [show PyData.tuple [] = tupI [] from rfl, cp_net]
  cases a <;> rfl
theorem lrg_eq (j : Int) (h1 : j ≤ 100000) (h0 : 0 ≤ j) : biD .listRange [.int j] = .ok (natL (List.range j.toNat)) := by
  show (if _ then _ else _) = _
  rw [if_pos ⟨by omega, by omega⟩]
  unfold natL lstI rangeI
  rw [List.map_map]
  congr 2
  exact List.map_congr_left fun k _ => by simp [natD]
end Rr

set_option linter.all false
set_option Elab.async false
set_option maxRecDepth 100000
set_option maxHeartbeats 2000000
/-! Contracts: common rules. -/
namespace Rr
open PySem
variable {N : Nat} {G : Env}
/-- objects that are no tuple of one to three rows -/
def RowsBad (p : Int) (w : D) : Prop := nd w = true ∧ ∀ l, w = .tuple l → (∀ x ∈ l, ndT x = true) ∧ (l.length = 0 ∨ 3 < l.length ∨ ∃ x ∈ l, okN p x = false)
structure Sp_check_rows (g : List D → R D) : Prop where
  bad : BadP 1 g
  no : ∀ p w, prm p → RowsBad p w → g [.int p, w] = .ex "InvalidRow" none
  ok : ∀ p rows, prm p → (∀ r ∈ rows, fld p r ∧ r.length ≤ 24) → 1 ≤ rows.length → rows.length ≤ 3 → g [.int p, rowsT rows] = .ok .none
theorem run_check_rows {g1 g2 : List D → R D} (h1 : G.fn "check_prime" = some g1) (s1 : Sp_check_prime g1) (h2 : G.fn "are_numbers" = some g2) (s2 : Sp_are_numbers g2) (h3 : G.gl "MAX_ROWS" = some (.int 3)) : Sp_check_rows (runD G N d_check_rows) := by
  constructor
  · intro v r hr hv hb
    match r, hr with
    | [a], _ => simp [runD, Rr.start, d_check_rows, ev_call _ _ h1, s1 v hv, hb, Q.out]
  · intro p w hp hw
    refine run_ex rfl ?_
    dsimp only [d_check_rows]
    refine seq_nx (by simp [Rr.start, ev_call _ _ h1, s1 (.int p) rfl, hp.isPr]; rfl) ?_
    cases w with
    | tuple l =>
      obtain ⟨hnd, hc⟩ := hw.2 l rfl
      by_cases hlen : 1 ≤ l.length ∧ l.length ≤ 3
      · have q1 : (1 : Int) ≤ l.length := by omega
        have q2 : (l.length : Int) ≤ 3 := by omega
        refine seq_nx (by simp [isiD, h3, q1, q2]; rfl) ?_
        have hex : ∃ x ∈ l, okN p x = false := by
          rcases hc with h | h | h
          · omega
          · omega
          · exact h
        refine seq_forR (fun d : D => d) l (by simp) (fun _ s => ∃ x, s = [some (.int p), some (.tuple l), x]) (fun k => okN p (l.getD k .none)) (.ex "InvalidRow" none) (fun _ => rfl) ⟨none, rfl⟩ ?_ ?_ ?_
        · rintro k hk s ⟨x, rfl⟩
          have hm := List.getElem_mem hk
          have eg : l.getD k .none = l[k] := by simp [hk]
          simp only [eg]
          cases ho : okN p l[k] with
          | true => exact ⟨_, by simp [ev_call _ _ h2, s2 p l[k] (hnd _ hm), ho]; rfl, _, rfl⟩
          | false => simp [ev_call _ _ h2, s2 p l[k] (hnd _ hm), ho]
        · rintro s' ⟨x, rfl⟩ hall
          obtain ⟨x, hx, hox⟩ := hex
          obtain ⟨i, hi, rfl⟩ := List.mem_iff_getElem.mp hx
          have := List.all_eq_true.mp hall i (List.mem_range.mpr hi)
          simp [hi, hox] at this
        · intro _; rfl
      · refine seq_rr ?_ (fun _ => rfl)
        by_cases q1 : (1 : Int) ≤ l.length
        · have q2 : ¬ (l.length : Int) ≤ 3 := by omega
          simp [isiD, h3, q1, q2]
        · simp [isiD, h3, q1]
    | dict l => cases hw.1
    | _ =>
      refine seq_rr ?_ (fun _ => rfl)
      simp [isiD]
  · intro p rows hp hr hl1 hl2
    refine run_nx (s' := [some (.int p), some (rowsT rows), some (tupI (rows.getD (rows.length - 1) []))]) rfl ?_
    dsimp only [d_check_rows]
    refine seq_nx (by simp [Rr.start, ev_call _ _ h1, s1 (.int p) rfl, hp.isPr]; rfl) ?_
    have q1 : (1 : Int) ≤ rows.length := by omega
    have q2 : (rows.length : Int) ≤ 3 := by omega
    have e1 : isiD (rowsT rows) .tuple = .ok true := rfl
    have e2 : biD .len [rowsT rows] = .ok (.int rows.length) := by simp [rowsT]
    refine seq_nx (by simp [e1, e2, h3, q1, q2]; rfl) ?_
    refine seq_for tupI rows (by simp) (fun k s => s = [some (.int p), some (rowsT rows), if k = 0 then none else some (tupI (rows.getD (k - 1) []))]) rfl ?_ ?_
    · rintro k hk s rfl
      have hm := hr _ (List.getElem_mem hk)
      refine ⟨_, by simp [ev_call _ _ h2, s2 p (tupI rows[k]) (by simp), okN_of hm.1 hm.2]; rfl, ?_⟩
      simp [hk]
    · rintro s' rfl
      rw [if_neg (by omega)]
      simp
structure Sp_common_rule (g : List D → R D) : Prop where
  bad : BadP 1 g
  no : ∀ p w, prm p → RowsBad p w → g [.int p, w] = .ex "InvalidRow" none
  ok : ∀ p rows, prm p → (∀ r ∈ rows, fld p r ∧ r.length ≤ 24) → 1 ≤ rows.length → rows.length ≤ 3 → ∃ v, g [.int p, rowsT rows] = .ok v ∧ ∃ x, v = tupI x ∧ ShortR p rows x
theorem run_common_rule {g1 g2 g3 : List D → R D} (h1 : G.fn "check_rows" = some g1) (s1 : Sp_check_rows g1) (h2 : G.fn "attempt" = some g2) (s2 : Sp_attempt g2) (h3 : G.fn "least_length" = some g3) (s3 : Sp_least_length g3) : Sp_common_rule (runD G N d_common_rule) := by
  constructor
  · intro v r hr hv hb
    match r, hr with
    | [a], _ => simp [runD, Rr.start, d_common_rule, ev_call _ _ h1, s1.bad v [a] rfl hv hb, Q.out]
  · intro p w hp hw
    simp [runD, Rr.start, d_common_rule, ev_call _ _ h1, s1.no p w hp hw, Q.out]
  · intro p rows hp hr hl1 hl2
    have hok : RowsOk p rows := ⟨fun r h => ⟨(hr r h).1, by have := (hr r h).2; omega⟩, by omega⟩
    have e3 := s3 p rows (rowsT rows) hp hok (.inr rfl)
    obtain ⟨x, free, e2, hx⟩ := attempt_short s2 (w := rowsT rows) hp hok (.inr rfl)
    refine ⟨tupI x, ?_, x, rfl, hx⟩
    simp [runD, Rr.start, d_common_rule, ev_call _ _ h1, ev_call _ _ h2, ev_call _ _ h3, s1.ok p rows hp hr hl1 hl2, e2, e3, sub_tuple, nthD, ixI, Q.out]
def Sp__law_common (g : List D → R D) : Prop := ∀ p w, prm p → RowsBad p w → g [.int p, w] = .ok (.str "row")
theorem run__law_common {g1 : List D → R D} (h1 : G.fn "common_rule" = some g1) (s1 : Sp_common_rule g1) (hE : clsB G ["InvalidRow", "InvalidPrime"] = true) : Sp__law_common (runD G N d__law_common) := by
  simp [clsB] at hE
  intro p w hp hw
  simp [runD, start, d__law_common, es_trh, ev_call _ _ h1, s1.no p w hp hw, hdQ, hE, Q.out]
end Rr

set_option linter.all false
set_option Elab.async false
set_option maxRecDepth 100000
set_option maxHeartbeats 2000000
/-! Sums up to each place; every k-th number. -/
namespace Rr
open PySem
variable {N : Nat} {G : Env}
theorem ev_lrg (s : S) (a : Ex) : evE G (.lrg a) s = (evE G a s).bind fun x => biD .listRange [x] := by rw [evE]
theorem ev_stp (s : S) (a k : Ex) : evE G (.stp a k) s = (evE G a s).bind fun x => (evE G k s).bind fun y => (intD y).bind fun i => stpD x i := by rw [evE]
def sumsI (p : Int) (row : List Int) (m : Nat) : List Int := (List.range m).map fun n => (row.take (n + 1)).sum % p
def everyI (k : Nat) (row : List Int) : List Int := (List.range ((row.length + k - 1) / k)).map fun j => nthI row (j * k)
theorem sum_tupI (l : List Int) : biD .sum [tupI l] = .ok (.int l.sum) := by
  show (match intsOf (l.map .int) with | some ks => R.ok (PyData.int ks.sum) | none => .bad) = _
  rw [intsOf_map]
def Sp_partial_sums (g : List D → R D) : Prop := ∀ p row, prm p → fld p row → row.length ≤ 24 → g [.int p, tupI row] = .ok (tupI (sumsI p row row.length))
theorem run_partial_sums {g1 : List D → R D} (h1 : G.fn "check_row" = some g1) (s1 : Sp_check_row g1) : Sp_partial_sums (runD G N d_partial_sums) := by
  intro p row hp hf hl
  have hpp := hp.pos
  refine run_rt rfl ?_
  dsimp only [d_partial_sums]
  refine seq_nx (by simp [Rr.start, ev_call _ _ h1, s1.2 p (tupI row) hp (by simp), okN_of hf hl]; rfl) ?_
  rw [ess_cons, es_ret, ev_bi, ev_cons]
  rw [lc_map natD PyData.int (List.range row.length) (fun n => (row.take (n + 1)).sum % p) (by simp (disch := omega) [rng0]) (by simp; omega) (fun n hn => by
    simp (disch := omega) [natD, slcI_hi, sum_tupI, op_modi, show ((n : Int) + 1).toNat = n + 1 by omega])]
  rw [lst_lit]
  simp [sumsI]
theorem every_lt {n k j : Nat} (hk : 1 ≤ k) (h : j < (n + k - 1) / k) : j * k < n := by
  have h1 : j + 1 ≤ (n + k - 1) / k := h
  have h2 := (Nat.le_div_iff_mul_le (by omega)).mp h1
  rw [Nat.add_mul, Nat.one_mul] at h2
  omega
theorem stp_eq {k : Nat} (hk : 1 ≤ k) (hk2 : k ≤ 1000) (row : List Int) : stpD (tupI row) (k : Int) = .ok (tupI (everyI k row)) := by
  show (if _ then _ else _) = _
  rw [if_pos ⟨by omega, by omega⟩]
  unfold every everyI tupI
  rw [Int.toNat_natCast, List.length_map, List.map_map]
  congr 2
  have : ∀ l : List Nat, (∀ j ∈ l, j * k < row.length) → l.filterMap (fun j => (row.map PyData.int)[j * k]?) = l.map (PyData.int ∘ fun j => nthI row (j * k)) := by
    intro l
    induction l with
    | nil => intro _; rfl
    | cons a r ih =>
      intro h
      have ha := h a List.mem_cons_self
      rw [List.filterMap_cons, List.getElem?_map, List.getElem?_eq_getElem ha, List.map_cons, ih fun j hj => h j (List.mem_cons_of_mem _ hj)]
      simp [nthI_get ha]
  exact this _ fun j hj => every_lt hk (List.mem_range.mp hj)
structure Sp_every (g : List D → R D) : Prop where
  ok : ∀ p row (k : Nat), prm p → fld p row → row.length ≤ 24 → 1 ≤ k → k ≤ 24 → g [.int p, tupI row, .int k] = .ok (tupI (everyI k row))
  no : ∀ p row w, prm p → fld p row → row.length ≤ 24 → nd w = true → inR 1 24 w = false → g [.int p, tupI row, w] = .ex "InvalidLength" none
theorem run_every {g1 g2 : List D → R D} (h1 : G.fn "check_row" = some g1) (s1 : Sp_check_row g1) (h2 : G.fn "in_range" = some g2) (s2 : Sp_in_range g2) : Sp_every (runD G N d_every) := by
  constructor
  · intro p row k hp hf hl hk hk2
    have inr : inR 1 24 (.int k) = true := by simp [inR]; omega
    have e := s2 (.int k) 1 24 rfl
    rw [inr] at e
    have e2 := stp_eq hk (by omega) row
    simp [runD, Rr.start, d_every, ev_call _ _ h1, ev_call _ _ h2, s1.2 p (tupI row) hp (by simp), okN_of hf hl, e, ev_stp, e2, Q.out]
  · intro p row w hp hf hl hw ho
    have e := s2 w 1 24 hw
    rw [ho] at e
    simp [runD, Rr.start, d_every, ev_call _ _ h1, ev_call _ _ h2, s1.2 p (tupI row) hp (by simp), okN_of hf hl, e, Q.out]
structure Sp__law_combined (g : List D → R D) : Prop where
  row : ∀ m p a b, m = 0 ∨ m = 1 → prm p → fld p a → a.length ≤ 24 → fld p b → b.length ≤ 24 → a.length ≠ b.length → g [.int m, .int p, tupI a, tupI b] = .ok (.str "row")
  len : ∀ p row w, prm p → fld p row → row.length ≤ 24 → nd w = true → inR 1 24 w = false → g [.int 2, .int p, tupI row, w] = .ok (.str "length")
theorem run__law_combined {g1 g2 g3 : List D → R D} (h1 : G.fn "add" = some g1) (s1 : Sp_add g1) (h2 : G.fn "multiply" = some g2) (s2 : Sp_multiply g2) (h3 : G.fn "every" = some g3) (s3 : Sp_every g3) (hE : clsB G ["InvalidRow", "InvalidLength"] = true) : Sp__law_combined (runD G N d__law_combined) := by
  simp [clsB] at hE
  constructor
  · intro m p a b hm hp ha la hb lb hne
    rcases hm with rfl | rfl
    · simp [runD, start, d__law_combined, es_trh, ev_call _ _ h1, s1.len p a b hp ha la hb lb hne, hdQ, hE, Q.out]
    · simp [runD, start, d__law_combined, es_trh, ev_call _ _ h2, s2.len p b a hp hb lb ha la (fun e => hne e.symm), hdQ, hE, Q.out]
  · intro p row w hp hf hl hw ho
    simp [runD, start, d__law_combined, es_trh, ev_call _ _ h3, s3.no p row w hp hf hl hw ho, hdQ, hE, Q.out]
/-! ### their lengths -/
theorem φ_sum {p : Int} {K : Type} [Lean.Grind.CommRing K] (H : Hm p K) : ∀ (l : List Int) (n : Nat), n ≤ l.length → H.φ (l.take n).sum = sg n (sq H l)
  | l, 0, _ => by rw [List.take_zero]; exact H.zero
  | l, n + 1, h => by
    rw [List.take_succ_eq_append_getElem (by omega), List.sum_append, H.add, φ_sum H l n (by omega)]
    show _ = sg n (sq H l) + sq H l n
    congr 1
    unfold sq
    rw [nthI_get (by omega)]
    simp
theorem len_sums {p : Int} {row : List Int} (hp : prm p) (hf : fld p row) : lenI p [sumsI p row row.length] ≤ lenI p [row] + 1 := by
  obtain ⟨K, i1, i2, ⟨H⟩⟩ := field_of hp
  have q := lenI_isL H hp.pos (fld_mod hp.pos (fun n => (row.take (n + 1)).sum) (List.range row.length))
  rw [List.length_map, List.length_range] at q
  refine q.2 _ ((lenI_isL H hp.pos hf).1.sums.congr fun n hn => ?_)
  unfold sq
  rw [nthI_map_range _ hn, H.mod, φ_sum H row (n + 1) (by omega)]
  rfl
theorem every_fld {p : Int} {row : List Int} {k : Nat} (hk : 1 ≤ k) (hf : fld p row) : fld p (everyI k row) := fun x hx => by
  obtain ⟨j, hj, rfl⟩ := List.mem_map.mp hx
  exact hf.nth (every_lt hk (List.mem_range.mp hj))
theorem every_len {k : Nat} (hk : 1 ≤ k) (row : List Int) : (everyI k row).length ≤ row.length := by
  unfold everyI
  rw [List.length_map, List.length_range]
  rcases Nat.eq_zero_or_pos ((row.length + k - 1) / k) with h | h
  · omega
  · have := every_lt (n := row.length) (k := k) (j := (row.length + k - 1) / k - 1) hk (by omega)
    have h2 : (row.length + k - 1) / k - 1 ≤ ((row.length + k - 1) / k - 1) * k := Nat.le_mul_of_pos_right _ hk
    omega
theorem len_every {p : Int} {row : List Int} {k : Nat} (hp : prm p) (hk : 1 ≤ k) (hf : fld p row) : lenI p [everyI k row] ≤ lenI p [row] := by
  obtain ⟨K, i1, i2, ⟨H⟩⟩ := field_of hp
  have q := lenI_isL H hp.pos (every_fld hk hf)
  unfold everyI at q
  rw [List.length_map, List.length_range] at q
  refine q.2 _ (((lenI_isL H hp.pos hf).1.every (k := k) (M := (row.length + k - 1) / k) fun n hn => by rw [Nat.mul_comm]; exact every_lt hk hn).congr fun n hn => ?_)
  unfold sq
  rw [nthI_map_range _ hn, Nat.mul_comm]
/-- the places that are multiples -/
theorem filter_mult {k : Nat} (hk : 1 ≤ k) : ∀ n, (List.range n).filter (fun i => decide (i % k = 0)) = (List.range ((n + k - 1) / k)).map fun j => j * k
  | 0 => by
    rw [Nat.div_eq_of_lt (by omega)]; rfl
  | n + 1 => by
    rw [List.range_succ, List.filter_append, filter_mult hk n]
    by_cases h : n % k = 0
    · have e : (n + 1 + k - 1) / k = (n + k - 1) / k + 1 := by
        obtain ⟨m, rfl⟩ : ∃ m, n = k * m := ⟨n / k, by rw [Nat.mul_div_cancel' (Nat.dvd_of_mod_eq_zero h)]⟩
        rw [show k * m + 1 + k - 1 = k * m + k by omega, Nat.add_div_right _ (by omega), Nat.mul_div_cancel_left _ (by omega)]
        rw [show k * m + k - 1 = k * m + (k - 1) by omega, Nat.mul_add_div (by omega), Nat.div_eq_of_lt (by omega)]
      rw [e, List.range_succ, List.map_append]
      have e2 : (n + k - 1) / k * k = n := by
        obtain ⟨m, rfl⟩ : ∃ m, n = k * m := ⟨n / k, by rw [Nat.mul_div_cancel' (Nat.dvd_of_mod_eq_zero h)]⟩
        rw [show k * m + k - 1 = k * m + (k - 1) by omega, Nat.mul_add_div (by omega), Nat.div_eq_of_lt (by omega), Nat.add_zero, Nat.mul_comm]
      simp [h, e2]
    · have e : (n + 1 + k - 1) / k = (n + k - 1) / k := by
        have h1 := Nat.div_add_mod n k
        have h2 := Nat.mod_lt n (show 0 < k by omega)
        generalize n / k = q at h1
        generalize n % k = r at h1 h2 h
        subst h1
        rw [show k * q + r + 1 + k - 1 = k * (q + 1) + r by rw [Nat.mul_add]; omega, Nat.mul_add_div (by omega), Nat.div_eq_of_lt h2]
        rw [show k * q + r + k - 1 = k * (q + 1) + (r - 1) by rw [Nat.mul_add]; omega, Nat.mul_add_div (by omega), Nat.div_eq_of_lt (by omega)]
      rw [e]
      simp [h]
theorem every_filter {k : Nat} (hk : 1 ≤ k) (row : List Int) : everyI k row = ((List.range row.length).filter fun i => decide (i % k = 0)).map (nthI row) := by
  rw [filter_mult hk, List.map_map]; rfl
end Rr

set_option linter.all false
set_option Elab.async false
set_option maxRecDepth 100000
set_option maxHeartbeats 2000000
/-! Dicts whose keys are rows; sorted rows. -/
namespace Rr
open PySem
def dicT (l : List (List Int × D)) : D := .dict (l.map fun e => (tupI e.1, e.2))
/-- what stands at a key -/
def atK (l : List (List Int × D)) (x : List Int) : Option D := (l.find? fun e => decide (e.1 = x)).map (·.2)
theorem keyIs_t (k k' : List Int) : keyIs k (tupI k') = decide (k' = k) := by
  unfold keyIs tupI
  dsimp only
  rw [intsOf_map]
  simp
theorem dGet_t (x : List Int) : ∀ l : List (List Int × D), dGet x (l.map fun e => (tupI e.1, e.2)) = atK l x
  | [] => rfl
  | e :: r => by
    rw [List.map_cons]
    unfold dGet atK
    rw [keyIs_t, List.find?_cons]
    by_cases q : e.1 = x
    · simp [q]
    · simp [q]
      exact dGet_t x r
theorem tupsOf_map : ∀ l : List (List Int), tupsOf (l.map tupI) = some l
  | [] => rfl
  | k :: r => by
    rw [List.map_cons]
    unfold tupI
    simp only [tupsOf, intsOf_map]
    have := tupsOf_map r
    unfold tupI at this
    rw [this]
theorem tupsOf_t (l : List (List Int × D)) : tupsOf ((l.map fun e => (tupI e.1, e.2)).map (·.1)) = some (l.map (·.1)) := by
  rw [List.map_map, ← tupsOf_map (l.map (·.1)), List.map_map]
  rfl
theorem atK_some {l : List (List Int × D)} {x : List Int} : (atK l x).isSome = decide (x ∈ l.map (·.1)) := by
  unfold atK
  rw [Option.isSome_map, Bool.eq_iff_iff, decide_eq_true_eq, List.find?_isSome]
  simp only [decide_eq_true_eq, List.mem_map]
theorem in_dicT (x : List Int) (l : List (List Int × D)) : inD (tupI x) (dicT l) = .ok (decide (x ∈ l.map (·.1))) := by
  have e : inD (tupI x) (dicT l) = match intsOf (x.map .int), tupsOf ((l.map fun e => (tupI e.1, e.2)).map (·.1)) with
      | some k, some _ => .ok (dGet k (l.map fun e => (tupI e.1, e.2))).isSome
      | _, _ => .bad := by
    unfold dicT
    cases l with
    | nil => rfl
    | cons a r => cases r <;> rfl
  rw [e, intsOf_map, tupsOf_t]
  dsimp only
  rw [dGet_t, atK_some]
theorem sub_dicT (x : List Int) (l : List (List Int × D)) : subD (dicT l) (tupI x) = R.ofOpt (atK l x) := by
  have e : subD (dicT l) (tupI x) = match intsOf (x.map .int) with
      | some k => R.ofOpt (dGet k (l.map fun e => (tupI e.1, e.2)))
      | none => .bad := by
    unfold dicT
    cases l with
    | nil => rfl
    | cons a r => cases r <;> rfl
  rw [e, intsOf_map]
  dsimp only
  rw [dGet_t]
theorem len_dicT (l : List (List Int × D)) : biD .len [dicT l] = .ok (.int l.length) := by
  unfold dicT
  cases l with
  | nil => rfl
  | cons a r =>
    cases r with
    | nil => rfl
    | cons b r => simp [biD]
def putL (l : List (List Int × D)) (x : List Int) (v : D) : List (List Int × D) := if x ∈ l.map (·.1) then l.map (fun e => if e.1 = x then (e.1, v) else e) else l ++ [(x, v)]
theorem put_dicT (x : List Int) (l : List (List Int × D)) (v : D) (hv : flat v = true) (hl : l.length ≤ LIM) : putD (dicT l) (tupI x) v = .ok (dicT (putL l x v)) := by
  have e : putD (dicT l) (tupI x) v = match intsOf (x.map .int), flat v with
      | some k, true => if (l.map fun e => (tupI e.1, e.2)).length ≤ LIM then .ok (.dict (dPut k v (l.map fun e => (tupI e.1, e.2)))) else .bad
      | _, _ => .bad := by
    unfold dicT
    cases l with
    | nil => rfl
    | cons a r => cases r <;> rfl
  rw [e, intsOf_map, hv]
  dsimp only
  rw [if_pos (by rw [List.length_map]; exact hl)]
  unfold dPut putL dicT
  rw [dGet_t, atK_some]
  by_cases q : x ∈ l.map (·.1)
  · rw [if_pos (decide_eq_true q), if_pos q, List.map_map, List.map_map]
    congr 2
    apply List.map_congr_left
    intro e _
    simp only [Function.comp, keyIs_t, decide_eq_true_eq]
    split <;> rfl
  · rw [if_neg (by simpa using q), if_neg q, List.map_append]
    rfl
theorem putL_new {l : List (List Int × D)} {x : List Int} {v : D} (h : x ∉ l.map (·.1)) : putL l x v = l ++ [(x, v)] := if_neg h
theorem keys_dicT (l : List (List Int × D)) : keysD (dicT l) = .ok ((l.map (·.1)).map tupI) := by
  unfold keysD dicT
  dsimp only
  rw [tupsOf_t]
  dsimp only
  rw [List.map_map, List.map_map]
  rfl
/-- may be sorted -/
def srtOk (ks : List (List Int)) : Prop := ks.length ≤ LIM ∧ (ks.length < 2 ∨ ks.all (fun k => !k.isEmpty) = true)
theorem srtOk_len {ks : List (List Int)} {n : Nat} (h1 : ks.length ≤ LIM) (h : ∀ k ∈ ks, k.length = n) (h0 : n ≠ 0 ∨ ks.length < 2) : srtOk ks := by
  refine ⟨h1, ?_⟩
  rcases h0 with h0 | h0
  · right
    rw [List.all_eq_true]
    intro k hk
    have := h k hk
    cases k with
    | nil => exact absurd this.symm h0
    | cons a r => rfl
  · exact .inl h0
theorem sorted_rows {ks : List (List Int)} (h : srtOk ks) : biD .sorted [rowsL ks] = .ok (rowsL (sortT ks)) := by
  have e : biD .sorted [rowsL ks] = match tupsOf (ks.map tupI) with
    | some ks => if ks.length ≤ LIM ∧ (ks.length < 2 ∨ ks.all (fun k => !k.isEmpty) = true) then .ok (.list ((sortT ks).map tupI)) else .bad
    | none => .bad := rfl
  rw [e, tupsOf_map]
  exact if_pos h
theorem sorted_dicT {l : List (List Int × D)} (h : srtOk (l.map (·.1))) : biD .sorted [dicT l] = .ok (rowsL (sortT (l.map (·.1)))) := by
  have e : biD .sorted [dicT l] = match tupsOf ((l.map fun e => (tupI e.1, e.2)).map (·.1)) with
    | some ks => if ks.length ≤ LIM ∧ (ks.length < 2 ∨ ks.all (fun k => !k.isEmpty) = true) then .ok (.list ((sortT ks).map tupI)) else .bad
    | none => .bad := rfl
  rw [e, tupsOf_t]
  exact if_pos h
theorem sub_lit (l : List D) (i : Int) : subD (.list l) (.int i) = nthD l i := Eq.trans rfl rfl
theorem eqv_tups (a b : List Int) : PyData.eqv (tupI a) (tupI b) = decide (a = b) := by
  unfold tupI
  simp only [PyData.eqv, eqv_ints]
theorem shp_rowsL (l : List (List Int)) : shp 8 (rowsL l) = true := by
  show (l.map tupI).all (shp 7) = true
  rw [List.all_eq_true]
  intro x hx
  obtain ⟨k, _, rfl⟩ := List.mem_map.mp hx
  show (k.map PyData.int).all (shp 6) = true
  exact shp_ints 6 k
theorem shp_tupI (x : List Int) : shp 8 (tupI x) = true := shp_ints 7 x
theorem in_rowsL (x : List Int) (l : List (List Int)) : inD (tupI x) (rowsL l) = .ok (decide (x ∈ l)) := by
  show (if shp 8 (tupI x) && shp 8 (rowsL l) then R.ok ((l.map tupI).any fun y => PyData.eqv y (tupI x)) else .bad) = _
  rw [if_pos (by rw [shp_tupI, shp_rowsL]; rfl)]
  congr 1
  rw [Bool.eq_iff_iff, List.any_eq_true, decide_eq_true_eq]
  constructor
  · rintro ⟨y, hy, e⟩
    obtain ⟨k, hk, rfl⟩ := List.mem_map.mp hy
    rw [eqv_tups, decide_eq_true_eq] at e
    rw [← e]; exact hk
  · intro h
    exact ⟨tupI x, List.mem_map.mpr ⟨x, h, rfl⟩, by rw [eqv_tups]; simp⟩
theorem idxOf_rows {x : List Int} : ∀ {l : List (List Int)} {i : Nat}, l[i]? = some x → (∀ j, j < i → l[j]? ≠ some x) → idxOf (tupI x) (l.map tupI) = some i
  | [], i, h, _ => by simp at h
  | y :: r, 0, h, _ => by
    have e : y = x := by simpa using h
    rw [List.map_cons]
    unfold idxOf
    rw [eqv_tups, e]
    simp
  | y :: r, i + 1, h, hn => by
    have e : y ≠ x := fun q => hn 0 (by omega) (by simp [q])
    rw [List.map_cons]
    unfold idxOf
    rw [eqv_tups]
    simp only [e, decide_false, Bool.false_eq_true, if_false]
    rw [idxOf_rows (l := r) (i := i) (by simpa using h) fun j hj => by have := hn (j + 1) (by omega); simpa using this]
    rfl
theorem index_rowsL {x : List Int} {l : List (List Int)} {i : Nat} (h : l[i]? = some x) (hn : ∀ j, j < i → l[j]? ≠ some x) : mtD .index (rowsL l) (tupI x) = .ok (.int i) := by
  show (if shp 8 (tupI x) && shp 8 (rowsL l) then (R.ofOpt (idxOf (tupI x) (l.map tupI))).bind fun n => R.ok (PyData.int n) else .bad) = _
  rw [if_pos (by rw [shp_tupI, shp_rowsL]; rfl), idxOf_rows h hn]
  rfl
/-- no more than all -/
theorem nodup_le {a : Type} [DecidableEq a] : ∀ {l m : List a}, l.Nodup → (∀ x ∈ l, x ∈ m) → l.length ≤ m.length
  | [], m, _, _ => Nat.zero_le _
  | x :: l, m, h, hs => by
    obtain ⟨h1, h2⟩ := List.nodup_cons.mp h
    have hx : x ∈ m := hs x List.mem_cons_self
    have := nodup_le (m := m.erase x) h2 fun y hy => (List.mem_erase_of_ne (fun e => h1 (by rw [← e]; exact hy))).mpr (hs y (List.mem_cons_of_mem _ hy))
    rw [List.length_erase_of_mem hx] at this
    have hp : 0 < m.length := List.length_pos_of_mem hx
    simp only [List.length_cons]
    omega
end Rr

set_option linter.all false
set_option Elab.async false
set_option maxRecDepth 100000
set_option maxHeartbeats 2000000
/-! Lists in order; how many rules there are. -/
namespace Rr
open PySem
/-! ### the order of rows -/
theorem ltL_irr : ∀ a : List Int, ltL a a = false
  | [] => rfl
  | x :: a => by unfold ltL; rw [if_pos rfl]; exact ltL_irr a
theorem ltL_asm : ∀ {a b : List Int}, ltL a b = true → ltL b a = false
  | [], [], h => by simp [ltL] at h
  | [], _ :: _, _ => rfl
  | _ :: _, [], h => by simp [ltL] at h
  | a :: x, b :: y, h => by
    unfold ltL at h ⊢
    by_cases e : a = b
    · rw [if_pos e] at h
      rw [if_pos e.symm]
      exact ltL_asm h
    · rw [if_neg e] at h
      rw [if_neg (fun z => e z.symm)]
      have := of_decide_eq_true h
      exact decide_eq_false (by omega)
theorem ltL_tri : ∀ {a b : List Int}, ltL a b = false → ltL b a = false → a = b
  | [], [], _, _ => rfl
  | [], _ :: _, h, _ => by simp [ltL] at h
  | _ :: _, [], _, h => by simp [ltL] at h
  | a :: x, b :: y, h1, h2 => by
    unfold ltL at h1 h2
    by_cases e : a = b
    · rw [if_pos e] at h1
      rw [if_pos e.symm] at h2
      rw [e, ltL_tri h1 h2]
    · rw [if_neg e] at h1
      rw [if_neg (fun z => e z.symm)] at h2
      have k1 := of_decide_eq_false h1
      have k2 := of_decide_eq_false h2
      omega
theorem ltL_trn : ∀ {a b c : List Int}, ltL b a = false → ltL c b = false → ltL c a = false
  | [], [], [], _, _ => rfl
  | [], [], _ :: _, _, h => rfl
  | [], _ :: _, [], _, h => by simp [ltL] at h
  | [], _ :: _, _ :: _, _, _ => rfl
  | _ :: _, [], _, h, _ => by simp [ltL] at h
  | _ :: _, _ :: _, [], _, h => by simp [ltL] at h
  | a :: x, b :: y, c :: z, h1, h2 => by
    unfold ltL at h1 h2 ⊢
    by_cases e : b = a
    · rw [if_pos e] at h1
      by_cases f : c = b
      · rw [if_pos f] at h2
        rw [if_pos (f.trans e)]
        exact ltL_trn h1 h2
      · rw [if_neg f] at h2
        rw [if_neg (fun q => f (q.trans e.symm))]
        have := of_decide_eq_false h2
        exact decide_eq_false (by omega)
    · rw [if_neg e] at h1
      have k1 := of_decide_eq_false h1
      by_cases f : c = b
      · rw [if_neg (fun q => e (f.symm.trans q))]
        exact decide_eq_false (by omega)
      · rw [if_neg f] at h2
        have k2 := of_decide_eq_false h2
        rw [if_neg (by omega)]
        exact decide_eq_false (by omega)
theorem asc_uniq : ∀ {l m : List (List Int)}, l.Perm m → l.Pairwise (fun x y => ltL y x = false) → m.Pairwise (fun x y => ltL y x = false) → l = m
  | [], m, p, _, _ => (List.Perm.eq_nil p.symm).symm
  | x :: l, [], p, _, _ => absurd p.length_eq (by simp)
  | x :: l, y :: m, p, hl, hm => by
    obtain ⟨h1, h2⟩ := List.pairwise_cons.mp hl
    obtain ⟨h3, h4⟩ := List.pairwise_cons.mp hm
    have e1 : ltL x y = false := by
      rcases List.mem_cons.mp (p.mem_iff.mp (List.mem_cons_self (a := x) (l := l))) with e | h
      · rw [e]; exact ltL_irr y
      · exact h3 x h
    have e2 : ltL y x = false := by
      rcases List.mem_cons.mp (p.mem_iff.mpr (List.mem_cons_self (a := y) (l := m))) with e | h
      · rw [e]; exact ltL_irr x
      · exact h1 y h
    have e := ltL_tri e1 e2
    subst e
    rw [asc_uniq p.cons_inv h2 h4]
theorem sort_asc (ks : List (List Int)) : (sortT ks).Pairwise (fun x y => ltL y x = false) := by
  have h := List.pairwise_mergeSort (le := lexLe) (fun a b c h1 h2 => by
    unfold lexLe at *
    have k1 : ltL b a = false := by simpa using h1
    have k2 : ltL c b = false := by simpa using h2
    rw [ltL_trn k1 k2]; rfl) (fun a b => by
    unfold lexLe
    cases e : ltL b a with
    | false => rfl
    | true => rw [ltL_asm e]; rfl) ks
  exact h.imp fun {a b} q => by unfold lexLe at q; simpa using q
/-- strictly ascending -/
def Asc (l : List (List Int)) : Prop := l.Pairwise fun x y => ltL x y = true
theorem Asc.le {l : List (List Int)} (h : Asc l) : l.Pairwise (fun x y => ltL y x = false) := h.imp fun q => ltL_asm q
theorem Asc.nodup {l : List (List Int)} (h : Asc l) : l.Nodup := h.imp fun {a b} q e => by rw [e, ltL_irr] at q; cases q
theorem Asc.filter {l : List (List Int)} (h : Asc l) (f : List Int → Bool) : Asc (l.filter f) := List.Pairwise.filter f h
theorem nodup_perm {a : Type} [DecidableEq a] : ∀ {l m : List a}, l.Nodup → m.Nodup → (∀ x, x ∈ l ↔ x ∈ m) → l.Perm m
  | [], m, _, _, h => by
    cases m with
    | nil => exact .nil
    | cons y r => exact absurd ((h y).mpr List.mem_cons_self) (by simp)
  | x :: l, m, hl, hm, h => by
    obtain ⟨h1, h2⟩ := List.nodup_cons.mp hl
    have hx : x ∈ m := (h x).mp List.mem_cons_self
    refine (List.Perm.cons x (nodup_perm h2 (hm.erase x) fun y => ?_)).trans (List.perm_cons_erase hx).symm
    constructor
    · intro hy
      exact (List.mem_erase_of_ne (fun e => h1 (by rw [← e]; exact hy))).mpr ((h y).mp (List.mem_cons_of_mem _ hy))
    · intro hy
      have ny : y ≠ x := fun e => by rw [e] at hy; exact (List.Nodup.not_mem_erase hm) hy
      rcases List.mem_cons.mp ((h y).mpr (List.mem_of_mem_erase hy)) with e | q
      · exact absurd e ny
      · exact q
/-- sorting what stands in an ascending list -/
theorem sort_eq {l m : List (List Int)} (hl : l.Nodup) (hm : Asc m) (h : ∀ x, x ∈ l ↔ x ∈ m) : sortT l = m :=
  asc_uniq ((List.mergeSort_perm l lexLe).trans (nodup_perm hl hm.nodup h)) (sort_asc l) hm.le
theorem ltL_app : ∀ {a b : List Int} (x y : List Int), a.length = b.length → ltL a b = true → ltL (a ++ x) (b ++ y) = true
  | [], [], _, _, _, h => by simp [ltL] at h
  | [], _ :: _, _, _, h, _ => by simp at h
  | _ :: _, [], _, _, h, _ => by simp at h
  | a :: r, b :: q, x, y, hl, h => by
    rw [List.cons_append, List.cons_append]
    unfold ltL at h ⊢
    by_cases e : a = b
    · rw [if_pos e] at h ⊢
      exact ltL_app x y (by simpa using hl) h
    · rw [if_neg e] at h ⊢
      exact h
theorem ltL_snoc (x y : Int) : ∀ a : List Int, ltL (a ++ [x]) (a ++ [y]) = decide (x < y)
  | [] => by
    show ltL [x] [y] = _
    unfold ltL
    by_cases e : x = y
    · rw [if_pos e, e]; simp [ltL]
    · rw [if_neg e]
  | a :: r => by
    rw [List.cons_append, List.cons_append]
    unfold ltL
    rw [if_pos rfl]
    exact ltL_snoc x y r
theorem tupN_asc (p : Nat) : ∀ n, Asc (tupN p n)
  | 0 => by simp [Asc, tupN]
  | n + 1 => by
    have ih := tupN_asc p n
    unfold Asc tupN
    rw [List.pairwise_flatMap]
    refine ⟨fun t ht => ?_, ?_⟩
    · rw [List.pairwise_map]
      refine List.Pairwise.imp_of_mem ?_ List.pairwise_lt_range
      intro a b _ _ hab
      rw [ltL_snoc]
      exact decide_eq_true (by omega)
    · refine List.Pairwise.imp_of_mem ?_ ih
      intro s t hs ht h x hx y hy
      obtain ⟨i, _, rfl⟩ := List.mem_map.mp hx
      obtain ⟨j, _, rfl⟩ := List.mem_map.mp hy
      exact ltL_app _ _ (by rw [(mem_tupN.mp hs).1, (mem_tupN.mp ht).1]) h
/-! ### how many rules -/
def rulesOf (p : Nat) (row : List Int) (L : Nat) : List (List Int) := (tupN p L).filter fun r => fitsB p r row
theorem mem_rules {p : Nat} {row r : List Int} {L : Nat} : r ∈ rulesOf p row L ↔ Sol p (eqsOf row L) L r := by
  unfold rulesOf
  rw [List.mem_filter, mem_tupN]
  constructor
  · rintro ⟨⟨rfl, h2⟩, h3⟩
    exact ⟨rfl, h2, fits_sol.mp h3⟩
  · rintro ⟨rfl, h2, h3⟩
    exact ⟨⟨rfl, h2⟩, fits_sol.mpr h3⟩
/-- the rows' numbers at the free places -/
def atF (free : List Nat) (x : List Int) : List Int := free.map fun d => nthI x d
/-- a row with numbers at the free places -/
def putF (u : Nat) (free : List Nat) (nums : List Int) : List Int := (List.range u).map fun d => nthI nums (free.idxOf d)
theorem atF_put {u : Nat} {free : List Nat} {nums : List Int} (hf : free.Pairwise (· < ·)) (hb : ∀ d ∈ free, d < u) (hl : nums.length = free.length) : atF free (putF u free nums) = nums := by
  refine List.ext_getElem (by simp [atF, hl]) fun i h1 h2 => ?_
  have hi : i < free.length := by simpa [atF] using h1
  simp only [atF, List.getElem_map]
  unfold putF
  rw [nthI_map_range _ (hb _ (List.getElem_mem hi))]
  have nd : free.Nodup := hf.imp fun h => by omega
  rw [List.Nodup.idxOf_getElem nd i hi, nthI_get h2]
theorem FreeOk.pick {p : Nat} {eqs : List (List Int)} {u : Nat} {free : List Nat} (hp : 0 < p) (h : FreeOk p eqs u free) {nums : List Int} (hn : nums ∈ tupN p free.length) : ∃ x, Sol p eqs u x ∧ atF free x = nums := by
  obtain ⟨h1, h2, h3, h4⟩ := h
  obtain ⟨n1, n2⟩ := mem_tupN.mp hn
  obtain ⟨x, hx, he⟩ := h3 (putF u free nums) (fun k hk => by
    obtain ⟨d, _, rfl⟩ := List.mem_map.mp hk
    rcases Nat.lt_or_ge (free.idxOf d) nums.length with q | q
    · exact n2.nth q
    · rw [nthI_big q]; omega) (by simp [putF])
  refine ⟨x, hx, ?_⟩
  rw [← atF_put h1 h2 n1]
  exact List.map_congr_left fun d hd => he d hd
theorem FreeOk.inj {p : Nat} {eqs : List (List Int)} {u : Nat} {free : List Nat} (h : FreeOk p eqs u free) {x y : List Int} (hx : Sol p eqs u x) (hy : Sol p eqs u y) (e : atF free x = atF free y) : x = y := by
  refine h.2.2.2 x y hx hy fun d hd => ?_
  obtain ⟨i, hi, rfl⟩ := List.mem_iff_getElem.mp hd
  have := congrArg (fun l : List Int => l[i]?) e
  simpa [atF, hi] using this
theorem atF_mem {p : Nat} {eqs : List (List Int)} {u : Nat} {free : List Nat} (h : FreeOk p eqs u free) {x : List Int} (hx : Sol p eqs u x) : atF free x ∈ tupN p free.length := mem_tupN.mpr ⟨by simp [atF], fun k hk => by
  obtain ⟨d, hd, rfl⟩ := List.mem_map.mp hk
  exact hx.2.1.nth (by rw [hx.1]; exact h.2.1 d hd)⟩
theorem nodup_map {a b : Type} {f : a → b} {l : List a} (hl : l.Nodup) (hf : ∀ x ∈ l, ∀ y ∈ l, f x = f y → x = y) : (l.map f).Nodup := by
  rw [List.Nodup, List.pairwise_map]
  exact List.Pairwise.imp_of_mem (fun {x y} hx hy hn e => hn (hf x hx y hy e)) hl
theorem free_count {p : Nat} (hp : 0 < p) {row : List Int} {L : Nat} {free : List Nat} (h : FreeOk p (eqsOf row L) L free) : (rulesOf p row L).length = p ^ free.length := by
  have nr : (rulesOf p row L).Nodup := ((tupN_asc p L).filter _).nodup
  have nt : (tupN p free.length).Nodup := (tupN_asc p _).nodup
  apply Nat.le_antisymm
  · have := nodup_le (l := (rulesOf p row L).map (atF free)) (m := tupN p free.length) (nodup_map nr fun x hx y hy e => h.inj (mem_rules.mp hx) (mem_rules.mp hy) e) fun x hx => by
      obtain ⟨r, hr, rfl⟩ := List.mem_map.mp hx
      exact atF_mem h (mem_rules.mp hr)
    rwa [List.length_map, tupN_len] at this
  · have ex : ∀ nums : List Int, ∃ x, nums ∈ tupN p free.length → Sol p (eqsOf row L) L x ∧ atF free x = nums := fun nums => by
      by_cases q : nums ∈ tupN p free.length
      · obtain ⟨x, hx⟩ := h.pick hp q
        exact ⟨x, fun _ => hx⟩
      · exact ⟨[], fun q' => absurd q' q⟩
    have := nodup_le (l := (tupN p free.length).map fun nums => Classical.choose (ex nums)) (m := rulesOf p row L) (nodup_map nt fun x hx y hy e => by
        have h1 := Classical.choose_spec (ex x) hx
        have h2 := Classical.choose_spec (ex y) hy
        rw [← h1.2, ← h2.2, e]) fun x hx => by
      obtain ⟨nums, hn, rfl⟩ := List.mem_map.mp hx
      exact mem_rules.mpr (Classical.choose_spec (ex nums) hn).1
    rwa [List.length_map, tupN_len] at this
theorem rules_long {p : Nat} {row : List Int} {L : Nat} (h : row.length ≤ L) : rulesOf p row L = tupN p L := by
  unfold rulesOf
  rw [List.filter_eq_self]
  intro r hr
  exact fits_long (by rw [(mem_tupN.mp hr).1]; exact h)
theorem rules_none {p : Nat} (hp : prm p) {row : List Int} (hf : fld p row) {L : Nat} (h : L < lenI p [row]) : rulesOf p row L = [] := by
  rw [List.eq_nil_iff_forall_not_mem]
  intro r hr
  obtain ⟨h1, h2, h3⟩ := mem_rules.mp hr
  have : HasI p [row] L := ⟨r, h1, h2, fun x hx => by rw [List.mem_singleton.mp hx]; exact fits_sol.mpr (by rw [h1]; exact h3)⟩
  have := (lenI_is hp.pos [row]).2 L this
  omega
theorem fits_snoc {p : Int} {rule row : List Int} {x : Int} (h : rule.length ≤ row.length) : fitsB p rule (row ++ [x]) = (fitsB p rule row && decide (nxt p rule row = x)) := by
  unfold fitsB
  rw [List.length_append, List.length_singleton, show row.length + 1 - rule.length = (row.length - rule.length) + 1 by omega, List.range_succ, List.all_append]
  congr 1
  · rw [Bool.eq_iff_iff, List.all_eq_true, List.all_eq_true]
    constructor
    · intro q j hj
      have := q j hj
      have hj := List.mem_range.mp hj
      rw [List.take_append_of_le_length (by omega), nthI_append_left (by omega)] at this
      exact this
    · intro q j hj
      have := q j hj
      have hj := List.mem_range.mp hj
      rw [List.take_append_of_le_length (by omega), nthI_append_left (by omega)]
      exact this
  · rw [List.all_cons, List.all_nil, Bool.and_true, show rule.length + (row.length - rule.length) = row.length by omega, List.take_left, nthI_app, if_neg (by omega), Nat.sub_self, nthI_cons_zero]
theorem sum_const (l : List Nat) (f : Nat → Nat) (c : Nat) (h : ∀ x ∈ l, f x = c) : (l.map f).sum = l.length * c := by
  induction l with
  | nil => simp
  | cons x l ih =>
    rw [List.map_cons, List.sum_cons, ih fun y hy => h y (List.mem_cons_of_mem _ hy), h x List.mem_cons_self, List.length_cons, Nat.succ_mul]
    omega
theorem count_split {a : Type} (l : List a) (f : a → Bool) (g : a → Nat) (p : Nat) (h : ∀ x ∈ l, g x < p) : ((List.range p).map fun k => (l.filter fun x => f x && decide (g x = k)).length).sum = (l.filter f).length := by
  induction l with
  | nil => simp only [List.filter_nil, List.length_nil]; rw [sum_const _ _ 0 fun _ _ => rfl]; simp
  | cons x l ih =>
    have ih := ih fun y hy => h y (List.mem_cons_of_mem _ hy)
    have hx := h x List.mem_cons_self
    have e : (fun k => (List.filter (fun x => f x && decide (g x = k)) (x :: l)).length) = fun k => (if f x && decide (g x = k) then 1 else 0) + (l.filter fun x => f x && decide (g x = k)).length := by
      funext k
      rw [List.filter_cons]
      split <;> simp <;> omega
    have e2 : ∀ (m : List Nat) (u v : Nat → Nat), (m.map fun k => u k + v k).sum = (m.map u).sum + (m.map v).sum := by
      intro m u v
      induction m with
      | nil => rfl
      | cons y m ih => simp only [List.map_cons, List.sum_cons, ih]; omega
    rw [e, e2, ih, List.filter_cons]
    cases hf : f x with
    | false =>
      have : ((List.range p).map fun k => if (false && decide (g x = k)) = true then 1 else 0).sum = 0 := by
        have : (fun k => if (false && decide (g x = k)) = true then 1 else 0) = fun _ : Nat => 0 := by funext k; simp
        rw [this, sum_const _ _ 0 fun _ _ => rfl]; simp
      rw [this]; simp
    | true =>
      have : ((List.range p).map fun k => if (true && decide (g x = k)) = true then 1 else 0).sum = 1 := by
        have key : ∀ n, ((List.range n).map fun k => if (true && decide (g x = k)) = true then 1 else 0).sum = if g x < n then 1 else 0 := by
          intro n
          induction n with
          | zero => simp
          | succ n ih =>
            rw [List.range_succ, List.map_append, List.sum_append, ih]
            simp
            by_cases q1 : g x < n
            · have q2 : ¬ g x = n := by omega
              have q3 : g x < n + 1 := by omega
              simp [q1, q2, q3]
            · by_cases q2 : g x = n
              · have q3 : g x < n + 1 := by omega
                simp [q1, q2]
              · have q3 : ¬ g x < n + 1 := by omega
                simp [q1, q2, q3]
        rw [key, if_pos hx]
      rw [this]; simp; omega
theorem rules_split {p : Nat} (hp : 0 < p) {row : List Int} {L : Nat} (h : L ≤ row.length) : ((List.range p).map fun k : Nat => (rulesOf p (row ++ [(k : Int)]) L).length).sum = (rulesOf p row L).length := by
  have := count_split (tupN p L) (fun r => fitsB p r row) (fun r => (nxt p r row).toNat) p (fun r hr => by have := fld_nxt (p := p) (by omega) r row; omega)
  unfold rulesOf
  rw [← this]
  congr 1
  apply List.map_congr_left
  intro k hk
  congr 1
  apply List.filter_congr
  intro r hr
  rw [fits_snoc (by rw [(mem_tupN.mp hr).1]; exact h)]
  congr 1
  have := fld_nxt (p := p) (by omega) r row
  rw [Bool.eq_iff_iff, decide_eq_true_eq, decide_eq_true_eq]
  omega
theorem rules_one {p : Nat} (hp : prm p) {row : List Int} (hf : fld p row) (h : 2 * lenI p [row] ≤ row.length) : (rulesOf p row (lenI p [row])).length = 1 := by
  obtain ⟨K, i1, i2, ⟨H⟩⟩ := field_of hp
  have hpp := hp.pos
  obtain ⟨r0, q1, q2, q3⟩ := (lenI_is hpp [row]).1
  have m0 : r0 ∈ rulesOf p row (lenI p [row]) := mem_rules.mpr ⟨q1, q2, by rw [← q1]; exact fits_sol.mp (q3 row (by simp))⟩
  have all : ∀ r ∈ rulesOf p row (lenI p [row]), r = r0 := by
    intro r hr
    obtain ⟨h1, h2, h3⟩ := mem_rules.mp hr
    have f1 : fitsB p r row = true := fits_sol.mpr (by rw [h1]; exact h3)
    have k1 := (fits_mk H hpp hf).mp f1
    have k2 := (fits_mk H hpp hf).mp (q3 row (by simp))
    rw [h1] at k1
    rw [q1] at k2
    have := rule_unique (lenI_isL H hpp hf) k1 k2 h
    refine List.ext_getElem (by omega) fun i a b => ?_
    rw [← nthI_get a, ← nthI_get b]
    exact (H.inj (h2.nth a) (q2.nth b)).mp (this i (by omega))
  have nd : (rulesOf p row (lenI p [row])).Nodup := ((tupN_asc p _).filter _).nodup
  match e : rulesOf p row (lenI p [row]), m0, all, nd with
  | [a], _, _, _ => rfl
  | a :: b :: r, _, all, nd =>
    exact absurd ((all a (by simp)).trans (all b (by simp)).symm) ((List.pairwise_cons.mp nd).1 b (by simp))
theorem rules_least {p : Nat} (hp : prm p) : ∀ (k : Nat) {row : List Int}, fld p row → 2 * lenI p [row] - row.length = k → (rulesOf p row (lenI p [row])).length = p ^ k
  | 0, row, hf, h => by rw [rules_one hp hf (by omega)]; simp
  | k + 1, row, hf, h => by
    have hle : lenI p [row] ≤ row.length := lenI_le hp.pos (by simp)
    have hpp := hp.pos
    rw [← rules_split (by omega) hle, sum_const _ _ (p ^ k) fun x hx => ?_]
    · rw [List.length_range, Nat.pow_succ, Nat.mul_comm]
    · have hx := List.mem_range.mp hx
      have e := (next_keep hp hf).1 (by omega) x (by omega) (by omega)
      have := rules_least hp k (row := row ++ [(x : Int)]) (fld_append hf fun y hy => by rw [List.mem_singleton.mp hy]; omega) (by rw [e]; simp; omega)
      rwa [e] at this
end Rr

set_option linter.all false
set_option Elab.async false
set_option maxRecDepth 100000
set_option maxHeartbeats 4000000
/-! Contracts: all rows with at most a length. -/
namespace Rr
open PySem
variable {N : Nat} {G : Env}
noncomputable def shortN (p n L : Nat) : List (List Int) := (tupN p n).filter fun row => decide (lenI p [row] ≤ L)
theorem mem_short {p n L : Nat} {x : List Int} : x ∈ shortN p n L ↔ x.length = n ∧ fld p x ∧ lenI p [x] ≤ L := by
  unfold shortN
  rw [List.mem_filter, mem_tupN, decide_eq_true_eq]
  exact ⟨fun h => ⟨h.1.1, h.1.2, h.2⟩, fun h => ⟨⟨h.1, h.2.1⟩, h.2.2⟩⟩
theorem short_asc (p n L : Nat) : Asc (shortN p n L) := (tupN_asc p n).filter _
theorem short_zero {p n L : Nat} (hp : prm p) : List.replicate n 0 ∈ shortN p n L := by
  refine mem_short.mpr ⟨by simp, fld_rep hp.pos n, ?_⟩
  have h0 : HasI p [List.replicate n 0] 0 := by
    refine ⟨[], rfl, (fun k hk => by cases hk), fun x hx => ?_⟩
    rw [List.mem_singleton.mp hx]
    unfold fitsB
    rw [List.all_eq_true]
    intro j hj
    have hj := List.mem_range.mp hj
    simp only [List.length_replicate, List.length_nil, Nat.zero_add, decide_eq_true_eq] at hj ⊢
    rw [nthI_get (by simpa using hj)]
    simp [nxt, dot]
  have := (lenI_is hp.pos [List.replicate n 0]).2 0 h0
  omega
/-! ### rows by rules and starts -/
theorem take_step {a : List Int} {m : Nat} (h : m < a.length) : a.take (m + 1) = a.take m ++ [nthI a m] := by
  rw [List.take_succ_eq_append_getElem h, nthI_get h]
theorem fits_eq {p : Int} {rule a b : List Int} (hl : a.length = b.length) (ha : fitsB p rule a = true) (hb : fitsB p rule b = true) (h : a.take rule.length = b.take rule.length) : a = b := by
  have key : ∀ m, m ≤ a.length → a.take m = b.take m := by
    intro m
    induction m with
    | zero => intro _; simp
    | succ m ih =>
      intro hm
      have e := ih (by omega)
      rcases Nat.lt_or_ge m rule.length with q | q
      · have := congrArg (List.take (m + 1)) h
        rwa [List.take_take, List.take_take, Nat.min_eq_left (by omega)] at this
      · have f : ∀ {r : List Int}, fitsB p rule r = true → m < r.length → nxt p rule (r.take m) = nthI r m := fun {r} hf hr => by
          have := List.all_eq_true.mp hf (m - rule.length) (List.mem_range.mpr (by omega))
          rw [decide_eq_true_eq, show rule.length + (m - rule.length) = m by omega] at this
          exact this
        rw [take_step (by omega), take_step (by omega), ← f ha (by omega), ← f hb (by omega), e]
  have := key a.length (Nat.le_refl _)
  rwa [List.take_length, hl, List.take_length] at this
theorem made_short {p n L : Nat} (hp : prm p) {x : List Int} : x ∈ shortN p n L ↔ ∃ r ∈ tupN p L, ∃ s ∈ tupN p L, madeI p r s n = x := by
  have hpp := hp.pos
  constructor
  · intro hx
    obtain ⟨h1, h2, h3⟩ := mem_short.mp hx
    have hr : ∀ row ∈ [x], fld p row := fun r hr => by rw [List.mem_singleton.mp hr]; exact h2
    obtain ⟨r, q1, q2, q3⟩ := (hasI_iff hp hr).mpr h3
    have q3 := q3 x (by simp)
    refine ⟨r, mem_tupN.mpr ⟨q1, q2⟩, ?_⟩
    rcases Nat.lt_or_ge n L with q | q
    · refine ⟨x ++ List.replicate (L - n) 0, mem_tupN.mpr ⟨by simp [h1]; omega, fld_append h2 (fld_rep hpp _)⟩, ?_⟩
      unfold madeI
      rw [show n - (x ++ List.replicate (L - n) (0 : Int)).length = 0 by simp; omega]
      simp only [extF]
      rw [← h1, List.take_left]
    · have hst : fld p (x.take L) := fld_take L h2
      have hsl : (x.take L).length = L := by rw [List.length_take]; omega
      refine ⟨x.take L, mem_tupN.mpr ⟨hsl, hst⟩, ?_⟩
      have hf := made_fits (p := p) (rule := r) (start := x.take L) (count := n) (by omega)
      refine fits_eq (by rw [madeI_len, h1]) hf q3 ?_
      rw [q1]
      have e : ∀ k l, (extF p r k l).take l.length = l := by
        intro k
        induction k with
        | zero => intro l; simp [extF]
        | succ k ih =>
          intro l
          have := ih (l ++ [nxt p r l])
          have h2 := congrArg (List.take l.length) this
          rw [List.take_take, List.take_left, Nat.min_eq_left (by simp)] at h2
          exact h2
      unfold madeI
      rw [List.take_take, Nat.min_eq_left q]
      have := e (n - (x.take L).length) (x.take L)
      rw [hsl] at this ⊢
      exact this
  · rintro ⟨r, hr, s, hs, rfl⟩
    obtain ⟨r1, r2⟩ := mem_tupN.mp hr
    obtain ⟨s1, s2⟩ := mem_tupN.mp hs
    refine mem_short.mpr ⟨madeI_len _ _ _ _, madeI_fld hpp _ _ _ s2, ?_⟩
    exact (lenI_is hpp _).2 L ⟨r, r1, r2, fun x hx => by rw [List.mem_singleton.mp hx]; exact made_fits (by omega)⟩
/-! ### keys once each -/
def insU (ks : List (List Int)) (x : List Int) : List (List Int) := if x ∈ ks then ks else ks ++ [x]
theorem insU_fold (l : List (List Int)) : ∀ ks : List (List Int), ks.Nodup → (l.foldl insU ks).Nodup ∧ (∀ x, x ∈ l.foldl insU ks ↔ x ∈ ks ∨ x ∈ l) ∧ (l.foldl insU ks).length ≤ ks.length + l.length := by
  induction l with
  | nil => intro ks h; exact ⟨h, fun x => by simp, by simp⟩
  | cons y l ih =>
    intro ks h
    rw [List.foldl_cons]
    have hn : (insU ks y).Nodup := by
      unfold insU
      split
      · exact h
      · rename_i q
        rw [List.nodup_append]
        refine ⟨h, by simp, fun a ha b hb e => ?_⟩
        rw [List.mem_singleton.mp hb] at e
        rw [e] at ha
        exact q ha
    have hm : ∀ x, x ∈ insU ks y ↔ x ∈ ks ∨ x = y := by
      intro x
      unfold insU
      split
      · rename_i q
        exact ⟨.inl, fun h => h.elim id fun e => by rw [e]; exact q⟩
      · rw [List.mem_append, List.mem_singleton]
    have hlen : (insU ks y).length ≤ ks.length + 1 := by
      unfold insU
      split <;> simp
    obtain ⟨a, b, c⟩ := ih (insU ks y) hn
    refine ⟨a, fun x => ?_, by simp only [List.length_cons]; omega⟩
    rw [b, hm, List.mem_cons, or_assoc]
def tl (ks : List (List Int)) : List (List Int × D) := ks.map fun k => (k, .bool true)
theorem tl_keys (ks : List (List Int)) : (tl ks).map (·.1) = ks := by
  unfold tl
  rw [List.map_map]
  exact List.map_id _
theorem tl_put (ks : List (List Int)) (x : List Int) : putL (tl ks) x (.bool true) = tl (insU ks x) := by
  unfold putL insU
  rw [tl_keys]
  split
  · unfold tl
    rw [List.map_map]
    refine List.map_congr_left fun k _ => ?_
    simp only [Function.comp]
    split <;> rfl
  · unfold tl
    rw [List.map_append]; rfl
theorem srtOk_nodup {ks : List (List Int)} {n : Nat} (hn : ks.Nodup) (h : ∀ k ∈ ks, k.length = n) (hl : ks.length ≤ LIM) : srtOk ks := by
  refine srtOk_len hl h ?_
  rcases Nat.eq_zero_or_pos n with q | q
  · right
    have := nodup_le (m := [[]]) hn fun k hk => by
      have := h k hk
      rw [q] at this
      rw [List.length_eq_zero_iff.mp this]; simp
    simp at this
    omega
  · exact .inl (by omega)
def Sp_short_rows (g : List D → R D) : Prop := ∀ (p n L : Nat), prm p → n ≤ 24 → p ^ (2 * L) ≤ 1000 → g [.int p, .int n, .int L] = .ok (rowsL (shortN p n L))
theorem sorted_short {p n L : Nat} (hp : prm p) (ks : List (List Int)) (hn : ks.Nodup) (hm : ∀ x, x ∈ ks ↔ x ∈ shortN p n L) (hl : ks.length ≤ LIM) : srtOk ks ∧ sortT ks = shortN p n L :=
  ⟨srtOk_nodup hn (fun k hk => (mem_short.mp ((hm k).mp hk)).1) hl, sort_eq hn (short_asc p n L) hm⟩
theorem pow_L {p L : Nat} (hp : 2 ≤ p) (h : p ^ (2 * L) ≤ 1000) : L ≤ 4 ∧ p ^ L ≤ 1000 := by
  have h1 : p ^ L ≤ p ^ (2 * L) := Nat.pow_le_pow_right (by omega) (by omega)
  refine ⟨?_, by omega⟩
  refine Nat.le_of_not_lt fun q => ?_
  have h2 : p ^ 10 ≤ p ^ (2 * L) := Nat.pow_le_pow_right (by omega) (by omega)
  have h3 : 2 ^ 10 ≤ p ^ 10 := Nat.pow_le_pow_left hp 10
  have : (2 : Nat) ^ 10 = 1024 := by decide
  omega
theorem run_short_rows {g1 g2 : List D → R D} (h1 : G.fn "tuples" = some g1) (s1 : Sp_tuples g1) (h2 : G.fn "extended" = some g2) (s2 : Sp_extended g2) : Sp_short_rows (runD G N d_short_rows) := by
  intro p n L hp hn hL
  have hpl := hp.le
  have hpp := hp.pos
  have hpg := hp.ge
  obtain ⟨hL4, hpL⟩ := pow_L (by omega) hL
  have e1 := s1 p L (by omega) (by omega) (by omega) (by omega)
  have hsq : p ^ L * p ^ L = p ^ (2 * L) := by rw [← Nat.pow_add]; congr 1; omega
  have htl := tupN_len p L
  refine run_rt rfl ?_
  dsimp only [d_short_rows]
  refine seq_nx (by simp [Rr.start]; rfl) ?_
  refine seq_for tupI (tupN p L) (by simp [ev_call _ _ h1, e1]) (fun a s => ∃ x4 x5, s = [some (.int p), some (.int n), some (.int L), some (dicT (tl ((((tupN p L).take a).flatMap fun r => (tupN p L).map fun s => madeI p r s n).foldl insU []))), x4, x5]) ⟨none, none, rfl⟩ ?_ ?_
  · rintro a ha s ⟨x4, x5, rfl⟩
    have hr : (tupN p L)[a] ∈ tupN p L := List.getElem_mem ha
    generalize hrule : (tupN p L)[a] = rule at hr
    obtain ⟨r1, r2⟩ := mem_tupN.mp hr
    have loop : ∃ s', evSs G N (.cons (.fr (.one 5) (.seq (.call "tuples" (.cons (.var 0) (.cons (.var 2) .nil)))) (.cons (.sti 3 (.call "extended" (.cons (.var 0) (.cons (.var 4) (.cons (.var 5) (.cons (.var 1) .nil))))) (.cst (.bool true))) .nil)) .nil)
        [some (.int p), some (.int n), some (.int L), some (dicT (tl ((((tupN p L).take a).flatMap fun r => (tupN p L).map fun s => madeI p r s n).foldl insU []))), some (tupI rule), x5] = .nx s' ∧
        ∃ x5, s' = [some (.int p), some (.int n), some (.int L), some (dicT (tl (((((tupN p L).take a).flatMap fun r => (tupN p L).map fun s => madeI p r s n) ++ (tupN p L).map fun s => madeI p rule s n).foldl insU []))), some (tupI rule), x5] := by
      refine seq_forE tupI (tupN p L) (by simp [ev_call _ _ h1, e1]) (fun b s => ∃ x5, s = [some (.int p), some (.int n), some (.int L), some (dicT (tl (((((tupN p L).take a).flatMap fun r => (tupN p L).map fun s => madeI p r s n) ++ ((tupN p L).take b).map fun s => madeI p rule s n).foldl insU []))), some (tupI rule), x5]) ⟨x5, by simp⟩ ?_ ?_
      · rintro b hb s ⟨x5, rfl⟩
        have hs : (tupN p L)[b] ∈ tupN p L := List.getElem_mem hb
        obtain ⟨q1, q2⟩ := mem_tupN.mp hs
        have e2 := s2 p rule (tupN p L)[b] n hp r2 q2 (by omega) (by omega) (by omega)
        have hlen : (((((tupN p L).take a).flatMap fun r => (tupN p L).map fun s => madeI p r s n) ++ ((tupN p L).take b).map fun s => madeI p rule s n).foldl insU []).length ≤ LIM := by
          have := (insU_fold ((((tupN p L).take a).flatMap fun r => (tupN p L).map fun s => madeI p r s n) ++ ((tupN p L).take b).map fun s => madeI p rule s n) [] List.nodup_nil).2.2
          simp only [List.length_append, List.length_flatMap, List.length_map, List.map_const', List.sum_replicate_nat, List.length_take, List.length_nil, htl] at this
          rw [htl] at ha hb
          have hm : min a (p ^ L) * p ^ L ≤ p ^ L * p ^ L := Nat.mul_le_mul_right _ (by omega)
          unfold LIM
          omega
        have hput := put_dicT (madeI p rule (tupN p L)[b] n) (tl (((((tupN p L).take a).flatMap fun r => (tupN p L).map fun s => madeI p r s n) ++ ((tupN p L).take b).map fun s => madeI p rule s n).foldl insU [])) (.bool true) rfl (by unfold tl; rw [List.length_map]; exact hlen)
        rw [tl_put] at hput
        refine ⟨_, by
          simp only [ess_cons, ess_nil, es_sti, ev_cst, ev_call _ _ h2, ev_cons, ev_nil, ev_var, List.set_cons_zero, List.set_cons_succ, getV_zero, getV_succ, R.bind_ok, R.go_ok, e2, hput, Q.go_nx]
          rfl, some (tupI (tupN p L)[b]), ?_⟩
        have ef : ∀ (A B : List (List Int)) (x : List Int), (A ++ (B ++ [x])).foldl insU [] = insU ((A ++ B).foldl insU []) x := fun A B x => by
          rw [← List.append_assoc, List.foldl_append (l := A ++ B)]; rfl
        rw [List.take_succ_eq_append_getElem hb, List.map_append, List.map_singleton, ef]
      · rintro s ⟨x5, rfl⟩
        rw [List.take_length]
        exact ⟨_, by rw [ess_nil], x5, rfl⟩
    obtain ⟨s', es', x5', rfl⟩ := loop
    refine ⟨_, es', some (tupI rule), x5', ?_⟩
    rw [List.take_succ_eq_append_getElem ha, List.flatMap_append, hrule, List.flatMap_singleton]
  · rintro s ⟨x4, x5, rfl⟩
    rw [List.take_length]
    obtain ⟨q1, q2, q3⟩ := insU_fold ((tupN p L).flatMap fun r => (tupN p L).map fun s => madeI p r s n) [] List.nodup_nil
    simp only [List.length_flatMap, List.length_map, List.map_const', List.sum_replicate_nat, List.length_nil, htl] at q3
    obtain ⟨k1, k2⟩ := sorted_short (n := n) (L := L) hp _ q1 (fun x => by
      rw [q2, made_short hp, List.mem_flatMap]
      simp) (by unfold LIM; omega)
    have e3 := sorted_dicT (l := tl (((tupN p L).flatMap fun r => (tupN p L).map fun s => madeI p r s n).foldl insU [])) (by rw [tl_keys]; exact k1)
    rw [tl_keys, k2] at e3
    simp only [ess_cons, es_ret, ev_bi, ev_cons, ev_nil, ev_var, getV_zero, getV_succ, R.bind_ok, e3, R.go_ok]
    rfl
def Sp__law_short_rows (g : List D → R D) : Prop := ∀ (p n L : Nat), prm p → n ≤ 24 → p ^ n ≤ 1000 → g [.int p, .int n, .int L] = .ok (rowsL (shortN p n L))
theorem run__law_short_rows {g1 g2 : List D → R D} (h1 : G.fn "_law_tuples" = some g1) (s1 : Sp__law_tuples g1) (h2 : G.fn "_law_length" = some g2) (s2 : Sp__law_length g2) : Sp__law_short_rows (runD G N d__law_short_rows) := by
  intro p n L hp hn hL
  have hpl := hp.le
  have hpp := hp.pos
  have e1 := s1 p n (by omega) (by omega) (by omega) (by omega)
  refine run_rt rfl ?_
  dsimp only [d__law_short_rows]
  have e : evE G (.lc (.one 3) (.seq (.call "_law_tuples" (.cons (.var 0) (.cons (.var 1) .nil)))) (.cons (.cmp .le (.call "_law_length" (.cons (.var 0) (.cons (.var 3) .nil))) (.var 2)) .nil) (.var 3)) [some (.int p), some (.int n), some (.int L), none] = .ok (rowsL (shortN p n L)) := by
    rw [lc_one tupI tupI (tupN p n) (fun row => decide (lenI p [row] ≤ L)) (fun r => r) (by simp [ev_call _ _ h1, e1]) (by rw [tupN_len]; omega) (fun r hr => by
      obtain ⟨q1, q2⟩ := mem_tupN.mp hr
      refine ⟨?_, fun _ => by simp⟩
      simp [ev_call _ _ h2, s2 p r hp q2 (by omega)]
      by_cases q : lenI p [r] ≤ L <;> simp [q])]
    rw [List.map_id']; rfl
  simp only [Rr.start, ess_cons, es_ret]
  show ((evE G _ [some (.int p), some (.int n), some (.int L), none]).go fun d => Q.rt d).go _ = _
  rw [e]
  rfl
end Rr

set_option linter.all false
set_option Elab.async false
set_option maxRecDepth 100000
set_option maxHeartbeats 4000000
/-! Contracts: nearest rows. -/
namespace Rr
open PySem
variable {N : Nat} {G : Env}
theorem short_count {p n L : Nat} (hp : prm p) : (shortN p n L).length ≤ p ^ (2 * L) := by
  have := nodup_le (m := (tupN p L).flatMap fun r => (tupN p L).map fun s => madeI p r s n) (short_asc p n L).nodup fun x hx => by
    obtain ⟨r, hr, s, hs, e⟩ := (made_short hp).mp hx
    exact List.mem_flatMap.mpr ⟨r, hr, List.mem_map.mpr ⟨s, hs, e⟩⟩
  simp only [List.length_flatMap, List.length_map, List.map_const', List.sum_replicate_nat, tupN_len] at this
  rwa [← Nat.pow_add, show L + L = 2 * L by omega] at this
theorem ev_lck (s : S) (t : Tg) (i : Nat) (ifs : Es) (e : Ex) : evE G (.lck t i ifs e) s = evE G (.lc t (.keys (.var i)) ifs e) s := by
  rw [ev_lc, ei_keys, ev_var, evE]
theorem len_rows (a : List (List Int)) : biD .len [rowsL a] = .ok (.int a.length) := by
  show R.ok (PyData.int (a.map tupI).length) = _
  rw [List.length_map]
theorem truD_rowsL (a : List (List Int)) : truD (rowsL a) = .ok (!a.isEmpty) := by
  show R.ok (!(a.map tupI).isEmpty) = _
  simp
/-! ### least of a list -/
def IsMin (l : List Nat) (m : Nat) : Prop := m ∈ l ∧ ∀ x ∈ l, m ≤ x
theorem IsMin.uniq {l : List Nat} {m m' : Nat} (h : IsMin l m) (h' : IsMin l m') : m = m' := Nat.le_antisymm (h.2 _ h'.1) (h'.2 _ h.1)
theorem IsMin.ex : ∀ {l : List Nat}, l ≠ [] → ∃ m, IsMin l m
  | [x], _ => ⟨x, by simp, by simp⟩
  | x :: y :: r, _ => by
    obtain ⟨m, h1, h2⟩ := IsMin.ex (l := y :: r) (by simp)
    rcases Nat.le_total x m with q | q
    · refine ⟨x, by simp, fun z hz => ?_⟩
      rcases List.mem_cons.mp hz with rfl | hz
      · exact Nat.le_refl _
      · exact Nat.le_trans q (h2 z hz)
    · refine ⟨m, List.mem_cons_of_mem _ h1, fun z hz => ?_⟩
      rcases List.mem_cons.mp hz with rfl | hz
      · exact q
      · exact h2 z hz
theorem minI_eq : ∀ {l : List Int} {m : Int}, m ∈ l → (∀ x ∈ l, m ≤ x) → minI l = m
  | [x], m, h, _ => by simp at h; subst h; rfl
  | x :: y :: r, m, h, hb => by
    have key : ∀ s : List Int, s ≠ [] → minI s ∈ s := by
      intro s
      induction s with
      | nil => intro h; exact absurd rfl h
      | cons a s ih =>
        intro _
        cases s with
        | nil => simp [minI]
        | cons b s =>
          show (if minI (b :: s) < a then minI (b :: s) else a) ∈ _
          split
          · exact List.mem_cons_of_mem _ (ih (by simp))
          · exact List.mem_cons_self
    show (if minI (y :: r) < x then minI (y :: r) else x) = m
    have h1 := hb _ (List.mem_cons_of_mem _ (key (y :: r) (by simp)))
    have h2 := hb x List.mem_cons_self
    rcases List.mem_cons.mp h with e | h
    · subst e
      rw [if_neg (by omega)]
    · rw [minI_eq h fun z hz => hb z (List.mem_cons_of_mem _ hz)]
      split <;> omega
theorem min_natL {l : List Nat} {m : Nat} (h : IsMin l m) : biD .min [natL l] = .ok (.int m) := by
  have e : intsOf (l.map natD) = some (l.map fun (k : Nat) => (k : Int)) := intsOf_natD l
  show (match intsOf (l.map natD) with | some (k :: ks) => R.ok (PyData.int (minI (k :: ks))) | _ => .bad) = _
  rw [e]
  cases l with
  | nil => cases h.1
  | cons k ks =>
    show R.ok (PyData.int (minI ((k :: ks).map fun (k : Nat) => (k : Int)))) = _
    rw [minI_eq (m := (m : Int)) (List.mem_map.mpr ⟨m, h.1, rfl⟩) fun x hx => by
      obtain ⟨y, hy, rfl⟩ := List.mem_map.mp hx
      have := h.2 y hy
      omega]
/-! ### places that differ -/
def diffN (a b : List Int) : Nat := ((List.zip a b).filter fun z => !decide (z.1 = z.2)).length
def Sp_differences (g : List D → R D) : Prop := ∀ a b, a.length ≤ 1000 → g [tupI a, tupI b] = .ok (.int (diffN a b))
theorem run_differences : Sp_differences (runD G N d_differences) := by
  intro a b hl
  refine run_rt rfl ?_
  dsimp only [d_differences]
  have e : evE G (.lc (.two 2 3) (.zip (.var 0) (.var 1)) (.cons (.cmp .ne (.var 2) (.var 3)) .nil) (.cst (.int 1))) [some (tupI a), some (tupI b), none, none] = .ok (.list (((List.zip a b).filter fun z => !decide (z.1 = z.2)).map fun _ => PyData.int 1)) := by
    rw [lc_two (fun z : Int × Int => PyData.int z.1) (fun z => PyData.int z.2) PyData.int (List.zip a b) (fun z => !decide (z.1 = z.2)) (fun _ => (1 : Int)) (by simp [tupI, zip_map]) (by simp; omega) (fun z hz => by
      refine ⟨?_, fun _ => by simp⟩
      by_cases q : z.1 = z.2 <;> simp [q])]
    rw [List.map_map]; rfl
  simp only [Rr.start, ess_cons, es_ret, ev_bi, ev_cons, ev_nil]
  show ((((evE G _ [some (tupI a), some (tupI b), none, none]).bind fun x => R.ok [x]).bind fun xs => biD .len xs).go fun d => Q.rt d).go _ = _
  rw [e]
  simp only [R.bind_ok, len_list, R.go_ok, List.length_map]
  rfl
theorem gap_diff {a b : List Int} (h : a.length = b.length) : ((List.range a.length).filter fun i => !decide (nthI a i = nthI b i)).length = diffN a b := by
  have e : List.zip a b = (List.range a.length).map fun i => (nthI a i, nthI b i) := by
    refine List.ext_getElem (by simp; omega) fun i h1 h2 => ?_
    have hi : i < a.length := by simp at h1; omega
    simp only [List.getElem_zip, List.getElem_map, List.getElem_range]
    rw [nthI_get hi, nthI_get (by omega)]
  unfold diffN
  rw [e, List.filter_map, List.length_map]
  rfl
def Sp__law_gap (g : List D → R D) : Prop := ∀ a b, a.length ≤ 1000 → a.length = b.length → g [tupI a, tupI b] = .ok (.int (diffN a b))
theorem run__law_gap : Sp__law_gap (runD G N d__law_gap) := by
  intro a b hl hab
  refine run_rt rfl ?_
  dsimp only [d__law_gap]
  have e : evE G (.lc (.one 2) (.rng (.bi .len (.cons (.var 0) .nil))) (.cons (.cmp .ne (.sub (.var 0) (.var 2)) (.sub (.var 1) (.var 2))) .nil) (.var 2)) [some (tupI a), some (tupI b), none] = .ok (natL ((List.range a.length).filter fun i => !decide (nthI a i = nthI b i))) := by
    rw [lc_one natD natD (List.range a.length) (fun i => !decide (nthI a i = nthI b i)) (fun i => i) (by simp (disch := omega) [rng0]) (by simp; omega) (fun i hi => by
      have hi := List.mem_range.mp hi
      refine ⟨?_, fun _ => by simp⟩
      simp (disch := omega) [natD, sub_tupI]
      by_cases q : nthI a i = nthI b i <;> simp [q])]
    rw [List.map_id']; rfl
  simp only [Rr.start, ess_cons, es_ret, ev_bi, ev_cons, ev_nil]
  show ((((evE G _ [some (tupI a), some (tupI b), none]).bind fun x => R.ok [x]).bind fun xs => biD .len xs).go fun d => Q.rt d).go _ = _
  rw [e]
  simp only [R.bind_ok, len_natL, R.go_ok, gap_diff hab]
  rfl
/-- the least number of places, and the rows -/
def NearV (p : Nat) (row : List Int) (L m : Nat) : Prop := IsMin ((shortN p row.length L).map (diffN row)) m
noncomputable def nearD (p : Nat) (row : List Int) (L m : Nat) : D := .tuple [.int m, rowsL ((shortN p row.length L).filter fun x => decide (diffN row x = m))]
structure Sp_nearest_rows (g : List D → R D) : Prop where
  many : ∀ (p : Nat) row (L : Nat), prm p → fld p row → row.length ≤ 24 → L ≤ 24 → 700 < p ^ (2 * L) → g [.int p, tupI row, .int L] = .ex "TooMany" none
  ok : ∀ (p : Nat) row (L : Nat), prm p → fld p row → row.length ≤ 24 → p ^ (2 * L) ≤ 700 → ∃ v, g [.int p, tupI row, .int L] = .ok v ∧ ∃ m, v = nearD p row L m ∧ NearV p row L m
theorem pow2 (p L : Nat) (hp : p ≤ 7) (hL : L ≤ 24) {g : List D → R D} (s : Sp_power g) : g [.int p, .int (2 * (L : Int))] = .ok (.int (p ^ (2 * L) : Nat)) := by
  have := s p (2 * L) hp (by omega)
  rw [← this]
  congr 3
theorem run_nearest_rows {g1 g2 g3 g4 g5 : List D → R D} (h1 : G.fn "check_row" = some g1) (s1 : Sp_check_row g1) (h2 : G.fn "check_length" = some g2) (s2 : Sp_check_length g2) (h3 : G.fn "power" = some g3) (s3 : Sp_power g3)
    (h4 : G.fn "short_rows" = some g4) (s4 : Sp_short_rows g4) (h5 : G.fn "differences" = some g5) (s5 : Sp_differences g5) (h6 : G.gl "MAX_ROW" = some (.int 24)) (h7 : G.gl "MAX_TRIED" = some (.int 700)) : Sp_nearest_rows (runD G N d_nearest_rows) := by
  constructor
  · intro p row L hp hf hl hL hm
    have inr : inR 0 24 (.int L) = true := by simp [inR]; omega
    have hpl := hp.le
    have e3 := pow2 p L (by omega) hL s3
    have hm' : (700 : Int) < ((p ^ (2 * L) : Nat) : Int) := by omega
    generalize p ^ (2 * L) = pw at e3 hm'
    simp (disch := omega) [runD, Rr.start, d_nearest_rows, ev_call _ _ h1, ev_call _ _ h2, ev_call _ _ h3, s1.2 p (tupI row) hp (by simp), okN_of hf hl, s2 (.int L) 24 rfl, inr, h6, op_muli, e3, h7, hm', Q.out]
  · intro p row L hp hf hl hm
    have hpl := hp.le
    have hpg := hp.ge
    obtain ⟨hL4, hpL⟩ := pow_L (L := L) (by omega) (show p ^ (2 * L) ≤ 1000 by omega)
    have inr : inR 0 24 (.int L) = true := by simp [inR]; omega
    have e3 := pow2 p L (by omega) (by omega) s3
    have e4 := s4 p row.length L hp hl (by omega)
    have hcount : (shortN p row.length L).length ≤ 1000000 := by have := short_count (n := row.length) (L := L) hp; omega
    have hm' : ¬ (700 : Int) < ((p ^ (2 * L) : Nat) : Int) := by omega
    generalize p ^ (2 * L) = pw at e3 hm'
    refine run_rtE rfl ?_
    dsimp only [d_nearest_rows]
    refine seq_nxE (by simp [Rr.start, ev_call _ _ h1, s1.2 p (tupI row) hp (by simp), okN_of hf hl]; rfl) ?_
    refine seq_nxE (by simp [ev_call _ _ h2, s2 (.int L) 24 rfl, inr, h6]; rfl) ?_
    refine seq_nxE (by simp (disch := omega) [ev_call _ _ h3, op_muli, e3, h7, hm']; rfl) ?_
    refine seq_nxE (by simp [ev_call _ _ h4, e4]; rfl) ?_
    obtain ⟨m, hmin⟩ := IsMin.ex (l := (shortN p row.length L).map (diffN row)) (fun e => by
      have := short_zero (n := row.length) (L := L) hp
      rw [List.map_eq_nil_iff] at e
      rw [e] at this; cases this)
    refine seq_asgE (.int m) (by
      rw [ev_bi, ev_cons, lc_map tupI natD (shortN p row.length L) (diffN row) (by simp [rowsL]) hcount (fun x hx => by
        have := s5 row x (by omega)
        simp [ev_call _ _ h5, this, natD])]
      have := min_natL hmin
      simp only [R.bind_ok, ev_nil]
      exact this) ?_
    refine ⟨_, by
      simp only [ess_cons, es_ret, ev_tup, ev_cons, ev_nil, ev_var, List.set_cons_zero, List.set_cons_succ, getV_zero, getV_succ, R.bind_ok]
      rw [lc_one tupI tupI (shortN p row.length L) (fun x => decide (diffN row x = m)) (fun x => x) (by simp [rowsL]) hcount (fun x hx => by
        refine ⟨?_, fun _ => by simp⟩
        have := s5 row x (by omega)
        simp [ev_call _ _ h5, this]
        by_cases q : diffN row x = m
        · simp [q]
        · have q' : ¬ (diffN row x : Int) = m := by omega
          simp [q, q'])]
      rw [List.map_id']
      rfl, m, rfl, hmin⟩
def Sp__law_near (g : List D → R D) : Prop := ∀ (p : Nat) row (L : Nat), prm p → fld p row → row.length ≤ 24 → L ≤ 24 → 700 < p ^ (2 * L) → g [.int p, tupI row, .int L] = .ok (.str "many")
theorem run__law_near {g1 : List D → R D} (h1 : G.fn "nearest_rows" = some g1) (s1 : Sp_nearest_rows g1) (hE : clsB G ["TooMany", "InvalidLength"] = true) : Sp__law_near (runD G N d__law_near) := by
  simp [clsB] at hE
  intro p row L hp hf hl hL hm
  simp [runD, start, d__law_near, es_trh, ev_call _ _ h1, s1.many p row L hp hf hl hL hm, hdQ, hE, Q.out]
end Rr

set_option linter.all false
set_option Elab.async false
set_option maxRecDepth 100000
set_option maxHeartbeats 4000000
/-! Contracts: the numbers that may follow; the text of a row; who checks primes and rows. -/
namespace Rr
open PySem
variable {N : Nat} {G : Env}
noncomputable def nextN (p : Nat) (row : List Int) : List Nat := (List.range p).filter fun x => decide (lenI p [row ++ [(x : Int)]] = lenI p [row])
structure Sp_next_numbers (g : List D → R D) : Prop where
  bad : BadP 1 g
  row : ∀ p w, prm p → ndT w = true → okN p w = false → g [.int p, w] = .ex "InvalidRow" none
  full : ∀ p row, prm p → fld p row → row.length = 24 → g [.int p, tupI row] = .ex "InvalidRow" none
  ok : ∀ (p : Nat) row, prm p → fld p row → row.length ≤ 23 → g [.int p, tupI row] = .ok (natL (nextN p row))
theorem run_next_numbers {g1 g2 : List D → R D} (h1 : G.fn "check_row" = some g1) (s1 : Sp_check_row g1) (h2 : G.fn "least_length" = some g2) (s2 : Sp_least_length g2) (h3 : G.gl "MAX_ROW" = some (.int 24)) : Sp_next_numbers (runD G N d_next_numbers) := by
  constructor
  · intro v r hr hv hb
    match r, hr with
    | [a], _ => simp [runD, Rr.start, d_next_numbers, ev_call _ _ h1, s1.1 v [a] rfl hv hb, Q.out]
  · intro p w hp hw ho
    simp [runD, Rr.start, d_next_numbers, ev_call _ _ h1, s1.2 p w hp hw, ho, Q.out]
  · intro p row hp hf hl
    have hl' : (row.length : Int) = 24 := by omega
    simp [runD, Rr.start, d_next_numbers, ev_call _ _ h1, s1.2 p (tupI row) hp (by simp), okN_of hf (show row.length ≤ 24 by omega), h3, hl', Q.out]
  · intro p row hp hf hl
    have hl' : ¬ (row.length : Int) = 24 := by omega
    have hpp := hp.pos
    have hpl := hp.le
    have e2 := s2 p [row] (rowsL [row]) hp (.one hf (by omega)) (.inl rfl)
    refine run_rt rfl ?_
    dsimp only [d_next_numbers]
    refine seq_nx (by simp [Rr.start, ev_call _ _ h1, s1.2 p (tupI row) hp (by simp), okN_of hf (show row.length ≤ 24 by omega)]; rfl) ?_
    refine seq_nx (by simp [h3, hl']; rfl) ?_
    refine seq_nx (by simp [ev_call _ _ h2, rowsL_one, e2]; rfl) ?_
    rw [ess_cons, es_ret, lc_one natD natD (List.range p) (fun x => decide (lenI p [row ++ [(x : Int)]] = lenI p [row])) (fun x => x) (by simp (disch := omega) [rng0]) (by simp; omega) (fun x hx => by
      have hx := List.mem_range.mp hx
      refine ⟨?_, fun _ => by simp⟩
      have e3 := s2 p [row ++ [(x : Int)]] (rowsL [row ++ [(x : Int)]]) hp (.one (fld_append hf fun k hk => by rw [List.mem_singleton.mp hk]; omega) (by simp; omega)) (.inl rfl)
      have e4 : opD .add (tupI row) (.tuple [.int (x : Int)]) = .ok (tupI (row ++ [(x : Int)])) := by rw [show PyData.tuple [.int (x : Int)] = tupI [(x : Int)] from rfl, add_tupI (by simp; omega)]
      simp [ev_call _ _ h2, natD, e4, rowsL_one, e3]
      by_cases q : lenI p [row ++ [(x : Int)]] = lenI p [row]
      · simp [q]
      · have q' : ¬ (lenI p [row ++ [(x : Int)]] : Int) = lenI p [row] := by omega
        simp [q, q'])]
    rw [List.map_id']
    rfl
/-! ### the text of a row -/
theorem ev_fst (s : S) (a b : Str) (e : Ex) : evE G (.fst a e b) s = (evE G e s).bind fun x => match x with
    | .int i => if 0 ≤ i ∧ i < 1000000 ∧ (Str.empty ++ a).length ≤ LIM ∧ (Str.empty ++ a ++ toString i).length ≤ LIM ∧ (Str.empty ++ a ++ toString i ++ b).length ≤ LIM then .ok (.str (Str.empty ++ a ++ toString i ++ b)) else .bad
    | _ => .bad := by rw [evE] <;> rfl
/-- mod p: -/
def headS (p : Int) : Str := Str.empty ++ ("mod " : Str) ++ toString p ++ (":" : Str)
theorem headS_ok {p : Int} (hp : prm p) : (Str.empty ++ ("mod " : Str)).length ≤ 1000 ∧ (Str.empty ++ ("mod " : Str) ++ toString p).length ≤ 1000 ∧ (headS p).length ≤ 1000 := by
  rcases hp with rfl | rfl | rfl | rfl <;> exact ⟨by decide +kernel, by decide +kernel, by decide +kernel⟩
theorem dig_ok {k : Int} (h0 : 0 ≤ k) (h1 : k < 7) : (toString k : Str).length ≤ 1000 := by
  have : k = 0 ∨ k = 1 ∨ k = 2 ∨ k = 3 ∨ k = 4 ∨ k = 5 ∨ k = 6 := by omega
  rcases this with rfl | rfl | rfl | rfl | rfl | rfl | rfl <;> decide +kernel
theorem strsOf_map : ∀ l : List Str, strsOf (l.map .str) = some l
  | [] => rfl
  | x :: l => by
    rw [List.map_cons]
    simp only [strsOf, strsOf_map l, Option.map_some]
def textOf (p : Int) (row : List Int) : Str := Str.join (" " : Str) (headS p :: row.map fun k => toString k)
structure Sp_format_row (g : List D → R D) : Prop where
  bad : BadP 1 g
  row : ∀ p w, prm p → ndT w = true → okN p w = false → g [.int p, w] = .ex "InvalidRow" none
  ok : ∀ p row, prm p → fld p row → row.length ≤ 24 → g [.int p, tupI row] = .ok (.str (textOf p row))
theorem run_format_row {g1 : List D → R D} (h1 : G.fn "check_row" = some g1) (s1 : Sp_check_row g1) : Sp_format_row (runD G N d_format_row) := by
  constructor
  · intro v r hr hv hb
    match r, hr with
    | [a], _ => simp [runD, Rr.start, d_format_row, ev_call _ _ h1, s1.1 v [a] rfl hv hb, Q.out]
  · intro p w hp hw ho
    simp [runD, Rr.start, d_format_row, ev_call _ _ h1, s1.2 p w hp hw, ho, Q.out]
  · intro p row hp hf hl
    have hpp := hp.pos
    have hpl := hp.le
    obtain ⟨q1, q2, q3⟩ := headS_ok hp
    refine run_rt rfl ?_
    dsimp only [d_format_row]
    refine seq_nx (by simp [Rr.start, ev_call _ _ h1, s1.2 p (tupI row) hp (by simp), okN_of hf hl]; rfl) ?_
    have ef : evE G (.fst "mod " (.var 0) ":") [some (.int p), some (tupI row), none] = .ok (.str (headS p)) := by
      rw [ev_fst, ev_var, getV_zero, R.bind_ok]
      exact if_pos ⟨by omega, by omega, Nat.le_trans q1 (by decide), Nat.le_trans q2 (by decide), Nat.le_trans q3 (by decide)⟩
    have el : evE G (.lc (.one 2) (.seq (.var 1)) .nil (.bi .str (.cons (.var 2) .nil))) [some (.int p), some (tupI row), none] = .ok (.list ((row.map fun k => (toString k : Str)).map .str)) := by
      rw [lc_map PyData.int PyData.str row (fun k => (toString k : Str)) (by simp) (by omega) (fun k hk => by
        have hb := hf k hk
        simp only [List.set_cons_zero, List.set_cons_succ, ev_bi, ev_cons, ev_nil, ev_var, getV_zero, getV_succ, R.bind_ok]
        exact if_pos (by omega))]
    have ea : opD .add (.list [.str (headS p)]) (.list ((row.map fun k => (toString k : Str)).map .str)) = .ok (.list ((headS p :: row.map fun k => (toString k : Str)).map .str)) := by
      show (if [PyData.str (headS p)].length + ((row.map fun k => (toString k : Str)).map PyData.str).length ≤ LIM then R.ok (PyData.list ([PyData.str (headS p)] ++ (row.map fun k => (toString k : Str)).map .str)) else .bad) = _
      rw [if_pos (by simp [LIM]; omega)]
      rfl
    have ej : mtD .join (.str (" " : Str)) (.list ((headS p :: row.map fun k => (toString k : Str)).map .str)) = .ok (.str (textOf p row)) := by
      show (match strsOf ((headS p :: row.map fun k => (toString k : Str)).map .str) with
        | some xs => if xs.length ≤ 1000 ∧ (" " : Str).length ≤ 10 ∧ xs.all (fun x => decide (x.length ≤ 1000)) then R.ok (PyData.str (Str.join (" " : Str) xs)) else .bad
        | none => .bad) = _
      rw [strsOf_map]
      refine if_pos ⟨by simp; omega, by decide +kernel, ?_⟩
      rw [List.all_eq_true]
      intro x hx
      rcases List.mem_cons.mp hx with rfl | hx
      · exact decide_eq_true q3
      · obtain ⟨k, hk, rfl⟩ := List.mem_map.mp hx
        have hb := hf k hk
        exact decide_eq_true (dig_ok hb.1 (by omega))
    simp only [ess_cons, es_ret, ev_mt, ev_cst, ev_bin, ev_lst, ev_cons, ev_nil, ef, el, R.bind_ok, R.calm_ok, ea, ej, R.go_ok]
    rfl
/-! ### who checks -/
structure Sp__law_asked (g : List D → R D) : Prop where
  prime : ∀ (m : Nat) v w, m < 9 → nd v = true → isPr v = false → g [.int m, v, w] = .ok (.str "prime")
  row : ∀ (m : Nat) p w, m < 9 → prm p → ndT w = true → okN p w = false → g [.int m, .int p, w] = .ok (.str "row")
  full : ∀ p row, prm p → fld p row → row.length = 24 → g [.int 3, .int p, tupI row] = .ok (.str "row")
  none : ∀ (m p : Nat) row, m < 9 → prm p → fld p row → row.length ≤ 20 → g [.int m, .int p, tupI row] = .ok (.str "none")
theorem nine {m : Nat} (h : m < 9) : m = 0 ∨ m = 1 ∨ m = 2 ∨ m = 3 ∨ m = 4 ∨ m = 5 ∨ m = 6 ∨ m = 7 ∨ m = 8 := by omega
theorem run__law_asked {g1 g2 g3 g4 g5 g6 g7 g8 g9 : List D → R D} (h1 : G.fn "makes" = some g1) (s1 : Sp_makes g1) (h2 : G.fn "length_of" = some g2) (s2 : Sp_length_of g2) (h3 : G.fn "profile" = some g3) (s3 : Sp_profile g3) (h4 : G.fn "next_numbers" = some g4) (s4 : Sp_next_numbers g4)
    (h5 : G.fn "add" = some g5) (s5 : Sp_add g5) (h6 : G.fn "suspects" = some g6) (s6 : Sp_suspects g6) (h7 : G.fn "longest_ending" = some g7) (s7 : Sp_longest_ending g7) (h8 : G.fn "format_row" = some g8) (s8 : Sp_format_row g8) (h9 : G.fn "common_rule" = some g9) (s9 : Sp_common_rule g9)
    (hE : clsB G ["InvalidPrime", "InvalidRow"] = true) : Sp__law_asked (runD G N d__law_asked) := by
  simp [clsB] at hE
  constructor
  · intro m v w hm hv hb
    rcases nine hm with rfl | rfl | rfl | rfl | rfl | rfl | rfl | rfl | rfl
    · simp [runD, start, d__law_asked, es_trh, ev_call _ _ h1, s1.1 v [.tuple [], w] rfl hv hb, hdQ, hE, Q.out]
    · simp [runD, start, d__law_asked, es_trh, ev_call _ _ h2, s2.bad v [w] rfl hv hb, hdQ, hE, Q.out]
    · simp [runD, start, d__law_asked, es_trh, ev_call _ _ h3, s3.bad v [w] rfl hv hb, hdQ, hE, Q.out]
    · simp [runD, start, d__law_asked, es_trh, ev_call _ _ h4, s4.bad v [w] rfl hv hb, hdQ, hE, Q.out]
    · simp [runD, start, d__law_asked, es_trh, ev_call _ _ h5, s5.bad v [w, w] rfl hv hb, hdQ, hE, Q.out]
    · simp [runD, start, d__law_asked, es_trh, ev_call _ _ h6, s6.bad v [w, .int 1] rfl hv hb, hdQ, hE, Q.out]
    · simp [runD, start, d__law_asked, es_trh, ev_call _ _ h7, s7.bad v [w, .int 1] rfl hv hb, hdQ, hE, Q.out]
    · simp [runD, start, d__law_asked, es_trh, ev_call _ _ h8, s8.bad v [w] rfl hv hb, hdQ, hE, Q.out]
    · simp [runD, start, d__law_asked, es_trh, ev_call _ _ h9, s9.bad v [.tuple [w]] rfl hv hb, hdQ, hE, Q.out]
  · intro m p w hm hp hw ho
    have hbad : RowsBad p (.tuple [w]) := ⟨rfl, fun l e => by
      cases e
      exact ⟨fun x hx => by rw [List.mem_singleton.mp hx]; exact hw, .inr (.inr ⟨w, by simp, ho⟩)⟩⟩
    rcases nine hm with rfl | rfl | rfl | rfl | rfl | rfl | rfl | rfl | rfl
    · simp [runD, start, d__law_asked, es_trh, ev_call _ _ h1, s1.2 p (.tuple []) w hp rfl hw, ho, hdQ, hE, Q.out]
    · simp [runD, start, d__law_asked, es_trh, ev_call _ _ h2, s2.row p w hp hw ho, hdQ, hE, Q.out]
    · simp [runD, start, d__law_asked, es_trh, ev_call _ _ h3, s3.row p w hp hw ho, hdQ, hE, Q.out]
    · simp [runD, start, d__law_asked, es_trh, ev_call _ _ h4, s4.row p w hp hw ho, hdQ, hE, Q.out]
    · simp [runD, start, d__law_asked, es_trh, ev_call _ _ h5, s5.one p w w hp hw ho, hdQ, hE, Q.out]
    · simp [runD, start, d__law_asked, es_trh, ev_call _ _ h6, s6.row p w (.int 1) hp hw ho, hdQ, hE, Q.out]
    · simp [runD, start, d__law_asked, es_trh, ev_call _ _ h7, s7.row p w (.int 1) hp hw ho, hdQ, hE, Q.out]
    · simp [runD, start, d__law_asked, es_trh, ev_call _ _ h8, s8.row p w hp hw ho, hdQ, hE, Q.out]
    · simp [runD, start, d__law_asked, es_trh, ev_call _ _ h9, s9.no p (.tuple [w]) hp hbad, hdQ, hE, Q.out]
  · intro p row hp hf hl
    simp [runD, start, d__law_asked, es_trh, ev_call _ _ h4, s4.full p row hp hf hl, hdQ, hE, Q.out]
  · intro m p row hm hp hf hl
    have e1 := s1.ok (rule := []) hp (fun k hk => by cases hk) hf (by simp) (show row.length ≤ 24 by omega)
    have e1 : g1 [.int p, .tuple [], tupI row] = _ := e1
    have e2 := s2.ok p row hp hf (by omega)
    have e3 := s3.ok p row hp hf (by omega)
    have e4 := s4.ok p row hp hf (by omega)
    have e5 := s5.ok p row row hp hf (by omega) hf rfl
    have e6 := s6.ok p row 1 hp hf (by omega) (by omega)
    have e6 : g6 [.int p, tupI row, .int 1] = _ := e6
    obtain ⟨v7, e7, _⟩ := s7.ok p row 1 hp hf (by omega) (by omega)
    have e7 : g7 [.int p, tupI row, .int 1] = _ := e7
    have e8 := s8.ok p row hp hf (by omega)
    obtain ⟨v9, e9, _⟩ := s9.ok p [row] hp (fun r hr => by rw [List.mem_singleton.mp hr]; exact ⟨hf, by omega⟩) (by simp) (by simp)
    have e9 : g9 [.int p, .tuple [tupI row]] = _ := e9
    rcases nine hm with rfl | rfl | rfl | rfl | rfl | rfl | rfl | rfl | rfl
    · simp [runD, start, d__law_asked, es_trh, ev_call _ _ h1, e1, hdQ, hE, Q.out]
    · simp [runD, start, d__law_asked, es_trh, ev_call _ _ h2, e2, hdQ, hE, Q.out]
    · simp [runD, start, d__law_asked, es_trh, ev_call _ _ h3, e3, hdQ, hE, Q.out]
    · simp [runD, start, d__law_asked, es_trh, ev_call _ _ h4, e4, hdQ, hE, Q.out]
    · simp [runD, start, d__law_asked, es_trh, ev_call _ _ h5, e5, hdQ, hE, Q.out]
    · simp [runD, start, d__law_asked, es_trh, ev_call _ _ h6, e6, hdQ, hE, Q.out]
    · simp [runD, start, d__law_asked, es_trh, ev_call _ _ h7, e7, hdQ, hE, Q.out]
    · simp [runD, start, d__law_asked, es_trh, ev_call _ _ h8, e8, hdQ, hE, Q.out]
    · simp [runD, start, d__law_asked, es_trh, ev_call _ _ h9, e9, hdQ, hE, Q.out]
end Rr

namespace Rr
def d_law : Def := ⟨["script", "draws", "length", "due", "prime", "row", "number"], 1,
    (.cons (.asg 1 (.call "_law_row" (.cons (.var 0) (.cons (.cst (.int 4)) .nil))))
    (.cons (.unp [4, 5] (.call "_law_case" (.cons (.var 0) (.cons (.cst (.int 2)) (.cons (.cst (.int 4)) (.cons (.cst (.int 12)) .nil))))))
    (.cons (.asg 2 (.call "_law_length" (.cons (.var 4) (.cons (.var 5) .nil))))
    (.cons (.asg 3 (.lc (.one 6) (.rng (.var 4)) (.cons (.cmp .eq (.call "_law_length" (.cons (.var 4) (.cons (.bin .add (.var 5) (.tup (.cons (.var 6) .nil))) .nil))) (.var 2)) .nil) (.var 6)))
    (.cons (.iff (.or (.cmp .ne (.call "next_numbers" (.cons (.var 4) (.cons (.var 5) .nil))) (.var 3)) (.cmp .ne (.bi .len (.cons (.var 3) .nil)) (.ite (.cmp .le (.bin .mul (.cst (.int 2)) (.var 2)) (.bi .len (.cons (.var 5) .nil))) (.cst (.int 1)) (.var 4))))
    (.cons (.ret (.cst (.bool false)))
    .nil)
    .nil)
    (.cons (.ret (.and (.cmp .eq (.call "_law_asked" (.cons (.cst (.int 3)) (.cons (.var 4) (.cons (.bin .mul (.tup (.cons (.bin .mod (.sub (.var 1) (.cst (.int 0))) (.var 4)) .nil)) (.cst (.int 24))) .nil)))) (.cst (.str "row"))) (.cmp .eq (.call "next_numbers" (.cons (.var 4) (.cons (.bin .mul (.tup (.cons (.cst (.int 0)) .nil)) (.cst (.int 23))) .nil))) (.lst (.cons (.cst (.int 0)) .nil)))))
    .nil))))))⟩
end Rr

set_option linter.all false
set_option Elab.async false
set_option maxRecDepth 100000
set_option maxHeartbeats 4000000
namespace Rr
open PySem
variable {N : Nat} {G : Env}
theorem next_len {p : Nat} {row : List Int} (hp : prm p) (hf : fld p row) : (nextN p row).length = if 2 * lenI p [row] ≤ row.length then 1 else p := by
  obtain ⟨k1, k2⟩ := next_keep hp hf
  unfold nextN
  have hpp := hp.pos
  have hpg := hp.ge
  by_cases q : 2 * lenI p [row] ≤ row.length
  · rw [if_pos q]
    obtain ⟨x0, ⟨h0, h1⟩, hx⟩ := k2 q
    obtain ⟨y, rfl⟩ := nat_of h0
    have hy : y < p := by omega
    rw [List.filter_congr (q := fun x => decide (x = y)) (fun x hx' => by
      have hx'' := List.mem_range.mp hx'
      have e := hx x (by omega) (by omega)
      rw [Bool.eq_iff_iff, decide_eq_true_eq, decide_eq_true_eq, e]
      by_cases qq : x = y
      · simp [qq]
      · have : ¬ ((x : Int) = y) := by omega
        rw [if_neg this]
        have hle : lenI p [row] ≤ row.length := lenI_le hpp (by simp)
        constructor
        · intro h; omega
        · intro h; exact absurd h qq), ← List.countP_eq_length_filter, countP_one hy]
  · rw [if_neg q, List.filter_eq_self.mpr, List.length_range]
    intro x hx
    have hx := List.mem_range.mp hx
    exact decide_eq_true (k1 (by omega) x (by omega) (by omega))
theorem next_zero {p : Nat} (hp : prm p) : nextN p (List.replicate 23 0) = [0] := by
  have hz : ∀ n, lenI p [List.replicate n 0] = 0 := fun n => len_zero hp fun x hx => List.eq_of_mem_replicate hx
  have hl := next_len hp (fld_rep hp.pos 23)
  rw [hz 23, if_pos (by simp)] at hl
  have hm : (0 : Nat) ∈ nextN p (List.replicate 23 0) := by
    unfold nextN
    refine List.mem_filter.mpr ⟨List.mem_range.mpr (by have := hp.pos; omega), ?_⟩
    have : List.replicate 23 (0 : Int) ++ [((0 : Nat) : Int)] = List.replicate 24 0 := by rfl
    rw [this, hz, hz]
    rfl
  match h : nextN p (List.replicate 23 0), hl, hm with
  | [x], _, hm => rw [List.mem_singleton.mp hm]
theorem run_law {g1 g2 g3 g4 g5 : List D → R D} (h1 : G.fn "_law_row" = some g1) (s1 : Sp__law_row g1) (h2 : G.fn "_law_case" = some g2) (s2 : Sp__law_case g2) (h3 : G.fn "_law_length" = some g3) (s3 : Sp__law_length g3)
    (h4 : G.fn "next_numbers" = some g4) (s4 : Sp_next_numbers g4) (h5 : G.fn "_law_asked" = some g5) (s5 : Sp__law_asked g5) (ns : List Int) (hl : ns.length ≤ 63) : runD G N d_law [scrD ns] = .ok (.bool true) := by
  obtain ⟨_, e1, ds, rfl, hd⟩ := s1 ns 4 (by omega) (by omega)
  obtain ⟨_, e2, p', row, rfl, hp', hf', hlr⟩ := s2 ns 2 4 12 (by omega) (by omega) (by omega) (by omega)
  have e2 : g2 [scrD ns, .int 2, .int 4, .int 12] = _ := e2
  obtain ⟨p, rfl⟩ : ∃ p : Nat, p' = p := nat_of (by have := hp'.pos; omega)
  have hp := hp'
  have hf := hf'
  have hl60 := hd.1
  have hpp := hp.pos
  have hpl := hp.le
  refine run_rt rfl ?_
  dsimp only [d_law]
  refine seq_nx (by simp [Rr.start, ev_call _ _ h1, e1]; rfl) ?_
  refine seq_nx (by simp [ev_call _ _ h2, e2, unpL]; rfl) ?_
  have e3 := s3 p row hp hf (by omega)
  refine seq_nx (by simp [ev_call _ _ h3, e3]; rfl) ?_
  refine seq_asg (natL (nextN p row)) (by
    rw [lc_one natD natD (List.range p) (fun x => decide (lenI p [row ++ [(x : Int)]] = lenI p [row])) (fun x => x) (by simp (disch := omega) [rng0]) (by simp; omega) (fun x hx => by
      have hx := List.mem_range.mp hx
      refine ⟨?_, fun _ => by simp⟩
      have e5 := s3 p (row ++ [(x : Int)]) hp (fld_append hf fun k hk => by rw [List.mem_singleton.mp hk]; omega) (by simp; omega)
      have e4 : opD .add (tupI row) (.tuple [.int (x : Int)]) = .ok (tupI (row ++ [(x : Int)])) := by rw [show PyData.tuple [.int (x : Int)] = tupI [(x : Int)] from rfl, add_tupI (by simp; omega)]
      simp [ev_call _ _ h3, natD, e4, e5]
      by_cases q : lenI p [row ++ [(x : Int)]] = lenI p [row]
      · simp [q]
      · have q' : ¬ (lenI p [row ++ [(x : Int)]] : Int) = lenI p [row] := by omega
        simp [q, q'])]
    rw [List.map_id']; rfl) ?_
  have e6 := s4.ok p row hp hf (by omega)
  have hlen := next_len hp hf
  have hself : cpD .ne (natL (nextN p row)) (natL (nextN p row)) = .ok false := by rw [cp_ne_natL]; simp
  refine seq_nx (by
    simp only [es_iff, ev_or, ev_cmp, ev_call _ _ h4, ev_cons, ev_nil, ev_var, List.set_cons_zero, List.set_cons_succ, getV_zero, getV_succ, R.bind_ok, e6, hself]
    by_cases q : 2 * lenI p [row] ≤ row.length
    · rw [if_pos q] at hlen
      have q' : (2 : Int) * (lenI p [row] : Nat) ≤ row.length := by omega
      simp (disch := omega) [op_muli, q', hlen] <;> rfl
    · rw [if_neg q] at hlen
      have q' : ¬ (2 : Int) * (lenI p [row] : Nat) ≤ row.length := by omega
      simp (disch := omega) [op_muli, q', hlen] <;> rfl) ?_
  have hx0 : 0 ≤ nthI ds 0 % p ∧ nthI ds 0 % p < p := ⟨Int.emod_nonneg _ (by omega), Int.emod_lt_of_pos _ hpp⟩
  have e7 := s5.full p (List.replicate 24 (nthI ds 0 % p)) hp (fun k hk => by rw [List.eq_of_mem_replicate hk]; exact hx0) (by simp)
  have e8 := s4.ok p (List.replicate 23 0) hp (fld_rep hpp 23) (by simp)
  rw [next_zero hp] at e8
  have m1 : opD .mul (.tuple [.int (nthI ds 0 % p)]) (.int 24) = .ok (tupI (List.replicate 24 (nthI ds 0 % p))) := mul_t1 (by omega) (by omega)
  have m2 : opD .mul (.tuple [.int 0]) (.int 23) = .ok (tupI (List.replicate 23 0)) := mul_t1 (by omega) (by omega)
  generalize List.replicate 24 (nthI ds 0 % (p : Int)) = r24 at m1 e7
  generalize List.replicate 23 (0 : Int) = r23 at m2 e8
  have e9 : cpD .eq (natL [0]) (.list [.int 0]) = .ok true := by
    rw [show PyData.list [.int 0] = natL [0] from rfl, cp_eq_natL]; rfl
  simp (disch := omega) [ev_call _ _ h5, ev_call _ _ h4, sub_lstI, op_modi, m1, m2, e7, e8, e9, cp_eqs (show PyData.strOk "row" = true by decide +kernel)]
end Rr

set_option maxRecDepth 100000
set_option maxHeartbeats 4000000
namespace Rr
open PySem PySem.Spec PyProof.Rows L2
def csK : List Str := ["RuleError", "InvalidPrime", "InvalidRow", "InvalidRule", "InvalidLength"]
def subK (c d : Str) : Bool := decide ((c, d) ∈ ([("RuleError", "RuleError"), ("InvalidPrime", "RuleError"), ("InvalidPrime", "InvalidPrime"), ("InvalidRow", "RuleError"), ("InvalidRow", "InvalidRow"), ("InvalidRule", "RuleError"), ("InvalidRule", "InvalidRule"), ("InvalidLength", "RuleError"), ("InvalidLength", "InvalidLength")] : List (Str × Str)))
def glK : List (Str × D) := [("PRIMES", (ktD [2, 3, 5, 7])), ("MAX_ROW", (.int 24)), ("MAX_ROWS", (.int 3))]
def stK (i : Nat) : Stmt := PySem.Challenge.pw_rowrepairs_k07_whole_next_numbers.main.body.getD i (.Pass ⟨0, 0, 0, 0⟩)
abbrev NN : Nat := 100000
def G_0 : Env := Env0 subK csK glK
def G__law_cell : Env := G_0.add "_law_cell" (runD G_0 NN d__law_cell)
def G__law_row : Env := G__law_cell.add "_law_row" (runD G__law_cell NN d__law_row)
def G__law_made : Env := G__law_row.add "_law_made" (runD G__law_row NN d__law_made)
def G__law_case : Env := G__law_made.add "_law_case" (runD G__law_made NN d__law_case)
def G__law_length : Env := G__law_case.add "_law_length" (runD G__law_case NN d__law_length)
def G_in_range : Env := G__law_length.add "in_range" (runD G__law_length NN d_in_range)
def G_check_prime : Env := G_in_range.add "check_prime" (runD G_in_range NN d_check_prime)
def G_are_numbers : Env := G_check_prime.add "are_numbers" (runD G_check_prime NN d_are_numbers)
def G_check_row : Env := G_are_numbers.add "check_row" (runD G_are_numbers NN d_check_row)
def G_inverse : Env := G_check_row.add "inverse" (runD G_check_row NN d_inverse)
def G_reduce_line : Env := G_inverse.add "reduce_line" (runD G_inverse NN d_reduce_line)
def G_solve : Env := G_reduce_line.add "solve" (runD G_reduce_line NN d_solve)
def G_equations_of : Env := G_solve.add "equations_of" (runD G_solve NN d_equations_of)
def G_attempt : Env := G_equations_of.add "attempt" (runD G_equations_of NN d_attempt)
def G_least_length : Env := G_attempt.add "least_length" (runD G_attempt NN d_least_length)
def G_next_numbers : Env := G_least_length.add "next_numbers" (runD G_least_length NN d_next_numbers)
def G_check_rule : Env := G_next_numbers.add "check_rule" (runD G_next_numbers NN d_check_rule)
def G_predicted : Env := G_check_rule.add "predicted" (runD G_check_rule NN d_predicted)
def G_fits : Env := G_predicted.add "fits" (runD G_predicted NN d_fits)
def G_makes : Env := G_fits.add "makes" (runD G_fits NN d_makes)
def G_length_of : Env := G_makes.add "length_of" (runD G_makes NN d_length_of)
def G_profile : Env := G_length_of.add "profile" (runD G_length_of NN d_profile)
def G_check_pair : Env := G_profile.add "check_pair" (runD G_profile NN d_check_pair)
def G_add : Env := G_check_pair.add "add" (runD G_check_pair NN d_add)
def G_check_length : Env := G_add.add "check_length" (runD G_add NN d_check_length)
def G_suspects : Env := G_check_length.add "suspects" (runD G_check_length NN d_suspects)
def G_longest_ending : Env := G_suspects.add "longest_ending" (runD G_suspects NN d_longest_ending)
def G_format_row : Env := G_longest_ending.add "format_row" (runD G_longest_ending NN d_format_row)
def G_check_rows : Env := G_format_row.add "check_rows" (runD G_format_row NN d_check_rows)
def G_common_rule : Env := G_check_rows.add "common_rule" (runD G_check_rows NN d_common_rule)
def G__law_asked : Env := G_common_rule.add "_law_asked" (runD G_common_rule NN d__law_asked)
theorem c__law_cell : Sp__law_cell (runD G_0 NN d__law_cell) := run__law_cell
theorem c__law_row : Sp__law_row (runD G__law_cell NN d__law_row) := run__law_row (by rfl) c__law_cell
theorem c__law_made : Sp__law_made (runD G__law_row NN d__law_made) := run__law_made (by decide)
theorem c__law_case : Sp__law_case (runD G__law_made NN d__law_case) := run__law_case (by rfl) c__law_row (by rfl) c__law_made
theorem c__law_length : Sp__law_length (runD G__law_case NN d__law_length) := run__law_length
theorem c_in_range : Sp_in_range (runD G__law_length NN d_in_range) := run_in_range
theorem c_check_prime : Sp_check_prime (runD G_in_range NN d_check_prime) := run_check_prime (by rfl) c_in_range (by rfl)
theorem c_are_numbers : Sp_are_numbers (runD G_check_prime NN d_are_numbers) := run_are_numbers (by rfl) c_in_range (by rfl)
theorem c_check_row : Sp_check_row (runD G_are_numbers NN d_check_row) := run_check_row (by rfl) c_check_prime (by rfl) c_are_numbers
theorem c_inverse : Sp_inverse (runD G_check_row NN d_inverse) := run_inverse
theorem c_reduce_line : Sp_reduce_line (runD G_inverse NN d_reduce_line) := run_reduce_line
theorem c_solve : Sp_solve (runD G_reduce_line NN d_solve) := run_solve (by rfl) c_inverse (by rfl) c_reduce_line
theorem c_equations_of : Sp_equations_of (runD G_solve NN d_equations_of) := run_equations_of
theorem c_attempt : Sp_attempt (runD G_equations_of NN d_attempt) := run_attempt (by rfl) c_equations_of (by rfl) c_solve
theorem c_least_length : Sp_least_length (runD G_attempt NN d_least_length) := run_least_length (by rfl) c_attempt (by decide)
theorem c_next_numbers : Sp_next_numbers (runD G_least_length NN d_next_numbers) := run_next_numbers (by rfl) c_check_row (by rfl) c_least_length (by rfl)
theorem c_check_rule : Sp_check_rule (runD G_next_numbers NN d_check_rule) := run_check_rule (by rfl) c_are_numbers
theorem c_predicted : Sp_predicted (runD G_check_rule NN d_predicted) := run_predicted
theorem c_fits : Sp_fits (runD G_predicted NN d_fits) := run_fits (by rfl) c_predicted
theorem c_makes : Sp_makes (runD G_fits NN d_makes) := run_makes (by rfl) c_check_row (by rfl) c_check_rule (by rfl) c_fits
theorem c_length_of : Sp_length_of (runD G_makes NN d_length_of) := run_length_of (by rfl) c_check_row (by rfl) c_least_length
theorem c_profile : Sp_profile (runD G_length_of NN d_profile) := run_profile (by rfl) c_check_row (by rfl) c_least_length
theorem c_check_pair : Sp_check_pair (runD G_profile NN d_check_pair) := run_check_pair (by rfl) c_check_row
theorem c_add : Sp_add (runD G_check_pair NN d_add) := run_add (by rfl) c_check_pair
theorem c_check_length : Sp_check_length (runD G_add NN d_check_length) := run_check_length (by rfl) c_in_range
theorem c_suspects : Sp_suspects (runD G_check_length NN d_suspects) := run_suspects (by rfl) c_check_row (by rfl) c_check_length (by rfl) c_least_length (by rfl)
theorem c_longest_ending : Sp_longest_ending (runD G_suspects NN d_longest_ending) := run_longest_ending (by rfl) c_check_row (by rfl) c_check_length (by rfl) c_least_length (by rfl) (by decide)
theorem c_format_row : Sp_format_row (runD G_longest_ending NN d_format_row) := run_format_row (by rfl) c_check_row
theorem c_check_rows : Sp_check_rows (runD G_format_row NN d_check_rows) := run_check_rows (by rfl) c_check_prime (by rfl) c_are_numbers (by rfl)
theorem c_common_rule : Sp_common_rule (runD G_check_rows NN d_common_rule) := run_common_rule (by rfl) c_check_rows (by rfl) c_attempt (by rfl) c_least_length
theorem c__law_asked : Sp__law_asked (runD G_common_rule NN d__law_asked) := run__law_asked (by rfl) c_makes (by rfl) c_length_of (by rfl) c_profile (by rfl) c_next_numbers (by rfl) c_add (by rfl) c_suspects (by rfl) c_longest_ending (by rfl) c_format_row (by rfl) c_common_rule (by decide +kernel)
theorem law_holds (ns : List Int) (hl : ns.length ≤ 63) : runD G__law_asked NN d_law [scrD ns] = .ok (.bool true) := run_law (by rfl) c__law_row (by rfl) c__law_case (by rfl) c__law_length (by rfl) c_next_numbers (by rfl) c__law_asked ns hl
theorem m__law_cell : defM [] [] (glK.map (·.1)) csK d__law_cell (stK 42) = true := by decide +kernel
theorem m__law_row : defM ["_law_cell"] [] (glK.map (·.1)) csK d__law_row (stK 43) = true := by decide +kernel
theorem m__law_made : defM ["_law_row", "_law_cell"] [] (glK.map (·.1)) csK d__law_made (stK 44) = true := by decide +kernel
theorem m__law_case : defM ["_law_made", "_law_row", "_law_cell"] [] (glK.map (·.1)) csK d__law_case (stK 46) = true := by decide +kernel
theorem m__law_length : defM ["_law_case", "_law_made", "_law_row", "_law_cell"] [] (glK.map (·.1)) csK d__law_length (stK 45) = true := by decide +kernel
theorem m_in_range : defM ["_law_length", "_law_case", "_law_made", "_law_row", "_law_cell"] [] (glK.map (·.1)) csK d_in_range (stK 13) = true := by decide +kernel
theorem m_check_prime : defM ["in_range", "_law_length", "_law_case", "_law_made", "_law_row", "_law_cell"] ["in_range"] (glK.map (·.1)) csK d_check_prime (stK 14) = true := by decide +kernel
theorem m_are_numbers : defM ["check_prime", "in_range", "_law_length", "_law_case", "_law_made", "_law_row", "_law_cell"] ["check_prime", "in_range"] (glK.map (·.1)) csK d_are_numbers (stK 15) = true := by decide +kernel
theorem m_check_row : defM ["are_numbers", "check_prime", "in_range", "_law_length", "_law_case", "_law_made", "_law_row", "_law_cell"] ["are_numbers", "check_prime", "in_range"] (glK.map (·.1)) csK d_check_row (stK 16) = true := by decide +kernel
theorem m_inverse : defM ["check_row", "are_numbers", "check_prime", "in_range", "_law_length", "_law_case", "_law_made", "_law_row", "_law_cell"] ["check_row", "are_numbers", "check_prime", "in_range"] (glK.map (·.1)) csK d_inverse (stK 7) = true := by decide +kernel
theorem m_reduce_line : defM ["inverse", "check_row", "are_numbers", "check_prime", "in_range", "_law_length", "_law_case", "_law_made", "_law_row", "_law_cell"] ["check_row", "are_numbers", "check_prime", "in_range"] (glK.map (·.1)) csK d_reduce_line (stK 8) = true := by decide +kernel
theorem m_solve : defM ["reduce_line", "inverse", "check_row", "are_numbers", "check_prime", "in_range", "_law_length", "_law_case", "_law_made", "_law_row", "_law_cell"] ["check_row", "are_numbers", "check_prime", "in_range"] (glK.map (·.1)) csK d_solve (stK 9) = true := by decide +kernel
theorem m_equations_of : defM ["solve", "reduce_line", "inverse", "check_row", "are_numbers", "check_prime", "in_range", "_law_length", "_law_case", "_law_made", "_law_row", "_law_cell"] ["check_row", "are_numbers", "check_prime", "in_range"] (glK.map (·.1)) csK d_equations_of (stK 24) = true := by decide +kernel
theorem m_attempt : defM ["equations_of", "solve", "reduce_line", "inverse", "check_row", "are_numbers", "check_prime", "in_range", "_law_length", "_law_case", "_law_made", "_law_row", "_law_cell"] ["check_row", "are_numbers", "check_prime", "in_range"] (glK.map (·.1)) csK d_attempt (stK 25) = true := by decide +kernel
theorem m_least_length : defM ["attempt", "equations_of", "solve", "reduce_line", "inverse", "check_row", "are_numbers", "check_prime", "in_range", "_law_length", "_law_case", "_law_made", "_law_row", "_law_cell"] ["check_row", "are_numbers", "check_prime", "in_range"] (glK.map (·.1)) csK d_least_length (stK 26) = true := by decide +kernel
theorem m_next_numbers : defM ["least_length", "attempt", "equations_of", "solve", "reduce_line", "inverse", "check_row", "are_numbers", "check_prime", "in_range", "_law_length", "_law_case", "_law_made", "_law_row", "_law_cell"] ["check_row", "are_numbers", "check_prime", "in_range"] (glK.map (·.1)) csK d_next_numbers (stK 29) = true := by decide +kernel
theorem m_check_rule : defM ["next_numbers", "least_length", "attempt", "equations_of", "solve", "reduce_line", "inverse", "check_row", "are_numbers", "check_prime", "in_range", "_law_length", "_law_case", "_law_made", "_law_row", "_law_cell"] ["check_row", "are_numbers", "check_prime", "in_range"] (glK.map (·.1)) csK d_check_rule (stK 17) = true := by decide +kernel
theorem m_predicted : defM ["check_rule", "next_numbers", "least_length", "attempt", "equations_of", "solve", "reduce_line", "inverse", "check_row", "are_numbers", "check_prime", "in_range", "_law_length", "_law_case", "_law_made", "_law_row", "_law_cell"] ["check_rule", "check_row", "are_numbers", "check_prime", "in_range"] (glK.map (·.1)) csK d_predicted (stK 19) = true := by decide +kernel
theorem m_fits : defM ["predicted", "check_rule", "next_numbers", "least_length", "attempt", "equations_of", "solve", "reduce_line", "inverse", "check_row", "are_numbers", "check_prime", "in_range", "_law_length", "_law_case", "_law_made", "_law_row", "_law_cell"] ["predicted", "check_rule", "check_row", "are_numbers", "check_prime", "in_range"] (glK.map (·.1)) csK d_fits (stK 20) = true := by decide +kernel
theorem m_makes : defM ["fits", "predicted", "check_rule", "next_numbers", "least_length", "attempt", "equations_of", "solve", "reduce_line", "inverse", "check_row", "are_numbers", "check_prime", "in_range", "_law_length", "_law_case", "_law_made", "_law_row", "_law_cell"] ["fits", "predicted", "check_rule", "check_row", "are_numbers", "check_prime", "in_range"] (glK.map (·.1)) csK d_makes (stK 21) = true := by decide +kernel
theorem m_length_of : defM ["makes", "fits", "predicted", "check_rule", "next_numbers", "least_length", "attempt", "equations_of", "solve", "reduce_line", "inverse", "check_row", "are_numbers", "check_prime", "in_range", "_law_length", "_law_case", "_law_made", "_law_row", "_law_cell"] ["fits", "predicted", "check_rule", "check_row", "are_numbers", "check_prime", "in_range"] (glK.map (·.1)) csK d_length_of (stK 27) = true := by decide +kernel
theorem m_profile : defM ["length_of", "makes", "fits", "predicted", "check_rule", "next_numbers", "least_length", "attempt", "equations_of", "solve", "reduce_line", "inverse", "check_row", "are_numbers", "check_prime", "in_range", "_law_length", "_law_case", "_law_made", "_law_row", "_law_cell"] ["fits", "predicted", "check_rule", "check_row", "are_numbers", "check_prime", "in_range"] (glK.map (·.1)) csK d_profile (stK 28) = true := by decide +kernel
theorem m_check_pair : defM ["profile", "length_of", "makes", "fits", "predicted", "check_rule", "next_numbers", "least_length", "attempt", "equations_of", "solve", "reduce_line", "inverse", "check_row", "are_numbers", "check_prime", "in_range", "_law_length", "_law_case", "_law_made", "_law_row", "_law_cell"] ["fits", "predicted", "check_rule", "check_row", "are_numbers", "check_prime", "in_range"] (glK.map (·.1)) csK d_check_pair (stK 33) = true := by decide +kernel
theorem m_add : defM ["check_pair", "profile", "length_of", "makes", "fits", "predicted", "check_rule", "next_numbers", "least_length", "attempt", "equations_of", "solve", "reduce_line", "inverse", "check_row", "are_numbers", "check_prime", "in_range", "_law_length", "_law_case", "_law_made", "_law_row", "_law_cell"] ["check_pair", "fits", "predicted", "check_rule", "check_row", "are_numbers", "check_prime", "in_range"] (glK.map (·.1)) csK d_add (stK 34) = true := by decide +kernel
theorem m_check_length : defM ["add", "check_pair", "profile", "length_of", "makes", "fits", "predicted", "check_rule", "next_numbers", "least_length", "attempt", "equations_of", "solve", "reduce_line", "inverse", "check_row", "are_numbers", "check_prime", "in_range", "_law_length", "_law_case", "_law_made", "_law_row", "_law_cell"] ["check_pair", "fits", "predicted", "check_rule", "check_row", "are_numbers", "check_prime", "in_range"] (glK.map (·.1)) csK d_check_length (stK 18) = true := by decide +kernel
theorem m_suspects : defM ["check_length", "add", "check_pair", "profile", "length_of", "makes", "fits", "predicted", "check_rule", "next_numbers", "least_length", "attempt", "equations_of", "solve", "reduce_line", "inverse", "check_row", "are_numbers", "check_prime", "in_range", "_law_length", "_law_case", "_law_made", "_law_row", "_law_cell"] ["check_length", "check_pair", "fits", "predicted", "check_rule", "check_row", "are_numbers", "check_prime", "in_range"] (glK.map (·.1)) csK d_suspects (stK 36) = true := by decide +kernel
theorem m_longest_ending : defM ["suspects", "check_length", "add", "check_pair", "profile", "length_of", "makes", "fits", "predicted", "check_rule", "next_numbers", "least_length", "attempt", "equations_of", "solve", "reduce_line", "inverse", "check_row", "are_numbers", "check_prime", "in_range", "_law_length", "_law_case", "_law_made", "_law_row", "_law_cell"] ["check_length", "check_pair", "fits", "predicted", "check_rule", "check_row", "are_numbers", "check_prime", "in_range"] (glK.map (·.1)) csK d_longest_ending (stK 40) = true := by decide +kernel
theorem m_format_row : defM ["longest_ending", "suspects", "check_length", "add", "check_pair", "profile", "length_of", "makes", "fits", "predicted", "check_rule", "next_numbers", "least_length", "attempt", "equations_of", "solve", "reduce_line", "inverse", "check_row", "are_numbers", "check_prime", "in_range", "_law_length", "_law_case", "_law_made", "_law_row", "_law_cell"] ["check_length", "check_pair", "fits", "predicted", "check_rule", "check_row", "are_numbers", "check_prime", "in_range"] (glK.map (·.1)) csK d_format_row (stK 38) = true := by decide +kernel
theorem m_check_rows : defM ("format_row" :: "longest_ending" :: "suspects" :: "check_length" :: "add" :: "check_pair" :: "profile" :: "length_of" :: "makes" :: "fits" :: "predicted" :: "check_rule" :: "next_numbers" :: "least_length" :: "attempt" :: "equations_of" :: "solve" :: "reduce_line" :: "inverse" :: "check_row" :: "are_numbers" :: "check_prime" :: "in_range" :: "_law_length" :: "_law_case" :: "_law_made" :: "_law_row" :: "_law_cell" :: []) ["check_length", "check_pair", "fits", "predicted", "check_rule", "check_row", "are_numbers", "check_prime", "in_range"] (glK.map (·.1)) csK d_check_rows (stK 30) = true := by decide +kernel
theorem m_common_rule : defM ("check_rows" :: "format_row" :: "longest_ending" :: "suspects" :: "check_length" :: "add" :: "check_pair" :: "profile" :: "length_of" :: "makes" :: "fits" :: "predicted" :: "check_rule" :: "next_numbers" :: "least_length" :: "attempt" :: "equations_of" :: "solve" :: "reduce_line" :: "inverse" :: "check_row" :: "are_numbers" :: "check_prime" :: "in_range" :: "_law_length" :: "_law_case" :: "_law_made" :: "_law_row" :: "_law_cell" :: []) ["check_rows", "check_length", "check_pair", "fits", "predicted", "check_rule", "check_row", "are_numbers", "check_prime", "in_range"] (glK.map (·.1)) csK d_common_rule (stK 31) = true := by decide +kernel
theorem m__law_asked : defM ("common_rule" :: "check_rows" :: "format_row" :: "longest_ending" :: "suspects" :: "check_length" :: "add" :: "check_pair" :: "profile" :: "length_of" :: "makes" :: "fits" :: "predicted" :: "check_rule" :: "next_numbers" :: "least_length" :: "attempt" :: "equations_of" :: "solve" :: "reduce_line" :: "inverse" :: "check_row" :: "are_numbers" :: "check_prime" :: "in_range" :: "_law_length" :: "_law_case" :: "_law_made" :: "_law_row" :: "_law_cell" :: []) ["check_rows", "check_length", "check_pair", "fits", "predicted", "check_rule", "check_row", "are_numbers", "check_prime", "in_range"] (glK.map (·.1)) csK d__law_asked (stK 47) = true := by decide +kernel
theorem m_law : defM ("_law_asked" :: "common_rule" :: "check_rows" :: "format_row" :: "longest_ending" :: "suspects" :: "check_length" :: "add" :: "check_pair" :: "profile" :: "length_of" :: "makes" :: "fits" :: "predicted" :: "check_rule" :: "next_numbers" :: "least_length" :: "attempt" :: "equations_of" :: "solve" :: "reduce_line" :: "inverse" :: "check_row" :: "are_numbers" :: "check_prime" :: "in_range" :: "_law_length" :: "_law_case" :: "_law_made" :: "_law_row" :: "_law_cell" :: []) ["_law_asked", "check_rows", "check_length", "check_pair", "fits", "predicted", "check_rule", "check_row", "are_numbers", "check_prime", "in_range"] (glK.map (·.1)) csK d_law (stK 48) = true := by decide +kernel
theorem b__law_cell : Bnd "_law_cell" (stK 42) (d__law_cell.names.take d__law_cell.np) := fun _ _ _ _ _ _ us hl => match us, hl with | [_, _], _ => rfl
theorem b__law_row : Bnd "_law_row" (stK 43) (d__law_row.names.take d__law_row.np) := fun _ _ _ _ _ _ us hl => match us, hl with | [_, _], _ => rfl
theorem b__law_made : Bnd "_law_made" (stK 44) (d__law_made.names.take d__law_made.np) := fun _ _ _ _ _ _ us hl => match us, hl with | [_, _, _, _], _ => rfl
theorem b__law_case : Bnd "_law_case" (stK 46) (d__law_case.names.take d__law_case.np) := fun _ _ _ _ _ _ us hl => match us, hl with | [_, _, _, _], _ => rfl
theorem b__law_length : Bnd "_law_length" (stK 45) (d__law_length.names.take d__law_length.np) := fun _ _ _ _ _ _ us hl => match us, hl with | [_, _], _ => rfl
theorem b_in_range : Bnd "in_range" (stK 13) (d_in_range.names.take d_in_range.np) := fun _ _ _ _ _ _ us hl => match us, hl with | [_, _, _], _ => rfl
theorem b_check_prime : Bnd "check_prime" (stK 14) (d_check_prime.names.take d_check_prime.np) := fun _ _ _ _ _ _ us hl => match us, hl with | [_], _ => rfl
theorem b_are_numbers : Bnd "are_numbers" (stK 15) (d_are_numbers.names.take d_are_numbers.np) := fun _ _ _ _ _ _ us hl => match us, hl with | [_, _], _ => rfl
theorem b_check_row : Bnd "check_row" (stK 16) (d_check_row.names.take d_check_row.np) := fun _ _ _ _ _ _ us hl => match us, hl with | [_, _], _ => rfl
theorem b_inverse : Bnd "inverse" (stK 7) (d_inverse.names.take d_inverse.np) := fun _ _ _ _ _ _ us hl => match us, hl with | [_, _], _ => rfl
theorem b_reduce_line : Bnd "reduce_line" (stK 8) (d_reduce_line.names.take d_reduce_line.np) := fun _ _ _ _ _ _ us hl => match us, hl with | [_, _, _, _], _ => rfl
theorem b_solve : Bnd "solve" (stK 9) (d_solve.names.take d_solve.np) := fun _ _ _ _ _ _ us hl => match us, hl with | [_, _, _], _ => rfl
theorem b_equations_of : Bnd "equations_of" (stK 24) (d_equations_of.names.take d_equations_of.np) := fun _ _ _ _ _ _ us hl => match us, hl with | [_, _], _ => rfl
theorem b_attempt : Bnd "attempt" (stK 25) (d_attempt.names.take d_attempt.np) := fun _ _ _ _ _ _ us hl => match us, hl with | [_, _, _], _ => rfl
theorem b_least_length : Bnd "least_length" (stK 26) (d_least_length.names.take d_least_length.np) := fun _ _ _ _ _ _ us hl => match us, hl with | [_, _], _ => rfl
theorem b_next_numbers : Bnd "next_numbers" (stK 29) (d_next_numbers.names.take d_next_numbers.np) := fun _ _ _ _ _ _ us hl => match us, hl with | [_, _], _ => rfl
theorem b_check_rule : Bnd "check_rule" (stK 17) (d_check_rule.names.take d_check_rule.np) := fun _ _ _ _ _ _ us hl => match us, hl with | [_, _], _ => rfl
theorem b_predicted : Bnd "predicted" (stK 19) (d_predicted.names.take d_predicted.np) := fun _ _ _ _ _ _ us hl => match us, hl with | [_, _, _], _ => rfl
theorem b_fits : Bnd "fits" (stK 20) (d_fits.names.take d_fits.np) := fun _ _ _ _ _ _ us hl => match us, hl with | [_, _, _], _ => rfl
theorem b_makes : Bnd "makes" (stK 21) (d_makes.names.take d_makes.np) := fun _ _ _ _ _ _ us hl => match us, hl with | [_, _, _], _ => rfl
theorem b_length_of : Bnd "length_of" (stK 27) (d_length_of.names.take d_length_of.np) := fun _ _ _ _ _ _ us hl => match us, hl with | [_, _], _ => rfl
theorem b_profile : Bnd "profile" (stK 28) (d_profile.names.take d_profile.np) := fun _ _ _ _ _ _ us hl => match us, hl with | [_, _], _ => rfl
theorem b_check_pair : Bnd "check_pair" (stK 33) (d_check_pair.names.take d_check_pair.np) := fun _ _ _ _ _ _ us hl => match us, hl with | [_, _, _], _ => rfl
theorem b_add : Bnd "add" (stK 34) (d_add.names.take d_add.np) := fun _ _ _ _ _ _ us hl => match us, hl with | [_, _, _], _ => rfl
theorem b_check_length : Bnd "check_length" (stK 18) (d_check_length.names.take d_check_length.np) := fun _ _ _ _ _ _ us hl => match us, hl with | [_, _], _ => rfl
theorem b_suspects : Bnd "suspects" (stK 36) (d_suspects.names.take d_suspects.np) := fun _ _ _ _ _ _ us hl => match us, hl with | [_, _, _], _ => rfl
theorem b_longest_ending : Bnd "longest_ending" (stK 40) (d_longest_ending.names.take d_longest_ending.np) := fun _ _ _ _ _ _ us hl => match us, hl with | [_, _, _], _ => rfl
theorem b_format_row : Bnd "format_row" (stK 38) (d_format_row.names.take d_format_row.np) := fun _ _ _ _ _ _ us hl => match us, hl with | [_, _], _ => rfl
theorem b_check_rows : Bnd "check_rows" (stK 30) (d_check_rows.names.take d_check_rows.np) := fun _ _ _ _ _ _ us hl => match us, hl with | [_, _], _ => rfl
theorem b_common_rule : Bnd "common_rule" (stK 31) (d_common_rule.names.take d_common_rule.np) := fun _ _ _ _ _ _ us hl => match us, hl with | [_, _], _ => rfl
theorem b__law_asked : Bnd "_law_asked" (stK 47) (d__law_asked.names.take d__law_asked.np) := fun _ _ _ _ _ _ us hl => match us, hl with | [_, _, _], _ => rfl
theorem b_law : Bnd "law" (stK 48) (d_law.names.take d_law.np) := fun _ _ _ _ _ _ us hl => match us, hl with | [_], _ => rfl
theorem pwK {P : Program} {w : World} {K : PySem.W.Frag} {h base : Heap} {mg : Str → Option Value} (X : K.In h) (Gm : h.Ns mainGlobals mg) (c0 : topB K subK csK glK = true)
    (c__law_cell : DefAt K "_law_cell" (stK 42)) (c__law_row : DefAt K "_law_row" (stK 43)) (c__law_made : DefAt K "_law_made" (stK 44)) (c__law_case : DefAt K "_law_case" (stK 46)) (c__law_length : DefAt K "_law_length" (stK 45)) (c_in_range : DefAt K "in_range" (stK 13)) (c_check_prime : DefAt K "check_prime" (stK 14)) (c_are_numbers : DefAt K "are_numbers" (stK 15)) (c_check_row : DefAt K "check_row" (stK 16)) (c_inverse : DefAt K "inverse" (stK 7)) (c_reduce_line : DefAt K "reduce_line" (stK 8)) (c_solve : DefAt K "solve" (stK 9)) (c_equations_of : DefAt K "equations_of" (stK 24)) (c_attempt : DefAt K "attempt" (stK 25)) (c_least_length : DefAt K "least_length" (stK 26)) (c_next_numbers : DefAt K "next_numbers" (stK 29)) (c_check_rule : DefAt K "check_rule" (stK 17)) (c_predicted : DefAt K "predicted" (stK 19)) (c_fits : DefAt K "fits" (stK 20)) (c_makes : DefAt K "makes" (stK 21)) (c_length_of : DefAt K "length_of" (stK 27)) (c_profile : DefAt K "profile" (stK 28)) (c_check_pair : DefAt K "check_pair" (stK 33)) (c_add : DefAt K "add" (stK 34)) (c_check_length : DefAt K "check_length" (stK 18)) (c_suspects : DefAt K "suspects" (stK 36)) (c_longest_ending : DefAt K "longest_ending" (stK 40)) (c_format_row : DefAt K "format_row" (stK 38)) (c_check_rows : DefAt K "check_rows" (stK 30)) (c_common_rule : DefAt K "common_rule" (stK 31)) (c__law_asked : DefAt K "_law_asked" (stK 47)) :
    PWX P w K mg base (He.ga K) G__law_asked ("_law_asked" :: "common_rule" :: "check_rows" :: "format_row" :: "longest_ending" :: "suspects" :: "check_length" :: "add" :: "check_pair" :: "profile" :: "length_of" :: "makes" :: "fits" :: "predicted" :: "check_rule" :: "next_numbers" :: "least_length" :: "attempt" :: "equations_of" :: "solve" :: "reduce_line" :: "inverse" :: "check_row" :: "are_numbers" :: "check_prime" :: "in_range" :: "_law_length" :: "_law_case" :: "_law_made" :: "_law_row" :: "_law_cell" :: []) ["_law_asked", "check_rows", "check_length", "check_pair", "fits", "predicted", "check_rule", "check_row", "are_numbers", "check_prime", "in_range"] (glK.map (·.1)) 31 := by
  have p0 := pwx0 (P := P) (w := w) (base := base) X Gm c0
  have p1 := p0.next (d := d__law_cell) X Gm NN c__law_cell b__law_cell m__law_cell false (by decide +kernel) (by decide +kernel)
  have p2 := p1.next (d := d__law_row) X Gm NN c__law_row b__law_row m__law_row false (by decide +kernel) (by decide +kernel)
  have p3 := p2.next (d := d__law_made) X Gm NN c__law_made b__law_made m__law_made false (by decide +kernel) (by decide +kernel)
  have p4 := p3.next (d := d__law_case) X Gm NN c__law_case b__law_case m__law_case false (by decide +kernel) (by decide +kernel)
  have p5 := p4.next (d := d__law_length) X Gm NN c__law_length b__law_length m__law_length false (by decide +kernel) (by decide +kernel)
  have p6 := p5.next (d := d_in_range) X Gm NN c_in_range b_in_range m_in_range true (by decide +kernel) (by decide +kernel)
  have p7 := p6.next (d := d_check_prime) X Gm NN c_check_prime b_check_prime m_check_prime true (by decide +kernel) (by decide +kernel)
  have p8 := p7.next (d := d_are_numbers) X Gm NN c_are_numbers b_are_numbers m_are_numbers true (by decide +kernel) (by decide +kernel)
  have p9 := p8.next (d := d_check_row) X Gm NN c_check_row b_check_row m_check_row true (by decide +kernel) (by decide +kernel)
  have p10 := p9.next (d := d_inverse) X Gm NN c_inverse b_inverse m_inverse false (by decide +kernel) (by decide +kernel)
  have p11 := p10.next (d := d_reduce_line) X Gm NN c_reduce_line b_reduce_line m_reduce_line false (by decide +kernel) (by decide +kernel)
  have p12 := p11.next (d := d_solve) X Gm NN c_solve b_solve m_solve false (by decide +kernel) (by decide +kernel)
  have p13 := p12.next (d := d_equations_of) X Gm NN c_equations_of b_equations_of m_equations_of false (by decide +kernel) (by decide +kernel)
  have p14 := p13.next (d := d_attempt) X Gm NN c_attempt b_attempt m_attempt false (by decide +kernel) (by decide +kernel)
  have p15 := p14.next (d := d_least_length) X Gm NN c_least_length b_least_length m_least_length false (by decide +kernel) (by decide +kernel)
  have p16 := p15.next (d := d_next_numbers) X Gm NN c_next_numbers b_next_numbers m_next_numbers false (by decide +kernel) (by decide +kernel)
  have p17 := p16.next (d := d_check_rule) X Gm NN c_check_rule b_check_rule m_check_rule true (by decide +kernel) (by decide +kernel)
  have p18 := p17.next (d := d_predicted) X Gm NN c_predicted b_predicted m_predicted true (by decide +kernel) (by decide +kernel)
  have p19 := p18.next (d := d_fits) X Gm NN c_fits b_fits m_fits true (by decide +kernel) (by decide +kernel)
  have p20 := p19.next (d := d_makes) X Gm NN c_makes b_makes m_makes false (by decide +kernel) (by decide +kernel)
  have p21 := p20.next (d := d_length_of) X Gm NN c_length_of b_length_of m_length_of false (by decide +kernel) (by decide +kernel)
  have p22 := p21.next (d := d_profile) X Gm NN c_profile b_profile m_profile false (by decide +kernel) (by decide +kernel)
  have p23 := p22.next (d := d_check_pair) X Gm NN c_check_pair b_check_pair m_check_pair true (by decide +kernel) (by decide +kernel)
  have p24 := p23.next (d := d_add) X Gm NN c_add b_add m_add false (by decide +kernel) (by decide +kernel)
  have p25 := p24.next (d := d_check_length) X Gm NN c_check_length b_check_length m_check_length true (by decide +kernel) (by decide +kernel)
  have p26 := p25.next (d := d_suspects) X Gm NN c_suspects b_suspects m_suspects false (by decide +kernel) (by decide +kernel)
  have p27 := p26.next (d := d_longest_ending) X Gm NN c_longest_ending b_longest_ending m_longest_ending false (by decide +kernel) (by decide +kernel)
  have p28 := p27.next (d := d_format_row) X Gm NN c_format_row b_format_row m_format_row false (by decide +kernel) (by decide +kernel)
  have p29 := p28.next (d := d_check_rows) X Gm NN c_check_rows b_check_rows m_check_rows true (by decide +kernel) (by decide +kernel)
  have p30 := p29.next (d := d_common_rule) X Gm NN c_common_rule b_common_rule m_common_rule false (by decide +kernel) (by decide +kernel)
  have p31 := p30.next (d := d__law_asked) X Gm NN c__law_asked b__law_asked m__law_asked true (by decide +kernel) (by decide +kernel)
  exact p31
end Rr
open PySem PySem.W PyProof.Rows
set_option maxHeartbeats 0 in
theorem PySem.Challenge.cw_rowrepairs_k07_whole_next_numbers_holds : PySem.Challenge.rw_rowrepairs_k07_whole_next_numbers.Holds := by
  w_on; o_law; k_head; (case hw => w_witness2)
  k_fill
  refine Rr.walk_mine (l := PySem.Challenge.rw_rowrepairs_k07_whole_next_numbers) (n := 63) (k := 32) (g := Rr.runD Rr.G__law_asked Rr.NN Rr.d_law) rfl (by decide) rfl ⟨rfl, by decide, by decide⟩ (fun w h Y => PySem.W.kIn_of Y) Rr.law_holds ?F
  case F =>
    intro w mg fa h KX Gm hmg
    refine Rr.law_is (st := Rr.stK 48) KX Gm Rr.NN hmg ⟨?q1, ?q2⟩ Rr.b_law rfl (fun base => Rr.pwK KX Gm ?q0 ⟨?a0, ?b0⟩ ⟨?a1, ?b1⟩ ⟨?a2, ?b2⟩ ⟨?a3, ?b3⟩ ⟨?a4, ?b4⟩ ⟨?a5, ?b5⟩ ⟨?a6, ?b6⟩ ⟨?a7, ?b7⟩ ⟨?a8, ?b8⟩ ⟨?a9, ?b9⟩ ⟨?a10, ?b10⟩ ⟨?a11, ?b11⟩ ⟨?a12, ?b12⟩ ⟨?a13, ?b13⟩ ⟨?a14, ?b14⟩ ⟨?a15, ?b15⟩ ⟨?a16, ?b16⟩ ⟨?a17, ?b17⟩ ⟨?a18, ?b18⟩ ⟨?a19, ?b19⟩ ⟨?a20, ?b20⟩ ⟨?a21, ?b21⟩ ⟨?a22, ?b22⟩ ⟨?a23, ?b23⟩ ⟨?a24, ?b24⟩ ⟨?a25, ?b25⟩ ⟨?a26, ?b26⟩ ⟨?a27, ?b27⟩ ⟨?a28, ?b28⟩ ⟨?a29, ?b29⟩ ⟨?a30, ?b30⟩) Rr.m_law
    all_goals kernel_rfl
