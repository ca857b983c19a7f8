import PyProof.Rows.All
import Wide.All
import OpenK.AllK
import Wide.FinOn
import HandS.ForMost
import HandS.DeepEq
import HandS.WrittenGet
import HandS.Wide
import HandS.TupMul
import HandS.Style
import HandS.TupAny
import HandS.RevTup
import HandS.Flow
import HandS.IsInst
import HandS.SortInts
import HandS.Text
import HandS.SetFor
import HandS.Zip
import HandS.Strs
import HandS.More
import HandS.ExcIs
import KE.KDeep
import HandS.ForExc
import KE.GoesMore
import KE.GoesZip
import KE.GoesEnum
import HandS.Conv
import HandS.ReplaceLit
import HandS.Small
import HandS.EndBits
import PySem.Challenge.RW_underfloor_k11_whole_names_for_numbers
set_option Elab.async false
set_option linter.all false
set_option maxRecDepth 100000
/-! The plain side: data, and what expressions and statements of the mirrored texts are worth over it. -/
namespace My
open PySem L2

/-- plain data -/
inductive D where
  | non | bl (b : Bool) | int (i : Int) | str (x : Str) | lst (xs : List D) | tup (xs : List D) | dct (kvs : List (Key × D))
  /-- nothing is known of what stands here -/
  | hole
instance : Inhabited D := ⟨.non⟩

def getK {α : Type} (k : Key) : List (Key × α) → Option α
  | [] => none
  | (k', v) :: r => if k' = k then some v else getK k r
def putD {α : Type} (k : Key) (v : α) : List (Key × α) → List (Key × α)
  | [] => [(k, v)]
  | (k', u) :: r => if k' = k then (k', v) :: r else (k', u) :: putD k v r
def flat : D → Bool
  | .non | .bl _ | .int _ | .str _ => true
  | _ => false
def toV : D → V
  | .non => .non | .bl b => .bl b | .int i => .int i | .str x => .str x | _ => .non
mutual
def deq : D → D → Bool
  | .non, .non => true
  | .bl a, .bl b => a == b
  | .bl a, .int j => (if a then 1 else 0) == j
  | .int i, .bl b => i == (if b then 1 else 0)
  | .int i, .int j => i == j
  | .str x, .str y => decide (x = y)
  | .lst xs, .lst ys => deqL xs ys
  | .tup xs, .tup ys => deqL xs ys
  | .dct xs, .dct ys => xs.length == ys.length && deqD xs ys
  | _, _ => false
def deqL : List D → List D → Bool
  | [], [] => true
  | x :: xs, y :: ys => deq x y && deqL xs ys
  | _, _ => false
def deqD : List (Key × D) → List (Key × D) → Bool
  | [], _ => true
  | (k, v) :: r, ys => (match getK k ys with | some u => deq v u | none => false) && deqD r ys
end

mutual
def dep : D → Nat
  | .lst xs => depL xs + 1
  | .tup xs => depL xs + 1
  | .dct kvs => depD kvs + 1
  | _ => 0
def depL : List D → Nat
  | [] => 0
  | x :: xs => max (dep x) (depL xs)
def depD : List (Key × D) → Nat
  | [] => 0
  | (_, v) :: r => max (dep v) (depD r)
end

/-! ### the types of what is owned -/
inductive Ty where
  /-- stands still from now on -/
  | F
  /-- a list, a tuple, a dict of one's own, and the types of what is in it -/
  | L (t : Ty) | T (ts : List Ty) (t : Ty) | Dc (ks : List (Key × Ty)) (t : Ty)
  /-- a tuple that stands still, known to have no dict -/
  | N
def Ty.atK (ks : List (Key × Ty)) (t : Ty) (k : Key) : Ty := (getK k ks).getD t
def Ty.atI (ts : List Ty) (t : Ty) (i : Nat) : Ty := ts.getD i t

/-! ### what the operators are worth -/
inductive BOp where | add | sub | mul | div | mod | pow
inductive COp where | eq | ne | lt | le | gt | ge | inn | nin | is | isn
  deriving DecidableEq
def mulOk (i j : Int) : Prop := (-(2 ^ 64) < i ∧ i < 2 ^ 64) ∨ (-(2 ^ 64) < j ∧ j < 2 ^ 64) ∨ i.natAbs.log2 + j.natAbs.log2 < 134000000
instance {i j : Int} : Decidable (mulOk i j) := inferInstanceAs (Decidable (_ ∨ _ ∨ _))
def divOk (j : Int) : Prop := 0 < j ∧ j.natAbs.log2 < 9000
instance {j : Int} : Decidable (divOk j) := inferInstanceAs (Decidable (_ ∧ _))
def powOk (i j : Int) : Prop := 0 ≤ j ∧ (i.natAbs.log2 + 1 : Int) * j ≤ 100000000
instance {i j : Int} : Decidable (powOk i j) := inferInstanceAs (Decidable (_ ∧ _))
def mx : Nat := 16777216
/-- n copies of a row behind one another -/
def reps (xs : List D) : Nat → List D
  | 0 => []
  | n + 1 => xs ++ reps xs n
def dBin : BOp → D → D → Option D
  | .add, .int a, .int b => some (.int (a + b))
  | .sub, .int a, .int b => some (.int (a - b))
  | .mul, .int a, .int b => if mulOk a b then some (.int (a * b)) else none
  | .div, .int a, .int b => if divOk b then some (.int (a / b)) else none
  | .mod, .int a, .int b => if 0 < b then some (.int (a % b)) else none
  | .pow, .int a, .int b => if powOk a b then some (.int (a ^ b.toNat)) else none
  | .add, .str a, .str b => if a.length + b.length ≤ mx then some (.str (a ++ b)) else none
  | .add, .lst a, .lst b => if a.length + b.length ≤ mx then some (.lst (a ++ b)) else none
  | .add, .tup a, .tup b => if a.length + b.length ≤ mx then some (.tup (a ++ b)) else none
  | .mul, .lst a, .int n => if -(2 ^ 62) ≤ n ∧ n < 2 ^ 62 ∧ a.length * n.toNat ≤ mx then some (.lst (reps a n.toNat)) else none
  | .mul, .tup a, .int n => if a ≠ [] ∧ 0 ≤ n ∧ n ≤ 1000 ∧ a.length ≤ 1000 then some (.tup (reps a n.toNat)) else none
  | _, _, _ => none
/-- is a key in it -/
def keyOf : D → Option Key
  | .int i => some (.inl i)
  | .str x => some (.inr x)
  | _ => none
def isNon : D → Bool
  | .non => true
  | _ => false
def isHole : D → Bool
  | .hole => true
  | _ => false
def dIs (x : D) : D → Option Bool
  | .non => if isHole x then none else some (isNon x)
  | .bl b => match x with | .bl c => some (c == b) | _ => none
  | _ => none
mutual
def ndp : Nat → D → Bool
  | _, .str x => x.cps.all (· < 0x110000)
  | 0, .lst _ => false
  | 0, .tup _ => false
  | n + 1, .lst xs => ndpL n xs
  | n + 1, .tup xs => ndpL n xs
  | _, .dct _ => false
  | _, .hole => false
  | _, _ => true
def ndpL : Nat → List D → Bool
  | _, [] => true
  | n, x :: xs => ndp n x && ndpL n xs
end
def dIn (x : D) : D → Option Bool
  | .lst ys => if (ndp 60 x && ndpL 60 ys) = true then some (ys.any fun y => deq y x) else none
  | .tup ys => if (ndp 60 x && ndpL 60 ys) = true then some (ys.any fun y => deq y x) else none
  | .dct kvs => (keyOf x).map fun k => (getK k kvs).isSome
  | .str t => match x with | .str s => some (!(Builtin.Str.occurrences t s 0 t.length 1).isEmpty) | _ => none
  | _ => none
def eqOk : D → D → Bool
  | .str _, .str _ => true
  | a, b => ndp 60 a && ndp 60 b
/-- == that is told although a dict may stand in it -/
def eqX : D → D → Bool
  | .tup _, .tup [] => true
  | .dct _, .str _ => true
  | _, _ => false
def dCmp : COp → D → D → Option Bool
  | .eq, a, b => if eqOk a b = true then some (deq a b) else if eqX a b = true then some (deq a b) else none
  | .ne, a, b => if eqOk a b = true then some (!deq a b) else none
  | .lt, .int a, .int b => some (decide (a < b))
  | .le, .int a, .int b => some (decide (a ≤ b))
  | .gt, .int a, .int b => some (decide (b < a))
  | .ge, .int a, .int b => some (decide (b ≤ a))
  | .lt, .str a, .str b => some (decide (a.cps.toList < b.cps.toList))
  | .inn, a, b => dIn a b
  | .nin, a, b => (dIn a b).map (!·)
  | .is, a, b => dIs a b
  | .isn, a, b => (dIs a b).map (!·)
  | _, _, _ => none
def truth : D → Option Bool
  | .non => some false
  | .bl b => some b
  | .int i => some (i != 0)
  | .str x => if x.length ≤ mx then some ((x.length : Int) != 0) else none
  | .lst xs => some (!xs.isEmpty)
  | .tup xs => some (!xs.isEmpty)
  | _ => none
def dIdx : D → D → Option D
  | .lst xs, .int i => atI xs i
  | .tup xs, .int i => atI xs i
  | .str x, .int i => if x.length ≤ mx then (atI x.cps.toList i).map fun c => .str ⟨#[c]⟩ else none
  | .dct kvs, k => (keyOf k).bind fun k => getK k kvs
  | _, _ => none
def cut {α : Type} (xs : List α) (lo hi : Option Int) : List α := (xs.drop (HT.sIx xs.length 0 lo)).take (HT.sIx xs.length xs.length hi - HT.sIx xs.length 0 lo)
def optI : Option D → Option (Option Int)
  | none => some none
  | some (.int i) => some (some i)
  | some _ => none
def slcV (x : D) (l h : Option Int) : Option D :=
  match x with
  | .lst xs => some (.lst (cut xs l h))
  | .tup xs => some (.tup (cut xs l h))
  | .str x => if x.length ≤ mx then some (.str ⟨(cut x.cps.toList l h).toArray⟩) else none
  | _ => none
def dSlc (x : D) (lo hi : Option D) : Option D :=
  match optI lo, optI hi with
  | some l, some h => slcV x l h
  | _, _ => none

/-- x += e -/
def augV : D → D → Option D
  | .int a, .int b => some (.int (a + b))
  | _, _ => none
/-- a thing with another one at a place -/
def setD : D → D → D → Option D
  | .lst xs, .int i, z => (ixN xs.length i).bind fun k => if k < xs.length then some (.lst (xs.set k z)) else none
  | .tup xs, .int i, z => (ixN xs.length i).bind fun k => if k < xs.length then some (.tup (xs.set k z)) else none
  | .dct kvs, k, z => (keyOf k).bind fun k => if (getK k kvs).isSome then some (.dct (putD k z kvs)) else none
  | _, _, _ => none

/-! ### what is walked -/
inductive SrcK where | seq | rng1 | rng2 | rng3 | enum | zip | items | vals | keys | rev
def inR (i : Int) : Prop := -(2 ^ 60) ≤ i ∧ i < 2 ^ 60
instance {i : Int} : Decidable (inR i) := inferInstanceAs (Decidable (_ ∧ _))
def seqOf : D → Option (List D)
  | .lst xs => some xs
  | .tup xs => some xs
  | _ => none
def keyD : Key → D
  | .inl i => .int i
  | .inr x => .str x
def enumFrom (n : Int) : List D → List D
  | [] => []
  | x :: xs => .tup [.int n, x] :: enumFrom (n + 1) xs
def zipD : List D → List D → List D
  | x :: xs, y :: ys => .tup [x, y] :: zipD xs ys
  | _, _ => []
def ups (lo : Int) : Nat → List D
  | 0 => []
  | n + 1 => .int lo :: ups (lo + 1) n
def steps (lo c : Int) : Nat → List D
  | 0 => []
  | n + 1 => .int lo :: steps (lo + c) c n
def srcItems : SrcK → List D → Option (List D)
  | .seq, [.str x] => some (x.cps.toList.map fun c => .str ⟨#[c]⟩)
  | .seq, [d] => seqOf d
  | .rng1, [.int n] => if inR n then some (ups 0 n.toNat) else none
  | .rng2, [.int a, .int b] => if inR a ∧ inR b then some (ups a (b - a).toNat) else none
  | .rng3, [.int a, .int b, .int c] => if c ≠ 0 ∧ c.natAbs < 1073741824 ∧ Builtin.Range.small a b c = true then some (steps a c (Builtin.Range.rangeSize a b c).toNat) else none
  | .enum, [d] => (seqOf d).map (enumFrom 0)
  | .zip, [.str x, b] => (seqOf b).map fun ys => zipD (x.cps.toList.map fun c => .str ⟨#[c]⟩) ys
  | .items, [.dct kvs] => some (kvs.map fun p => .tup [keyD p.1, p.2])
  | .vals, [.dct kvs] => some (kvs.map fun p => p.2)
  | .keys, [.dct kvs] => some (kvs.map fun p => keyD p.1)
  | .rev, [.lst xs] => some xs.reverse
  | _, _ => none

def rngV : D → D → Option D
  | .int i, .int j => if inR i ∧ inR j ∧ (j - i).toNat ≤ mx then some (.lst (ups i (j - i).toNat)) else none
  | _, _ => none

/-! ### built-in functions -/
inductive TyN where | int | bool | str | list | tuple | dict
  deriving DecidableEq
def isiV : TyN → D → Bool
  | .int, .int _ => true
  | .int, .bl _ => true
  | .bool, .bl _ => true
  | .str, .str _ => true
  | .list, .lst _ => true
  | .tuple, .tup _ => true
  | .dict, .dct _ => true
  | _, _ => false
inductive BI where | len | list | tuple | int | str | min2 | max2 | sum | sorted | abs | all | any | dict | isi (ts : List TyN) | lenset
def allInts : List D → Option (List Int)
  | [] => some []
  | .int i :: r => (allInts r).map (i :: ·)
  | _ => none
def allBls : List D → Option (List Bool)
  | [] => some []
  | .bl i :: r => (allBls r).map (i :: ·)
  | _ => none
def biV : BI → List D → Option D
  | .len, [.lst xs] => some (.int xs.length)
  | .len, [.tup xs] => some (.int xs.length)
  | .len, [.str x] => if x.length ≤ mx then some (.int x.length) else none
  | .len, [.dct kvs] => some (.int kvs.length)
  | .list, [.lst xs] => some (.lst xs)
  | .list, [.tup xs] => some (.lst xs)
  | .tuple, [.lst xs] => some (.tup xs)
  | .tuple, [.tup xs] => some (.tup xs)
  | .int, [.int i] => some (.int i)
  | .int, [.bl b] => some (.int (if b then 1 else 0))
  | .int, [.str x] => if x.length ≤ 640 then (PySem.intText? x).map .int else none
  | .str, [.int i] => if i.natAbs.log2 < 1920 then some (.str (toString i)) else none
  | .min2, [.int a, .int b] => some (.int (if b < a then b else a))
  | .max2, [.int a, .int b] => some (.int (if b > a then b else a))
  | .sum, [d] => (seqOf d).bind fun xs => (allInts xs).map fun ns => .int ns.sum
  | .abs, [.int i] => some (.int (if i < 0 then -i else i))
  | .all, [.lst xs] => (allBls xs).map fun bs => .bl (bs.all id)
  | .any, [.lst xs] => (allBls xs).map fun bs => .bl (bs.any id)
  | .dict, [.dct kvs] => some (.dct kvs)
  | .isi ts, [d] => if isHole d then none else some (.bl (ts.any fun t => isiV t d))
  | _, _ => none

def uniq : List Int → List Int
  | [] => []
  | x :: xs => if x ∈ xs then uniq xs else x :: uniq xs
/-- len(set(x)) -/
def lenSetV (d : D) : Option D := (seqOf d).bind fun xs => (allInts xs).bind fun ns => if ns.length ≤ 4000 then some (.int (uniq ns).length) else none
/-- the first place of a text among a module's texts -/
def tidxV (ys : List Str) : D → Option D
  | .str z => if z ∈ ys then some (.int (ys.idxOf z : Nat)) else none
  | _ => none
def tabV (tab : List (Str × Key)) : D → Option D
  | .str z => (tab.lookup z).map keyD
  | _ => none
def ginV (neg : Bool) (tab : List (Str × Key)) : D → Option Bool
  | .str z => some (if neg then !(tab.lookup z).isSome else (tab.lookup z).isSome)
  | _ => none
def allStrs : List D → Option (List Str)
  | [] => some []
  | .str i :: r => (allStrs r).map (i :: ·)
  | _ => none
/-- x.join of texts -/
def joinV (x : Str) (d : D) : Option D := (seqOf d).bind fun xs => (allStrs xs).bind fun ys => if (ys.map (·.length)).sum + ys.length * x.length ≤ 16777216 then some (.str (Txt.join x ys)) else none
/-- .split(x) -/
def spltV (x : Str) : D → Option D
  | .str a => if (x.length == 0) = false ∧ a.length + 2 ≤ mx then some (.lst ((Txt.split a x).map .str)) else none
  | _ => none
def isxV (sub : Str → Str → Option Bool) (x : Str) : D → Option D
  | .str z => (sub z x).map .bl
  | _ => none
def anySub (sub : Str → Str → Option Bool) (z : Str) : List Str → Option Bool
  | [] => some false
  | x :: xs => (sub z x).bind fun b => (anySub sub z xs).map fun r => b || r
def isxsV (sub : Str → Str → Option Bool) (xs : List Str) : D → Option D
  | .str z => (anySub sub z xs).map .bl
  | _ => none
/-- x[lo:hi] of a tuple, not from its beginning on -/
def slcNV (x : D) (lo hi : Option D) : Option D :=
  match x, optI lo, optI hi with
  | .tup xs, some l, some h => if HT.sIx xs.length 0 l = 0 then none else some (.tup (cut xs l h))
  | _, _, _ => none
/-- list + list, list * number, as lists of one's own -/
def catV : D → D → Option D
  | .lst a, .lst b => if a.length + b.length ≤ mx then some (.lst (a ++ b)) else none
  | _, _ => none
def mulV : D → D → Option D
  | .lst a, .int n => if -(2 ^ 62) ≤ n ∧ n < 2 ^ 62 ∧ a.length * n.toNat ≤ mx then some (.lst (reps a n.toNat)) else none
  | _, _ => none
/-- how often a number stands in a tuple -/
def cntV : D → D → Option D
  | .tup ds, .int i => (allInts ds).map fun ns => .int (ns.count i : Nat)
  | _, _ => none
def tupOf : D → Option D
  | .lst xs => some (.tup xs)
  | _ => none

/-- int(x.replace(a, b)) -/
def repV (A B : Str) : D → Option D
  | .str x => if x.length + (x.length + 1) * B.length ≤ mx ∧ (Txt.replace x A B).length ≤ 640 then (PySem.intText? (Txt.replace x A B)).map .int else none
  | _ => none
def cutD : D → Option (List D)
  | .lst xs => some (cut xs (some 1) none)
  | _ => none
/-- a dict's keys in a list; a list of texts, sorted -/
def keysV : D → Option D
  | .dct kvs => some (.lst (kvs.map fun p => keyD p.1))
  | _ => none
def leX (a b : Str) : Bool := !PySem.Spec.ltCps b.cps.toList a.cps.toList
def srtS (xs : List Str) : List Str := xs.mergeSort leX
def srtV (d : D) : Option D := match d with
  | .lst ds => (allStrs ds).bind fun xs => if xs.length < 64 then some (.lst ((srtS xs).map .str)) else none
  | _ => none
/-- l.index(x) of texts; d.get(k, x) -/
def ixlV (l x : D) : Option D := match l, x with
  | .lst ds, .str s => (allStrs ds).bind fun xs => (xs.findIdx? fun y => y == s).map fun j => .int (j : Nat)
  | _, _ => none
def getV (d k z : D) : Option D := match d with
  | .dct kvs => (keyOf k).map fun k => (getK k kvs).getD z
  | _ => none
/-! ### expressions -/
structure Exc where
  cls : Str
  fld : List (Str × D)
inductive RF where | ret (d : D) | exc (e : Exc) | no
inductive RS where | nx (ρ : List D) | ret (d : D) | brk (ρ : List D) | cnt (ρ : List D) | exc (e : Exc) (ρ : List D) | no
/-- a target: a slot; a tuple of targets -/
inductive Tg where | s (i : Nat) | t (l : List Tg)
inductive ME where
  | cst (d : D) | var (i : Nat) | mov (i : Nat) | frz (i : Nat) | frzE (a : ME)
  | glob (i : Nat)
  | bin (o : BOp) (a b : ME) | neg (a : ME)
  | cmp (o : COp) (a b : ME) | chain (o o' : COp) (a b c : ME)
  | notE (a : ME) | boolE (isAnd : Bool) (es : List ME) | ife (c a b : ME)
  | idx (a i : ME) | slc (a : ME) (lo hi : Option ME)
  | tupE (es : List ME) | lstE (t : Ty) (es : List ME) | dctE (kt : List (Key × Ty)) (t : Ty) (ks : List ME) (vs : List ME)
  | bi (f : BI) (args : List ME)
  | call (k : Nat) (args : List ME)
  | lrng (a b : ME)
  | lenset (a : ME) | tupO (a : ME) | tidx (ys : List Str) (b : ME) | gidx (tab : List (Str × Key)) (b : ME) | gin (neg : Bool) (tab : List (Str × Key)) (b : ME) | join (x : Str) (b : ME) | splt (a : ME) (x : Str) | isx (i : Nat) (x : Str) | isxs (i : Nat) (xs : List Str)
  | varN (i : Nat) | slcN (a : ME) (lo hi : Option ME) | cntN (i : Nat) (b : ME) | catL (a b : ME) | mulL (a b : ME) | keysL (a : ME) | srt (a : ME) | ixL (a b : ME) | getD (a b c : ME)
  | comp (elt : ME) (tg : Tg) (own : List Nat) (k : SrcK) (args : List ME) (cond : Option ME)
mutual
def bindT : Tg → D → List D → Option (List D)
  | .s i, d, ρ => some (ρ.set i d)
  | .t l, d, ρ => (seqOf d).bind fun xs => bindTs l xs ρ
def bindTs : List Tg → List D → List D → Option (List D)
  | [], [], ρ => some ρ
  | t :: ts, x :: xs, ρ => (bindT t x ρ).bind fun ρ' => bindTs ts xs ρ'
  | _, _, _ => none
end
def retOf : RF → Option D
  | .ret d => some d
  | _ => none
/-- a comprehension's list -/
def compL (bind : D → List D → Option (List D)) (cond : List D → Option Bool) (elt : List D → Option D) (ρ : List D) : List D → Option (List D)
  | [] => some []
  | x :: xs => (bind x ρ).bind fun ρ1 => (cond ρ1).bind fun b => if b then (elt ρ1).bind fun y => (compL bind cond elt ρ xs).map (y :: ·) else compL bind cond elt ρ xs
/-- what the callees tell, what the module's names hold -/
structure Tab where
  fn : Nat → List D → RF
  gl : Nat → D
  /-- isinstance of an error of a class, as the module has it -/
  sub : Str → Str → Option Bool := fun _ _ => none
def mkDct : List D → List D → Option (List (Key × D))
  | [], [] => some []
  | k :: ks, v :: vs => (keyOf k).bind fun k => (mkDct ks vs).map fun r => (k, v) :: r
  | _, _ => none
/-- later ones over elder ones -/
def mergeD : List (Key × D) → List (Key × D) → List (Key × D)
  | acc, [] => acc
  | acc, (k, v) :: r => mergeD (putD k v acc) r
mutual
def ev (Φ : Tab) : ME → List D → Option D
  | .cst d, _ => some d
  | .var i, ρ => ρ[i]?
  | .mov i, ρ => ρ[i]?
  | .frz i, ρ => ρ[i]?
  | .frzE a, ρ => ev Φ a ρ
  | .glob i, _ => some (Φ.gl i)
  | .bin o a b, ρ => (ev Φ a ρ).bind fun x => (ev Φ b ρ).bind fun y => dBin o x y
  | .neg a, ρ => (ev Φ a ρ).bind fun x => match x with | .int i => some (.int (-i)) | _ => none
  | .cmp o a b, ρ => (ev Φ a ρ).bind fun x => (ev Φ b ρ).bind fun y => (dCmp o x y).map .bl
  | .chain o o' a b c, ρ => (ev Φ a ρ).bind fun x => (ev Φ b ρ).bind fun y => (dCmp o x y).bind fun r => if r then (ev Φ c ρ).bind fun z => (dCmp o' y z).map .bl else some (.bl false)
  | .notE a, ρ => ((ev Φ a ρ).bind truth).map fun b => .bl (!b)
  | .boolE op es, ρ => evB Φ op es ρ
  | .ife c a b, ρ => ((ev Φ c ρ).bind truth).bind fun t => if t then ev Φ a ρ else ev Φ b ρ
  | .idx a i, ρ => (ev Φ a ρ).bind fun x => (ev Φ i ρ).bind fun y => dIdx x y
  | .slc a lo hi, ρ => (ev Φ a ρ).bind fun x => (evO Φ lo ρ).bind fun l => (evO Φ hi ρ).bind fun h => dSlc x l h
  | .tupE es, ρ => (evs Φ es ρ).map .tup
  | .lstE _ es, ρ => (evs Φ es ρ).map .lst
  | .dctE _ _ ks vs, ρ => (evs Φ ks ρ).bind fun k => (evs Φ vs ρ).bind fun v => (mkDct k v).map fun r => .dct (mergeD [] r)
  | .bi f args, ρ => (evs Φ args ρ).bind (biV f)
  | .call k args, ρ => (evs Φ args ρ).bind fun ds => retOf (Φ.fn k ds)
  | .lrng a b, ρ => (ev Φ a ρ).bind fun x => (ev Φ b ρ).bind fun y => rngV x y
  | .lenset a, ρ => (ev Φ a ρ).bind lenSetV
  | .tupO a, ρ => (ev Φ a ρ).bind tupOf
  | .tidx ys b, ρ => (ev Φ b ρ).bind (tidxV ys)
  | .gidx tab b, ρ => (ev Φ b ρ).bind (tabV tab)
  | .gin neg tab b, ρ => ((ev Φ b ρ).bind (ginV neg tab)).map .bl
  | .join x b, ρ => (ev Φ b ρ).bind (joinV x)
  | .splt a x, ρ => (ev Φ a ρ).bind (spltV x)
  | .isx i x, ρ => (ρ[i]?).bind (isxV Φ.sub x)
  | .isxs i xs, ρ => (ρ[i]?).bind (isxsV Φ.sub xs)
  | .varN i, ρ => ρ[i]?
  | .slcN a lo hi, ρ => (ev Φ a ρ).bind fun x => (evO Φ lo ρ).bind fun l => (evO Φ hi ρ).bind fun h => slcNV x l h
  | .catL a b, ρ => (ev Φ a ρ).bind fun x => (ev Φ b ρ).bind fun y => catV x y
  | .mulL a b, ρ => (ev Φ a ρ).bind fun x => (ev Φ b ρ).bind fun y => mulV x y
  | .keysL a, ρ => (ev Φ a ρ).bind keysV
  | .srt a, ρ => (ev Φ a ρ).bind srtV
  | .ixL a b, ρ => (ev Φ a ρ).bind fun x => (ev Φ b ρ).bind fun y => ixlV x y
  | .getD a b c, ρ => (ev Φ a ρ).bind fun x => (ev Φ b ρ).bind fun y => (ev Φ c ρ).bind fun z => getV x y z
  | .cntN i b, ρ => (ρ[i]?).bind fun x => (ev Φ b ρ).bind fun y => cntV x y
  | .comp elt tg own k args cond, ρ => (evs Φ args ρ).bind fun ds => (srcItems k ds).bind fun xs => if xs.length ≤ mx then (compL (bindT tg) (fun ρ => evC Φ cond ρ) (fun ρ => ev Φ elt ρ) ρ xs).map .lst else none
def evs (Φ : Tab) : List ME → List D → Option (List D)
  | [], _ => some []
  | e :: es, ρ => (ev Φ e ρ).bind fun x => (evs Φ es ρ).map fun xs => x :: xs
def evB (Φ : Tab) (op : Bool) : List ME → List D → Option D
  | [], _ => none
  | e :: es, ρ => (ev Φ e ρ).bind fun x => match es with
    | [] => some x
    | e' :: es' => (truth x).bind fun t => if t == op then evB Φ op (e' :: es') ρ else some x
def evO (Φ : Tab) : Option ME → List D → Option (Option D)
  | none, _ => some none
  | some e, ρ => (ev Φ e ρ).map some
def evC (Φ : Tab) : Option ME → List D → Option Bool
  | none, _ => some true
  | some e, ρ => (ev Φ e ρ).bind truth
end

/-! ### statements -/
inductive Mut where | append | setI
inductive MS where
  | asg (t : Tg) (e : ME) | exp (e : ME)
  | mut (m : Mut) (i : Nat) (path : List ME) (args : List ME)
  | aug (i : Nat) (e : ME)
  | ifs (c : ME) (a b : List MS)
  | for_ (t : Tg) (k : SrcK) (args : List ME) (body : List MS)
  | whl (n : Nat) (c : ME) (body : List MS)
  | ret (e : ME) | retN | brk | cnt | pss | fz (i : Nat) | popA (t : Tg) (i : Nat) (e : ME)
  | popApp (i j : Nat) (e : ME) | takeA (t : Tg) (i : Nat) (e : ME) | nev
  | forR (pt ps d r : Nat) (A B : Str) | clr (i : Nat) | forK (t : Tg) (k : SrcK) (i : Nat) (body : List MS)
  | rai (x : Str) | expX (k : Nat) (as : List ME) | tryE (i : Nat) (x : Str) (body suite : List MS)
/-- behind a loop's turn -/
def contL (r : RS) (next : List D → RS) : RS := match r with
  | .nx ρ' => next ρ'
  | .cnt ρ' => next ρ'
  | .brk ρ' => .nx ρ'
  | r => r
def forL (bind : D → List D → Option (List D)) (body : List D → RS) : List D → List D → RS
  | [], ρ => .nx ρ
  | x :: xs, ρ => match bind x ρ with
    | none => .no
    | some ρ1 => contL (body ρ1) (forL bind body xs)
def whlL (test : List D → Option Bool) (body : List D → RS) : Nat → List D → RS
  | 0, _ => .no
  | n + 1, ρ => match test ρ with
    | none => .no
    | some false => .nx ρ
    | some true => contL (body ρ) (whlL test body n)
/-- a change at the end of a path -/
def atPath (f : D → Option D) : List D → D → Option D
  | [], d => f d
  | i :: p, d => match d, i with
    | .lst xs, .int i => (ixN xs.length i).bind fun k => (xs[k]?).bind fun x => (atPath f p x).map fun y => .lst (xs.set k y)
    | .tup xs, .int i => (ixN xs.length i).bind fun k => (xs[k]?).bind fun x => (atPath f p x).map fun y => .tup (xs.set k y)
    | .dct kvs, k => (keyOf k).bind fun k => (getK k kvs).bind fun x => (atPath f p x).map fun y => .dct (putD k y kvs)
    | _, _ => none
def mutV : Mut → List D → D → Option D
  | .append, [x], .lst xs => if xs.length < mx then some (.lst (xs ++ [x])) else none
  | .setI, [.int i, x], .lst xs => (ixN xs.length i).map fun k => .lst (xs.set k x)
  | .setI, [k, x], .dct kvs => if kvs.length < mx then (keyOf k).map fun k => .dct (putD k x kvs) else none
  | _, _, _ => none
def popV : D → D → Option (D × D)
  | .int i, .lst xs => if inR i then (ixN xs.length i).bind fun k => (xs[k]?).map fun x => (x, .lst (xs.eraseIdx k)) else none
  | _, _ => none
/-- what a try is worth -/
def tryR (sub : Str → Str → Option Bool) (x : Str) (i : Nat) (fsu : List D → RS) (r : RS) : RS := match r with
  | .exc e ρ' => match e.fld, sub e.cls x with
    | [], some true => match fsu (ρ'.set i (.str e.cls)) with
      | .nx ρ2 => .nx (ρ2.set i .non)
      | .ret d => .ret d
      | _ => .no
    | [], some false => .exc e ρ'
    | _, _ => .no
  | r => r
/-- what a call as a statement is worth -/
def callR (m : List D → RF) (ρ : List D) : Option (List D) → RS
  | none => .no
  | some ds => match m ds with
    | .ret _ => .nx ρ
    | .exc e => .exc e ρ
    | .no => .no
def ofO (r : Option (List D)) : RS := match r with | some ρ => .nx ρ | none => .no
/-- r.append(int(x.replace(a, b))) -/
def appRV (r pt : Nat) (A B : Str) (ρ : List D) : RS := ofO ((ρ[pt]?).bind fun x => (repV A B x).bind fun v => (ρ[r]?).bind fun l => (mutV .append [v] l).map fun l' => ρ.set r l')
def appDV (r pt d : Nat) (ρ : List D) : RS := ofO (((ρ[d]?).bind fun x => (ρ[pt]?).bind fun y => dIdx x y).bind fun v => (ρ[r]?).bind fun l => (mutV .append [v] l).map fun l' => ρ.set r l')
def repB (pt d r : Nat) (A B : Str) (ρ : List D) : RS := match (ρ[pt]?).bind fun x => (ρ[d]?).bind fun y => dCmp .inn x y with
  | some true => appDV r pt d ρ
  | some false => appRV r pt A B ρ
  | none => .no
/-- a dict that is walked -/
def srcK : SrcK → List (Key × D) → List D
  | .vals, kds => kds.map (·.2)
  | .items, kds => kds.map fun p => .tup [keyD p.1, p.2]
  | _, kds => kds.map fun p => keyD p.1
def noX : RS → RS
  | .nx ρ => .nx ρ
  | .ret d => .ret d
  | _ => .no
def clrV : D → Option D
  | .lst _ => some (.lst [])
  | _ => none
mutual
def ex (Φ : Tab) : MS → List D → RS
  | .asg t e, ρ => ofO ((ev Φ e ρ).bind fun d => bindT t d ρ)
  | .exp e, ρ => ofO ((ev Φ e ρ).map fun _ => ρ)
  | .mut m i p as, ρ => ofO ((evs Φ as ρ).bind fun ds => (evs Φ p ρ).bind fun ps => (ρ[i]?).bind fun d => (atPath (mutV m ds) ps d).map fun d' => ρ.set i d')
  | .aug i e, ρ => ofO ((ρ[i]?).bind fun x => (ev Φ e ρ).bind fun y => (augV x y).map fun z => ρ.set i z)
  | .ifs c a b, ρ => match (ev Φ c ρ).bind truth with
    | some true => exs Φ a ρ
    | some false => exs Φ b ρ
    | none => .no
  | .for_ t k as body, ρ => match (evs Φ as ρ).bind (srcItems k) with
    | some xs => forL (bindT t) (fun ρ => exs Φ body ρ) xs ρ
    | none => .no
  | .whl n c body, ρ => whlL (fun ρ => (ev Φ c ρ).bind truth) (fun ρ => exs Φ body ρ) n ρ
  | .ret e, ρ => match ev Φ e ρ with | some d => .ret d | none => .no
  | .retN, _ => .ret .non
  | .brk, ρ => .brk ρ
  | .cnt, ρ => .cnt ρ
  | .pss, ρ => .nx ρ
  | .fz _, ρ => .nx ρ
  | .popApp i j e, ρ => ofO ((ev Φ e ρ).bind fun y => (ρ[j]?).bind fun dl => (popV y dl).bind fun q => (ρ[i]?).bind fun d => (mutV .append [q.1] d).map fun d' => (ρ.set j q.2).set i d')
  | .takeA t i e, ρ => ofO ((ev Φ e ρ).bind fun y => (ρ[i]?).bind fun dl => (dIdx dl y).bind fun z => (setD dl y .hole).bind fun dl' => bindT t z (ρ.set i dl'))
  | .nev, _ => .no
  | .forR pt ps d r A B, ρ => match (ρ[ps]?).bind cutD with | some xs => forL (bindT (.s pt)) (repB pt d r A B) xs ρ | none => .no
  | .clr i, ρ => ofO ((ρ[i]?).bind fun x => (clrV x).map fun y => ρ.set i y)
  | .forK t k i body, ρ => match ρ[i]? with | some (.dct kds) => noX (forL (bindT t) (fun ρ => exs Φ body ρ) (srcK k kds) ρ) | _ => .no
  | .rai x, ρ => .exc ⟨x, []⟩ ρ
  | .expX k as, ρ => callR (Φ.fn k) ρ (evs Φ as ρ)
  | .tryE i x b s, ρ => tryR Φ.sub x i (exs Φ s) (exs Φ b ρ)
  | .popA t i e, ρ => ofO ((ev Φ e ρ).bind fun y => (ρ[i]?).bind fun dl => (popV y dl).bind fun q => bindT t q.1 (ρ.set i q.2))
def exs (Φ : Tab) : List MS → List D → RS
  | [], ρ => .nx ρ
  | s :: ss, ρ => match ex Φ s ρ with
    | .nx ρ' => exs Φ ss ρ'
    | r => r
end
/-- a def: its slots, its body -/
def runF (Φ : Tab) (n : Nat) (body : List MS) (args : List D) : RF :=
  if args.length ≤ n then
    match exs Φ body (args ++ List.replicate (n - args.length) .non) with
    | .nx _ => .ret .non
    | .ret d => .ret d
    | .exc e _ => .exc e
    | _ => .no
  else .no
end My

set_option Elab.async false
set_option linter.all false
set_option maxRecDepth 100000
/-! Data as it lies in the abstract heap: frozen, or owned. -/
namespace My
open PySem L2

/-- a list that is read: tracked, or one of the module's own -/
def SqK (K : PySem.W.Frag) (G : Hp) (a : Addr) (xs : List V) : Prop :=
  Rd G a (.lst xs) ∨ ∃ (its : Array Value) (n : Nat), K.lookup a = some { cls := .type "list", data := .seq its n } ∧ its.size ≤ sizeLine ∧ Vals xs its.toList
theorem SqK.sq {K : PySem.W.Frag} {G : Hp} {a : Addr} {xs : List V} (h : SqK K G a xs) : SqL K G a xs :=
  h.elim .inl fun ⟨its, n, e, z, r⟩ => .inr ⟨_, its, n, e, rfl, rfl, rfl, z, r⟩
theorem SqK.of {K : PySem.W.Frag} {G : Hp} {a : Addr} {xs : List V} (h : G a = some (.lst xs)) : SqK K G a xs := .inl (.inl h)
/-- a dict that is read -/
def DcR (K : PySem.W.Frag) (G : Hp) (a : Addr) (kvs : List (Key × V)) : Prop := Rd G a (.dK kvs) ∧ (kvs.map (·.1)).Nodup

mutual
inductive Fz (K : PySem.W.Frag) (G : Hp) : V → D → Prop
  | flat {d : D} : flat d = true → Fz K G (toV d) d
  | hole {v : V} : Fz K G v .hole
  | lst {a : Addr} {vs : List V} {ds : List D} : SqK K G a vs → FzL K G vs ds → Fz K G (.ref a) (.lst ds)
  | tup {a : Addr} {vs : List V} {ds : List D} : SqT K G a vs → FzL K G vs ds → Fz K G (.ref a) (.tup ds)
  | dct {a : Addr} {kws : List (Key × V)} {kds : List (Key × D)} : DcR K G a kws → FzK K G kws kds → Fz K G (.ref a) (.dct kds)
inductive FzL (K : PySem.W.Frag) (G : Hp) : List V → List D → Prop
  | nil : FzL K G [] []
  | cons {v : V} {d : D} {vs : List V} {ds : List D} : Fz K G v d → FzL K G vs ds → FzL K G (v :: vs) (d :: ds)
inductive FzK (K : PySem.W.Frag) (G : Hp) : List (Key × V) → List (Key × D) → Prop
  | nil : FzK K G [] []
  | cons {k : Key} {v : V} {d : D} {vs : List (Key × V)} {ds : List (Key × D)} : Fz K G v d → FzK K G vs ds → FzK K G ((k, v) :: vs) ((k, d) :: ds)
end

section
variable {K : PySem.W.Frag} {G G' : Hp}
theorem sqT_same {a : Addr} {xs : List V} (e : Same G G') (h : SqT K G a xs) : SqT K G' a xs := by
  rcases h with (h | ⟨o, h⟩) | h
  · exact .inl (.inl (e _ _ h))
  · exact .inl (.inr ⟨o, e _ _ h⟩)
  · exact .inr h
theorem sqK_same {a : Addr} {xs : List V} (e : Same G G') (h : SqK K G a xs) : SqK K G' a xs := by
  rcases h with (h | ⟨o, h⟩) | h
  · exact .inl (.inl (e _ _ h))
  · exact .inl (.inr ⟨o, e _ _ h⟩)
  · exact .inr h
theorem rd_same {a : Addr} {u : HO} (e : Same G G') (h : Rd G a u) : Rd G' a u := by
  rcases h with h | ⟨o, h⟩
  · exact .inl (e _ _ h)
  · exact .inr ⟨o, e _ _ h⟩
theorem dcR_same {a : Addr} {xs : List (Key × V)} (e : Same G G') (h : DcR K G a xs) : DcR K G' a xs := by
  obtain ⟨h | ⟨o, h⟩, n⟩ := h
  · exact ⟨.inl (e _ _ h), n⟩
  · exact ⟨.inr ⟨o, e _ _ h⟩, n⟩
mutual
theorem Fz.same {v : V} {d : D} (e : Same G G') (h : Fz K G v d) : Fz K G' v d := by
  cases h with
  | flat h => exact .flat h
  | hole => exact .hole
  | lst h l => exact .lst (sqK_same e h) (FzL.same e l)
  | tup h l => exact .tup (sqT_same e h) (FzL.same e l)
  | dct h l => exact .dct (dcR_same e h) (FzK.same e l)
theorem FzL.same {vs : List V} {ds : List D} (e : Same G G') (h : FzL K G vs ds) : FzL K G' vs ds := by
  cases h with
  | nil => exact .nil
  | cons h l => exact .cons (Fz.same e h) (FzL.same e l)
theorem FzK.same {vs : List (Key × V)} {ds : List (Key × D)} (e : Same G G') (h : FzK K G vs ds) : FzK K G' vs ds := by
  cases h with
  | nil => exact .nil
  | cons h l => exact .cons (Fz.same e h) (FzK.same e l)
end
theorem FzL.length : ∀ {vs : List V} {ds : List D}, FzL K G vs ds → vs.length = ds.length
  | _, _, .nil => rfl
  | _, _, .cons _ l => congrArg (· + 1) (FzL.length l)
theorem FzL.get : ∀ {vs : List V} {ds : List D} {i : Nat} {d : D}, FzL K G vs ds → ds[i]? = some d → ∃ v, vs[i]? = some v ∧ Fz K G v d
  | _, _, _, _, .nil, e => by simp at e
  | _, _, 0, _, .cons h _, e => by simp at e; subst e; exact ⟨_, rfl, h⟩
  | _, _, i + 1, _, .cons _ l, e => by
    obtain ⟨v, h1, h2⟩ := FzL.get (i := i) l (by simpa using e)
    exact ⟨v, by simpa using h1, h2⟩
theorem FzL.append : ∀ {vs ws : List V} {ds es : List D}, FzL K G vs ds → FzL K G ws es → FzL K G (vs ++ ws) (ds ++ es)
  | _, _, _, _, .nil, h => h
  | _, _, _, _, .cons h l, h' => .cons h (FzL.append l h')
theorem FzL.rev : ∀ {vs : List V} {ds : List D}, FzL K G vs ds → FzL K G vs.reverse ds.reverse
  | _, _, .nil => .nil
  | _, _, .cons h l => by
    rw [List.reverse_cons, List.reverse_cons]
    exact FzL.append (FzL.rev l) (.cons h .nil)
theorem FzL.take : ∀ {vs : List V} {ds : List D} (n : Nat), FzL K G vs ds → FzL K G (vs.take n) (ds.take n)
  | _, _, _, .nil => by simp; exact .nil
  | _, _, 0, .cons _ _ => .nil
  | _, _, n + 1, .cons h l => .cons h (FzL.take n l)
theorem FzL.drop : ∀ {vs : List V} {ds : List D} (n : Nat), FzL K G vs ds → FzL K G (vs.drop n) (ds.drop n)
  | _, _, _, .nil => by simp; exact .nil
  | _, _, 0, .cons h l => .cons h l
  | _, _, n + 1, .cons _ l => FzL.drop n l
theorem FzL.set {v : V} {d : D} (r : Fz K G v d) : ∀ {vs : List V} {ds : List D} (i : Nat), FzL K G vs ds → FzL K G (vs.set i v) (ds.set i d)
  | _, _, _, .nil => .nil
  | _, _, 0, .cons _ t => .cons r t
  | _, _, i + 1, .cons q t => .cons q (FzL.set r i t)
theorem FzK.keys : ∀ {vs : List (Key × V)} {ds : List (Key × D)}, FzK K G vs ds → vs.map (·.1) = ds.map (·.1)
  | _, _, .nil => rfl
  | _, _, .cons _ l => congrArg (_ :: ·) (FzK.keys l)
theorem FzK.vals : ∀ {vs : List (Key × V)} {ds : List (Key × D)}, FzK K G vs ds → FzL K G (vs.map (·.2)) (ds.map (·.2))
  | _, _, .nil => .nil
  | _, _, .cons h l => .cons h (FzK.vals l)
theorem FzK.length {vs : List (Key × V)} {ds : List (Key × D)} (h : FzK K G vs ds) : vs.length = ds.length := by
  have := congrArg List.length h.keys
  simpa using this
theorem Fz.flat_eq {v : V} {d : D} (h : Fz K G v d) (f : My.flat d = true) : v = toV d := by
  cases h with
  | flat _ => rfl
  | hole => cases f
  | lst _ _ => cases f
  | tup _ _ => cases f
  | dct _ _ => cases f
theorem Fz.int {v : V} {i : Int} (h : Fz K G v (.int i)) : v = .int i := h.flat_eq rfl
theorem Fz.str {v : V} {i : Str} (h : Fz K G v (.str i)) : v = .str i := h.flat_eq rfl
theorem Fz.bl {v : V} {i : Bool} (h : Fz K G v (.bl i)) : v = .bl i := h.flat_eq rfl
theorem Fz.non {v : V} (h : Fz K G v .non) : v = .non := h.flat_eq rfl
end

/-! ### owned data; fp: the addresses of what is owned -/
abbrev Trip := Ty × V × D
mutual
inductive R (K : PySem.W.Frag) (G H : Hp) : Ty → V → D → List Addr → Prop
  | flat {t : Ty} {d : D} : flat d = true → R K G H t (toV d) d []
  | F {v : V} {d : D} : Fz K G v d → R K G H .F v d []
  | hole {t : Ty} {v : V} : R K G H t v .hole []
  | L {t : Ty} {a : Addr} {xs : List Trip} {fp : List Addr} : H a = some (.lst (xs.map (·.2.1))) → (∀ x ∈ xs, x.1 = t) → RL K G H xs fp → R K G H (.L t) (.ref a) (.lst (xs.map (·.2.2))) (a :: fp)
  | T {ts : List Ty} {t : Ty} {a : Addr} {xs : List Trip} {fp : List Addr} : Rd G a (.tup (xs.map (·.2.1))) → (∀ i x, xs[i]? = some x → x.1 = Ty.atI ts t i) → RL K G H xs fp → R K G H (.T ts t) (.ref a) (.tup (xs.map (·.2.2))) fp
  | Dc {ks : List (Key × Ty)} {t : Ty} {a : Addr} {kxs : List (Key × Trip)} {fp : List Addr} : H a = some (.dK (kxs.map fun p => (p.1, p.2.2.1))) → (kxs.map (·.1)).Nodup → (∀ p ∈ kxs, p.2.1 = Ty.atK ks t p.1) →
      RL K G H (kxs.map (·.2)) fp → R K G H (.Dc ks t) (.ref a) (.dct (kxs.map fun p => (p.1, p.2.2.2))) (a :: fp)
  | N {a : Addr} {o : Obj} {vs : List V} {ds : List D} : G a = some (.frz o (.tup vs)) → o.dict = none → FzL K G vs ds → R K G H .N (.ref a) (.tup ds) []
inductive RL (K : PySem.W.Frag) (G H : Hp) : List Trip → List Addr → Prop
  | nil : RL K G H [] []
  | cons {t : Ty} {v : V} {d : D} {fp : List Addr} {xs : List Trip} {fps : List Addr} : R K G H t v d fp → RL K G H xs fps → RL K G H ((t, v, d) :: xs) (fp ++ fps)
end
section
variable {K : PySem.W.Frag} {G G' H H' : Hp}
theorem R.mono {t : Ty} {v : V} {d : D} {fp : List Addr} (e : Same G G') (k : ∀ a ∈ fp, H' a = H a) (h : R K G H t v d fp) : R K G' H' t v d fp :=
  R.rec (motive_1 := fun t v d fp _ => (∀ a ∈ fp, H' a = H a) → R K G' H' t v d fp) (motive_2 := fun xs fp _ => (∀ a ∈ fp, H' a = H a) → RL K G' H' xs fp)
    (fun h _ => .flat h) (fun h _ => .F (h.same e)) (fun _ => .hole)
    (fun h i _ l k => .L ((k _ List.mem_cons_self).trans h) i (l fun a m => k a (List.mem_cons_of_mem _ m)))
    (fun h i _ l k => .T (rd_same e h) i (l k))
    (fun h n i _ l k => .Dc ((k _ List.mem_cons_self).trans h) n i (l fun a m => k a (List.mem_cons_of_mem _ m)))
    (fun h n l _ => .N (e _ _ h) n (l.same e))
    (fun _ => .nil) (fun _ _ h l k => .cons (h fun a m => k a (List.mem_append_left _ m)) (l fun a m => k a (List.mem_append_right _ m))) h k
theorem RL.mono (e : Same G G') : ∀ {xs : List Trip} {fp : List Addr}, (∀ a ∈ fp, H' a = H a) → RL K G H xs fp → RL K G' H' xs fp
  | _, _, _, .nil => .nil
  | _, _, k, .cons h l => .cons (h.mono e fun a m => k a (List.mem_append_left _ m)) (RL.mono e (fun a m => k a (List.mem_append_right _ m)) l)
theorem R.dom {t : Ty} {v : V} {d : D} {fp : List Addr} (h : R K G H t v d fp) : ∀ a ∈ fp, H a ≠ none :=
  R.rec (motive_1 := fun t v d fp _ => ∀ a ∈ fp, H a ≠ none) (motive_2 := fun xs fp _ => ∀ a ∈ fp, H a ≠ none)
    (fun _ a m => nomatch m) (fun _ a m => nomatch m) (fun a m => nomatch m)
    (fun h _ _ l a m => (List.mem_cons.mp m).elim (fun e => by rw [e, h]; exact Option.some_ne_none _) (l a))
    (fun h _ _ l a m => l a m)
    (fun h _ _ _ l a m => (List.mem_cons.mp m).elim (fun e => by rw [e, h]; exact Option.some_ne_none _) (l a))
    (fun _ _ _ a m => nomatch m)
    (fun a m => nomatch m) (fun _ _ h l a m => (List.mem_append.mp m).elim (h a) (l a)) h
theorem RL.dom : ∀ {xs : List Trip} {fp : List Addr}, RL K G H xs fp → ∀ a ∈ fp, H a ≠ none
  | _, _, .nil => fun a m => nomatch m
  | _, _, .cons h l => fun a m => (List.mem_append.mp m).elim (h.dom a) (RL.dom l a)
theorem R.same {t : Ty} {v : V} {d : D} {fp : List Addr} (e : Same G G') (e' : Same H H') (h : R K G H t v d fp) : R K G' H' t v d fp := h.mono e fun a ma => by
  cases q : H a with
  | none => exact absurd q (h.dom a ma)
  | some o => exact e' a o q
theorem RL.same {xs : List Trip} {fp : List Addr} (e : Same G G') (e' : Same H H') (h : RL K G H xs fp) : RL K G' H' xs fp := h.mono e fun a ma => by
  cases q : H a with
  | none => exact absurd q (h.dom a ma)
  | some o => exact e' a o q
theorem fzK_of {J : Hp} : ∀ {kxs : List (Key × Trip)}, FzL K J (kxs.map (·.2.2.1)) (kxs.map (·.2.2.2)) → FzK K J (kxs.map fun p => (p.1, p.2.2.1)) (kxs.map fun p => (p.1, p.2.2.2))
  | [], _ => .nil
  | _ :: _, .cons h l => .cons h (fzK_of l)
/-- what is owned can be read, and stands still where its addresses do -/
theorem R.fz {t : Ty} {v : V} {d : D} {fp : List Addr} {J : Hp} (e : Same G J) (k : ∀ a ∈ fp, J a = H a) (h : R K G H t v d fp) : Fz K J v d :=
  R.rec (motive_1 := fun t v d fp _ => (∀ a ∈ fp, J a = H a) → Fz K J v d) (motive_2 := fun xs fp _ => (∀ a ∈ fp, J a = H a) → FzL K J (List.map (fun x : Trip => x.2.1) xs) (List.map (fun x : Trip => x.2.2) xs))
    (fun h _ => .flat h) (fun h _ => h.same e) (fun _ => .hole)
    (fun h i _ l k => .lst (SqK.of ((k _ List.mem_cons_self).trans h)) (l fun a m => k a (List.mem_cons_of_mem _ m)))
    (fun h i _ l k => .tup (.inl (rd_same e h)) (l k))
    (fun h n i _ l k => .dct ⟨.inl ((k _ List.mem_cons_self).trans h), by simpa [Function.comp_def] using n⟩ (fzK_of (by simpa [Function.comp_def] using l fun a m => k a (List.mem_cons_of_mem _ m))))
    (fun h _ l _ => .tup (.inl (.inr ⟨_, e _ _ h⟩)) (l.same e))
    (fun _ => .nil) (fun _ _ h l k => .cons (h fun a m => k a (List.mem_append_left _ m)) (l fun a m => k a (List.mem_append_right _ m))) h k
theorem RL.fz {J : Hp} (e : Same G J) : ∀ {xs : List Trip} {fp : List Addr}, (∀ a ∈ fp, J a = H a) → RL K G H xs fp → FzL K J (xs.map (·.2.1)) (xs.map (·.2.2))
  | _, _, _, .nil => .nil
  | _, _, k, .cons h l => .cons (h.fz e fun a m => k a (List.mem_append_left _ m)) (RL.fz e (fun a m => k a (List.mem_append_right _ m)) l)
theorem R.read {t : Ty} {v : V} {d : D} {fp : List Addr} (e : Same G H) (h : R K G H t v d fp) : Fz K H v d := h.fz e fun _ _ => rfl
end
end My

set_option Elab.async false
set_option linter.all false
set_option maxRecDepth 100000
/-! The state of a def's run: slots, what is held beside them, the frozen part. -/
namespace My
open PySem L2

inductive Slot where
  /-- no claim; owned; borrowed from the caller; the error that is handled -/
  | gone | own (t : Ty) | bor (t : Ty) | exc
abbrev Env := List D
/-- B: what stays as it is through the run; G0: what is frozen at the entry -/
structure FC where
  B : Hp
  G0 : Hp
  /-- the error that is handled: where it lies, its class -/
  ea : Addr
  ec : Str
abbrev fc0 (B G0 : Hp) : FC := { B := B, G0 := G0, ea := 0, ec := ⟨#[]⟩ }

def envT : List Slot → St → Env → List Trip
  | .own t :: τ, some v :: σ, d :: ρ => (t, v, d) :: envT τ σ ρ
  | _ :: τ, _ :: σ, _ :: ρ => envT τ σ ρ
  | _, _, _ => []

section
variable {K : PySem.W.Frag} {G G' H H' : Hp}
theorem RL.append : ∀ {xs ys : List Trip} {fp fq : List Addr}, RL K G H xs fp → RL K G H ys fq → RL K G H (xs ++ ys) (fp ++ fq)
  | _, _, _, _, .nil, h => h
  | _, _, _, _, .cons h l, h' => by
    rw [List.append_assoc]
    exact .cons h (RL.append l h')
theorem RL.split : ∀ {xs ys : List Trip} {fp : List Addr}, RL K G H (xs ++ ys) fp → ∃ f1 f2, fp = f1 ++ f2 ∧ RL K G H xs f1 ∧ RL K G H ys f2
  | [], _, fp, h => ⟨[], fp, rfl, .nil, h⟩
  | _ :: _, _, _, .cons (fp := fa) h l => by
    obtain ⟨f1, f2, e, a, b⟩ := RL.split l
    refine ⟨fa ++ f1, f2, ?_, .cons h a, b⟩
    rw [e, List.append_assoc]
theorem RL.perm {xs ys : List Trip} (p : xs.Perm ys) : ∀ {fp : List Addr}, RL K G H xs fp → ∃ fq, RL K G H ys fq ∧ fp.Perm fq := by
  induction p with
  | nil => intro fp h; exact ⟨fp, h, .refl _⟩
  | cons x _ ih =>
    intro fp h
    cases h with
    | cons h l =>
      obtain ⟨fq, a, b⟩ := ih l
      exact ⟨_, .cons h a, b.append_left _⟩
  | swap x y l =>
    intro fp h
    cases h with
    | cons h l =>
      cases l with
      | cons h' l =>
        refine ⟨_, .cons h' (.cons h l), ?_⟩
        rw [← List.append_assoc, ← List.append_assoc]
        exact List.perm_append_comm.append_right _
  | trans _ _ ih1 ih2 =>
    intro fp h
    obtain ⟨f1, a, b⟩ := ih1 h
    obtain ⟨f2, a', b'⟩ := ih2 a
    exact ⟨f2, a', b.trans b'⟩

theorem envT_gone : ∀ {τ : List Slot} {σ : St} {ρ : Env} {i : Nat} {t : Ty} {v : V} {d : D}, τ[i]? = some (.own t) → σ[i]? = some (some v) → ρ[i]? = some d → (envT τ σ ρ).Perm ((t, v, d) :: envT (τ.set i .gone) σ ρ)
  | [], _, _, _, _, _, _, h, _, _ => by simp at h
  | _ :: _, [], _, _, _, _, _, _, h, _ => by simp at h
  | _ :: _, _ :: _, [], _, _, _, _, _, _, h => by simp at h
  | a :: τ, b :: σ, e :: ρ, 0, t, v, d, h1, h2, h3 => by
    simp at h1 h2 h3
    subst h1; subst h2; subst h3
    exact .refl _
  | a :: τ, b :: σ, e :: ρ, i + 1, t, v, d, h1, h2, h3 => by
    have ih := envT_gone (τ := τ) (σ := σ) (ρ := ρ) (i := i) (by simpa using h1) (by simpa using h2) (by simpa using h3)
    cases a with
    | own t' =>
      cases b with
      | some v' => exact (ih.cons _).trans (.swap _ _ _)
      | none => exact ih
    | gone => cases b <;> exact ih
    | bor t' => cases b <;> exact ih
    | exc => cases b <;> exact ih
theorem envT_set : ∀ {τ : List Slot} {σ : St} {ρ : Env} {i : Nat} (t : Ty) (v : V) (d : D), σ.length = τ.length → ρ.length = τ.length → i < τ.length →
    (envT (τ.set i (.own t)) (σ.set i (some v)) (ρ.set i d)).Perm ((t, v, d) :: envT (τ.set i .gone) σ ρ)
  | [], _, _, _, _, _, _, _, _, h => by simp at h
  | _ :: _, [], _, _, _, _, _, h, _, _ => by simp at h
  | _ :: _, _ :: _, [], _, _, _, _, _, h, _ => by simp at h
  | a :: τ, b :: σ, e :: ρ, 0, t, v, d, h1, h2, h3 => by exact .refl _
  | a :: τ, b :: σ, e :: ρ, i + 1, t, v, d, h1, h2, h3 => by
    have ih := envT_set (τ := τ) (σ := σ) (ρ := ρ) (i := i) t v d (by simpa using h1) (by simpa using h2) (by simpa using h3)
    cases a with
    | own t' =>
      cases b with
      | some v' => exact (ih.cons _).trans (.swap _ _ _)
      | none => exact ih
    | gone => cases b <;> exact ih
    | bor t' => cases b <;> exact ih
    | exc => cases b <;> exact ih
theorem envT_goneset : ∀ {τ : List Slot} {σ : St} {ρ : Env} {i : Nat} (o : Option V) (d : D), envT (τ.set i .gone) (σ.set i o) (ρ.set i d) = envT (τ.set i .gone) σ ρ
  | [], _, _, _, _, _ => by simp [envT]
  | _ :: _, [], _, _, _, _ => by simp [envT]
  | _ :: _, _ :: _, [], _, _, _ => by simp [envT]
  | a :: τ, b :: σ, e :: ρ, 0, o, d => by rfl
  | a :: τ, b :: σ, e :: ρ, i + 1, o, d => by
    have ih := envT_goneset (τ := τ) (σ := σ) (ρ := ρ) (i := i) o d
    simp only [List.set_cons_succ]
    cases a with
    | own t' =>
      cases b with
      | some v' => simp only [envT, ih]
      | none => simp only [envT, ih]
    | gone => simp only [envT, ih]
    | bor t' => simp only [envT, ih]
    | exc => simp only [envT, ih]
theorem envT_sub : ∀ {τ : List Slot} {σ : St} {ρ : Env} {i : Nat}, ∃ ys, (envT τ σ ρ).Perm (ys ++ envT (τ.set i .gone) σ ρ)
  | [], _, _, _ => ⟨[], by simp [envT]⟩
  | a :: _, [], _, i => ⟨[], by cases i <;> cases a <;> exact .refl _⟩
  | a :: _, b :: _, [], i => ⟨[], by cases i <;> cases a <;> cases b <;> exact .refl _⟩
  | a :: τ, b :: σ, e :: ρ, 0 => by
    cases a with
    | own t =>
      cases b with
      | some v => exact ⟨[(t, v, e)], .refl _⟩
      | none => exact ⟨[], .refl _⟩
    | gone => exact ⟨[], .refl _⟩
    | bor t => exact ⟨[], .refl _⟩
    | exc => exact ⟨[], .refl _⟩
  | a :: τ, b :: σ, e :: ρ, i + 1 => by
    obtain ⟨ys, ih⟩ := envT_sub (τ := τ) (σ := σ) (ρ := ρ) (i := i)
    refine ⟨ys, ?_⟩
    simp only [List.set_cons_succ]
    cases a with
    | own t =>
      cases b with
      | some v => exact (ih.cons _).trans (List.perm_middle.symm)
      | none => exact ih
    | gone => cases b <;> exact ih
    | bor t => cases b <;> exact ih
    | exc => cases b <;> exact ih
end

structure Ok (K : PySem.W.Frag) (c : FC) (τ : List Slot) (hs : List Trip) (G : Hp) (σ : St) (H : Hp) (ρ : Env) : Prop where
  ls : σ.length = τ.length
  lr : ρ.length = τ.length
  has : ∀ (i : Nat) t, τ[i]? = some (.own t) → ∃ v, σ[i]? = some (some v)
  bor : ∀ (i : Nat) t, τ[i]? = some (.bor t) → ∃ v d fp, σ[i]? = some (some v) ∧ ρ[i]? = some d ∧ R K G c.B t v d fp
  exq : ∀ (i : Nat), τ[i]? = some .exc → σ[i]? = some (some (.ref c.ea)) ∧ ρ[i]? = some (.str c.ec)
  own : ∃ fp, RL K G H (envT τ σ ρ ++ hs) fp ∧ fp.Nodup ∧ ∀ a ∈ fp, G a = none ∧ c.B a = none
  frG : Same G H
  base : Same c.B H
  g0 : Same c.G0 G
  gn : ∀ a, G a ≠ none → c.G0 a ≠ none ∨ c.B a = none

section
variable {K : PySem.W.Frag} {c : FC} {τ τ' : List Slot} {hs hs' : List Trip} {G G' H H' : Hp} {σ : St} {ρ : Env}

/-- what is held, otherwise ordered or less of it -/
theorem Ok.perm (h : Ok K c τ hs G σ H ρ) (p : hs.Perm hs') : Ok K c τ hs' G σ H ρ := by
  obtain ⟨fp, r, n, z⟩ := h.own
  obtain ⟨fq, r', q⟩ := r.perm (p.append_left _)
  exact { h with own := ⟨fq, r', q.nodup_iff.mp n, fun a m => z a (q.mem_iff.mpr m)⟩ }
theorem Ok.drops {xs : List Trip} (h : Ok K c τ (xs ++ hs) G σ H ρ) : Ok K c τ hs G σ H ρ := by
  obtain ⟨fp, r, n, z⟩ := h.own
  obtain ⟨fq, r', q⟩ := r.perm (ys := xs ++ (envT τ σ ρ ++ hs)) (by
    rw [← List.append_assoc, ← List.append_assoc]
    exact List.perm_append_comm.append_right _)
  obtain ⟨f1, f2, rfl, _, r2⟩ := r'.split
  refine { h with own := ⟨f2, r2, (List.nodup_append.mp (q.nodup_iff.mp n)).2.1, fun a m => z a (q.mem_iff.mpr (List.mem_append_right _ m))⟩ }
theorem Ok.drop {x : Trip} (h : Ok K c τ (x :: hs) G σ H ρ) : Ok K c τ hs G σ H ρ := Ok.drops (xs := [x]) h
/-- a held thing as it lies -/
theorem Ok.top {t : Ty} {v : V} {d : D} (h : Ok K c τ ((t, v, d) :: hs) G σ H ρ) : ∃ fp, R K G H t v d fp := by
  obtain ⟨fp, r, n, z⟩ := h.own
  obtain ⟨fq, r', q⟩ := r.perm List.perm_middle
  cases r' with
  | cons a _ => exact ⟨_, a⟩
theorem Ok.slot {i : Nat} {t : Ty} {d : D} (h : Ok K c τ hs G σ H ρ) (e : τ[i]? = some (.own t)) (er : ρ[i]? = some d) : ∃ v fp, σ[i]? = some (some v) ∧ R K G H t v d fp := by
  obtain ⟨v, hv⟩ := h.has i t e
  obtain ⟨fp, r, n, z⟩ := h.own
  obtain ⟨fq, r', q⟩ := r.perm ((envT_gone e hv er).append_right hs)
  cases r' with
  | cons a _ => exact ⟨v, _, hv, a⟩
theorem Ok.slotB {i : Nat} {t : Ty} {d : D} (h : Ok K c τ hs G σ H ρ) (e : τ[i]? = some (.bor t)) (er : ρ[i]? = some d) : ∃ v fp, σ[i]? = some (some v) ∧ R K G H t v d fp := by
  obtain ⟨v, d', fp, e1, e2, r⟩ := h.bor i t e
  rw [er] at e2
  cases e2
  exact ⟨v, fp, e1, r.same (Same.refl _) h.base⟩
/-- the heap grows -/
theorem Ok.grow (h : Ok K c τ hs G σ H ρ) (s : Same H H') : Ok K c τ hs G σ H' ρ := by
  obtain ⟨fp, r, n, z⟩ := h.own
  exact { h with own := ⟨fp, r.same (Same.refl _) s, n, z⟩, frG := h.frG.trans s, base := h.base.trans s }
/-- a frozen thing is held -/
theorem Ok.push {v : V} {d : D} (h : Ok K c τ hs G σ H ρ) (f : Fz K G v d) : Ok K c τ ((.F, v, d) :: hs) G σ H ρ := by
  obtain ⟨fp, r, n, z⟩ := h.own
  obtain ⟨fq, r', q⟩ := (RL.cons (R.F f) r).perm (ys := envT τ σ ρ ++ (.F, v, d) :: hs) List.perm_middle.symm
  exact { h with own := ⟨fq, r', q.nodup_iff.mp n, fun a m => z a (q.mem_iff.mpr m)⟩ }
theorem Ok.pushFlat {d : D} (t : Ty) (h : Ok K c τ hs G σ H ρ) (f : flat d = true) : Ok K c τ ((t, toV d, d) :: hs) G σ H ρ := by
  obtain ⟨fp, r, n, z⟩ := h.own
  obtain ⟨fq, r', q⟩ := (RL.cons (R.flat (t := t) f) r).perm (ys := envT τ σ ρ ++ (t, toV d, d) :: hs) List.perm_middle.symm
  exact { h with own := ⟨fq, r', q.nodup_iff.mp n, fun a m => z a (q.mem_iff.mpr m)⟩ }
/-- a held thing is frozen -/
theorem Ok.freeze {t : Ty} {v : V} {d : D} (h : Ok K c τ ((t, v, d) :: hs) G σ H ρ) : ∃ G', Same G G' ∧ Ok K c τ ((.F, v, d) :: hs) G' σ H ρ := by
  obtain ⟨fp, r, n, z⟩ := h.own
  obtain ⟨fq, r', q⟩ := r.perm List.perm_middle
  have n' := q.nodup_iff.mp n
  have z' : ∀ a ∈ fq, G a = none ∧ c.B a = none := fun a m => z a (q.mem_iff.mpr m)
  clear r n z q
  cases r' with
  | @cons _ _ _ f1 _ f2 a l =>
    obtain ⟨n1, n2, n3⟩ := List.nodup_append.mp n'
    let G' : Hp := fun b => if b ∈ f1 then H b else G b
    have gs : Same G G' := fun b o e => by
      by_cases m : b ∈ f1
      · rw [(z' b (List.mem_append_left _ m)).1] at e; cases e
      · show (if b ∈ f1 then H b else G b) = some o
        rw [if_neg m]; exact e
    have gk : ∀ b ∈ f1, G' b = H b := fun b m => by
      show (if b ∈ f1 then H b else G b) = H b
      rw [if_pos m]
    have gh : Same G' H := fun b o e => by
      by_cases m : b ∈ f1
      · rw [gk b m] at e; exact e
      · have e' : (if b ∈ f1 then H b else G b) = some o := e
        rw [if_neg m] at e'; exact h.frG b o e'
    have fz : Fz K G' v d := a.fz gs gk
    obtain ⟨fr, r, q⟩ := (RL.cons (R.F fz) (l.mono (H' := H) gs fun _ _ => rfl)).perm (ys := envT τ σ ρ ++ (.F, v, d) :: hs) List.perm_middle.symm
    refine ⟨G', gs, { h with
      bor := fun i t e => ?_, own := ⟨fr, r, q.nodup_iff.mp n2, fun b m => ?_⟩, frG := gh, g0 := h.g0.trans gs, gn := fun b nb => ?_ }⟩
    · obtain ⟨v, d, fp, e1, e2, rr⟩ := h.bor i t e
      exact ⟨v, d, fp, e1, e2, rr.mono gs fun _ _ => rfl⟩
    · have m2 : b ∈ f2 := q.mem_iff.mpr m
      have m1 : b ∉ f1 := fun m1 => n3 b m1 b m2 rfl
      refine ⟨?_, (z' b (List.mem_append_right _ m2)).2⟩
      show (if b ∈ f1 then H b else G b) = none
      rw [if_neg m1]; exact (z' b (List.mem_append_right _ m2)).1
    · by_cases m : b ∈ f1
      · exact .inr (z' b (List.mem_append_left _ m)).2
      · refine h.gn b fun e => nb ?_
        show (if b ∈ f1 then H b else G b) = none
        rw [if_neg m]; exact e
/-- a slot's thing is taken out of it -/
theorem Ok.move {i : Nat} {t : Ty} {v : V} {d : D} (h : Ok K c τ hs G σ H ρ) (e : τ[i]? = some (.own t)) (ev : σ[i]? = some (some v)) (er : ρ[i]? = some d) : Ok K c (τ.set i .gone) ((t, v, d) :: hs) G σ H ρ := by
  obtain ⟨fp, r, n, z⟩ := h.own
  obtain ⟨fq, r', q⟩ := (r.perm ((envT_gone e ev er).append_right hs))
  obtain ⟨fr, r2, q2⟩ := r'.perm (ys := envT (τ.set i .gone) σ ρ ++ (t, v, d) :: hs) List.perm_middle.symm
  have qq := q.trans q2
  refine { h with ls := by rw [List.length_set]; exact h.ls, lr := by rw [List.length_set]; exact h.lr, has := fun j u ej => ?_, bor := fun j u ej => ?_, exq := fun j ej => ?_, own := ⟨fr, r2, qq.nodup_iff.mp n, fun a m => z a (qq.mem_iff.mpr m)⟩ }
  · by_cases hij : i = j
    · subst hij
      rw [List.getElem?_set] at ej
      split at ej
      · split at ej <;> cases ej
      · exact absurd rfl ‹_›
    · rw [List.getElem?_set_ne hij] at ej; exact h.has j u ej
  · by_cases hij : i = j
    · subst hij
      rw [List.getElem?_set] at ej
      split at ej
      · split at ej <;> cases ej
      · exact absurd rfl ‹_›
    · rw [List.getElem?_set_ne hij] at ej; exact h.bor j u ej
  · by_cases hij : i = j
    · subst hij
      rw [List.getElem?_set] at ej
      split at ej
      · split at ej <;> cases ej
      · exact absurd rfl ‹_›
    · rw [List.getElem?_set_ne hij] at ej; exact h.exq j ej
/-- a slot is forgotten -/
theorem Ok.forget (i : Nat) (h : Ok K c τ hs G σ H ρ) : Ok K c (τ.set i .gone) hs G σ H ρ := by
  obtain ⟨fp, r, n, z⟩ := h.own
  obtain ⟨ys, p⟩ := envT_sub (τ := τ) (σ := σ) (ρ := ρ) (i := i)
  obtain ⟨fq, r', q⟩ := r.perm (ys := ys ++ (envT (τ.set i .gone) σ ρ ++ hs)) (by rw [← List.append_assoc]; exact p.append_right _)
  obtain ⟨f1, f2, rfl, _, r2⟩ := r'.split
  refine { h with ls := by rw [List.length_set]; exact h.ls, lr := by rw [List.length_set]; exact h.lr, has := fun j u ej => ?_, bor := fun j u ej => ?_, exq := fun j ej => ?_, own := ⟨f2, r2, (List.nodup_append.mp (q.nodup_iff.mp n)).2.1, fun a m => z a (q.mem_iff.mpr (List.mem_append_right _ m))⟩ }
  · by_cases hij : i = j
    · subst hij
      rw [List.getElem?_set] at ej
      split at ej
      · split at ej <;> cases ej
      · exact absurd rfl ‹_›
    · rw [List.getElem?_set_ne hij] at ej; exact h.has j u ej
  · by_cases hij : i = j
    · subst hij
      rw [List.getElem?_set] at ej
      split at ej
      · split at ej <;> cases ej
      · exact absurd rfl ‹_›
    · rw [List.getElem?_set_ne hij] at ej; exact h.bor j u ej
  · by_cases hij : i = j
    · subst hij
      rw [List.getElem?_set] at ej
      split at ej
      · split at ej <;> cases ej
      · exact absurd rfl ‹_›
    · rw [List.getElem?_set_ne hij] at ej; exact h.exq j ej
/-- what is held is put into a slot -/
theorem Ok.put {i : Nat} {t : Ty} {v : V} {d : D} (h : Ok K c τ ((t, v, d) :: hs) G σ H ρ) (hi : i < τ.length) : Ok K c (τ.set i (.own t)) hs G (σ.set i (some v)) H (ρ.set i d) := by
  have h' := h.forget i
  obtain ⟨fp, r, n, z⟩ := h'.own
  obtain ⟨fq, r', q⟩ := r.perm (ys := envT (τ.set i (.own t)) (σ.set i (some v)) (ρ.set i d) ++ hs) (List.perm_middle.trans ((envT_set t v d h.ls h.lr hi).symm.append_right hs))
  refine { h with ls := by rw [List.length_set, List.length_set]; exact h.ls, lr := by rw [List.length_set, List.length_set]; exact h.lr, has := fun j u ej => ?_, bor := fun j u ej => ?_, exq := fun j ej => ?_, own := ⟨fq, r', q.nodup_iff.mp n, fun a m => z a (q.mem_iff.mpr m)⟩ }
  · by_cases hij : i = j
    · subst hij
      exact ⟨v, by rw [List.getElem?_set_self (by rw [h.ls]; exact hi)]⟩
    · rw [List.getElem?_set_ne hij] at ej
      rw [List.getElem?_set_ne hij]
      exact h.has j u ej
  · by_cases hij : i = j
    · subst hij
      rw [List.getElem?_set_self hi] at ej
      cases ej
    · rw [List.getElem?_set_ne hij] at ej
      rw [List.getElem?_set_ne hij, List.getElem?_set_ne hij]
      exact h.bor j u ej
  · by_cases hij : i = j
    · subst hij
      rw [List.getElem?_set_self hi] at ej
      cases ej
    · rw [List.getElem?_set_ne hij] at ej
      rw [List.getElem?_set_ne hij, List.getElem?_set_ne hij]
      exact h.exq j ej
theorem Ok.free (h : Ok K c τ hs G σ H ρ) {p : Addr} (n : H p = none) : G p = none ∧ c.B p = none := ⟨h.frG.free n, h.base.free n⟩
theorem same_upd {p : Addr} {o : HO} (n : H p = none) : Same H (upd H p o) := fun b u e => by rw [upd_ne (ne_of_none e n)]; exact e
/-- a new object of held things -/
theorem Ok.alloc {xs : List Trip} {p : Addr} {o : HO} {t : Ty} {d : D} (h : Ok K c τ (xs ++ hs) G σ H ρ) (n : H p = none)
    (mk : ∀ fp, RL K G (upd H p o) xs fp → R K G (upd H p o) t (.ref p) d (p :: fp)) : Ok K c τ ((t, .ref p, d) :: hs) G σ (upd H p o) ρ := by
  have s : Same H (upd H p o) := same_upd n
  obtain ⟨fp, r, nd, z⟩ := h.own
  obtain ⟨fq, r', q⟩ := r.perm (ys := xs ++ (envT τ σ ρ ++ hs)) (by
    rw [← List.append_assoc, ← List.append_assoc]
    exact List.perm_append_comm.append_right _)
  have nd' := q.nodup_iff.mp nd
  have z' : ∀ a ∈ fq, G a = none ∧ c.B a = none := fun a m => z a (q.mem_iff.mpr m)
  have pn : p ∉ fq := fun m => r'.dom p m n
  obtain ⟨f1, f2, rfl, r1, r2⟩ := r'.split
  have k := mk f1 (r1.same (Same.refl _) s)
  obtain ⟨fr, r3, q3⟩ := (RL.cons k (r2.same (Same.refl _) s)).perm (ys := envT τ σ ρ ++ (t, .ref p, d) :: hs) List.perm_middle.symm
  refine { h with own := ⟨fr, r3, q3.nodup_iff.mp (List.nodup_cons.mpr ⟨pn, nd'⟩), fun a m => ?_⟩, frG := h.frG.trans s, base := h.base.trans s }
  rcases List.mem_cons.mp (q3.mem_iff.mpr m) with e | m
  · subst e; exact h.free n
  · exact z' a m
/-- what is frozen grows by a new object -/
theorem Ok.growG {p : Addr} {o : HO} (h : Ok K c τ hs G σ H ρ) (n : H p = none) : Ok K c τ hs (upd G p o) σ (upd H p o) ρ := by
  have s : Same H (upd H p o) := same_upd n
  have sg : Same G (upd G p o) := same_upd (h.free n).1
  obtain ⟨fp, r, nd, z⟩ := h.own
  refine { h with bor := fun i t e => ?_, own := ⟨fp, r.same sg s, nd, fun a m => ⟨?_, (z a m).2⟩⟩, frG := fun b u e => ?_, base := h.base.trans s, g0 := h.g0.trans sg, gn := fun b nb => ?_ }
  · obtain ⟨v, d, fp, e1, e2, rr⟩ := h.bor i t e
    exact ⟨v, d, fp, e1, e2, rr.mono sg fun _ _ => rfl⟩
  · rw [upd_ne (fun e => r.dom a m (by rw [e]; exact n))]
    exact (z a m).1
  · by_cases hb : b = p
    · subst hb; rw [upd_same] at e; rw [upd_same]; exact e
    · rw [upd_ne hb] at e; rw [upd_ne hb]; exact h.frG b u e
  · by_cases hb : b = p
    · subst hb; exact .inr (h.free n).2
    · rw [upd_ne hb] at nb; exact h.gn b nb
theorem Ok.tops {xs : List Trip} (h : Ok K c τ (xs ++ hs) G σ H ρ) : ∃ fp, RL K G H xs fp := by
  obtain ⟨fp, r, nd, z⟩ := h.own
  obtain ⟨f1, f2, _, _, r2⟩ := r.split
  obtain ⟨f3, f4, _, r3, _⟩ := r2.split
  exact ⟨_, r3⟩
/-- a new tuple of held things -/
theorem Ok.allocT {xs : List Trip} {p : Addr} {ts : List Ty} {t : Ty} (h : Ok K c τ (xs ++ hs) G σ H ρ) (n : H p = none) (i : ∀ i x, xs[i]? = some x → x.1 = Ty.atI ts t i) :
    Ok K c τ ((.T ts t, .ref p, .tup (xs.map (·.2.2))) :: hs) (upd G p (.tup (xs.map (·.2.1)))) σ (upd H p (.tup (xs.map (·.2.1)))) ρ := by
  have h' := h.growG (o := .tup (xs.map (·.2.1))) n
  obtain ⟨fp, r, nd, z⟩ := h'.own
  obtain ⟨fq, r', q⟩ := r.perm (ys := xs ++ (envT τ σ ρ ++ hs)) (by
    rw [← List.append_assoc, ← List.append_assoc]
    exact List.perm_append_comm.append_right _)
  obtain ⟨f1, f2, rfl, r1, r2⟩ := r'.split
  have k : R K (upd G p (.tup (xs.map (·.2.1)))) (upd H p (.tup (xs.map (·.2.1)))) (.T ts t) (.ref p) (.tup (xs.map (·.2.2))) f1 := .T (Rd.of upd_same) i r1
  obtain ⟨fr, r3, q3⟩ := (RL.cons k r2).perm (ys := envT τ σ ρ ++ (.T ts t, .ref p, .tup (xs.map (·.2.2))) :: hs) List.perm_middle.symm
  exact { h' with own := ⟨fr, r3, q3.nodup_iff.mp (q.nodup_iff.mp nd), fun a m => z a (q.mem_iff.mpr (q3.mem_iff.mpr m))⟩ }
theorem R.lstInv {t : Ty} {v : V} {ds : List D} {fp : List Addr} (h : R K G H (.L t) v (.lst ds) fp) : ∃ a xs f, v = .ref a ∧ H a = some (.lst (xs.map (·.2.1))) ∧ (∀ x ∈ xs, x.1 = t) ∧ RL K G H xs f ∧ ds = xs.map (·.2.2) ∧ fp = a :: f := by
  cases h with
  | flat h => cases h
  | L h i l => exact ⟨_, _, _, rfl, h, i, l, rfl, rfl⟩
theorem R.dctInv {ks : List (Key × Ty)} {t : Ty} {v : V} {kds : List (Key × D)} {fp : List Addr} (h : R K G H (.Dc ks t) v (.dct kds) fp) :
    ∃ (a : Addr) (kxs : List (Key × Trip)) (f : List Addr), v = .ref a ∧ H a = some (.dK (kxs.map fun p => (p.1, p.2.2.1))) ∧ (kxs.map (·.1)).Nodup ∧ (∀ p ∈ kxs, p.2.1 = Ty.atK ks t p.1) ∧ RL K G H (kxs.map (·.2)) f ∧ kds = (kxs.map fun p => (p.1, p.2.2.2)) ∧ fp = a :: f := by
  cases h with
  | flat h => cases h
  | Dc h n i l => exact ⟨_, _, _, rfl, h, n, i, l, rfl, rfl⟩
theorem Ok.topR {t : Ty} {v : V} {d : D} {xs : List Trip} (h : Ok K c τ (xs ++ (t, v, d) :: hs) G σ H ρ) : ∃ fp, R K G H t v d fp := (Ok.drops h).top
/-- an object of one's own is opened: it may be written with what was in it, and new things, in any order -/
theorem Ok.open {a : Addr} {new : List Trip} {t : Ty} {d : D} {P : List Trip → Prop} (h : Ok K c τ (new ++ (t, .ref a, d) :: hs) G σ H ρ)
    (inv : ∀ fp, R K G H t (.ref a) d fp → ∃ inner f, RL K G H inner f ∧ fp = a :: f ∧ P inner) :
    ∃ inner, P inner ∧ ∀ (o : HO) (inner' dropped : List Trip) (t' : Ty) (d' : D), (inner ++ new).Perm (inner' ++ dropped) → (∀ f, RL K G (upd H a o) inner' f → R K G (upd H a o) t' (.ref a) d' (a :: f)) →
      Ok K c τ (dropped ++ (t', .ref a, d') :: hs) G σ (upd H a o) ρ := by
  obtain ⟨fp, r, nd, z⟩ := h.own
  obtain ⟨fq, r', q⟩ := r.perm (ys := (t, .ref a, d) :: (new ++ (envT τ σ ρ ++ hs))) (by
    refine List.Perm.trans ?_ ((List.perm_append_comm_assoc (envT τ σ ρ) new hs).cons _)
    rw [← List.append_assoc, ← List.append_assoc]
    exact List.perm_middle)
  have nd' := q.nodup_iff.mp nd
  have z' : ∀ b ∈ fq, G b = none ∧ c.B b = none := fun b m => z b (q.mem_iff.mpr m)
  clear r nd z q
  cases r' with
  | @cons _ _ _ f0 _ f2 h0 l =>
    obtain ⟨inner, f1, l1, rfl, pp⟩ := inv _ h0
    refine ⟨inner, pp, fun o inner' dropped t' d' p mk => ?_⟩
    have za := z' a (List.mem_append_left _ List.mem_cons_self)
    have nd1 : (f1 ++ f2).Nodup := (List.nodup_cons.mp (by simpa using nd')).2
    have na : a ∉ f1 ++ f2 := (List.nodup_cons.mp (by simpa using nd')).1
    obtain ⟨fr, r2, q2⟩ := (l1.append l).perm (ys := inner' ++ (dropped ++ (envT τ σ ρ ++ hs))) (by
      rw [← List.append_assoc, ← List.append_assoc inner']
      exact p.append_right _)
    have na2 : a ∉ fr := fun m => na (q2.mem_iff.mpr m)
    have r3 := r2.mono (H' := upd H a o) (Same.refl G) fun b m => upd_ne (fun e => na2 (e ▸ m))
    obtain ⟨g1, g2, rfl, s1, s2⟩ := r3.split
    obtain ⟨fw, r4, q4⟩ := (RL.cons (mk g1 s1) s2).perm (ys := envT τ σ ρ ++ (dropped ++ (t', .ref a, d') :: hs)) (by
      refine List.Perm.trans ((List.perm_append_comm_assoc dropped (envT τ σ ρ) hs).cons _) ?_
      rw [← List.append_assoc, ← List.append_assoc]
      exact List.perm_middle.symm)
    have ndw : (a :: g1 ++ g2).Nodup := List.nodup_cons.mpr ⟨na2, q2.nodup_iff.mp nd1⟩
    refine { h with own := ⟨fw, r4, q4.nodup_iff.mp ndw, fun b m => ?_⟩, frG := fun b u e => ?_, base := fun b u e => ?_ }
    · rcases List.mem_cons.mp (q4.mem_iff.mpr m) with e | m
      · subst e; exact za
      · exact z' b (by
          rcases List.mem_append.mp (q2.mem_iff.mpr m) with m | m
          · exact List.mem_append_left _ (List.mem_cons_of_mem _ m)
          · exact List.mem_append_right _ m)
    · rw [upd_ne (fun e' => by rw [e', za.1] at e; cases e)]; exact h.frG b u e
    · rw [upd_ne (fun e' => by rw [e', za.2] at e; cases e)]; exact h.base b u e
theorem Ok.openL {a : Addr} {new : List Trip} {t : Ty} {ds : List D} (h : Ok K c τ (new ++ (.L t, .ref a, .lst ds) :: hs) G σ H ρ) :
    ∃ inner : List Trip, H a = some (.lst (inner.map (·.2.1))) ∧ ds = inner.map (·.2.2) ∧ (∀ x ∈ inner, x.1 = t) ∧ ∀ inner' dropped : List Trip, (inner ++ new).Perm (inner' ++ dropped) → (∀ x ∈ inner', x.1 = t) →
      Ok K c τ (dropped ++ (.L t, .ref a, .lst (inner'.map (·.2.2))) :: hs) G σ (upd H a (.lst (inner'.map (·.2.1)))) ρ := by
  obtain ⟨inner, ⟨p1, p2, p3⟩, k⟩ := Ok.open (P := fun inner => H a = some (.lst (inner.map (·.2.1))) ∧ ds = inner.map (·.2.2) ∧ ∀ x ∈ inner, x.1 = t) h fun fp r => by
    obtain ⟨a', xs, f, ea, e, i, l, ed, ef⟩ := r.lstInv
    cases ea
    exact ⟨xs, f, l, ef, e, ed, i⟩
  exact ⟨inner, p1, p2, p3, fun inner' dropped p i => k _ inner' dropped _ _ p fun f l => .L upd_same i l⟩
theorem Ok.openD {a : Addr} {new : List Trip} {ks : List (Key × Ty)} {t : Ty} {kds : List (Key × D)} (h : Ok K c τ (new ++ (.Dc ks t, .ref a, .dct kds) :: hs) G σ H ρ) :
    ∃ inner : List (Key × Trip), H a = some (.dK (inner.map fun p => (p.1, p.2.2.1))) ∧ kds = (inner.map fun p => (p.1, p.2.2.2)) ∧ (inner.map (·.1)).Nodup ∧ (∀ p ∈ inner, p.2.1 = Ty.atK ks t p.1) ∧
      ∀ (inner' : List (Key × Trip)) (dropped : List Trip), (inner.map (·.2) ++ new).Perm (inner'.map (·.2) ++ dropped) → (inner'.map (·.1)).Nodup → (∀ p ∈ inner', p.2.1 = Ty.atK ks t p.1) →
      Ok K c τ (dropped ++ (.Dc ks t, .ref a, .dct (inner'.map fun p => (p.1, p.2.2.2))) :: hs) G σ (upd H a (.dK (inner'.map fun p => (p.1, p.2.2.1)))) ρ := by
  obtain ⟨_, ⟨inner, rfl, p1, p2, p3, p4⟩, k⟩ := Ok.open (P := fun inn => ∃ inner : List (Key × Trip), inn = inner.map (·.2) ∧ H a = some (.dK (inner.map fun p => (p.1, p.2.2.1))) ∧ kds = (inner.map fun p => (p.1, p.2.2.2)) ∧ (inner.map (·.1)).Nodup ∧ ∀ p ∈ inner, p.2.1 = Ty.atK ks t p.1) h fun fp r => by
    obtain ⟨a', xs, f, ea, e, n, i, l, ed, ef⟩ := r.dctInv
    cases ea
    exact ⟨_, f, l, ef, xs, rfl, e, ed, n, i⟩
  exact ⟨inner, p1, p2, p3, p4, fun inner' dropped p n i => k _ _ dropped _ _ p fun f l => .Dc upd_same n i l⟩
theorem Ok.append {t : Ty} {v : V} {d : D} {a : Addr} {ds : List D} (h : Ok K c τ ((t, v, d) :: (.L t, .ref a, .lst ds) :: hs) G σ H ρ) :
    ∃ vs, H a = some (.lst vs) ∧ vs.length = ds.length ∧ Ok K c τ ((.L t, .ref a, .lst (ds ++ [d])) :: hs) G σ (upd H a (.lst (vs ++ [v]))) ρ := by
  obtain ⟨inner, e1, e2, e3, k⟩ := Ok.openL (new := [(t, v, d)]) h
  subst e2
  refine ⟨_, e1, by simp, ?_⟩
  have k := k (inner ++ [(t, v, d)]) [] (by simp) fun x m => by
    rcases List.mem_append.mp m with m | m
    · exact e3 x m
    · rw [List.mem_singleton.mp m]
  simpa using k
end
end My

set_option Elab.async false
set_option linter.all false
set_option maxRecDepth 100000
/-! The judgements: what an expression is worth over plain data. -/
namespace My
open PySem L2

abbrev EF := Env → Option D
/-- read: its data stands in the heap; a path: owned, borrowed or frozen by its type; own: it is held from now on -/
def RdOk (X : Cx) (c : FC) (τ : List Slot) (te : TE) (f : EF) : Prop :=
  ∀ hs G σ H ρ d (Q : VK), Ok X.K c τ hs G σ H ρ → f ρ = some d → (∀ G' H' v, Ok X.K c τ hs G' σ H' ρ → Same G G' → Same H H' → Fz X.K H' v d → Q v H') → te σ H Q
def PaOk (X : Cx) (c : FC) (τ : List Slot) (t : Ty) (te : TE) (f : EF) : Prop :=
  ∀ hs G σ H ρ d (Q : VK), Ok X.K c τ hs G σ H ρ → f ρ = some d → (∀ G' H' v fp, Ok X.K c τ hs G' σ H' ρ → Same G G' → Same H H' → R X.K G' H' t v d fp → Q v H') → te σ H Q
def OwOk (X : Cx) (c : FC) (τ τ' : List Slot) (t : Ty) (te : TE) (f : EF) : Prop :=
  ∀ hs G σ H ρ d (Q : VK), Ok X.K c τ hs G σ H ρ → f ρ = some d → (∀ G' H' v, Ok X.K c τ' ((t, v, d) :: hs) G' σ H' ρ → Same G G' → Same H H' → Q v H') → te σ H Q
def TsOk (X : Cx) (c : FC) (τ : List Slot) (tt : TT) (f : Env → Option Bool) : Prop :=
  ∀ hs G σ H ρ b (Q : Bool → Hp → Prop), Ok X.K c τ hs G σ H ρ → f ρ = some b → (∀ G' H', Ok X.K c τ hs G' σ H' ρ → Same G G' → Same H H' → Q b H') → tt σ H Q
def DR (X : Cx) (c : FC) (τ : List Slot) (e : Expr) (f : EF) : Prop := ∃ te, PE X e te ∧ RdOk X c τ te f
def DP (X : Cx) (c : FC) (τ : List Slot) (e : Expr) (t : Ty) (f : EF) : Prop := ∃ te, PE X e te ∧ PaOk X c τ t te f
def DO (X : Cx) (c : FC) (τ τ' : List Slot) (e : Expr) (t : Ty) (f : EF) : Prop := ∃ te, PE X e te ∧ OwOk X c τ τ' t te f
def DT (X : Cx) (c : FC) (τ : List Slot) (e : Expr) (f : Env → Option Bool) : Prop := ∃ tt, PT X e tt ∧ TsOk X c τ tt f

section
variable {X : Cx} {c : FC} {τ τ' τ'' : List Slot} {e a b : Expr} {f fa fb : EF} {t u : Ty} {pos : Pos}

/-! ### from one to another -/
theorem DP.read (h : DP X c τ e t f) : DR X c τ e f := by
  obtain ⟨te, p, o⟩ := h
  exact ⟨te, p, fun hs G σ H ρ d Q k hf q => o hs G σ H ρ d Q k hf fun G' H' v fp k' s1 s2 r => q G' H' v k' s1 s2 (r.read k'.frG)⟩
theorem DO.path (h : DO X c τ τ e t f) : DP X c τ e t f := by
  obtain ⟨te, p, o⟩ := h
  exact ⟨te, p, fun hs G σ H ρ d Q k hf q => o hs G σ H ρ d Q k hf fun G' H' v k' s1 s2 => let ⟨fp, r⟩ := k'.top; q G' H' v fp k'.drop s1 s2 r⟩
theorem DO.freeze (h : DO X c τ τ' e t f) : DO X c τ τ' e .F f := by
  obtain ⟨te, p, o⟩ := h
  exact ⟨te, p, fun hs G σ H ρ d Q k hf q => o hs G σ H ρ d Q k hf fun G' H' v k' s1 s2 => let ⟨G'', g, k''⟩ := k'.freeze; q G'' H' v k'' (s1.trans g) s2⟩
theorem R.toF {K : PySem.W.Frag} {G H : Hp} {v : V} {d : D} {fp : List Addr} (h : R K G H .F v d fp) : Fz K G v d := by
  cases h with
  | flat h => exact .flat h
  | hole => exact .hole
  | F h => exact h
theorem DP.own (h : DP X c τ e .F f) : DO X c τ τ e .F f := by
  obtain ⟨te, p, o⟩ := h
  exact ⟨te, p, fun hs G σ H ρ d Q k hf q => o hs G σ H ρ d Q k hf fun G' H' v fp k' s1 s2 r => q G' H' v (k'.push r.toF) s1 s2⟩
/-- a value that lies in no heap -/
theorem DP.of_flat {te : TE} (p : PE X e te) (o : ∀ hs G σ H ρ d (Q : VK), Ok X.K c τ hs G σ H ρ → f ρ = some d → flat d = true ∧ ((∀ G' H', Ok X.K c τ hs G' σ H' ρ → Same G G' → Same H H' → Q (toV d) H') → te σ H Q)) : DP X c τ e t f :=
  ⟨te, p, fun hs G σ H ρ d Q k hf q => let ⟨h1, h2⟩ := o hs G σ H ρ d Q k hf; h2 fun G' H' k' s1 s2 => q G' H' _ [] k' s1 s2 (.flat h1)⟩

/-! ### constants, names -/
theorem de_int {i j} : DP X c τ (.Constant (.int i) j pos) t fun _ => some (.int i) :=
  .of_flat pe_int fun hs G σ H ρ d Q k e => by cases e; exact ⟨rfl, fun q => q G H k (Same.refl _) (Same.refl _)⟩
theorem de_bl {i j} : DP X c τ (.Constant (.bool i) j pos) t fun _ => some (.bl i) :=
  .of_flat pe_bl fun hs G σ H ρ d Q k e => by cases e; exact ⟨rfl, fun q => q G H k (Same.refl _) (Same.refl _)⟩
theorem de_non {j} : DP X c τ (.Constant .none j pos) t fun _ => some .non :=
  .of_flat pe_non fun hs G σ H ρ d Q k e => by cases e; exact ⟨rfl, fun q => q G H k (Same.refl _) (Same.refl _)⟩
theorem de_str {x j} : DP X c τ (.Constant (.str x) j pos) t fun _ => some (.str x) :=
  .of_flat pe_str fun hs G σ H ρ d Q k e => by cases e; exact ⟨rfl, fun q => q G H k (Same.refl _) (Same.refl _)⟩
theorem de_var {i : Nat} {x : Str} (p : PE X (.Name x pos) (tVar i)) (e : τ[i]? = some (.own t) ∨ τ[i]? = some (.bor t)) : DP X c τ (.Name x pos) t fun ρ => ρ[i]? := by
  refine ⟨_, p, fun hs G σ H ρ d Q k hf q => ?_⟩
  rcases e with e | e
  · obtain ⟨v, fp, hv, r⟩ := k.slot e hf
    exact ⟨v, hv, q G H v fp k (Same.refl _) (Same.refl _) r⟩
  · obtain ⟨v, fp, hv, r⟩ := k.slotB e hf
    exact ⟨v, hv, q G H v fp k (Same.refl _) (Same.refl _) r⟩
theorem de_mov {i : Nat} {x : Str} (p : PE X (.Name x pos) (tVar i)) (e : τ[i]? = some (.own t)) : DO X c τ (τ.set i .gone) (.Name x pos) t fun ρ => ρ[i]? := by
  refine ⟨_, p, fun hs G σ H ρ d Q k hf q => ?_⟩
  obtain ⟨v, hv⟩ := k.has i t e
  exact ⟨v, hv, q G H v (k.move e hv hf) (Same.refl _) (Same.refl _)⟩
theorem Ok.frzSlot {K : PySem.W.Frag} {hs : List Trip} {G H : Hp} {σ : St} {ρ : Env} {i : Nat} {v : V} {d : D} (k : Ok K c τ hs G σ H ρ) (e : τ[i]? = some (.own t)) (ev : σ[i]? = some (some v)) (er : ρ[i]? = some d) :
    ∃ G', Same G G' ∧ Fz K G' v d ∧ Ok K c (τ.set i (.own .F)) hs G' σ H ρ := by
  have hi : i < τ.length := (List.getElem?_eq_some_iff.mp e).1
  obtain ⟨G', g, k2⟩ := (k.move e ev er).freeze
  obtain ⟨fp, r⟩ := k2.top
  have k3 := k2.put (i := i) (by rw [List.length_set]; exact hi)
  rw [List.set_set] at k3
  have e1 : σ.set i (some v) = σ := by
    obtain ⟨h1, h2⟩ := List.getElem?_eq_some_iff.mp ev
    rw [← h2]; exact List.set_getElem_self h1
  have e2 : ρ.set i d = ρ := by
    obtain ⟨h1, h2⟩ := List.getElem?_eq_some_iff.mp er
    rw [← h2]; exact List.set_getElem_self h1
  rw [e1, e2] at k3
  exact ⟨G', g, r.toF, k3⟩
theorem de_frz {i : Nat} {x : Str} (p : PE X (.Name x pos) (tVar i)) (e : τ[i]? = some (.own t)) : DO X c τ (τ.set i (.own .F)) (.Name x pos) .F fun ρ => ρ[i]? := by
  refine ⟨_, p, fun hs G σ H ρ d Q k hf q => ?_⟩
  obtain ⟨v, hv⟩ := k.has i t e
  obtain ⟨G', g, r, k'⟩ := k.frzSlot e hv hf
  exact ⟨v, hv, q G' H v (k'.push r) g (Same.refl _)⟩

/-! ### two operands that are read -/
theorem RdOk.two {ta tb : TE} {r : R2} (ha : RdOk X c τ ta fa) (hb : RdOk X c τ tb fb) {hs : List Trip} {G : Hp} {σ : St} {H : Hp} {ρ : Env} {x y : D} {Q : VK} (k : Ok X.K c τ hs G σ H ρ) (e1 : fa ρ = some x) (e2 : fb ρ = some y)
    (q : ∀ G' H' v w, Ok X.K c τ hs G' σ H' ρ → Same G G' → Same H H' → Fz X.K H' v x → Fz X.K H' w y → r v w H' Q) : tOp r ta tb σ H Q := by
  refine ha hs G σ H ρ x _ k e1 fun G1 H1 v k1 g1 h1 z1 => ?_
  refine hb hs G1 σ H1 ρ y _ k1 e2 fun G2 H2 w k2 g2 h2 z2 => ?_
  exact q G2 H2 v w k2 (g1.trans g2) (h1.trans h2) (z1.same h2) z2
end
end My

set_option Elab.async false
set_option linter.all false
set_option maxRecDepth 100000
/-! Operators. -/
namespace My
open PySem PySem.Spec PyProof.Rows L2

/-- what can be read here, what is in it frozen -/
inductive Sh (K : PySem.W.Frag) (G H : Hp) : V → D → Prop
  | fz {v : V} {d : D} : Fz K G v d → Sh K G H v d
  | lst {a : Addr} {vs : List V} {ds : List D} : SqK K H a vs → FzL K G vs ds → Sh K G H (.ref a) (.lst ds)
  | dct {a : Addr} {kws : List (Key × V)} {kds : List (Key × D)} : DcR K H a kws → FzK K G kws kds → Sh K G H (.ref a) (.dct kds)
def Ty.isF : Ty → Bool
  | .F => true
  | _ => false
/-- of such a type what is in it is frozen -/
def Ty.sh : Ty → Bool
  | .F => true
  | .L t => t.isF
  | .T ts t => ts.all (·.isF) && t.isF
  | .Dc ks t => ks.all (·.2.isF) && t.isF
  | .N => true
theorem Ty.isF_eq {t : Ty} (h : t.isF = true) : t = .F := by cases t <;> first | rfl | cases h
section
variable {K : PySem.W.Frag} {G G' H H' : Hp}
theorem RL.allF : ∀ {xs : List Trip} {fp : List Addr}, (∀ x ∈ xs, x.1 = Ty.F) → RL K G H xs fp → FzL K G (xs.map (·.2.1)) (xs.map (·.2.2))
  | _, _, _, .nil => .nil
  | _, _, i, .cons h l => by
    have e := i _ List.mem_cons_self
    simp only at e
    subst e
    exact .cons h.toF (RL.allF (fun x m => i x (List.mem_cons_of_mem _ m)) l)
theorem Ty.atI_F {ts : List Ty} {t : Ty} (h : (ts.all (·.isF) && t.isF) = true) (i : Nat) : Ty.atI ts t i = .F := by
  obtain ⟨h1, h2⟩ := Bool.and_eq_true_iff.mp h
  unfold Ty.atI
  rw [List.getD_eq_getElem?_getD]
  cases e : ts[i]? with
  | none => exact Ty.isF_eq h2
  | some u => exact Ty.isF_eq (List.all_eq_true.mp h1 u (List.mem_of_getElem? e))
theorem getK_mem {α : Type} {k : Key} : ∀ {l : List (Key × α)} {v : α}, getK k l = some v → (k, v) ∈ l
  | [], _, e => by cases e
  | (k', u) :: r, v, e => by
    unfold getK at e
    split at e
    · rename_i h; subst h; cases e; exact List.mem_cons_self
    · exact List.mem_cons_of_mem _ (getK_mem e)
theorem Ty.atK_F {ks : List (Key × Ty)} {t : Ty} (h : (ks.all (·.2.isF) && t.isF) = true) (k : Key) : Ty.atK ks t k = .F := by
  obtain ⟨h1, h2⟩ := Bool.and_eq_true_iff.mp h
  unfold Ty.atK
  cases e : getK k ks with
  | none => exact Ty.isF_eq h2
  | some u => exact Ty.isF_eq (List.all_eq_true.mp h1 _ (getK_mem e))
theorem R.sh {t : Ty} {v : V} {d : D} {fp : List Addr} (h : R K G H t v d fp) (s : t.sh = true) : Sh K G H v d := by
  cases h with
  | flat h => exact .fz (.flat h)
  | F h => exact .fz h
  | L h i l => exact .lst (SqK.of h) (l.allF fun x m => (i x m).trans (Ty.isF_eq s))
  | hole => exact .fz .hole
  | N h n l => exact .fz (.tup (.inl (.inr ⟨_, h⟩)) l)
  | T h i l => exact .fz (.tup (.inl h) (l.allF fun x m => by
      obtain ⟨j, hj⟩ := List.mem_iff_getElem?.mp m
      rw [i j x hj]; exact Ty.atI_F s j))
  | Dc h n i l =>
    refine .dct ⟨Rd.of h, by simpa [Function.comp_def] using n⟩ (fzK_of ?_)
    have z := l.allF (fun x m => by
      obtain ⟨p, hp, rfl⟩ := List.mem_map.mp m
      rw [i p hp]; exact Ty.atK_F s _)
    simpa [Function.comp_def] using z
theorem Sh.same {v : V} {d : D} (e : Same G G') (e' : Same H H') (h : Sh K G H v d) : Sh K G' H' v d := by
  cases h with
  | fz h => exact .fz (h.same e)
  | lst h l => exact .lst (sqK_same e' h) (l.same e)
  | dct h l => exact .dct (dcR_same e' h) (l.same e)
theorem Sh.lst' {v : V} {ds : List D} (g : Same G H) (h : Sh K G H v (.lst ds)) : ∃ a vs, v = .ref a ∧ SqK K H a vs ∧ FzL K G vs ds := by
  cases h with
  | fz h =>
    cases h with
    | flat h => cases h
    | lst h l => exact ⟨_, _, rfl, sqK_same g h, l⟩
  | lst h l => exact ⟨_, _, rfl, h, l⟩
theorem Sh.tup' {v : V} {ds : List D} (g : Same G H) (h : Sh K G H v (.tup ds)) : ∃ a vs, v = .ref a ∧ SqT K H a vs ∧ FzL K G vs ds := by
  cases h with
  | fz h =>
    cases h with
    | flat h => cases h
    | tup h l => exact ⟨_, _, rfl, sqT_same g h, l⟩
theorem Sh.dct' {v : V} {ds : List (Key × D)} (g : Same G H) (h : Sh K G H v (.dct ds)) : ∃ a vs, v = .ref a ∧ DcR K H a vs ∧ FzK K G vs ds := by
  cases h with
  | fz h =>
    cases h with
    | flat h => cases h
    | dct h l => exact ⟨_, _, rfl, dcR_same g h, l⟩
  | dct h l => exact ⟨_, _, rfl, h, l⟩
theorem Sh.flat_eq {v : V} {d : D} (h : Sh K G H v d) (f : flat d = true) : v = toV d := by
  cases h with
  | fz h => exact h.flat_eq f
  | lst _ _ => cases f
  | dct _ _ => cases f
theorem Sh.int {v : V} {i : Int} (h : Sh K G H v (.int i)) : v = .int i := h.flat_eq rfl
theorem Sh.str {v : V} {i : Str} (h : Sh K G H v (.str i)) : v = .str i := h.flat_eq rfl
end

/-! ### the operators' rules -/
section
variable {X : Cx}
theorem mx_eq : mx = sizeLine := by rw [sizeLine_eq]; rfl
theorem rd_lst {pins : List (Addr × Obj)} {σ : L2.St} {H : Hp} {s : Shared} {a : Addr} {xs : List V} (I : Inv X pins σ H s) (h : SqK X.K H a xs) :
    xs.length ≤ sizeLine ∧ ∃ (its : List Value) (n : Nat), Vals xs its ∧ s.heap.get? a = some { cls := .type "list", data := .seq its.toArray n } := by
  rcases h with h | ⟨its, n, e, z, r⟩
  · exact h.ok I.hok
  · have l := r.length
    simp only [Array.length_toList] at l
    exact ⟨by omega, its.toList, n, r, by simpa using I.kIn a _ e⟩
def rCatL (K : PySem.W.Frag) : R2 := fun x y H Q => ∃ l b xs zs, x = .ref l ∧ y = .ref b ∧ SqK K H l xs ∧ SqK K H b zs ∧ xs.length + zs.length ≤ sizeLine ∧ ∀ p, H p = none → Q (.ref p) (upd H p (.lst (xs ++ zs)))
theorem op_catL : OpR X (binaryOp .Add) (rCatL X.K) := by
  intro pins s σ H x y v u Q I rx ry h
  obtain ⟨l, b, xs, zs, rfl, rfl, hH, hB, hz, q⟩ := h
  cases rx
  cases ry
  obtain ⟨z, its, n, r, e⟩ := rd_lst I hH
  obtain ⟨z2, its2, n2, r2, e2⟩ := rd_lst I hB
  have l1 := r.length
  have l2 := r2.length
  refine PySem.P.add_list e e2 ?_ (by rw [List.size_toArray, List.size_toArray]; omega)
  rw [show its.toArray ++ its2.toArray = (its ++ its2).toArray by simp]
  exact ⟨.ref _, _, I.lnew (t' := s.toks) (r.append r2) (by rw [List.length_append]; omega), rfl, q _ I.fresh⟩
def rRepL (K : PySem.W.Frag) : R2 := fun x y H Q => ∃ l k xs, x = .ref l ∧ y = .int k ∧ SqK K H l xs ∧ -(2 ^ 63) ≤ k ∧ k < 2 ^ 63 ∧ xs.length * k.toNat ≤ sizeLine ∧
  ∀ p, H p = none → Q (.ref p) (upd H p (.lst (List.replicate k.toNat xs).flatten))
theorem op_repL : OpR X (binaryOp .Mult) (rRepL X.K) := by
  intro pins s σ H x y v u Q I rx ry h
  obtain ⟨l, k, xs, rfl, rfl, hH, h1, h2, hz, q⟩ := h
  cases rx
  obtain ⟨t, rfl⟩ := ry
  obtain ⟨z, its, n, r, e⟩ := rd_lst I hH
  have hl := r.length
  have c1 : its.toArray.size * k.toNat ≤ sizeLine := by rw [List.size_toArray, ← hl]; exact hz
  have c2 : ¬ its.toArray.size * k.toNat > (2 ^ 63 - 1) / 8 := by
    have : (sizeLine : Nat) ≤ (2 ^ 63 - 1) / 8 := by decide
    omega
  have c3 : ¬ (!Builtin.List.listFitsIndex k) = true := by rw [fitsIndex_both h1 h2]; exact Bool.false_ne_true
  have c4 : ¬ Builtin.List.listTooLong (its.toArray.size * k.toNat) = true := by rw [notLongL c1]; exact Bool.false_ne_true
  have c5 : List.foldl (fun x1 x2 => x1 ++ x2) #[] (List.replicate (if its.toArray.isEmpty = true then 0 else k.toNat) its.toArray) = (List.replicate k.toNat its).flatten.toArray := by
    rw [size_rep]
    cases its with
    | nil => simp
    | cons a r' => rw [if_neg (by simp)]
  refine wpAny_binaryOp_repeat_ref (T := "list") (U := "int") (by decide) ⟨_, e, rfl⟩ (fun s' => typeIs_int s' k t) noFill_list_mul F.fills_int_mul F.slot_int_rmul repeat_list F.slot_int_index.lookup
    (call_meets F.slot_int_rmul (typeIs_int s k t) F.entry_int_rmul (F.args_int_rmul_2 _ _) (int___rmul___int_list k t l its.toArray n)
      ⟨e, rfl, ⟨_, e, rfl⟩, call_meets F.slot_list_mul ⟨_, e, rfl⟩ F.entry_list_mul (F.args_list_mul_2 _ _) (AutoListH.list___mul___list_int_3 l its.toArray n k t c3 c2 c4) ⟨e, ?_⟩⟩)
  rw [c5]
  exact ⟨.ref _, _, I.lnew (t' := s.toks) (r.rep k.toNat) (by rw [PyProof.Rows.lm_len_rep_flat, Nat.mul_comm]; exact hz), rfl, q _ I.fresh⟩
theorem mulOk.ok {i j : Int} (h : mulOk i j) : IntMulOk i j := by
  rcases h with h | h | h
  · exact CMul.ok (.inl h)
  · exact CMul.ok (.inr h)
  · have b : ∀ x : Int, Builtin.Int.intBits x ≤ x.natAbs.log2 + 1 := fun x => by
      unfold Builtin.Int.intBits
      split <;> omega
    exact PyProof.Rows.mulOk_of_bits (b i) (b j) (by omega)
theorem op_mulA : OpR X (binaryOp .Mult) (rI mulOk fun i j => .int (i * j)) := opI fun _ _ _ _ _ _ _ hc q => mul_int q hc.ok
theorem op_divA : OpR X (binaryOp .FloorDiv) (rI (fun _ j => divOk j) fun i j => .int (i / j)) := opI fun i j _ _ _ _ _ hc q => by
  have h1 : (0 : Int) < j := hc.1
  exact floordiv_int (by omega) (by rw [Int.fdiv_eq_ediv_of_nonneg i (by omega)]; exact q) (.inl (PyProof.noPylong_of_log2 hc.2))
theorem op_powA : OpR X (binaryOp .Pow) (rI powOk fun i j => .int (i ^ j.toNat)) := opI fun i j _ _ _ _ _ hc q => by
  refine pow_int hc.1 ?_ q
  have b : (Builtin.Int.intBits i : Int) ≤ i.natAbs.log2 + 1 := by
    unfold Builtin.Int.intBits
    split <;> omega
  have h2 := hc.2
  have h3 : (Builtin.Int.intBits i : Int) * j ≤ (i.natAbs.log2 + 1 : Int) * j := Int.mul_le_mul_of_nonneg_right b hc.1
  exact Int.le_trans h3 (Int.le_trans h2 (by decide))
set_option maxHeartbeats 4000000 in
theorem tuple_mul1 (l : Addr) (items : Array Value) (n : Nat) (dd : Option Addr) (sl : Array (Option Value)) (u : Tok) :
    Meets (Builtin.«tuple.__mul__» ⟨[.ref l, .int 1 u], []⟩) (fun _ R s => s.heap.get? l = some { cls := .type "tuple", dict := dd, data := .seq items n, slots := sl } ∧
      R (.ok (.ret (Value.ref l))) s) :=
  .of_wp fun prog w A R s h => by
    obtain ⟨hp, g, d, tk, os⟩ := s
    obtain ⟨hl, h⟩ := h
    have f1 := AutoSeq1.idx_int
    have c0 : (decide ((1 : Int) < -(2 ^ 63)) || decide ((1 : Int) ≥ 2 ^ 63)) = false := by decide
    have c1 : (items.isEmpty || (1 : Int) == 1) = true := by simp
    wp_walk using wpAny_loadPart' hl
    repeat (first
      | (refine wpAny_ite_false (decide_eq_false (by rw [c0]; exact Bool.false_ne_true)) ?_; wp_walk using wpAny_loadPart' hl)
      | (refine wpAny_ite_true (decide_eq_true (by rw [c1])) ?_; wp_walk using wpAny_loadPart' hl))
    exact ⟨_, rfl, h⟩
set_option maxHeartbeats 4000000 in
theorem tuple_mul0 (l : Addr) (a : Value) (its : List Value) (n : Nat) (dd : Option Addr) (sl : Array (Option Value)) (u : Tok) :
    Meets (Builtin.«tuple.__mul__» ⟨[.ref l, .int 0 u], []⟩) (fun _ R s => s.heap.get? l = some { cls := .type "tuple", dict := dd, data := .seq (a :: its).toArray n, slots := sl } ∧
      R (.ok (.ret (Value.ref s.heap.objs.size))) { s with heap := s.heap.push { cls := Value.type "tuple", data := Data.seq #[] }, toks := s.toks }) :=
  .of_wp fun prog w A R s h => by
    obtain ⟨hp, g, d, tk, os⟩ := s
    obtain ⟨hl, h⟩ := h
    have f1 := AutoSeq1.idx_int
    have c0 : (decide ((0 : Int) < -(2 ^ 63)) || decide ((0 : Int) ≥ 2 ^ 63)) = false := by decide
    have c1 : ((a :: its).toArray.isEmpty || (0 : Int) == 1) = false := by simp
    have c2 : (decide ((0 : Int) ≤ 0) || (a :: its).toArray.isEmpty) = true := by simp
    wp_walk using wpAny_loadPart' hl
    repeat (first
      | (refine wpAny_ite_false (decide_eq_false (by rw [c0]; exact Bool.false_ne_true)) ?_; wp_walk using wpAny_loadPart' hl)
      | (refine wpAny_ite_false (decide_eq_false (by rw [c1]; exact Bool.false_ne_true)) ?_; wp_walk using wpAny_loadPart' hl)
      | (refine wpAny_ite_true (decide_eq_true (by rw [c2])) ?_; wp_walk using wpAny_loadPart' hl))
    exact ⟨_, rfl, h⟩
def rRepT0 (K : PySem.W.Frag) : R2 := fun x y H Q => ∃ l k xs, x = .ref l ∧ y = .int k ∧ SqT K H l xs ∧ xs ≠ [] ∧ ((k = 1 ∧ Q (.ref l) H) ∨ (k = 0 ∧ ∀ p, H p = none → Q (.ref p) (upd H p (.tup []))))
theorem op_repT0 : OpR X (binaryOp .Mult) (rRepT0 X.K) := by
  intro pins s σ H x y v u Q I rx ry h
  obtain ⟨l, k, xs, rfl, rfl, hT, hne, q⟩ := h
  cases rx
  obtain ⟨t, rfl⟩ := ry
  obtain ⟨its, r, ⟨⟨cls, dd, data, sl⟩, ho, hc, n, hd⟩, hs⟩ := I.tuple hT
  simp only at hc hd
  subst hc hd
  have hle : its.length = xs.length := r.length.symm
  cases its with
  | nil => exact absurd (List.eq_nil_of_length_eq_zero hle.symm) hne
  | cons a its =>
    rcases q with ⟨rfl, q⟩ | ⟨rfl, q⟩
    · exact wpAny_binaryOp_repeat_ref (T := "tuple") (U := "int") (by decide) ⟨_, ho, rfl⟩ (fun s' => typeIs_int s' 1 t) noFill_tuple_mul F.fills_int_mul F.slot_int_rmul repeat_tuple F.slot_int_index.lookup
        (call_meets F.slot_int_rmul (typeIs_int s 1 t) F.entry_int_rmul (F.args_int_rmul_2 _ _) (int_rmul_tuple 1 t l _ n dd sl)
          ⟨ho, rfl, ⟨_, ho, rfl⟩, call_meets F.slot_tuple_mul ⟨_, ho, rfl⟩ F.entry_tuple_mul (F.args_tuple_mul_2 _ _) (tuple_mul1 l _ n dd sl t) ⟨ho, ⟨.ref l, H, I, rfl, q⟩⟩⟩)
    · exact wpAny_binaryOp_repeat_ref (T := "tuple") (U := "int") (by decide) ⟨_, ho, rfl⟩ (fun s' => typeIs_int s' 0 t) noFill_tuple_mul F.fills_int_mul F.slot_int_rmul repeat_tuple F.slot_int_index.lookup
        (call_meets F.slot_int_rmul (typeIs_int s 0 t) F.entry_int_rmul (F.args_int_rmul_2 _ _) (int_rmul_tuple 0 t l _ n dd sl)
          ⟨ho, rfl, ⟨_, ho, rfl⟩, call_meets F.slot_tuple_mul ⟨_, ho, rfl⟩ F.entry_tuple_mul (F.args_tuple_mul_2 _ _) (tuple_mul0 l a its n dd sl t)
            ⟨ho, ⟨.ref s.heap.objs.size, _, I.laid (t' := s.toks) (o := .tup []) (fun b ob q => Heap.get?_push_of_some _ q) (Nat.le_refl _) ⟨Nat.zero_le _, [], .nil, IsTup.new _ _⟩, rfl, q _ (I.hok.fresh (Nat.le_refl _))⟩⟩⟩)
/-- one rule for each operator -/
def rBin (K : PySem.W.Frag) : BOp → R2
  | .add => fun x y H Q => (((rI0 fun i j => .int (i + j)) x y H Q ∨ (∃ i j, x = .str i ∧ y = .str j ∧ i.length + j.length ≤ sizeLine ∧ Q (.str (i ++ j)) H)) ∨ rCatL K x y H Q) ∨ rCatA K x y H Q
  | .sub => rI0 fun i j => .int (i - j)
  | .mul => fun x y H Q => (((rI mulOk fun i j => .int (i * j)) x y H Q ∨ rRepL K x y H Q) ∨ rRepT K x y H Q) ∨ rRepT0 K x y H Q
  | .div => rI (fun _ j => divOk j) fun i j => .int (i / j)
  | .mod => rI (fun _ j => 0 < j) fun i j => .int (i % j)
  | .pow => rI powOk fun i j => .int (i ^ j.toNat)
def opOf : BOp → Operator
  | .add => .Add | .sub => .Sub | .mul => .Mult | .div => .FloorDiv | .mod => .Mod | .pow => .Pow
theorem op_bin : ∀ o : BOp, OpR X (binaryOp (opOf o)) (rBin X.K o)
  | .add => ((op_add.or op_add_str).or op_catL).or op_catA
  | .sub => op_sub
  | .mul => ((op_mulA.or op_repL).or op_repT).or op_repT0
  | .div => op_divA
  | .mod => op_mod
  | .pow => op_powA
theorem reps_fz {K : PySem.W.Frag} {G : Hp} {vs : List V} {ds : List D} (h : FzL K G vs ds) : ∀ n : Nat, FzL K G (List.replicate n vs).flatten (reps ds n)
  | 0 => .nil
  | n + 1 => by rw [List.replicate_succ, List.flatten_cons]; exact h.append (reps_fz h n)

end
section
variable {X : Cx} {c : FC} {τ τ' : List Slot} {a b : Expr} {fa fb : EF} {t u : Ty} {pos : Pos}
/-- read, what is in it frozen -/
def ShOk (X : Cx) (c : FC) (τ : List Slot) (te : TE) (f : EF) : Prop :=
  ∀ hs G σ H ρ d (Q : VK), Ok X.K c τ hs G σ H ρ → f ρ = some d → (∀ G' H' v, Ok X.K c τ hs G' σ H' ρ → Same G G' → Same H H' → Sh X.K G' H' v d → Q v H') → te σ H Q
def DS (X : Cx) (c : FC) (τ : List Slot) (e : Expr) (f : EF) : Prop := ∃ te, PE X e te ∧ ShOk X c τ te f
theorem DP.sh (h : DP X c τ a t fa) (s : t.sh = true) : DS X c τ a fa := by
  obtain ⟨te, p, o⟩ := h
  exact ⟨te, p, fun hs G σ H ρ d Q k hf q => o hs G σ H ρ d Q k hf fun G' H' v fp k' s1 s2 r => q G' H' v k' s1 s2 (r.sh s)⟩
theorem DO.sh (h : DO X c τ τ a t fa) (s : t.sh = true) : DS X c τ a fa := h.path.sh s
theorem trips {K : PySem.W.Frag} {G : Hp} : ∀ {vs : List V} {ds : List D}, FzL K G vs ds → ∃ xs : List Trip, xs.map (·.2.1) = vs ∧ xs.map (·.2.2) = ds ∧ (∀ x ∈ xs, x.1 = Ty.F) ∧ ∀ H, RL K G H xs []
  | _, _, .nil => ⟨[], rfl, rfl, (fun _ m => nomatch m), fun _ => RL.nil⟩
  | _, _, .cons (v := v) (d := d) h l => by
    obtain ⟨xs, e1, e2, e3, e4⟩ := trips l
    refine ⟨(.F, v, d) :: xs, by simp [e1], by simp [e2], fun x m => ?_, fun H => RL.cons (fp := []) (.F h) (e4 H)⟩
    rcases List.mem_cons.mp m with e | m
    · subst e; rfl
    · exact e3 x m
/-- a new frozen list, a new frozen tuple -/
theorem Ok.newL {K : PySem.W.Frag} {hs : List Trip} {G H : Hp} {σ : L2.St} {ρ : Env} {p : Addr} {vs : List V} {ds : List D} (k : Ok K c τ hs G σ H ρ) (n : H p = none) (f : FzL K G vs ds) : Ok K c τ ((.L .F, .ref p, .lst ds) :: hs) G σ (upd H p (.lst vs)) ρ := by
  obtain ⟨xs, e1, e2, e3, e4⟩ := trips f
  subst e1 e2
  exact Ok.alloc (xs := []) k n fun fp r => by
    cases r
    exact .L upd_same e3 (e4 _)
theorem Sh.tupF {K : PySem.W.Frag} {G H : Hp} {v : V} {ds : List D} (h : Sh K G H v (.tup ds)) : Fz K G v (.tup ds) := by
  cases h with
  | fz h => exact h
theorem Ok.newLF {K : PySem.W.Frag} {hs : List Trip} {G H : Hp} {σ : L2.St} {ρ : Env} {p : Addr} {vs : List V} {ds : List D} (k : Ok K c τ hs G σ H ρ) (n : H p = none) (f : FzL K G vs ds) :
    ∃ G', Same G G' ∧ Ok K c τ ((.F, .ref p, .lst ds) :: hs) G' σ (upd H p (.lst vs)) ρ := (k.newL n f).freeze
theorem Ok.newTF {K : PySem.W.Frag} {hs : List Trip} {G H : Hp} {σ : L2.St} {ρ : Env} {p : Addr} {vs : List V} {ds : List D} (k : Ok K c τ hs G σ H ρ) (n : H p = none) (f : FzL K G vs ds) :
    ∃ G', Same G G' ∧ Ok K c τ ((.F, .ref p, .tup ds) :: hs) G' σ (upd H p (.tup vs)) ρ :=
  ⟨upd G p (.tup vs), same_upd (k.free n).1, (k.growG n).push (.tup (SqT.of upd_same) (f.same (same_upd (k.free n).1)))⟩

/-! ### what an operator does, over the rules -/
theorem bin_do {o : BOp} {hs : List Trip} {G H : Hp} {σ : L2.St} {ρ : Env} {v w : V} {x y z : D} {Q : VK} (k : Ok X.K c τ hs G σ H ρ) (hx : Sh X.K G H v x) (hy : Sh X.K G H w y) (e : dBin o x y = some z)
    (q : ∀ G' H' v, Ok X.K c τ ((.F, v, z) :: hs) G' σ H' ρ → Same G G' → Same H H' → Q v H') : rBin X.K o v w H Q := by
  have fl : ∀ d : D, flat d = true → z = d → Q (toV d) H := fun d hd ez => by subst ez; exact q G H _ (k.pushFlat .F hd) (Same.refl _) (Same.refl _)
  have me := mx_eq
  unfold dBin at e
  split at e
  · cases e
    exact .inl (.inl (.inl ⟨_, _, hx.int, hy.int, fl _ rfl rfl⟩))
  · cases e
    exact ⟨_, _, hx.int, hy.int, fl _ rfl rfl⟩
  · split at e
    · cases e
      exact .inl (.inl (.inl ⟨_, _, hx.int, hy.int, by assumption, fl _ rfl rfl⟩))
    · cases e
  · split at e
    · cases e
      exact ⟨_, _, hx.int, hy.int, by assumption, fl _ rfl rfl⟩
    · cases e
  · split at e
    · cases e
      exact ⟨_, _, hx.int, hy.int, by assumption, fl _ rfl rfl⟩
    · cases e
  · split at e
    · cases e
      exact ⟨_, _, hx.int, hy.int, by assumption, fl _ rfl rfl⟩
    · cases e
  · split at e
    · cases e
      exact .inl (.inl (.inr ⟨_, _, hx.str, hy.str, by omega, fl _ rfl rfl⟩))
    · cases e
  · split at e
    · cases e
      obtain ⟨a, vs, rfl, r1, f1⟩ := hx.lst' k.frG
      obtain ⟨b, ws, rfl, r2, f2⟩ := hy.lst' k.frG
      have l1 := f1.length
      have l2 := f2.length
      refine .inl (.inr ⟨a, b, vs, ws, rfl, rfl, r1, r2, by omega, fun p n => ?_⟩)
      obtain ⟨G', g, k'⟩ := k.newLF n (f1.append f2)
      exact q G' _ _ k' g (same_upd n)
    · cases e
  · split at e
    · cases e
      obtain ⟨a, vs, rfl, r1, f1⟩ := hx.tup' k.frG
      obtain ⟨b, ws, rfl, r2, f2⟩ := hy.tup' k.frG
      have l1 := f1.length
      have l2 := f2.length
      refine .inr ⟨a, b, vs, ws, rfl, rfl, r1, r2, by omega, fun n => ?_, fun n1 n2 => ?_, fun _ _ p n => ?_⟩
      · subst n
        cases f1
        exact q G H _ (k.push hy.tupF) (Same.refl _) (Same.refl _)
      · subst n2
        cases f2
        exact q G H _ (k.push (by rw [List.append_nil]; exact hx.tupF)) (Same.refl _) (Same.refl _)
      · obtain ⟨G', g, k'⟩ := k.newTF n (f1.append f2)
        exact q G' _ _ k' g (same_upd n)
    · cases e
  · split at e
    · cases e
      obtain ⟨a, vs, rfl, r1, f1⟩ := hx.lst' k.frG
      have l1 := f1.length
      refine .inl (.inl (.inr ⟨a, _, vs, rfl, hy.int, r1, by omega, by omega, by rw [l1]; omega, fun p n => ?_⟩))
      obtain ⟨G', g, k'⟩ := k.newLF n (reps_fz f1 _)
      exact q G' _ _ k' g (same_upd n)
    · cases e
  · split at e
    · rename_i aa n hc
      cases e
      obtain ⟨a, vs, rfl, r1, f1⟩ := hx.tup' k.frG
      have l1 := f1.length
      have hne : vs ≠ [] := fun z => hc.1 (by
        subst z
        cases f1
        rfl)
      by_cases h2 : 2 ≤ n
      · refine .inl (.inr ⟨a, _, vs, rfl, hy.int, r1, hne, h2, by omega, by omega, fun p n => ?_⟩)
        obtain ⟨G', g, k'⟩ := k.newTF n (reps_fz f1 _)
        exact q G' _ _ k' g (same_upd n)
      · by_cases h1 : n = 1
        · subst h1
          refine .inr ⟨a, _, vs, rfl, hy.int, r1, hne, .inl ⟨rfl, ?_⟩⟩
          exact q G H _ (k.push (by
            have e : ∀ ds : List D, reps ds (1 : Int).toNat = ds := fun ds => by
              show ds ++ [] = ds
              exact List.append_nil _
            rw [e]; exact hx.tupF)) (Same.refl _) (Same.refl _)
        · have h0 : n = 0 := by omega
          subst h0
          refine .inr ⟨a, _, vs, rfl, hy.int, r1, hne, .inr ⟨rfl, fun p n => ?_⟩⟩
          obtain ⟨G', g, k'⟩ := k.newTF (vs := []) (ds := []) n .nil
          exact q G' _ _ k' g (same_upd n)
    · cases e
  · cases e
end
end My

set_option Elab.async false
set_option linter.all false
set_option maxRecDepth 100000
/-! Comparisons. -/
namespace My
open PySem PySem.Spec PyProof.Rows L2

/-! ### data without dicts, as the library's own -/
mutual
def toP : D → PyData
  | .non => .none
  | .bl b => .bool b
  | .int i => .int i
  | .str x => .str x
  | .lst xs => .list (toPs xs)
  | .tup xs => .tuple (toPs xs)
  | .dct _ => .none
  | .hole => .none
def toPs : List D → List PyData
  | [] => []
  | x :: xs => toP x :: toPs xs
end
mutual
theorem toP_can : ∀ (n : Nat) (d : D), ndp n d = true → (toP d).canLay0 = true ∧ (toP d).depth ≤ n
  | n, .non, _ => ⟨rfl, Nat.zero_le _⟩
  | n, .bl b, _ => ⟨rfl, Nat.zero_le _⟩
  | n, .int i, _ => ⟨rfl, Nat.zero_le _⟩
  | n, .str x, h => ⟨h, Nat.zero_le _⟩
  | 0, .lst xs, h => by cases h
  | 0, .tup xs, h => by cases h
  | n + 1, .lst xs, h => by
    obtain ⟨h1, h2⟩ := toPs_can n xs h
    exact ⟨h1, Nat.succ_le_succ h2⟩
  | n + 1, .tup xs, h => by
    obtain ⟨h1, h2⟩ := toPs_can n xs h
    exact ⟨h1, Nat.succ_le_succ h2⟩
  | n, .dct _, h => by cases n <;> cases h
  | n, .hole, h => by cases n <;> cases h
theorem toPs_can : ∀ (n : Nat) (xs : List D), ndpL n xs = true → PyData.canLayAll0 (toPs xs) = true ∧ PyData.depthAll (toPs xs) ≤ n
  | n, [], _ => ⟨rfl, Nat.zero_le _⟩
  | n, x :: xs, h => by
    obtain ⟨h1, h2⟩ := Bool.and_eq_true_iff.mp (show (ndp n x && ndpL n xs) = true from h)
    obtain ⟨a1, a2⟩ := toP_can n x h1
    obtain ⟨b1, b2⟩ := toPs_can n xs h2
    exact ⟨Bool.and_eq_true_iff.mpr ⟨a1, b1⟩, Nat.max_le.mpr ⟨a2, b2⟩⟩
end
theorem str_beq_dec (x y : Str) : (x == y) = decide (x = y) := by rw [Bool.eq_iff_iff]; simp
mutual
theorem deq_toP : ∀ (n m : Nat) (a b : D), ndp n a = true → ndp m b = true → deq a b = PyData.eqv (toP a) (toP b) := by
  intro n m a b ha hb
  cases a with
  | non => cases b <;> first | rfl | (cases m <;> cases hb)
  | bl x => cases b <;> first | rfl | (cases m <;> cases hb)
  | int x => cases b <;> first | rfl | (cases m <;> cases hb)
  | str x => cases b <;> first | rfl | exact (str_beq_dec _ _).symm | (cases m <;> cases hb)
  | lst xs =>
    cases n with
    | zero => cases ha
    | succ n =>
      cases b with
      | lst ys =>
        cases m with
        | zero => cases hb
        | succ m => exact deqL_toP n m xs ys ha hb
      | _ => first | rfl | (cases m <;> cases hb)
  | tup xs =>
    cases n with
    | zero => cases ha
    | succ n =>
      cases b with
      | tup ys =>
        cases m with
        | zero => cases hb
        | succ m => exact deqL_toP n m xs ys ha hb
      | _ => first | rfl | (cases m <;> cases hb)
  | dct _ => cases n <;> cases ha
  | hole => cases n <;> cases ha
theorem deqL_toP : ∀ (n m : Nat) (xs ys : List D), ndpL n xs = true → ndpL m ys = true → deqL xs ys = PyData.eqvAll (toPs xs) (toPs ys)
  | n, m, [], [], _, _ => rfl
  | n, m, [], _ :: _, _, _ => rfl
  | n, m, _ :: _, [], _, _ => rfl
  | n, m, x :: xs, y :: ys, ha, hb => by
    obtain ⟨h1, h2⟩ := Bool.and_eq_true_iff.mp (show (ndp n x && ndpL n xs) = true from ha)
    obtain ⟨k1, k2⟩ := Bool.and_eq_true_iff.mp (show (ndp m y && ndpL m ys) = true from hb)
    show (deq x y && deqL xs ys) = (PyData.eqv (toP x) (toP y) && PyData.eqvAll (toPs xs) (toPs ys))
    rw [deq_toP n m x y h1 k1, deqL_toP n m xs ys h2 k2]
end
section
variable {K : PySem.W.Frag} {G H : Hp}
mutual
theorem Fz.dp : ∀ (d : D) (n : Nat) (v : V), ndp n d = true → Fz K H v d → Dp K H v (toP d)
  | .non, _, _, _, h => by cases h; exact .non
  | .bl b, _, _, _, h => by cases h; exact .bl b
  | .int b, _, _, _, h => by cases h; exact .int b
  | .str b, _, _, _, h => by cases h; exact .str b
  | .lst xs, n, v, e, h => by
    cases h with
    | flat h => cases h
    | lst h l =>
      cases n with
      | zero => cases e
      | succ n => exact .lst (h.sq) (FzL.dp xs n _ e l)
  | .tup xs, n, v, e, h => by
    cases h with
    | flat h => cases h
    | tup h l =>
      cases n with
      | zero => cases e
      | succ n => exact .tup h (FzL.dp xs n _ e l)
  | .dct _, n, _, e, _ => by cases n <;> cases e
  | .hole, n, _, e, _ => by cases n <;> cases e
theorem FzL.dp : ∀ (ds : List D) (n : Nat) (vs : List V), ndpL n ds = true → FzL K H vs ds → DpAll K H vs (toPs ds)
  | [], _, _, _, h => by cases h; exact .nil
  | d :: ds, n, _, e, h => by
    obtain ⟨h1, h2⟩ := Bool.and_eq_true_iff.mp (show (ndp n d && ndpL n ds) = true from e)
    cases h with
    | cons h l => exact .cons (Fz.dp d n _ h1 h) (FzL.dp ds n _ h2 l)
end
end

theorem dec_strD (a b : Str) : decide (V.str a = V.str b) = deq (.str a) (.str b) := by
  show _ = decide (a = b)
  rw [decide_eq_decide]; exact ⟨fun z => V.str.inj z, fun z => congrArg _ z⟩
section
variable {X : Cx}
theorem op_eqA (hu : X.A.units + 64 < cLine) : OpR X (compareOp .Eq) (fun x y H Q => ∃ a b, Fz X.K H x a ∧ Fz X.K H y b ∧ eqOk a b = true ∧ Q (.bl (deq a b)) H) := by
  intro pins s σ H x y v u Q I rx ry h
  obtain ⟨a, b, ha, hb, e, q⟩ := h
  have gen : ndp 60 a = true → ndp 60 b = true → wpAny (model X.prog X.w) X.A (compareOp .Eq v u) (EP X pins σ Q) X.xe s := fun na nb => by
    obtain ⟨as, r1⟩ := Dp.reads I _ x v (ha.dp a 60 x na) rx
    obtain ⟨bs, r2⟩ := Dp.reads I _ y u (hb.dp b 60 y nb) ry
    obtain ⟨c1, d1⟩ := toP_can 60 a na
    obtain ⟨c2, d2⟩ := toP_can 60 b nb
    exact SeqAt.compareEq_reads r1 r2 c1 c2 (by omega) ⟨.bl _, H, I, rfl, by rw [← deq_toP 60 60 a b na nb]; exact q⟩
  unfold eqOk at e
  split at e
  · have e1 := ha.str
    have e2 := hb.str
    subst e1 e2
    refine op_eq pins s σ H _ _ v u Q I rx ry ⟨rfl, ?_⟩
    rw [dec_strD]; exact q
  · obtain ⟨h1, h2⟩ := Bool.and_eq_true_iff.mp e
    exact gen h1 h2
theorem op_neA (hu : X.A.units + 64 < cLine) : OpR X (compareOp .NotEq) (fun x y H Q => ∃ a b, Fz X.K H x a ∧ Fz X.K H y b ∧ eqOk a b = true ∧ Q (.bl (!deq a b)) H) := by
  intro pins s σ H x y v u Q I rx ry h
  obtain ⟨a, b, ha, hb, e, q⟩ := h
  have gen : ndp 60 a = true → ndp 60 b = true → wpAny (model X.prog X.w) X.A (compareOp .NotEq v u) (EP X pins σ Q) X.xe s := fun na nb => by
    obtain ⟨as, r1⟩ := Dp.reads I _ x v (ha.dp a 60 x na) rx
    obtain ⟨bs, r2⟩ := Dp.reads I _ y u (hb.dp b 60 y nb) ry
    obtain ⟨c1, d1⟩ := toP_can 60 a na
    obtain ⟨c2, d2⟩ := toP_can 60 b nb
    exact SeqAt.compareNe_reads r1 r2 c1 c2 (by omega) ⟨.bl _, H, I, rfl, by rw [← deq_toP 60 60 a b na nb]; exact q⟩
  unfold eqOk at e
  split at e
  · have e1 := ha.str
    have e2 := hb.str
    subst e1 e2
    refine op_ne pins s σ H _ _ v u Q I rx ry ⟨rfl, ?_⟩
    rw [dec_strD]; exact q
  · obtain ⟨h1, h2⟩ := Bool.and_eq_true_iff.mp e
    exact gen h1 h2
theorem any_toP {x : D} (hx : ndp 60 x = true) : ∀ {ys : List D}, ndpL 60 ys = true → (toPs ys).any (fun y => PyData.eqv y (toP x)) = ys.any fun y => deq y x
  | [], _ => rfl
  | y :: ys, h => by
    obtain ⟨h1, h2⟩ := Bool.and_eq_true_iff.mp (show (ndp 60 y && ndpL 60 ys) = true from h)
    show (PyData.eqv (toP y) (toP x) || (toPs ys).any _) = (deq y x || ys.any _)
    rw [any_toP hx h2, deq_toP 60 60 y x h1 hx]
def rInA (K : PySem.W.Frag) (neg : Bool) : R2 := fun x y H Q => ∃ a b, Fz K H x a ∧ Fz K H y b ∧ ∃ k, ((∃ ys, (b = .lst ys ∨ b = .tup ys) ∧ (ndp 60 a && ndpL 60 ys) = true ∧ k = ys.any fun y => deq y a) ∨
  (∃ s t, a = .str s ∧ b = .str t ∧ k = !(Builtin.Str.occurrences t s 0 t.length 1).isEmpty) ∨ (∃ kvs k', b = .dct kvs ∧ keyOf a = some k' ∧ k = (getK k' kvs).isSome)) ∧ Q (.bl (if neg then !k else k)) H
theorem valV_getK (k : Key) : ∀ kvs : List (Key × V), valV kvs k = getK k kvs
  | [] => rfl
  | (k', v) :: r => by
    have ih := valV_getK k r
    unfold valV at ih ⊢
    unfold getK
    rw [List.find?_cons]
    by_cases h : k' = k
    · subst h; simp
    · simp [h]; exact ih
theorem FzK.get {K : PySem.W.Frag} {G : Hp} {k : Key} : ∀ {kws : List (Key × V)} {kds : List (Key × D)}, FzK K G kws kds → (getK k kws = none ∧ getK k kds = none) ∨ ∃ v d, getK k kws = some v ∧ getK k kds = some d ∧ Fz K G v d
  | _, _, .nil => .inl ⟨rfl, rfl⟩
  | _, _, .cons (k := k') (v := v) (d := d) h l => by
    unfold getK
    by_cases e : k' = k
    · rw [if_pos e, if_pos e]; exact .inr ⟨v, d, rfl, rfl, h⟩
    · rw [if_neg e, if_neg e]; exact FzK.get l
theorem keyOf_kV {K : PySem.W.Frag} {G : Hp} {x : V} {d : D} {k : Key} (h : Fz K G x d) (e : keyOf d = some k) : x = kV k := by
  cases d <;> first | cases e | skip
  · exact h.int
  · exact h.str
theorem op_inA (hu : X.A.units + 64 < cLine) (neg : Bool) : OpR X (compareOp (if neg then .NotIn else .In)) (rInA X.K neg) := by
  intro pins s σ H x y v u Q I rx ry h
  obtain ⟨a, b, ha, hb, k, c, q⟩ := h
  rcases c with ⟨ys, hy, hn, rfl⟩ | ⟨z, t, rfl, rfl, rfl⟩ | ⟨kvs, k', rfl, hk, rfl⟩
  · obtain ⟨n1, n2⟩ := Bool.and_eq_true_iff.mp hn
    obtain ⟨as, r1⟩ := Dp.reads I _ x v (ha.dp a 60 x n1) rx
    obtain ⟨c1, d1⟩ := toP_can 60 a n1
    obtain ⟨c2, d2⟩ := toPs_can 60 ys n2
    rcases hy with rfl | rfl
    · obtain ⟨bs, r2⟩ := Dp.reads I _ y u (hb.dp (.lst ys) 61 y n2) ry
      rw [← any_toP n1 n2] at q
      cases neg with
      | false => exact SeqAt.in_list_reads r2 r1 c2 c1 (by omega) ⟨.bl _, H, I, rfl, q⟩
      | true => exact SeqAt.notIn_list_reads r2 r1 c2 c1 (by omega) ⟨.bl _, H, I, rfl, q⟩
    · obtain ⟨bs, r2⟩ := Dp.reads I _ y u (hb.dp (.tup ys) 61 y n2) ry
      rw [← any_toP n1 n2] at q
      cases neg with
      | false => exact SeqAt.in_tuple_reads r2 r1 c2 c1 (by omega) ⟨.bl _, H, I, rfl, q⟩
      | true => exact SeqAt.notIn_tuple_reads r2 r1 c2 c1 (by omega) ⟨.bl _, H, I, rfl, q⟩
  · have e1 := ha.str
    have e2 := hb.str
    subst e1 e2
    cases neg with
    | false => exact op_in_str pins s σ H _ _ v u Q I rx ry ⟨_, _, rfl, rfl, q⟩
    | true => exact L2.op_notIn_str pins s σ H _ _ v u Q I rx ry ⟨_, _, rfl, rfl, q⟩
  · have e1 := keyOf_kV ha hk
    subst e1
    cases hb with
    | flat h => cases h
    | @dct ad kws _ hd hz =>
      obtain ⟨rd, _⟩ := hd
      cases ry
      have e : (getK k' kws).isSome = (getK k' kvs).isSome := by
        rcases hz.get (k := k') with ⟨e1, e2⟩ | ⟨v, d, e1, e2, _⟩
        · rw [e1, e2]; rfl
        · rw [e1, e2]; rfl
      have g : DGet H ad (kV k') (getK k' kws) := .inl ⟨kws, k', rd, rfl, (valV_getK _ _).symm⟩
      cases neg with
      | false => exact d_in (by omega) I g rx fun s' I' => ⟨.bl _, H, I', rfl, by rw [e]; exact q⟩
      | true => exact d_notIn (by omega) I g rx fun s' I' => ⟨.bl _, H, I', rfl, by rw [e]; exact q⟩
/-- is, is not of None, of truths -/
theorem op_isA (neg : Bool) : OpR X (compareOp (if neg then .IsNot else .Is)) (fun x y H Q => (y = .non ∧ Q (.bl (if neg then !decide (x = .non) else decide (x = .non))) H) ∨ ∃ a b : Bool, x = .bl a ∧ y = .bl b ∧ Q (.bl (if neg then !decide (a = b) else decide (a = b))) H) := by
  cases neg with
  | false => exact op_isN.or op_isBl
  | true => exact op_notN.or op_notBl
end
end My

set_option Elab.async false
set_option linter.all false
set_option maxRecDepth 100000
/-! == where a dict stands in it. -/
namespace My
open PySem PySem.Spec PyProof.Rows L2
section
open PySem.SeqAt
theorem dict_eq_declines_str (l : Addr) (es : Array DictEntry) (n : Nat) (dd : Option Addr) (sl : Array (Option Value)) (b : Str) (u : Tok) :
    Meets (Builtin.«dict.__eq__» ⟨[.ref l, .str b u], []⟩) (fun _ R s => s.heap.get? l = some { cls := .type "dict", dict := dd, data := .dict es n, slots := sl } ∧ R (.ok (.ret .notImplemented)) s) :=
  .of_wp fun prog w A R s h => by
    obtain ⟨hl, h⟩ := h
    show wpAny _ _ (Builtin.Dict.dictSlotArgs "__eq__" ⟨[.ref l, .str b u], []⟩ >>= _) _ _ s
    refine wpAny_bind ?_
    unfold Builtin.Dict.dictSlotArgs
    refine wpAny_bind (wpAny_notOrdered_dict ⟨_, hl, rfl⟩ ?_)
    show wpAny _ _ (pure (Value.ref l, Value.str b u)) _ _ s
    refine wpAny_pure ?_
    have e : isInstance (.str b u) (.type "dict") = pure false := by
      show isSubtype (.type "str") (.type "dict") = pure false
      exact PySem.F.sub_str_dict
    refine wpAny_bind (wpAny_of_eq e ?_)
    simp only [Bool.not_false, if_true]
    first
      | exact wpAny_bind (wpAny_rule (wpAny_pure ⟨_, rfl, h⟩))
      | exact wpAny_bind (wpAny_of_eq rfl (wpAny_pure ⟨_, rfl, h⟩))
      | wp_walk
        exact ⟨_, rfl, h⟩
theorem str_eq_declines_dict (b : Str) (u : Tok) (l : Addr) (es : Array DictEntry) (n : Nat) (dd : Option Addr) (sl : Array (Option Value)) :
    Meets (Builtin.«str.__eq__» ⟨[.str b u, .ref l], []⟩) (fun _ R s => s.heap.get? l = some { cls := .type "dict", dict := dd, data := .dict es n, slots := sl } ∧ R (.ok (.ret .notImplemented)) s) :=
  .of_wp fun prog w A R s h => by obtain ⟨hp, g, d, tk, os⟩ := s; obtain ⟨hl, h⟩ := h; wp_walk using wpAny_loadPart' hl, wpAny_load hl; exact ⟨_, rfl, h⟩
theorem rc_dict_str {A : Around} {s : Shared} {l : Addr} {es : Array DictEntry} {n : Nat} {dd : Option Addr} {sl : Array (Option Value)} (b : Str) (u : Tok) (ho : s.heap.get? l = some { cls := .type "dict", dict := dd, data := .dict es n, slots := sl }) (hu : A.units < cLine) : RcAt A s (.ref l) (.str b u) false := fun prog w E Q h =>
  rc_eq_decline_or (k := false) ⟨_, ho, rfl⟩ (typeIs_str s b u) (by decide) PySem.F.sub_str_dict PySem.F.slot_dict_eq PySem.F.slot_str_eq_refl
    (fun _ hq => call_meets PySem.F.slot_dict_eq ⟨_, ho, rfl⟩ PySem.F.entry_dict_eq (PySem.F.args_dict_eq_2 _ _) (dict_eq_declines_str l es n dd sl b u) ⟨ho, hq⟩)
    (fun _ hq => call_meets PySem.F.slot_str_eq_refl (typeIs_str s b u) PySem.F.entry_str_eq (PySem.F.args_str_eq_2 _ _) (str_eq_declines_dict b u l es n dd sl) ⟨ho, hq⟩)
    (fun _ hq => wpAny_of_eq (rfl : isSame (.ref l) (.str b u) = pure false) hq) (.inr hu) h
end
/-- == of a tuple and (), of a dict and a text -/
def rEqX (K : PySem.W.Frag) : R2 := fun x y H Q => (∃ (a b : Addr) (xs : List V), x = .ref a ∧ y = .ref b ∧ SqT K H a xs ∧ SqT K H b [] ∧ Q (.bl xs.isEmpty) H) ∨ ∃ (a : Addr) (kws : List (Key × V)) (z : Str), x = .ref a ∧ y = .str z ∧ Rd H a (.dK kws) ∧ Q (.bl false) H
theorem op_eqX {X : Cx} (hu : X.A.units + 64 < cLine) : OpR X (compareOp .Eq) (rEqX X.K) := by
  intro pins s σ H x y v u Q I rx ry h
  rcases h with ⟨a, b, xs, rfl, rfl, ha, hb, q⟩ | ⟨a, kws, z, rfl, rfl, hd, q⟩
  · obtain rfl : v = Value.ref a := rx
    obtain rfl : u = Value.ref b := ry
    obtain ⟨its, r, ht, _⟩ := I.tuple ha
    obtain ⟨its2, r2, ht2, _⟩ := I.tuple hb
    cases r2
    have e : ((List.range (min its.toArray.size ([] : List Value).toArray.size)).all (fun _ => true) && its.toArray.size == ([] : List Value).toArray.size) = xs.isEmpty := by
      have hl := r.length
      cases xs with
      | nil => cases its with
        | nil => rfl
        | cons _ _ => simp at hl
      | cons _ _ => cases its with
        | nil => simp at hl
        | cons _ _ => simp
    refine PySem.SeqAt.RcAt.tuples (e := fun _ => true) ht ht2 (by omega) (fun j _ j2 => absurd j2 (by simp)) X.prog X.w X.xe _ ?_
    rw [e]
    exact ⟨.bl _, H, I, rfl, q⟩
  · obtain rfl : v = Value.ref a := rx
    obtain ⟨t, rfl⟩ := ry
    obtain ⟨_, _, vs, _, o, es, ep, ho, hx, hdat, _⟩ := dk_rd I.hok hd
    obtain ⟨cls, dd, data, sl⟩ := o
    have hc : cls = .type "dict" := hx.1
    have hdat : data = .dict es ep := hdat
    subst hc hdat
    exact rc_dict_str z t ho (by omega) X.prog X.w X.xe _ ⟨.bl _, H, I, rfl, q⟩
end My

set_option Elab.async false
set_option linter.all false
set_option maxRecDepth 100000
/-! Expressions: operators, comparisons, tests. -/
namespace My
open PySem PySem.Spec PyProof.Rows L2
/-- one rule a comparison -/
def rCmp (K : PySem.W.Frag) : COp → R2
  | .eq => fun x y H Q => (∃ a b, Fz K H x a ∧ Fz K H y b ∧ eqOk a b = true ∧ Q (.bl (deq a b)) H) ∨ rEqX K x y H Q
  | .ne => fun x y H Q => ∃ a b, Fz K H x a ∧ Fz K H y b ∧ eqOk a b = true ∧ Q (.bl (!deq a b)) H
  | .lt => fun x y H Q => (rI0 fun i j => .bl (decide (i < j))) x y H Q ∨ (∃ i j, x = .str i ∧ y = .str j ∧ Q (.bl (decide (i.cps.toList < j.cps.toList))) H)
  | .le => rI0 fun i j => .bl (decide (i ≤ j))
  | .gt => rI0 fun i j => .bl (decide (j < i))
  | .ge => rI0 fun i j => .bl (decide (j ≤ i))
  | .inn => rInA K false
  | .nin => rInA K true
  | .is => fun x y H Q => (y = .non ∧ Q (.bl (if false then !decide (x = .non) else decide (x = .non))) H) ∨ ∃ a b : Bool, x = .bl a ∧ y = .bl b ∧ Q (.bl (if false then !decide (a = b) else decide (a = b))) H
  | .isn => fun x y H Q => (y = .non ∧ Q (.bl (if true then !decide (x = .non) else decide (x = .non))) H) ∨ ∃ a b : Bool, x = .bl a ∧ y = .bl b ∧ Q (.bl (if true then !decide (a = b) else decide (a = b))) H
def copOf : COp → CmpOp
  | .eq => .Eq | .ne => .NotEq | .lt => .Lt | .le => .LtE | .gt => .Gt | .ge => .GtE | .inn => .In | .nin => .NotIn | .is => .Is | .isn => .IsNot
theorem op_cmp {X : Cx} (hu : X.A.units + 64 < cLine) : ∀ o : COp, OpR X (compareOp (copOf o)) (rCmp X.K o)
  | .eq => (op_eqA hu).or (op_eqX hu)
  | .ne => op_neA hu
  | .lt => op_lt.or op_lt_str
  | .le => op_le
  | .gt => op_gt
  | .ge => op_ge
  | .inn => op_inA hu false
  | .nin => op_inA hu true
  | .is => op_isA false
  | .isn => op_isA true
theorem Fz.is_non {K : PySem.W.Frag} {G : Hp} {v : V} {d : D} (h : Fz K G v d) (hd : isHole d = false) : decide (v = .non) = isNon d := by
  cases h with
  | flat h => cases d <;> first | rfl | cases h
  | hole => cases hd
  | lst _ _ => rfl
  | tup _ _ => rfl
  | dct _ _ => rfl
theorem bl_dec (a b : Bool) : decide (a = b) = (a == b) := by cases a <;> cases b <;> rfl
theorem rInA.of {K : PySem.W.Frag} {neg : Bool} {H : Hp} {v w : V} {x y : D} {k : Bool} {Q : VK} (hx : Fz K H v x) (hy : Fz K H w y) (e : dIn x y = some k) (q : Q (.bl (if neg then !k else k)) H) : rInA K neg v w H Q := by
  refine ⟨x, y, hx, hy, k, ?_, q⟩
  unfold dIn at e
  split at e
  · split at e
    · cases e; exact .inl ⟨_, .inl rfl, by assumption, rfl⟩
    · cases e
  · split at e
    · cases e; exact .inl ⟨_, .inr rfl, by assumption, rfl⟩
    · cases e
  · cases e' : keyOf x with
    | none => rw [e'] at e; cases e
    | some k' => rw [e'] at e; cases e; exact .inr (.inr ⟨_, k', rfl, rfl, rfl⟩)
  · split at e
    · cases e; exact .inr (.inl ⟨_, _, rfl, rfl, rfl⟩)
    · cases e
  · cases e
theorem cmp_do {K : PySem.W.Frag} {o : COp} {H : Hp} {v w : V} {x y : D} {k : Bool} {Q : VK} (hx : Fz K H v x) (hy : Fz K H w y) (e : dCmp o x y = some k) (q : Q (.bl k) H) : rCmp K o v w H Q := by
  unfold dCmp at e
  split at e
  · split at e
    · cases e; exact .inl ⟨_, _, hx, hy, by assumption, q⟩
    · split at e
      · rename_i he
        cases e
        refine .inr ?_
        unfold eqX at he
        split at he
        · cases hx with
          | flat h => cases h
          | tup h l =>
            cases hy with
            | flat h => cases h
            | tup h' l' =>
              cases l'
              refine .inl ⟨_, _, _, rfl, rfl, h, h', ?_⟩
              cases l with
              | nil => exact q
              | cons _ _ => exact q
        · cases hx with
          | flat h => cases h
          | dct hd _ => exact .inr ⟨_, _, _, rfl, hy.str, hd.1, q⟩
        · cases he
      · cases e
  · split at e
    · cases e; exact ⟨_, _, hx, hy, by assumption, q⟩
    · cases e
  · cases e; exact .inl ⟨_, _, hx.int, hy.int, q⟩
  · cases e; exact ⟨_, _, hx.int, hy.int, q⟩
  · cases e; exact ⟨_, _, hx.int, hy.int, q⟩
  · cases e; exact ⟨_, _, hx.int, hy.int, q⟩
  · cases e; exact .inr ⟨_, _, hx.str, hy.str, q⟩
  · exact rInA.of (neg := false) hx hy e q
  · cases e' : dIn x y with
    | none => rw [e'] at e; cases e
    | some k' => rw [e'] at e; cases e; exact rInA.of (neg := true) hx hy e' q
  · unfold dIs at e
    split at e
    · split at e
      · cases e
      · rename_i hd
        cases e
        refine .inl ⟨hy.non, ?_⟩
        rw [hx.is_non (by simpa using hd)]; exact q
    · split at e
      · cases e
        refine .inr ⟨_, _, hx.bl, hy.bl, ?_⟩
        rw [bl_dec]; exact q
      · cases e
    · cases e
  · cases e' : dIs x y with
    | none => rw [e'] at e; cases e
    | some k' =>
      rw [e'] at e; cases e
      unfold dIs at e'
      split at e'
      · split at e'
        · cases e'
        · rename_i hd
          cases e'
          refine .inl ⟨hy.non, ?_⟩
          rw [hx.is_non (by simpa using hd)]; exact q
      · split at e'
        · cases e'
          refine .inr ⟨_, _, hx.bl, hy.bl, ?_⟩
          rw [bl_dec]; exact q
        · cases e'
      · cases e'
  · cases e

theorem bind2 {α β γ : Type} {x : Option α} {y : Option β} {f : α → β → Option γ} {z : γ} (h : (x.bind fun a => y.bind fun b => f a b) = some z) : ∃ a b, x = some a ∧ y = some b ∧ f a b = some z := by
  cases x with
  | none => cases h
  | some a =>
    cases y with
    | none => cases h
    | some b => exact ⟨a, b, rfl, rfl, h⟩
theorem bind1 {α γ : Type} {x : Option α} {f : α → Option γ} {z : γ} (h : x.bind f = some z) : ∃ a, x = some a ∧ f a = some z := by
  cases x with
  | none => cases h
  | some a => exact ⟨a, rfl, h⟩
theorem map1 {α γ : Type} {x : Option α} {f : α → γ} {z : γ} (h : x.map f = some z) : ∃ a, x = some a ∧ f a = z := by
  cases x with
  | none => cases h
  | some a => cases h; exact ⟨a, rfl, rfl⟩
section
variable {X : Cx} {c : FC} {τ τ' : List Slot} {a b e : Expr} {fa fb f : EF} {t u : Ty} {pos : Pos}
theorem de_bin {o : BOp} {op : Operator} (ho : op = opOf o) (ha : DS X c τ a fa) (hb : DS X c τ b fb) : DO X c τ τ (.BinOp a op b pos) .F fun ρ => (fa ρ).bind fun x => (fb ρ).bind fun y => dBin o x y := by
  subst ho
  obtain ⟨ta, pa, oa⟩ := ha
  obtain ⟨tb, pb, ob⟩ := hb
  refine ⟨_, pe_op (op_bin o) pa pb, fun hs G σ H ρ d Q k e q => ?_⟩
  obtain ⟨x, y, e1, e2, e3⟩ := bind2 e
  refine oa hs G σ H ρ x _ k e1 fun G1 H1 v k1 g1 h1 s1 => ?_
  refine ob hs G1 σ H1 ρ y _ k1 e2 fun G2 H2 w k2 g2 h2 s2 => ?_
  exact bin_do k2 (s1.same g2 h2) s2 e3 fun G' H' z k' g' h' => q G' H' z k' ((g1.trans g2).trans g') ((h1.trans h2).trans h')
theorem de_neg (ha : DR X c τ a fa) : DP X c τ (.UnaryOp .USub a pos) t fun ρ => (fa ρ).bind fun x => match x with | .int i => some (.int (-i)) | _ => none := by
  obtain ⟨ta, pa, oa⟩ := ha
  refine ⟨_, pe_un un_neg pa, fun hs G σ H ρ d Q k e q => ?_⟩
  obtain ⟨x, e1, e2⟩ := bind1 e
  cases x with
  | int i =>
    cases e2
    refine oa hs G σ H ρ _ _ k e1 fun G1 H1 v k1 g1 h1 s1 => ?_
    exact ⟨i, s1.int, q G1 H1 _ [] k1 g1 h1 (R.flat (d := .int (-i)) rfl)⟩
  | _ => cases e2
theorem RdOk.cmp {ta tb : TE} {o : COp} (oa : RdOk X c τ ta fa) (ob : RdOk X c τ tb fb) {hs : List Trip} {G : Hp} {σ : L2.St} {H : Hp} {ρ : Env} {x y : D} {b : Bool} {Q : VK} (k : Ok X.K c τ hs G σ H ρ) (e1 : fa ρ = some x) (e2 : fb ρ = some y)
    (e : dCmp o x y = some b) (q : ∀ G' H', Ok X.K c τ hs G' σ H' ρ → Same G G' → Same H H' → Q (.bl b) H') : tOp (rCmp X.K o) ta tb σ H Q :=
  RdOk.two oa ob k e1 e2 fun G' H' v w k' g' h' z1 z2 => cmp_do z1 z2 e (q G' H' k' g' h')
theorem de_cmp {o : COp} {op : CmpOp} (hu : X.A.units + 64 < cLine) (ho : op = copOf o) (hm : behindInMarks op b = false) (ha : DR X c τ a fa) (hb : DR X c τ b fb) :
    DP X c τ (.Compare a [op] [b] pos) t fun ρ => (fa ρ).bind fun x => (fb ρ).bind fun y => (dCmp o x y).map .bl := by
  subst ho
  obtain ⟨ta, pa, oa⟩ := ha
  obtain ⟨tb, pb, ob⟩ := hb
  refine ⟨_, pe_cmpR (op_cmp hu o) pa pb hm, fun hs G σ H ρ d Q k e q => ?_⟩
  obtain ⟨x, y, e1, e2, e3⟩ := bind2 e
  obtain ⟨r, e4, rfl⟩ := map1 e3
  exact oa.cmp ob k e1 e2 e4 fun G' H' k' g' h' => q G' H' _ [] k' g' h' (R.flat (d := .bl r) rfl)
theorem dt_cmp {o : COp} {op : CmpOp} (hu : X.A.units + 64 < cLine) (ho : op = copOf o) (hm : behindInMarks op b = false) (ha : DR X c τ a fa) (hb : DR X c τ b fb) :
    DT X c τ (.Compare a [op] [b] pos) fun ρ => (fa ρ).bind fun x => (fb ρ).bind fun y => dCmp o x y := by
  subst ho
  obtain ⟨ta, pa, oa⟩ := ha
  obtain ⟨tb, pb, ob⟩ := hb
  refine ⟨_, pt_cmpR (op_cmp hu o) pa pb hm, fun hs G σ H ρ r Q k e q => ?_⟩
  obtain ⟨x, y, e1, e2, e3⟩ := bind2 e
  exact oa.cmp ob k e1 e2 e3 fun G' H' k' g' h' => ⟨r, rfl, q G' H' k' g' h'⟩
theorem chain_run {ta tb tc : TE} {o o' : COp} {f' : EF} (oa : RdOk X c τ ta fa) (ob : RdOk X c τ tb fb) (oc : RdOk X c τ tc f') {hs : List Trip} {G : Hp} {σ : L2.St} {H : Hp} {ρ : Env} {r : Bool} {Q : VK} (k : Ok X.K c τ hs G σ H ρ)
    (e : ((fa ρ).bind fun x => (fb ρ).bind fun y => (dCmp o x y).bind fun r => if r then (f' ρ).bind fun z => dCmp o' y z else some false) = some r)
    (q : ∀ G' H', Ok X.K c τ hs G' σ H' ρ → Same G G' → Same H H' → Q (.bl r) H') : tChain (rCmp X.K o) (rCmp X.K o') ta tb tc σ H Q := by
  obtain ⟨x, y, e1, e2, e⟩ := bind2 e
  obtain ⟨r1, e3, e⟩ := bind1 e
  refine oa hs G σ H ρ x _ k e1 fun G1 H1 v k1 g1 h1 s1 => ?_
  refine ob hs G1 σ H1 ρ y _ k1 e2 fun G2 H2 w k2 g2 h2 s2 => ?_
  refine cmp_do (s1.same h2) s2 e3 ⟨r1, rfl, ?_⟩
  cases r1 with
  | false => 
    cases e
    rw [if_neg (by decide)]
    exact q G2 H2 k2 (g1.trans g2) (h1.trans h2)
  | true =>
    obtain ⟨z, e4, e⟩ := bind1 (f := fun z => dCmp o' y z) e
    rw [if_pos rfl]
    refine oc hs G2 σ H2 ρ z _ k2 e4 fun G3 H3 u k3 g3 h3 s3 => ?_
    exact cmp_do (s2.same h3) s3 e (q G3 H3 k3 ((g1.trans g2).trans g3) ((h1.trans h2).trans h3))
end
end My

set_option Elab.async false
set_option linter.all false
set_option maxRecDepth 100000
/-! Expressions: tests, items, slices, displays. -/
namespace My
open PySem PySem.Spec PyProof.Rows L2
section
variable {X : Cx} {c : FC} {τ τ' τ'' : List Slot} {a b e : Expr} {fa fb f : EF} {ga gb g : Env → Option Bool} {t u : Ty} {pos : Pos}

/-! ### truth -/
theorem truth_do {K : PySem.W.Frag} {H : Hp} {v : V} {d : D} {k : Bool} (h : Fz K H v d) (e : truth d = some k) : TruV K v H k := by
  have me := mx_eq
  cases h with
  | hole => cases e
  | flat h =>
    cases d with
    | non => cases e; rfl
    | bl b => cases e; rfl
    | int i => cases e; rfl
    | str x =>
      have e : (if x.length ≤ mx then some ((x.length : Int) != 0) else none) = some k := e
      split at e
      · cases e; exact ⟨by omega, rfl⟩
      · cases e
    | _ => cases h
  | lst h l => cases e; exact .inl ⟨_, h.sq, by cases l <;> rfl⟩
  | tup h l => cases e; exact .inr (.inl ⟨_, h, by cases l <;> rfl⟩)
  | dct _ _ => cases e
theorem dt_truth (ha : DR X c τ a fa) (he : ∀ whole, isTrue a X.env whole = (do let v ← whole; standAt a.pos; holding [v] (truthy v))) : DT X c τ a fun ρ => (fa ρ).bind truth := by
  obtain ⟨ta, pa, oa⟩ := ha
  refine ⟨_, pt_truth pa he, fun hs G σ H ρ r Q k e q => ?_⟩
  obtain ⟨x, e1, e2⟩ := bind1 e
  exact oa hs G σ H ρ x _ k e1 fun G1 H1 v k1 g1 h1 z => ⟨r, truth_do z e2, q G1 H1 k1 g1 h1⟩
theorem dt_not (ha : DT X c τ a ga) : DT X c τ (.UnaryOp .Not a pos) fun ρ => (ga ρ).map (!·) := by
  obtain ⟨ta, pa, oa⟩ := ha
  refine ⟨_, pt_not pa, fun hs G σ H ρ r Q k e q => ?_⟩
  obtain ⟨x, e1, rfl⟩ := map1 e
  exact oa hs G σ H ρ x _ k e1 fun G1 H1 k1 g1 h1 => q G1 H1 k1 g1 h1
def DW (X : Cx) (c : FC) (τ : List Slot) (e : Expr) (f : Env → Option Bool) : Prop := ∃ tt, PW X e tt ∧ TsOk X c τ tt f
theorem DW.test (h : DW X c τ e g) : DT X c τ e g := let ⟨tt, p, o⟩ := h; ⟨tt, p.pt, o⟩
theorem dw_and1 (h : DT X c τ a ga) : DW X c τ (.BoolOp .And [a] pos) ga := let ⟨tt, p, o⟩ := h; ⟨tt, pw_and1 p, o⟩
theorem dw_or1 (h : DT X c τ a ga) : DW X c τ (.BoolOp .Or [a] pos) ga := let ⟨tt, p, o⟩ := h; ⟨tt, pw_or1 p, o⟩
theorem dw_and {rest : List Expr} (ha : DT X c τ a ga) (hb : DW X c τ (.BoolOp .And (b :: rest) pos) gb) : DW X c τ (.BoolOp .And (a :: b :: rest) pos) fun ρ => (ga ρ).bind fun x => if x then gb ρ else some false := by
  obtain ⟨ta, pa, oa⟩ := ha
  obtain ⟨tb, pb, ob⟩ := hb
  refine ⟨_, pw_and pa pb, fun hs G σ H ρ r Q k e q => ?_⟩
  obtain ⟨x, e1, e2⟩ := bind1 e
  refine oa hs G σ H ρ x _ k e1 fun G1 H1 k1 g1 h1 => ?_
  cases x with
  | false => cases e2; rw [if_neg (by decide)]; exact q G1 H1 k1 g1 h1
  | true => rw [if_pos rfl]; exact ob hs G1 σ H1 ρ r _ k1 e2 fun G2 H2 k2 g2 h2 => q G2 H2 k2 (g1.trans g2) (h1.trans h2)
theorem dw_or {rest : List Expr} (ha : DT X c τ a ga) (hb : DW X c τ (.BoolOp .Or (b :: rest) pos) gb) : DW X c τ (.BoolOp .Or (a :: b :: rest) pos) fun ρ => (ga ρ).bind fun x => if x then some true else gb ρ := by
  obtain ⟨ta, pa, oa⟩ := ha
  obtain ⟨tb, pb, ob⟩ := hb
  refine ⟨_, pw_or pa pb, fun hs G σ H ρ r Q k e q => ?_⟩
  obtain ⟨x, e1, e2⟩ := bind1 e
  refine oa hs G σ H ρ x _ k e1 fun G1 H1 k1 g1 h1 => ?_
  cases x with
  | true => cases e2; rw [if_pos rfl]; exact q G1 H1 k1 g1 h1
  | false => rw [if_neg (by decide)]; exact ob hs G1 σ H1 ρ r _ k1 e2 fun G2 H2 k2 g2 h2 => q G2 H2 k2 (g1.trans g2) (h1.trans h2)
theorem dt_chain {x : Expr} {fc : EF} {o o' : COp} {op op' : CmpOp} (hu : X.A.units + 64 < cLine) (ho : op = copOf o) (ho' : op' = copOf o') (hm : lastMarks [op, op'] [b, x] = false) (ha : DR X c τ a fa) (hb : DR X c τ b fb) (hc : DR X c τ x fc) :
    DT X c τ (.Compare a [op, op'] [b, x] pos) fun ρ => (fa ρ).bind fun x => (fb ρ).bind fun y => (dCmp o x y).bind fun r => if r then (fc ρ).bind fun z => dCmp o' y z else some false := by
  subst ho ho'
  obtain ⟨ta, pa, oa⟩ := ha
  obtain ⟨tb, pb, ob⟩ := hb
  obtain ⟨tc, pc, oc⟩ := hc
  exact ⟨_, pt_chain (op_cmp hu o) (op_cmp hu o') pa pb pc hm, fun hs G σ H ρ r Q k e q => chain_run oa ob oc k e fun G' H' k' g' h' => ⟨r, rfl, q G' H' k' g' h'⟩⟩
theorem de_chain {x : Expr} {fc : EF} {o o' : COp} {op op' : CmpOp} (hu : X.A.units + 64 < cLine) (ho : op = copOf o) (ho' : op' = copOf o') (hm : lastMarks [op, op'] [b, x] = false) (ha : DR X c τ a fa) (hb : DR X c τ b fb) (hc : DR X c τ x fc) :
    DP X c τ (.Compare a [op, op'] [b, x] pos) t fun ρ => ((fa ρ).bind fun x => (fb ρ).bind fun y => (dCmp o x y).bind fun r => if r then (fc ρ).bind fun z => dCmp o' y z else some false).map .bl := by
  subst ho ho'
  obtain ⟨ta, pa, oa⟩ := ha
  obtain ⟨tb, pb, ob⟩ := hb
  obtain ⟨tc, pc, oc⟩ := hc
  refine ⟨_, pe_chain (op_cmp hu o) (op_cmp hu o') pa pb pc hm, fun hs G σ H ρ d Q k e q => ?_⟩
  obtain ⟨r, e1, rfl⟩ := map1 e
  exact chain_run oa ob oc k e1 fun G' H' k' g' h' => q G' H' _ [] k' g' h' (R.flat (d := .bl r) rfl)

/-! ### not, and, or, if as values -/
theorem de_notT (ha : DR X c τ a fa) : DP X c τ (.UnaryOp .Not a pos) t fun ρ => ((fa ρ).bind truth).map fun b => .bl (!b) := by
  obtain ⟨ta, pa, oa⟩ := ha
  refine ⟨_, pe_notT pa, fun hs G σ H ρ d Q k e q => ?_⟩
  obtain ⟨r, e1, rfl⟩ := map1 e
  obtain ⟨x, e1, e2⟩ := bind1 e1
  exact oa hs G σ H ρ x _ k e1 fun G1 H1 v k1 g1 h1 z => ⟨r, truth_do z e2, q G1 H1 _ [] k1 g1 h1 (R.flat (d := .bl (!r)) rfl)⟩
theorem do_one {op} (h : DO X c τ τ' a t fa) : DO X c τ τ' (.BoolOp op [a] pos) t fa := let ⟨te, p, o⟩ := h; ⟨te, pe_one p, o⟩
theorem do_and {rest : List Expr} (ha : DO X c τ τ a .F fa) (hb : DO X c τ τ (.BoolOp .And (b :: rest) pos) .F fb) :
    DO X c τ τ (.BoolOp .And (a :: b :: rest) pos) .F fun ρ => (fa ρ).bind fun x => (truth x).bind fun t => if t then fb ρ else some x := by
  obtain ⟨ta, pa, oa⟩ := ha
  obtain ⟨tb, pb, ob⟩ := hb
  refine ⟨_, pe_andT pa pb, fun hs G σ H ρ d Q k e q => ?_⟩
  obtain ⟨x, e1, e2⟩ := bind1 e
  obtain ⟨r, e2, e3⟩ := bind1 e2
  refine oa hs G σ H ρ x _ k e1 fun G1 H1 v k1 g1 h1 => ?_
  obtain ⟨fp, z⟩ := k1.top
  refine ⟨r, truth_do (z.read k1.frG) e2, ?_⟩
  cases r with
  | false => cases e3; rw [if_neg (by decide)]; exact q G1 H1 v k1 g1 h1
  | true => rw [if_pos rfl]; exact ob hs G1 σ H1 ρ d _ k1.drop e3 fun G2 H2 w k2 g2 h2 => q G2 H2 w k2 (g1.trans g2) (h1.trans h2)
theorem do_or {rest : List Expr} (ha : DO X c τ τ a .F fa) (hb : DO X c τ τ (.BoolOp .Or (b :: rest) pos) .F fb) :
    DO X c τ τ (.BoolOp .Or (a :: b :: rest) pos) .F fun ρ => (fa ρ).bind fun x => (truth x).bind fun t => if t then some x else fb ρ := by
  obtain ⟨ta, pa, oa⟩ := ha
  obtain ⟨tb, pb, ob⟩ := hb
  refine ⟨_, pe_orT pa pb, fun hs G σ H ρ d Q k e q => ?_⟩
  obtain ⟨x, e1, e2⟩ := bind1 e
  obtain ⟨r, e2, e3⟩ := bind1 e2
  refine oa hs G σ H ρ x _ k e1 fun G1 H1 v k1 g1 h1 => ?_
  obtain ⟨fp, z⟩ := k1.top
  refine ⟨r, truth_do (z.read k1.frG) e2, ?_⟩
  cases r with
  | true => cases e3; rw [if_pos rfl]; exact q G1 H1 v k1 g1 h1
  | false => rw [if_neg (by decide)]; exact ob hs G1 σ H1 ρ d _ k1.drop e3 fun G2 H2 w k2 g2 h2 => q G2 H2 w k2 (g1.trans g2) (h1.trans h2)
theorem do_if {x : Expr} (hc : DT X c τ x g) (ha : DO X c τ τ' a t fa) (hb : DO X c τ τ' b t fb) : DO X c τ τ' (.IfExp x a b pos) t fun ρ => (g ρ).bind fun r => if r then fa ρ else fb ρ := by
  obtain ⟨tc, pc, oc⟩ := hc
  obtain ⟨ta, pa, oa⟩ := ha
  obtain ⟨tb, pb, ob⟩ := hb
  refine ⟨_, pe_ifExp pc pa pb, fun hs G σ H ρ d Q k e q => ?_⟩
  obtain ⟨r, e1, e2⟩ := bind1 e
  refine oc hs G σ H ρ r _ k e1 fun G1 H1 k1 g1 h1 => ?_
  cases r with
  | true => rw [if_pos rfl]; exact oa hs G1 σ H1 ρ d _ k1 e2 fun G2 H2 w k2 g2 h2 => q G2 H2 w k2 (g1.trans g2) (h1.trans h2)
  | false => rw [if_neg (by decide)]; exact ob hs G1 σ H1 ρ d _ k1 e2 fun G2 H2 w k2 g2 h2 => q G2 H2 w k2 (g1.trans g2) (h1.trans h2)

/-! ### items -/
def rIxDc : R2 := fun x y H Q => ∃ a kvs k v, x = .ref a ∧ y = kV k ∧ Rd H a (.dK kvs) ∧ getK k kvs = some v ∧ Q v H
theorem ix_dct (hu : X.A.units + 1 < cLine) : IxR X rIxDc := by
  intro value slice pins s σ H x y v u Q I rx ry h hs
  obtain ⟨a, kvs, k, z, rfl, rfl, rd, e, q⟩ := h
  cases rx
  obtain ⟨_, _, vs, rel, dd⟩ := dk_rd I.hok rd
  exact tail_any dd.typeIs PySem.F.slot_dict_getitem.lookup (d_getItem hu I (.inl ⟨kvs, k, rd, rfl, by rw [valV_getK]; exact e.symm⟩) ry fun w' s' I' r' => ⟨_, H, I', r', q⟩) hs
theorem IxR.or {r r' : R2} (h : IxR X r) (h' : IxR X r') : IxR X (fun x y H Q => r x y H Q ∨ r' x y H Q) := by
  intro value slice pins s σ H x y v u Q I rx ry q hs
  rcases q with q | q
  · exact h value slice pins s σ H x y v u Q I rx ry q hs
  · exact h' value slice pins s σ H x y v u Q I rx ry q hs
theorem ix_any (hu : X.A.units + 1 < cLine) : IxR X (fun x y H Q => rIx X.K x y H Q ∨ rIxDc x y H Q) := IxR.or ix_seq (ix_dct hu)
/-- the type of what is in it -/
def Ty.elem : Ty → Ty
  | .F => .F
  | .L t => t
  | .T [] t => t
  | .T _ _ => .F
  | .Dc [] t => t
  | .Dc _ _ => .F
  | .N => .F
def Ty.own : Ty → Bool
  | .F => false
  | _ => true
def Ty.ix : Ty → Bool
  | .F => true
  | .L _ => true
  | .T ts _ => ts.isEmpty
  | .Dc ks _ => ks.isEmpty
  | .N => false
theorem FzL.atI {K : PySem.W.Frag} {G : Hp} {vs : List V} {ds : List D} {i : Int} {d : D} (h : FzL K G vs ds) (e : L2.atI ds i = some d) : ∃ v, L2.atI vs i = some v ∧ Fz K G v d := by
  unfold L2.atI at e ⊢
  rw [h.length]
  obtain ⟨j, e1, e2⟩ := bind1 e
  obtain ⟨v, e3, z⟩ := h.get e2
  exact ⟨v, by rw [e1]; exact e3, z⟩
theorem RL.getR {K : PySem.W.Frag} {G H : Hp} : ∀ {xs : List Trip} {fp : List Addr} {i : Nat} {x : Trip}, RL K G H xs fp → xs[i]? = some x → ∃ fq, R K G H x.1 x.2.1 x.2.2 fq
  | _, _, _, _, .nil, e => by simp at e
  | _, _, 0, _, .cons h _, e => by simp at e; subst e; exact ⟨_, h⟩
  | _, _, i + 1, _, .cons _ l, e => RL.getR (i := i) l (by simpa using e)
theorem atI_map {α β : Type} {xs : List α} {g : α → β} {i : Int} {y : β} (e : L2.atI (xs.map g) i = some y) : ∃ (j : Nat) (x : α), L2.ixN xs.length i = some j ∧ xs[j]? = some x ∧ g x = y := by
  unfold L2.atI at e
  rw [List.length_map] at e
  obtain ⟨j, e1, e2⟩ := bind1 e
  rw [List.getElem?_map] at e2
  obtain ⟨x, e2, e3⟩ := map1 e2
  exact ⟨j, x, e1, e2, e3⟩
theorem atI_mapI {α β : Type} {xs : List α} {g : α → β} {i : Int} {j : Nat} {x : α} (e1 : L2.ixN xs.length i = some j) (e2 : xs[j]? = some x) : L2.atI (xs.map g) i = some (g x) := by
  unfold L2.atI
  rw [List.length_map, e1]
  show (xs.map g)[j]? = some (g x)
  rw [List.getElem?_map, e2]; rfl
theorem dIdx_lst {xs : List D} {y z : D} (e : dIdx (.lst xs) y = some z) : ∃ i, y = .int i ∧ L2.atI xs i = some z := by
  cases y <;> first | exact ⟨_, rfl, e⟩ | cases e
theorem dIdx_tup {xs : List D} {y z : D} (e : dIdx (.tup xs) y = some z) : ∃ i, y = .int i ∧ L2.atI xs i = some z := by
  cases y <;> first | exact ⟨_, rfl, e⟩ | cases e
theorem dIdx_str {x : Str} {y z : D} (e : dIdx (.str x) y = some z) : ∃ i, y = .int i ∧ x.length ≤ mx ∧ ∃ c, L2.atI x.cps.toList i = some c ∧ z = .str ⟨#[c]⟩ := by
  cases y with
  | int i =>
    have e : (if x.length ≤ mx then (L2.atI x.cps.toList i).map fun c => D.str ⟨#[c]⟩ else none) = some z := e
    split at e
    · obtain ⟨c, e1, e2⟩ := map1 e
      exact ⟨i, rfl, by assumption, c, e1, e2.symm⟩
    · cases e
  | _ => cases e
theorem dIdx_dct {kvs : List (Key × D)} {y z : D} (e : dIdx (.dct kvs) y = some z) : ∃ k, keyOf y = some k ∧ getK k kvs = some z := by
  have e : ((keyOf y).bind fun k => getK k kvs) = some z := by cases y <;> exact e
  exact bind1 e
theorem getK_trip {kk : Key} {z : D} : ∀ {kxs : List (Key × Trip)}, getK kk (kxs.map fun p => (p.1, p.2.2.2)) = some z → ∃ p ∈ kxs, p.1 = kk ∧ getK kk (kxs.map fun p => (p.1, p.2.2.1)) = some p.2.2.1 ∧ p.2.2.2 = z
  | [], e => by cases e
  | p :: r, e => by
    rw [List.map_cons] at e ⊢
    unfold getK at e ⊢
    by_cases hk : p.1 = kk
    · rw [if_pos hk] at e ⊢; cases e; exact ⟨p, List.mem_cons_self, hk, rfl, rfl⟩
    · rw [if_neg hk] at e ⊢
      obtain ⟨p', m, e0, e1, e2⟩ := getK_trip e
      exact ⟨p', List.mem_cons_of_mem _ m, e0, e1, e2⟩
theorem idx_do {hs : List Trip} {G H : Hp} {σ : L2.St} {ρ : Env} {v w : V} {x y z : D} {fp : List Addr} {Q : VK} (k : Ok X.K c τ hs G σ H ρ) (s : t.ix = true) (hx : R X.K G H t v x fp) (hy : Fz X.K H w y) (e : dIdx x y = some z)
    (q : ∀ v fp, R X.K G H t.elem v z fp → Q v H) : rIx X.K v w H Q ∨ rIxDc v w H Q := by
  have me := mx_eq
  cases hx with
  | @flat t d h =>
    cases x with
    | str s =>
      obtain ⟨i, rfl, hl, c, e1, rfl⟩ := dIdx_str e
      exact .inl (.inr (.inr ⟨_, _, _, rfl, hy.int, by omega, e1, q _ [] (R.flat (d := .str ⟨#[c]⟩) rfl)⟩))
    | non => cases e
    | bl _ => cases e
    | int _ => cases e
    | _ => cases h
  | hole => cases e
  | N _ _ _ => cases s
  | F h =>
    cases h with
    | hole => cases e
    | flat h =>
      cases x with
      | str s =>
        obtain ⟨i, rfl, hl, c, e1, rfl⟩ := dIdx_str e
        exact .inl (.inr (.inr ⟨_, _, _, rfl, hy.int, by omega, e1, q _ [] (R.flat (d := .str ⟨#[c]⟩) rfl)⟩))
      | non => cases e
      | bl _ => cases e
      | int _ => cases e
      | _ => cases h
    | lst h l =>
      obtain ⟨i, rfl, e1⟩ := dIdx_lst e
      obtain ⟨v, e2, z1⟩ := l.atI e1
      exact .inl (.inl ⟨_, _, _, _, rfl, hy.int, (sqK_same k.frG h).sq, e2, q _ [] (.F z1)⟩)
    | tup h l =>
      obtain ⟨i, rfl, e1⟩ := dIdx_tup e
      obtain ⟨v, e2, z1⟩ := l.atI e1
      exact .inl (.inr (.inl ⟨_, _, _, _, rfl, hy.int, sqT_same k.frG h, e2, q _ [] (.F z1)⟩))
    | dct h l =>
      obtain ⟨kk, e1, e2⟩ := dIdx_dct e
      rcases l.get (k := kk) with ⟨_, e3⟩ | ⟨v, d, e3, e4, z1⟩
      · rw [e3] at e2; cases e2
      · rw [e4] at e2; cases e2
        exact .inr ⟨_, _, _, _, rfl, keyOf_kV hy e1, rd_same k.frG h.1, e3, q _ [] (.F z1)⟩
  | @L t a xs fp h i l =>
    obtain ⟨n, rfl, e1⟩ := dIdx_lst e
    obtain ⟨j, p, e3, e2, rfl⟩ := atI_map e1
    obtain ⟨fq, r⟩ := l.getR e2
    rw [i p (List.mem_of_getElem? e2)] at r
    exact .inl (.inl ⟨_, _, _, p.2.1, rfl, hy.int, SqL.of h, atI_mapI e3 e2, q _ _ r⟩)
  | @T ts t a xs fp h i l =>
    obtain ⟨n, rfl, e1⟩ := dIdx_tup e
    obtain ⟨j, p, e3, e2, rfl⟩ := atI_map e1
    obtain ⟨fq, r⟩ := l.getR e2
    cases ts with
    | cons _ _ => cases s
    | nil =>
      rw [i j p e2] at r
      exact .inl (.inr (.inl ⟨_, _, _, p.2.1, rfl, hy.int, (.inl (rd_same k.frG h)), atI_mapI e3 e2, q _ _ r⟩))
  | @Dc ks t a kxs fp h n i l =>
    obtain ⟨kk, e1, e2⟩ := dIdx_dct e
    cases ks with
    | cons _ _ => cases s
    | nil =>
      obtain ⟨p, m, _, e3, rfl⟩ := getK_trip e2
      obtain ⟨j, hj⟩ := List.mem_iff_getElem?.mp m
      obtain ⟨fq, r⟩ := l.getR (i := j) (x := p.2) (by rw [List.getElem?_map, hj]; rfl)
      rw [i p m] at r
      exact .inr ⟨_, _, _, _, rfl, keyOf_kV hy e1, Rd.of h, e3, q _ _ r⟩
theorem de_idx {i : Expr} {fi : EF} (hu : X.A.units + 1 < cLine) (s : t.ix = true) (ha : DP X c τ a t fa) (hi : DR X c τ i fi) (hs : PlainIx i) : DP X c τ (.Subscript a i pos) t.elem fun ρ => (fa ρ).bind fun x => (fi ρ).bind fun y => dIdx x y := by
  obtain ⟨ta, pa, oa⟩ := ha
  obtain ⟨ti, pi, oi⟩ := hi
  refine ⟨_, pe_ix (ix_any hu) pa pi hs, fun hs G σ H ρ d Q k e q => ?_⟩
  obtain ⟨x, y, e1, e2, e3⟩ := bind2 e
  refine oa hs G σ H ρ x _ k e1 fun G1 H1 v fp k1 g1 h1 r1 => ?_
  refine oi hs G1 σ H1 ρ y _ k1 e2 fun G2 H2 w k2 g2 h2 z2 => ?_
  exact idx_do k2 s (r1.same g2 h2) z2 e3 fun v fp r => q G2 H2 v fp k2 (g1.trans g2) (h1.trans h2) r

/-! ### slices -/
theorem FzL.cut {K : PySem.W.Frag} {G : Hp} {vs : List V} {ds : List D} (h : FzL K G vs ds) (lo hi : Option Int) : FzL K G (cutV vs lo hi) (My.cut ds lo hi) := by
  unfold cutV My.cut
  rw [h.length]
  exact (h.drop _).take _
theorem slc_do {hs : List Trip} {G H : Hp} {σ : L2.St} {ρ : Env} {v : V} {x z : D} {lo hi : Option Int} {Q : VK} (k : Ok X.K c τ hs G σ H ρ) (hx : Sh X.K G H v x)
    (e : slcV x lo hi = some z)
    (q : ∀ G' H' v, Ok X.K c τ ((.F, v, z) :: hs) G' σ H' ρ → Same G G' → Same H H' → Q v H') : (rSlL X.K v lo hi H Q ∨ rSlA X.K v lo hi H Q) ∨ rSlS v lo hi H Q := by
  have me := mx_eq
  cases x with
  | lst xs =>
    cases e
    obtain ⟨a, vs, rfl, r, l⟩ := hx.lst' k.frG
    refine .inl (.inl ⟨a, vs, rfl, r.sq, fun p n => ?_⟩)
    obtain ⟨G', g, k'⟩ := k.newLF n (l.cut lo hi)
    exact q G' _ _ k' g (same_upd n)
  | tup xs =>
    cases e
    obtain ⟨a, vs, rfl, r, l⟩ := hx.tup' k.frG
    have el := l.length
    refine .inl (.inr ⟨a, vs, rfl, r, fun w => ?_, fun _ p n => ?_⟩)
    · have ec : cut xs lo hi = xs := by
        unfold cut
        rw [← el, w.1, w.2]
        simp [el]
      rw [ec] at q
      exact q G H _ (k.push hx.tupF) (Same.refl _) (Same.refl _)
    · obtain ⟨G', g, k'⟩ := k.newTF n (l.cut lo hi)
      exact q G' _ _ k' g (same_upd n)
  | str s =>
    have e : (if s.length ≤ mx then some (D.str ⟨(cut s.cps.toList lo hi).toArray⟩) else none) = some z := e
    split at e
    · cases e
      refine .inr ⟨s, hx.str, by omega, ?_⟩
      have es : (⟨(cut s.cps.toList lo hi).toArray⟩ : Str) = cutS s lo hi := by
        unfold cut cutS
        rw [Array.length_toList]; rfl
      rw [← es]
      exact q G H _ (k.pushFlat (d := .str ⟨(cut s.cps.toList lo hi).toArray⟩) .F rfl) (Same.refl _) (Same.refl _)
    · cases e
  | _ => cases e
def PrOk (X : Cx) (c : FC) (τ : List Slot) (tp : TO) (f : Env → Option (Option D)) : Prop :=
  ∀ hs G σ H ρ d i (Q : Option Int → Hp → Prop), Ok X.K c τ hs G σ H ρ → f ρ = some d → optI d = some i → (∀ G' H', Ok X.K c τ hs G' σ H' ρ → Same G G' → Same H H' → Q i H') → tp σ H Q
def DPr (X : Cx) (c : FC) (τ : List Slot) (e : Option Expr) (f : Env → Option (Option D)) : Prop := ∃ tp, PO X e tp ∧ PrOk X c τ tp f
theorem dpr_none : DPr X c τ none fun _ => some none := ⟨_, po_none, fun hs G σ H ρ d i Q k e e2 q => by cases e; cases e2; exact q G H k (Same.refl _) (Same.refl _)⟩
theorem dpr_some (h : DR X c τ a fa) : DPr X c τ (some a) fun ρ => (fa ρ).map some := by
  obtain ⟨ta, pa, oa⟩ := h
  refine ⟨_, po_some pa, fun hs G σ H ρ d i Q k e e2 q => ?_⟩
  obtain ⟨x, e1, rfl⟩ := map1 e
  cases x with
  | int n =>
    cases e2
    exact oa hs G σ H ρ _ _ k e1 fun G1 H1 v k1 g1 h1 z => ⟨n, z.int, q G1 H1 k1 g1 h1⟩
  | _ => cases e2
theorem do_slc {lo hi : Option Expr} {fl fh : Env → Option (Option D)} {p2 : Pos} (ha : DS X c τ a fa) (hl : DPr X c τ lo fl) (hh : DPr X c τ hi fh) :
    DO X c τ τ (.Subscript a (.Slice lo hi none p2) pos) .F fun ρ => (fa ρ).bind fun x => (fl ρ).bind fun l => (fh ρ).bind fun h => dSlc x l h := by
  obtain ⟨ta, pa, oa⟩ := ha
  obtain ⟨tl, pl, ol⟩ := hl
  obtain ⟨th, ph, oh⟩ := hh
  refine ⟨_, pe_slice ((SlR.or sl_list sl_tupA).or sl_str) pa pl ph, fun hs G σ H ρ d Q k e q => ?_⟩
  obtain ⟨x, l, e1, e2, e3⟩ := bind2 e
  obtain ⟨h, e3, e4⟩ := bind1 e3
  unfold dSlc at e4
  split at e4
  · rename_i l' h' el eh
    refine oa hs G σ H ρ x _ k e1 fun G1 H1 v k1 g1 h1 s1 => ?_
    refine ol hs G1 σ H1 ρ l l' _ k1 e2 el fun G2 H2 k2 g2 h2 => ?_
    refine oh hs G2 σ H2 ρ h h' _ k2 e3 eh fun G3 H3 k3 g3 h3 => ?_
    exact slc_do k3 (s1.same (g2.trans g3) (h2.trans h3)) e4 fun G' H' v k' g' h' => q G' H' v k' (((g1.trans g2).trans g3).trans g') (((h1.trans h2).trans h3).trans h')
  · cases e4

/-! ### rows of expressions -/
def NS : Expr → Bool
  | .Starred .. => false
  | _ => true
theorem star_cons {e : Expr} {es : List Expr} {env : PySem.Env} (h : NS e = true) : starEach (e :: es) env = (false, eval e env) :: starEach es env := by
  cases e <;> first | rfl | cases h
theorem star_any {pos : Pos} {env : PySem.Env} : ∀ {es : List Expr}, es.all NS = true → (backTo pos (starEach es env)).any (·.1) = false
  | [], _ => rfl
  | e :: es, h => by
    obtain ⟨h1, h2⟩ := Bool.and_eq_true_iff.mp (show (NS e && es.all NS) = true from h)
    rw [star_cons h1]
    show (false || (backTo pos (starEach es env)).any (·.1)) = false
    rw [star_any h2]; rfl

/-- all owned: the last one is held on top -/
def AoOk (X : Cx) (c : FC) (τ τ' : List Slot) (ts : List Ty) (ta : TA) (f : Env → Option (List D)) : Prop :=
  ∀ hs G σ H ρ ds (Q : List V → Hp → Prop), Ok X.K c τ hs G σ H ρ → f ρ = some ds → (∀ G' H' (xs : List Trip), Ok X.K c τ' (xs ++ hs) G' σ H' ρ → Same G G' → Same H H' → xs.map (·.1) = ts → xs.map (·.2.2) = ds → Q (xs.map (·.2.1)) H') → ta σ H Q
def DA (X : Cx) (c : FC) (τ τ' : List Slot) (es : List Expr) (ts : List Ty) (f : Env → Option (List D)) : Prop := ∃ ta, PA X es ta ∧ AoOk X c τ τ' ts ta f
theorem da_nil : DA X c τ τ [] [] fun _ => some [] := ⟨_, pa_nil, fun hs G σ H ρ ds Q k e q => by cases e; exact q G H [] k (Same.refl _) (Same.refl _) rfl rfl⟩
theorem da_cons {es : List Expr} {ts : List Ty} {fs : Env → Option (List D)} (ns : NS e = true) (ha : DO X c τ τ' e t fa) (hb : DA X c τ' τ'' es ts fs) :
    DA X c τ τ'' (e :: es) (t :: ts) fun ρ => (fa ρ).bind fun x => (fs ρ).map fun xs => x :: xs := by
  obtain ⟨ta, pa, oa⟩ := ha
  obtain ⟨tb, pb, ob⟩ := hb
  refine ⟨_, pa_cons pa pb (star_cons ns), fun hs G σ H ρ ds Q k e q => ?_⟩
  obtain ⟨x, e1, e2⟩ := bind1 e
  obtain ⟨xs, e3, rfl⟩ := map1 e2
  refine oa hs G σ H ρ x _ k e1 fun G1 H1 v k1 g1 h1 => ?_
  refine ob _ G1 σ H1 ρ xs _ k1 e3 fun G2 H2 ys k2 g2 h2 m1 m2 => ?_
  exact q G2 H2 ((t, v, x) :: ys) (k2.perm List.perm_middle) (g1.trans g2) (h1.trans h2) (by simp [m1]) (by simp [m2])
/-- all read -/
def ArOk (X : Cx) (c : FC) (τ : List Slot) (ta : TA) (f : Env → Option (List D)) : Prop :=
  ∀ hs G σ H ρ ds (Q : List V → Hp → Prop), Ok X.K c τ hs G σ H ρ → f ρ = some ds → (∀ G' H' vs, Ok X.K c τ hs G' σ H' ρ → Same G G' → Same H H' → FzL X.K H' vs ds → Q vs H') → ta σ H Q
def DAr (X : Cx) (c : FC) (τ : List Slot) (es : List Expr) (f : Env → Option (List D)) : Prop := ∃ ta, PA X es ta ∧ ArOk X c τ ta f
theorem dar_nil : DAr X c τ [] fun _ => some [] := ⟨_, pa_nil, fun hs G σ H ρ ds Q k e q => by cases e; exact q G H [] k (Same.refl _) (Same.refl _) .nil⟩
theorem dar_cons {es : List Expr} {fs : Env → Option (List D)} (ns : NS e = true) (ha : DR X c τ e fa) (hb : DAr X c τ es fs) :
    DAr X c τ (e :: es) fun ρ => (fa ρ).bind fun x => (fs ρ).map fun xs => x :: xs := by
  obtain ⟨ta, pa, oa⟩ := ha
  obtain ⟨tb, pb, ob⟩ := hb
  refine ⟨_, pa_cons pa pb (star_cons ns), fun hs G σ H ρ ds Q k e q => ?_⟩
  obtain ⟨x, e1, e2⟩ := bind1 e
  obtain ⟨xs, e3, rfl⟩ := map1 e2
  refine oa hs G σ H ρ x _ k e1 fun G1 H1 v k1 g1 h1 z1 => ?_
  refine ob hs G1 σ H1 ρ xs _ k1 e3 fun G2 H2 vs k2 g2 h2 z2 => ?_
  exact q G2 H2 (v :: vs) k2 (g1.trans g2) (h1.trans h2) (.cons (z1.same h2) z2)
/-- all readable, what is in them frozen -/
inductive ShL (K : PySem.W.Frag) (G H : Hp) : List V → List D → Prop
  | nil : ShL K G H [] []
  | cons {v : V} {d : D} {vs : List V} {ds : List D} : Sh K G H v d → ShL K G H vs ds → ShL K G H (v :: vs) (d :: ds)
def AsOk (X : Cx) (c : FC) (τ : List Slot) (ta : TA) (f : Env → Option (List D)) : Prop :=
  ∀ hs G σ H ρ ds (Q : List V → Hp → Prop), Ok X.K c τ hs G σ H ρ → f ρ = some ds → (∀ G' H' vs, Ok X.K c τ hs G' σ H' ρ → Same G G' → Same H H' → ShL X.K G' H' vs ds → Q vs H') → ta σ H Q
def DAs (X : Cx) (c : FC) (τ : List Slot) (es : List Expr) (f : Env → Option (List D)) : Prop := ∃ ta, PA X es ta ∧ AsOk X c τ ta f
theorem das_nil : DAs X c τ [] fun _ => some [] := ⟨_, pa_nil, fun hs G σ H ρ ds Q k e q => by cases e; exact q G H [] k (Same.refl _) (Same.refl _) .nil⟩
theorem das_cons {es : List Expr} {fs : Env → Option (List D)} (ns : NS e = true) (ha : DS X c τ e fa) (hb : DAs X c τ es fs) :
    DAs X c τ (e :: es) fun ρ => (fa ρ).bind fun x => (fs ρ).map fun xs => x :: xs := by
  obtain ⟨ta, pa, oa⟩ := ha
  obtain ⟨tb, pb, ob⟩ := hb
  refine ⟨_, pa_cons pa pb (star_cons ns), fun hs G σ H ρ ds Q k e q => ?_⟩
  obtain ⟨x, e1, e2⟩ := bind1 e
  obtain ⟨xs, e3, rfl⟩ := map1 e2
  refine oa hs G σ H ρ x _ k e1 fun G1 H1 v k1 g1 h1 z1 => ?_
  refine ob hs G1 σ H1 ρ xs _ k1 e3 fun G2 H2 vs k2 g2 h2 z2 => ?_
  exact q G2 H2 (v :: vs) k2 (g1.trans g2) (h1.trans h2) (.cons (z1.same g2 h2) z2)

/-! ### displays -/
theorem do_tup {es : List Expr} {ts : List Ty} {fs : Env → Option (List D)} {x1} (hl : es.length ≤ 1000) (h : DA X c τ τ' es ts fs) (hn : ts.length = es.length) : DO X c τ τ' (.Tuple es x1 pos) (.T ts .F) fun ρ => (fs ρ).map .tup := by
  obtain ⟨ta, pa, oa⟩ := h
  refine ⟨_, pe_tup pa, fun hs G σ H ρ d Q k e q => ?_⟩
  obtain ⟨ds, e1, rfl⟩ := map1 e
  refine oa hs G σ H ρ ds _ k e1 fun G1 H1 xs k1 g1 h1 m1 m2 => ⟨?_, fun p n => ?_⟩
  · have : xs.length = es.length := by rw [← hn, ← m1, List.length_map]
    rw [List.length_map, this, sizeLine_eq]; omega
  · have k2 := k1.allocT (ts := ts) (t := .F) n fun i x hx => by
      subst m1
      unfold Ty.atI
      rw [List.getD_eq_getElem?_getD, List.getElem?_map, hx]; rfl
    subst m2
    exact q _ _ _ k2 (g1.trans (same_upd (k1.free n).1)) (h1.trans (same_upd n))
theorem do_lst {es : List Expr} {ts : List Ty} {fs : Env → Option (List D)} (hl : es.length ≤ 1000) (h : DA X c τ τ' es ts fs) (hn : ts = List.replicate es.length t) : DO X c τ τ' (.List es pos) (.L t) fun ρ => (fs ρ).map .lst := by
  obtain ⟨ta, pa, oa⟩ := h
  refine ⟨_, pe_lst pa, fun hs G σ H ρ d Q k e q => ?_⟩
  obtain ⟨ds, e1, rfl⟩ := map1 e
  refine oa hs G σ H ρ ds _ k e1 fun G1 H1 xs k1 g1 h1 m1 m2 => ⟨?_, fun p n => ?_⟩
  · have : xs.length = es.length := by
      have := congrArg List.length (m1.trans hn)
      simpa using this
    rw [List.length_map, this, sizeLine_eq]; omega
  · have k2 := k1.alloc (t := .L t) (d := .lst (xs.map (·.2.2))) (o := .lst (xs.map (·.2.1))) n fun fp r => .L upd_same (fun x m => by
      have : x.1 ∈ xs.map (·.1) := List.mem_map.mpr ⟨x, m, rfl⟩
      rw [m1, hn] at this
      exact (List.mem_replicate.mp this).2) r
    subst m2
    exact q _ _ _ k2 g1 (h1.trans (same_upd n))
end
end My

set_option Elab.async false
set_option linter.all false
set_option maxRecDepth 100000
/-! Calls of built-in functions. -/
namespace My
open PySem PySem.Spec PyProof.Rows L2
section
variable {X : Cx} {c : FC} {τ τ' : List Slot} {a b e : Expr} {es : List Expr} {fa fb f : EF} {fs : Env → Option (List D)} {t u : Ty} {p pos : Pos}

def tyN : D → String
  | .non => "NoneType" | .bl _ => "bool" | .int _ => "int" | .str _ => "str" | .lst _ => "list" | .tup _ => "tuple" | .dct _ => "dict" | .hole => "NoneType"
theorem Fz.ty {K : PySem.W.Frag} {H : Hp} {v : V} {d : D} (h : Fz K H v d) (hd : isHole d = false) : TyX K H v (.type (tyN d)) := by
  cases h with
  | hole => cases hd
  | flat h =>
    cases d with
    | non => exact .base .non
    | bl b => exact .base (.bl b)
    | int i => exact .base (.int i)
    | str x => exact .base (.str x)
    | _ => cases h
  | lst h l =>
    rcases h with (h | ⟨o, h⟩) | ⟨its, n, h1, _⟩
    · exact .base (.lst h)
    · exact .base (.frz h)
    · exact .kList h1 rfl
  | tup h l =>
    rcases h with (h | ⟨o, h⟩) | ⟨o, its, n, h1, h2, _⟩
    · exact .base (.tup h)
    · exact .fTuple h
    · exact .kTuple h1 h2
  | dct h l =>
    rcases h.1 with h | ⟨o, h⟩
    · exact .base (.dK h)
    · exact .fDict h
def TyN.nm : TyN → String
  | .int => "int" | .bool => "bool" | .str => "str" | .list => "list" | .tuple => "tuple" | .dict => "dict"
theorem isi_kit {K : PySem.W.Frag} (d : D) (T : TyN) : PySem.W.kitOne K (.type (tyN d)) (.type T.nm) = some (isiV T d) := by
  cases T <;> cases d <;> (simp only [tyN, TyN.nm, isiV]; exact kit_ty (by decide +kernel))
theorem FzL.one {K : PySem.W.Frag} {H : Hp} {vs : List V} {d : D} (h : FzL K H vs [d]) : ∃ v, vs = [v] ∧ Fz K H v d := by
  cases h with
  | cons h l => cases l; exact ⟨_, rfl, h⟩
theorem FzL.two {K : PySem.W.Frag} {H : Hp} {vs : List V} {d d' : D} (h : FzL K H vs [d, d']) : ∃ v w, vs = [v, w] ∧ Fz K H v d ∧ Fz K H w d' := by
  cases h with
  | cons h l =>
    obtain ⟨w, rfl, h'⟩ := l.one
    exact ⟨_, w, rfl, h, h'⟩
/-- a built-in function of values that are read; its answer lies in no heap -/
theorem dp_call {r : List V → Hp → VK → Prop} {bi : BI} {te : TA → TE} {ex : Expr} (mk : ∀ {ta : TA}, PA X es ta → PE X ex (te ta)) (un : ∀ ta σ H Q, ta σ H (fun vs H1 => r vs H1 Q) → te ta σ H Q)
    (ok : ∀ vs ds z H Q, FzL X.K H vs ds → biV bi ds = some z → flat z = true ∧ (Q (toV z) H → r vs H Q)) (h : DAr X c τ es fs) : DP X c τ ex t fun ρ => (fs ρ).bind (biV bi) := by
  obtain ⟨ta, pa, oa⟩ := h
  refine ⟨_, mk pa, fun hs G σ H ρ d Q k e q => un _ _ _ _ ?_⟩
  obtain ⟨ds, e1, e2⟩ := bind1 e
  refine oa hs G σ H ρ ds _ k e1 fun G1 H1 vs k1 g1 h1 z => ?_
  obtain ⟨f, o⟩ := ok vs ds d H1 Q z e2
  exact o (q G1 H1 _ [] k1 g1 h1 (.flat f))
theorem biV_one {bi : BI} {ds : List D} {z : D} {g : D → Option D} (h : ∀ ds, biV bi ds = (match ds with | [d] => g d | _ => none)) (e : biV bi ds = some z) : ∃ d, ds = [d] ∧ g d = some z := by
  rw [h] at e
  split at e
  · exact ⟨_, rfl, e⟩
  · cases e
theorem len_ok : CallR X (.builtin "len") (fun xs H Q => (∃ x n, xs = [x] ∧ LenV X.K x H n ∧ Q (.int n) H) ∨ ∃ a kvs, xs = [V.ref a] ∧ Rd H a (.dK kvs) ∧ Q (.int kvs.length) H) := by
  intro pins s σ H xs us Q I r h
  rcases h with h | ⟨a, kvs, rfl, ha, q⟩
  · exact call_len pins s σ H xs us Q I r h
  · obtain ⟨u, rfl, ru⟩ := vals1 r
    cases ru
    exact d_len I (by first | exact .inl ha | exact .inl ⟨kvs, ha⟩ | exact ha) fun t s' I' => ⟨.int kvs.length, H, I', ⟨t, rfl⟩, q⟩

/-- a name that is the built-in one -/
structure Bn (X : Cx) (x : Str) : Prop where
  gl : Gl X x
  no : X.mg x = none
theorem callB1 {id : String} {x : Str} {r : List V → Hp → VK → Prop} {bi : BI} (n : Bn X x) (hr : CallR X (.builtin id) r) (hv : bootBuiltins x = some (.builtin id)) (hn : x ≠ "__name__") (hd : (x == ("__debug__" : Str)) = false)
    (ns : (a :: es).all NS = true) (ok : ∀ vs ds z H Q, FzL X.K H vs ds → biV bi ds = some z → flat z = true ∧ (Q (toV z) H → r vs H Q)) (h : DAr X c τ (a :: es) fs) : DP X c τ (.Call (.Name x p) (a :: es) [] pos) t fun ρ => (fs ρ).bind (biV bi) :=
  dp_call (te := fun ta => tCB r ta) (fun h => pe_callB hr n.gl n.no hv h hn hd (star_cons (Bool.and_eq_true_iff.mp ns).1) (star_any (Bool.and_eq_true_iff.mp ns).2)) (fun _ _ _ _ h => h) ok h
theorem callT1 {id : String} {x : Str} {r : List V → Hp → VK → Prop} {bi : BI} (n : Bn X x) (hr : CallR X (.type id) r) (hv : bootBuiltins x = some (.type id)) (hn : x ≠ "__name__") (hd : (x == ("__debug__" : Str)) = false)
    (ns : (a :: es).all NS = true) (ok : ∀ vs ds z H Q, FzL X.K H vs ds → biV bi ds = some z → flat z = true ∧ (Q (toV z) H → r vs H Q)) (h : DAr X c τ (a :: es) fs) : DP X c τ (.Call (.Name x p) (a :: es) [] pos) t fun ρ => (fs ρ).bind (biV bi) :=
  dp_call (te := fun ta => tCB r ta) (fun h => pe_callTy hr n.gl n.no hv h hn hd (star_cons (Bool.and_eq_true_iff.mp ns).1) (star_any (Bool.and_eq_true_iff.mp ns).2)) (fun _ _ _ _ h => h) ok h
theorem biV_len {ds : List D} {z : D} (e : biV .len ds = some z) : ∃ d, ds = [d] := by
  cases ds with
  | nil => cases e
  | cons d r => cases r with
    | nil => exact ⟨d, rfl⟩
    | cons _ _ => cases d <;> cases e
theorem dp_len (ns : (a :: es).all NS = true) (n : Bn X "len") (h : DAr X c τ (a :: es) fs) : DP X c τ (.Call (.Name "len" p) (a :: es) [] pos) t fun ρ => (fs ρ).bind (biV .len) :=
  callB1 n len_ok PySem.boot_len (by decide) (by decide) ns (fun vs ds z H Q hz e => by
    have me := mx_eq
    obtain ⟨d, rfl⟩ := biV_len e
    obtain ⟨v, rfl, h⟩ := hz.one
    cases h with
    | hole => cases e
    | flat h =>
      cases d with
      | str x =>
        have e : (if x.length ≤ mx then some (D.int x.length) else none) = some z := e
        split at e
        · cases e; exact ⟨rfl, fun q => .inl ⟨_, _, rfl, ⟨by omega, rfl⟩, q⟩⟩
        · cases e
      | non => cases e
      | bl _ => cases e
      | int _ => cases e
      | _ => cases h
    | lst h l => cases e; exact ⟨rfl, fun q => .inl ⟨_, _, rfl, .inl ⟨_, h.sq, rfl⟩, by rw [l.length]; exact q⟩⟩
    | tup h l => cases e; exact ⟨rfl, fun q => .inl ⟨_, _, rfl, .inr ⟨_, h, rfl⟩, by rw [l.length]; exact q⟩⟩
    | dct h l => cases e; exact ⟨rfl, fun q => .inr ⟨_, _, rfl, h.1, by rw [l.length]; exact q⟩⟩) h
theorem dp_int (ns : (a :: es).all NS = true) (n : Bn X "int") (h : DAr X c τ (a :: es) fs) : DP X c τ (.Call (.Name "int" p) (a :: es) [] pos) t fun ρ => (fs ρ).bind (biV .int) :=
  callT1 n (call_int1.or call_int_str) (by decide +kernel) (by decide) (by decide) ns (fun vs ds z H Q hz e => by
    unfold biV at e
    split at e <;> first | contradiction | skip
    all_goals first | (rename_i e0; cases e0; done) | skip
    · cases e
      obtain ⟨v, rfl, h⟩ := hz.one
      exact ⟨rfl, fun q => .inl (.inl ⟨_, by rw [h.int], q⟩)⟩
    · cases e
      obtain ⟨v, rfl, h⟩ := hz.one
      exact ⟨rfl, fun q => .inl (.inr ⟨_, by rw [h.bl], q⟩)⟩
    · split at e
      · obtain ⟨v, rfl, h⟩ := hz.one
        rename_i x _ hx
        cases e2 : PySem.intText? x with
        | none => rw [e2] at e; cases e
        | some j =>
          rw [e2] at e
          cases e
          exact ⟨rfl, fun q => .inr ⟨x, j, by rw [h.str], e2, hx, q⟩⟩
      · cases e) h
theorem dp_str (ns : (a :: es).all NS = true) (n : Bn X "str") (h : DAr X c τ (a :: es) fs) : DP X c τ (.Call (.Name "str" p) (a :: es) [] pos) t fun ρ => (fs ρ).bind (biV .str) :=
  callT1 n call_str_int (by decide +kernel) (by decide) (by decide) ns (fun vs ds z H Q hz e => by
    unfold biV at e
    split at e <;> first | contradiction | skip
    all_goals first | (rename_i e0; cases e0; done) | skip
    · split at e
      · cases e
        obtain ⟨v, rfl, h⟩ := hz.one
        exact ⟨rfl, fun q => ⟨_, by rw [h.int], by assumption, q⟩⟩
      · cases e) h
theorem dp_abs (ns : (a :: es).all NS = true) (n : Bn X "abs") (h : DAr X c τ (a :: es) fs) : DP X c τ (.Call (.Name "abs" p) (a :: es) [] pos) t fun ρ => (fs ρ).bind (biV .abs) :=
  callB1 n call_abs (by decide +kernel) (by decide) (by decide) ns (fun vs ds z H Q hz e => by
    unfold biV at e
    split at e <;> first | contradiction | skip
    all_goals first | (rename_i e0; cases e0; done) | skip
    · cases e
      obtain ⟨v, rfl, h⟩ := hz.one
      exact ⟨rfl, fun q => ⟨_, by rw [h.int], q⟩⟩) h
theorem dp_min2 (hc : X.calm = true) (ns : (a :: es).all NS = true) (n : Bn X "min") (h : DAr X c τ (a :: es) fs) : DP X c τ (.Call (.Name "min" p) (a :: es) [] pos) t fun ρ => (fs ρ).bind (biV .min2) :=
  callB1 n (call_min2 hc) (by decide +kernel) (by decide) (by decide) ns (fun vs ds z H Q hz e => by
    unfold biV at e
    split at e <;> first | contradiction | skip
    all_goals first | (rename_i e0; cases e0; done) | skip
    · cases e
      obtain ⟨v, w, rfl, h, h'⟩ := hz.two
      exact ⟨rfl, fun q => ⟨_, _, by rw [h.int, h'.int], q⟩⟩) h
theorem dp_max2 (hc : X.calm = true) (ns : (a :: es).all NS = true) (n : Bn X "max") (h : DAr X c τ (a :: es) fs) : DP X c τ (.Call (.Name "max" p) (a :: es) [] pos) t fun ρ => (fs ρ).bind (biV .max2) :=
  callB1 n (call_max2 hc) (by decide +kernel) (by decide) (by decide) ns (fun vs ds z H Q hz e => by
    unfold biV at e
    split at e <;> first | contradiction | skip
    all_goals first | (rename_i e0; cases e0; done) | skip
    · cases e
      obtain ⟨v, w, rfl, h, h'⟩ := hz.two
      exact ⟨rfl, fun q => ⟨_, _, by rw [h.int, h'.int], q⟩⟩) h
theorem FzL.ints {K : PySem.W.Frag} {H : Hp} : ∀ {vs : List V} {ds : List D} {ns : List Int}, FzL K H vs ds → allInts ds = some ns → vs = ns.map V.int
  | _, _, _, .nil, e => by cases e; rfl
  | _, _, _, .cons (d := d) h l, e => by
    cases d with
    | int i =>
      obtain ⟨r, e1, rfl⟩ := map1 (show (allInts _).map _ = _ from e)
      rw [h.int, l.ints e1]; rfl
    | _ => cases e
theorem FzL.bls {K : PySem.W.Frag} {H : Hp} : ∀ {vs : List V} {ds : List D} {ns : List Bool}, FzL K H vs ds → allBls ds = some ns → vs = ns.map V.bl
  | _, _, _, .nil, e => by cases e; rfl
  | _, _, _, .cons (d := d) h l, e => by
    cases d with
    | bl i =>
      obtain ⟨r, e1, rfl⟩ := map1 (show (allBls _).map _ = _ from e)
      rw [h.bl, l.bls e1]; rfl
    | _ => cases e
theorem dp_all (hc : X.calm = true) (ns : (a :: es).all NS = true) (n : Bn X "all") (h : DAr X c τ (a :: es) fs) : DP X c τ (.Call (.Name "all" p) (a :: es) [] pos) t fun ρ => (fs ρ).bind (biV .all) :=
  callB1 n (cr_all hc) (by decide +kernel) (by decide) (by decide) ns (fun vs ds z H Q hz e => by
    unfold biV at e
    split at e <;> first | contradiction | skip
    all_goals first | (rename_i e0; cases e0; done) | skip
    · obtain ⟨bs, e1, rfl⟩ := map1 e
      obtain ⟨v, rfl, h⟩ := hz.one
      cases h with
      | flat h => cases h
      | lst h l =>
        have e2 := l.bls e1
        subst e2
        exact ⟨rfl, fun q => ⟨_, _, rfl, h.sq, q⟩⟩) h
theorem dp_any (hc : X.calm = true) (ns : (a :: es).all NS = true) (n : Bn X "any") (h : DAr X c τ (a :: es) fs) : DP X c τ (.Call (.Name "any" p) (a :: es) [] pos) t fun ρ => (fs ρ).bind (biV .any) :=
  callB1 n (cr_any hc) (by decide +kernel) (by decide) (by decide) ns (fun vs ds z H Q hz e => by
    unfold biV at e
    split at e <;> first | contradiction | skip
    all_goals first | (rename_i e0; cases e0; done) | skip
    · obtain ⟨bs, e1, rfl⟩ := map1 e
      obtain ⟨v, rfl, h⟩ := hz.one
      cases h with
      | flat h => cases h
      | lst h l =>
        have e2 := l.bls e1
        subst e2
        exact ⟨rfl, fun q => ⟨_, _, rfl, h.sq, q⟩⟩) h
/-- isinstance(x, T) -/
theorem dp_isi1 {T : TyN} {x : Str} {p2 : Pos} (ns : NS a = true) (n : Bn X "isinstance") (nT : Bn X x) (hx : bootBuiltins x = some (.type T.nm)) (hn : x ≠ "__name__") (hd : (x == ("__debug__" : Str)) = false) (h : DR X c τ a fa) :
    DP X c τ (.Call (.Name "isinstance" p) [a, .Name x p2] [] pos) t fun ρ => (fa ρ).bind fun d => biV (.isi [T]) [d] := by
  obtain ⟨ta, pa, oa⟩ := h
  refine ⟨_, pe_callB call_isi n.gl n.no (by decide +kernel) (pa_cons pa (pa_cons (pe_bltn (v := .ty T.nm) nT.gl nT.no hx rfl hn hd) pa_nil) (star_cons ns)) (by decide) (by decide) (star_cons ns) (star_any rfl), fun hs G σ H ρ d Q k e q => ?_⟩
  obtain ⟨x, e1, e2⟩ := bind1 e
  have e2 : (if isHole x then none else some (D.bl ([T].any fun t => isiV t x))) = some d := e2
  split at e2
  · cases e2
  rename_i hh
  cases e2
  refine oa hs G σ H ρ x _ k e1 fun G1 H1 v k1 g1 h1 z => ?_
  refine ⟨v, .ty T.nm, .type (tyN x), .type T.nm, isiV T x, rfl, .ty _, z.ty (by simpa using hh), isi_kit x T, ?_⟩
  have q := q G1 H1 _ [] k1 g1 h1 (R.flat (d := .bl ([T].any fun t => isiV t x)) rfl)
  rw [show ([T].any fun t => isiV t x) = isiV T x from by simp] at q
  exact q

/-! ### list(x), tuple(x) -/
theorem ShL.one {K : PySem.W.Frag} {G H : Hp} {vs : List V} {d : D} (h : ShL K G H vs [d]) : ∃ v, vs = [v] ∧ Sh K G H v d := by
  cases h with
  | cons h l => cases l; exact ⟨_, rfl, h⟩
theorem do_list (ns : (a :: es).all NS = true) (n : Bn X "list") (h : DAs X c τ (a :: es) fs) : DO X c τ τ (.Call (.Name "list" p) (a :: es) [] pos) (.L .F) fun ρ => (fs ρ).bind (biV .list) := by
  obtain ⟨ta, pa, oa⟩ := h
  refine ⟨_, pe_callTy call_list_of n.gl n.no (by decide +kernel) pa (by decide) (by decide) (star_cons (Bool.and_eq_true_iff.mp ns).1) (star_any (Bool.and_eq_true_iff.mp ns).2), fun hs G σ H ρ d Q k e q => ?_⟩
  obtain ⟨ds, e1, e2⟩ := bind1 e
  refine oa hs G σ H ρ ds _ k e1 fun G1 H1 vs k1 g1 h1 z => ?_
  unfold biV at e2
  split at e2 <;> first | contradiction | skip
  all_goals first | (rename_i e0; cases e0; done) | skip
  · cases e2
    obtain ⟨v, rfl, s⟩ := z.one
    obtain ⟨b, ws, rfl, r, l⟩ := s.lst' k1.frG
    exact ⟨b, ws, rfl, .inl r.sq, fun p n => q G1 _ _ (k1.newL n l) g1 (h1.trans (same_upd n))⟩
  · cases e2
    obtain ⟨v, rfl, s⟩ := z.one
    obtain ⟨b, ws, rfl, r, l⟩ := s.tup' k1.frG
    exact ⟨b, ws, rfl, .inr r, fun p n => q G1 _ _ (k1.newL n l) g1 (h1.trans (same_upd n))⟩
theorem do_tuple (ns : (a :: es).all NS = true) (n : Bn X "tuple") (h : DAs X c τ (a :: es) fs) : DO X c τ τ (.Call (.Name "tuple" p) (a :: es) [] pos) .F fun ρ => (fs ρ).bind (biV .tuple) := by
  obtain ⟨ta, pa, oa⟩ := h
  refine ⟨_, pe_callTy call_tuple_of n.gl n.no (by decide +kernel) pa (by decide) (by decide) (star_cons (Bool.and_eq_true_iff.mp ns).1) (star_any (Bool.and_eq_true_iff.mp ns).2), fun hs G σ H ρ d Q k e q => ?_⟩
  obtain ⟨ds, e1, e2⟩ := bind1 e
  refine oa hs G σ H ρ ds _ k e1 fun G1 H1 vs k1 g1 h1 z => ?_
  unfold biV at e2
  split at e2 <;> first | contradiction | skip
  all_goals first | (rename_i e0; cases e0; done) | skip
  · cases e2
    obtain ⟨v, rfl, s⟩ := z.one
    obtain ⟨b, ws, rfl, r, l⟩ := s.lst' k1.frG
    refine ⟨b, ws, rfl, .inl ⟨r.sq, fun p n => ?_⟩⟩
    obtain ⟨G', g, k'⟩ := k1.newTF n l
    exact q G' _ _ k' (g1.trans g) (h1.trans (same_upd n))
  · cases e2
    obtain ⟨v, rfl, s⟩ := z.one
    have sf := s.tupF
    obtain ⟨b, ws, rfl, r, l⟩ := s.tup' k1.frG
    exact ⟨b, ws, rfl, .inr ⟨r, q G1 H1 _ (k1.push sf) g1 h1⟩⟩
end
end My

set_option Elab.async false
set_option linter.all false
set_option maxRecDepth 100000
set_option maxHeartbeats 1000000
/-! sum of a list or a tuple, len(set(..)), tuple.index, tuple of a list of one's own. -/
namespace My
open PySem PySem.Spec PyProof.Rows L2
/-! ### sum -/
theorem preSumI : ∀ (ns : List Int) (n : Nat), n ≤ ns.length → preSum (fun i => ns.getD i 0) n = (ns.take n).sum := by
  intro ns n h
  induction n with
  | zero => simp [preSum]
  | succ n ih =>
    show preSum (fun i => ns.getD i 0) n + ns.getD n 0 = _
    rw [ih (by omega), List.take_succ, List.sum_append]
    rw [List.getD_eq_getElem?_getD, List.getElem?_eq_getElem (by omega)]
    simp
theorem ints_get : ∀ {vs : List Value} {ns : List Int}, IntsAre vs ns → ∀ {i : Nat} {v : Value}, vs[i]? = some v → ∃ t, v = .int (ns.getD i 0) t := by
  intro vs ns h
  induction h with
  | nil => intro i v e; simp at e
  | cons n k _ ih =>
    intro i v e
    cases i with
    | zero => simp at e; exact ⟨k, by rw [← e]; rfl⟩
    | succ i => obtain ⟨t, e2⟩ := ih (i := i) (by simpa using e); exact ⟨t, by rw [e2]; simp⟩
theorem sum_tup_raw {prog : Program} {w : World} {A : Around} {E : Value → Shared → Prop} {s : Shared} {l : Addr} {its : List Value} {ns : List Int} {Q : Value → Shared → Prop} (hh : A.handled = none) (hl : s.heap.IsTuple l its.toArray) (hi : IntsAre its ns)
    (h : ∀ h' tk t', (∀ b o, s.heap.get? b = some o → h'.get? b = some o) → Q (.int ns.sum t') { s with heap := h', toks := tk }) : wpAny (model prog w) A (call (.builtin "sum") [.ref l]) Q E s := by
  obtain ⟨o, ho, _⟩ := id hl
  have hlt := Heap.lt_size ho
  refine call_sum_walkG (wpAny_pyIter_tuple hl ?_)
  have hle := hi.length
  refine ⟨s.heap.objs.size, [s.heap.objs.size, l], [s.heap.objs.size], its.toArray.size, fun i v => its.toArray[i]? = some v, fun i h => h.IsTupleIter s.heap.objs.size l i ∧ h.IsTuple l its.toArray, fun i => ns.getD i 0, rfl, Walks.tuple (A := A.in1) hh _ l (Nat.ne_of_lt hlt) its.toArray,
    ⟨⟨_, Heap.get?_push_size _ rfl, rfl, rfl⟩, hl.at fun o e => Heap.get?_push_of_some _ e⟩, fun b hb => ?_, fun i v e => ints_get hi (by simpa using e), fun h' tk t' hk => ?_⟩
  · show b < (s.heap.push _).objs.size
    rw [Heap.size_push]
    rcases List.mem_cons.mp hb with rfl | hb
    · exact Nat.lt_succ_self _
    · rw [List.mem_singleton.mp hb]; exact Nat.lt_succ_of_lt hlt
  · have e : preSum (fun i => ns.getD i 0) its.toArray.size = ns.sum := by
      rw [List.size_toArray, hle, preSumI ns _ (Nat.le_refl _), List.take_length]
    rw [e]
    exact h h' tk t' fun b o hb => hk b o (fun m => by
      rw [List.mem_singleton.mp m] at hb
      exact absurd (Heap.lt_size hb) (Nat.lt_irrefl _)) (Heap.get?_push_of_some _ hb)
def rSumA (K : PySem.W.Frag) : List V → Hp → VK → Prop := fun vs H Q => ∃ (a : Addr) (ns : List Int), vs = [V.ref a] ∧ (SqL K H a (ns.map V.int) ∨ SqT K H a (ns.map V.int)) ∧ Q (.int ns.sum) H
theorem cr_sumA {X : Cx} (hc : X.calm = true) : CallR X (.builtin "sum") (rSumA X.K) := by
  intro pins s σ H vs us Q I r h
  obtain ⟨a, ns, rfl, hs, q⟩ := h
  rcases hs with hs | hs
  · exact cr_sum hc pins s σ H _ us Q I r ⟨a, ns, rfl, hs, q⟩
  · obtain ⟨its, rv, hl, _⟩ := I.tuple hs
    rw [Vals.ref1 r]
    exact sum_tup_raw (I.ok.hd hc) hl rv.ints fun h' tk t' hk => ⟨.int _, H, I.kept hk, ⟨_, rfl⟩, q⟩

/-! ### unlike ones -/
theorem uniq_mem {y : Int} : ∀ {xs : List Int}, y ∈ uniq xs ↔ y ∈ xs
  | [] => by simp [uniq]
  | x :: xs => by
    unfold uniq
    by_cases h : x ∈ xs
    · rw [if_pos h, uniq_mem (xs := xs), List.mem_cons]
      exact ⟨.inr, fun e => e.elim (fun e => by rw [e]; exact h) id⟩
    · rw [if_neg h, List.mem_cons, List.mem_cons, uniq_mem (xs := xs)]
theorem uniq_nodup : ∀ xs : List Int, (uniq xs).Nodup
  | [] => List.nodup_nil
  | x :: xs => by
    unfold uniq
    by_cases h : x ∈ xs
    · rw [if_pos h]; exact uniq_nodup xs
    · rw [if_neg h]; exact List.nodup_cons.mpr ⟨fun m => h (uniq_mem.mp m), uniq_nodup xs⟩
theorem uniq_len {xs ys : List Int} (n : ys.Nodup) (h : ∀ y, y ∈ ys ↔ y ∈ xs) : ys.length = (uniq xs).length :=
  ((List.perm_ext_iff_of_nodup n (uniq_nodup xs)).mpr fun y => (h y).trans uniq_mem.symm).length_eq
theorem met_nodup (val : Nat → Int) : ∀ i, (firstMet val i).Nodup
  | 0 => List.nodup_nil
  | i + 1 => by
    rw [firstMet_succ]
    unfold step_dedup
    split
    · exact met_nodup val i
    · rename_i h
      refine List.nodup_append.mpr ⟨met_nodup val i, by simp, fun a m1 b m2 e => h ?_⟩
      rw [List.mem_singleton.mp m2] at e
      exact List.any_eq_true.mpr ⟨a, m1, by rw [e]; simp⟩
theorem getD_range (ns : List Int) : (List.range ns.length).map (fun i => ns.getD i 0) = ns := by
  refine List.ext_getElem? fun i => ?_
  by_cases h : i < ns.length
  · rw [List.getElem?_map, List.getElem?_range h, List.getElem?_eq_getElem h, Option.map_some, List.getD_eq_getElem?_getD, List.getElem?_eq_getElem h]; rfl
  · rw [List.getElem?_eq_none (by simpa using h), List.getElem?_eq_none (by omega)]
theorem met_len (ns : List Int) : (firstMet (fun i => ns.getD i 0) ns.length).length = (uniq ns).length :=
  uniq_len (met_nodup _ _) fun y => by
    have := firstMet_any (fun i => ns.getD i 0) ns.length y
    rw [getD_range] at this
    have e : ∀ l : List Int, y ∈ l ↔ (l.any (· == y)) = true := fun l => by simp [List.any_eq_true]
    rw [e, e, this]
def tLenSetA (K : PySem.W.Frag) (ta : TE) : TE := fun σ H Q => ta σ H fun x H1 => ∃ (l : Addr) (ns : List Int), x = .ref l ∧ (SqL K H1 l (ns.map V.int) ∨ SqT K H1 l (ns.map V.int)) ∧ ns.length ≤ 4000 ∧ Q (.int ((uniq ns).length : Nat)) H1
theorem pe_lenSetA {X : Cx} {a : Expr} {ta : TE} {p p2 q pos : Pos} (hg : Gl X "len") (hm : X.mg "len" = none) (hg2 : Gl X "set") (hm2 : X.mg "set" = none) (ha : PE X a ta) (hc : X.calm = true)
    (na : starEach [a] X.env = (false, eval a X.env) :: starEach [] X.env) : PE X (.Call (.Name "len" p) [.Call (.Name "set" p2) [a] [] q] [] pos) (tLenSetA X.K ta) := by
  refine ⟨fun pins s σ H Q I h => ?_⟩
  refine Call_ (ld_blt I hg hm boot_len ?_)
  refine PyProof.Rows.callWith_builtin1 (PyProof.Rows.args_cons ?_ rfl) rfl rfl
  refine Call_ (ld_blt I hg2 hm2 boot_set ?_)
  refine PyProof.Rows.callWith_type1 (PyProof.Rows.args_cons (thn (ha.run pins s σ H _ I h) fun v s1 ⟨x, H1, I1, r1, q1⟩ => PyProof.Rows.args_nil ?_) na) na rfl
  obtain ⟨l, ns, rfl, hq, hl, q1⟩ := q1
  cases r1
  rcases hq with hq | hq
  · obtain ⟨its, r, pl, hz⟩ := I1.list hq
    have hlen : its.toArray.size = ns.length := by rw [List.size_toArray, ← r.length, List.length_map]
    refine call_set_list (I1.ok.hd hc) pl.isList (by simpa using RZ.intsAre_vals r) (by rw [hlen]; unfold scanBound; omega) fun h' tk hS hk => ?_
    refine PyProof.Rows.args_nil ?_
    rw [hlen, met_len] at hS
    obtain ⟨o, es, ep, t, ho, hex, hd, _, _, _, hf, hn⟩ := hS
    have hu : (uniq ns).length ≤ 4000 := by
      have := met_len ns
      have h2 := firstMet_length_le (fun i => ns.getD i 0) ns.length
      omega
    have I2 : Inv X pins σ H1 { s1 with heap := h', toks := tk } := I1.kept fun b o e => hk b o (Heap.lt_size e) e
    exact call_len_set ho hex hd hf (by rw [hn] <;> omega) ⟨.int (uniq ns).length, H1, I2.tok _, ⟨_, by rw [hn]⟩, q1⟩
  · obtain ⟨its, r, pl, hz⟩ := I1.tuple hq
    refine call_set_tupI ns (I1.ok.hd hc) (show s1.heap.IsTuple l its.toArray from pl) (by simpa using RZ.intsAre_vals r) (by unfold scanBound; omega) fun h' tk c hS hle hk => ?_
    refine PyProof.Rows.args_nil ?_
    obtain ⟨o, es, ep, t, ho, hex, hd, _, hnd, hmem, hb, hf, hn, _⟩ := hS
    have hu : c = (uniq ns).length := by
      have := uniq_len (xs := ns) hnd fun k => by rw [← hmem k]; simp
      rw [List.length_map, Array.length_toList, hn] at this
      exact this
    have I2 : Inv X pins σ H1 { s1 with heap := h', toks := tk } := I1.kept hk
    exact call_len_set ho hex hd hf (by omega) ⟨.int (uniq ns).length, H1, I2.tok _, ⟨_, by rw [hn, hu]⟩, q1⟩
section
variable {X : Cx} {c : FC} {τ τ' : List Slot} {a b e : Expr} {es : List Expr} {fa fb f : EF} {fs : Env → Option (List D)} {t u : Ty} {p p2 pos q2 apos cpos : Pos}
theorem FzL.mapI {K : PySem.W.Frag} {H : Hp} {vs : List V} {ds : List D} {ns : List Int} (h : FzL K H vs ds) (e : allInts ds = some ns) : vs = ns.map V.int := h.ints e
theorem dp_sum (hc : X.calm = true) (ns : (a :: es).all NS = true) (n : Bn X "sum") (h : DAr X c τ (a :: es) fs) : DP X c τ (.Call (.Name "sum" p) (a :: es) [] pos) t fun ρ => (fs ρ).bind (biV .sum) :=
  callB1 n (cr_sumA hc) (by decide +kernel) (by decide) (by decide) ns (fun vs ds z H Q hz e => by
    cases ds with
    | nil => cases e
    | cons d r => cases r with
      | cons _ _ => cases e
      | nil =>
        have e : ((seqOf d).bind fun xs => (allInts xs).map fun ns => D.int ns.sum) = some z := e
        obtain ⟨xs, e1, e2⟩ := bind1 e
        obtain ⟨ms, e3, rfl⟩ := map1 e2
        obtain ⟨v, rfl, h⟩ := hz.one
        refine ⟨rfl, fun q => ?_⟩
        cases d with
        | lst ys =>
          cases e1
          cases h with
          | flat h => cases h
          | lst h l =>
            have ev := l.ints e3
            subst ev
            exact ⟨_, _, rfl, .inl h.sq, q⟩
        | tup ys =>
          cases e1
          cases h with
          | flat h => cases h
          | tup h l =>
            have ev := l.ints e3
            subst ev
            exact ⟨_, _, rfl, .inr h, q⟩
        | _ => cases e1) h
theorem dp_lenset (hc : X.calm = true) (na : NS a = true) (n : Bn X "len") (n2 : Bn X "set") (h : DR X c τ a fa) : DP X c τ (.Call (.Name "len" p) [.Call (.Name "set" p2) [a] [] q2] [] pos) t fun ρ => (fa ρ).bind lenSetV := by
  obtain ⟨ta, pa, oa⟩ := h
  refine ⟨_, pe_lenSetA n.gl n.no n2.gl n2.no pa hc (star_cons na), fun hs G σ H ρ d Q k e q => ?_⟩
  obtain ⟨x, e1, e2⟩ := bind1 e
  obtain ⟨xs, f2, f3⟩ := bind1 e2
  clear e2
  obtain ⟨ns, e3, e4⟩ := bind1 f3
  clear f3
  split at e4
  · cases e4
    refine oa hs G σ H ρ x _ k e1 fun G1 H1 v k1 g1 h1 z => ?_
    cases x with
    | lst ys =>
      have f2 := Option.some.inj f2
      subst f2
      cases z with
      | flat h => cases h
      | lst h l =>
        have ev := l.ints e3
        subst ev
        exact ⟨_, _, rfl, .inl h.sq, by assumption, q G1 H1 _ [] k1 g1 h1 (R.flat (d := .int _) rfl)⟩
    | tup ys =>
      have f2 := Option.some.inj f2
      subst f2
      cases z with
      | flat h => cases h
      | tup h l =>
        have ev := l.ints e3
        subst ev
        exact ⟨_, _, rfl, .inr h, by assumption, q G1 H1 _ [] k1 g1 h1 (R.flat (d := .int _) rfl)⟩
    | _ => cases f2
  · cases e4
/-- a tuple of texts of the module's own -/
def KTup (K : PySem.W.Frag) (mg : Str → Option Value) (x : Str) (ys : List Str) : Prop :=
  ∃ (p : Addr) (o : Obj) (its : Array Value) (n : Nat), mg x = some (.ref p) ∧ K.lookup p = some o ∧ o.cls = .type "tuple" ∧ o.dict = none ∧ o.data = .seq its n ∧ its.size ≤ sizeLine ∧ Vals (ys.map V.str) its.toList
theorem dp_tidx {x : Str} {ys : List Str} (hg : Gl X x) (hn : x ≠ "__name__") (hd : (x == ("__debug__" : Str)) = false) (kt : KTup X.K X.mg x ys) (hline : (apos.endLine == cpos.line) = true) (nb : NS b = true) (hb : DR X c τ b fb) :
    DP X c τ (.Call (.Attribute (.Name x p) "index" apos) [b] [] cpos) t fun ρ => (fb ρ).bind (tidxV ys) := by
  obtain ⟨tb, pb, ob⟩ := hb
  obtain ⟨ad, o, its, n, hm, hl, hc, hdn, hdt, hz, hv⟩ := kt
  have few : ((backTo cpos (starEach [b] X.env)).all (fun x => !x.1) && (backToKw cpos (keywordEach [] X.env)).all (fun x => x.1.isSome) && decide ([b].length + ([] : List Keyword).length + (if ([] : List Keyword).isEmpty then 0 else 1) < 30)) = true := by
    rw [star_cons nb]; rfl
  refine ⟨_, pe_bm PySem.F.plainAttrs_tuple PySem.F.slot_tuple_index PySem.F.type_tuple_index mt_tup_index (pe_glob (v := .ref ad) hg hm rfl hd) (pa_cons pb pa_nil (star_cons nb)) rfl few hline (star_cons nb) (star_any rfl), fun hs G σ H ρ d Q k e q => ?_⟩
  obtain ⟨y, e2, e3⟩ := bind1 e
  cases y with
  | str s =>
    have e3 : (if s ∈ ys then some (D.int (ys.idxOf s : Nat)) else none) = some d := e3
    split at e3
    · rename_i hmm
      cases e3
      refine ⟨.inr (.inl ⟨rfl, o, hl, hc, hdn⟩), ?_⟩
      refine ob hs G σ H ρ _ _ k e2 fun G2 H2 w k2 g2 h2 zw => ?_
      have ew := zw.str
      subst ew
      refine ⟨_, ys, s, ys.idxOf s, rfl, rfl, .inr ⟨o, its, n, hl, hc, hdt, hz, hv⟩, ?_, fun m hml hm2 => ?_, q G2 H2 _ [] k2 g2 h2 (R.flat (d := .int _) rfl)⟩
      · rw [List.getElem?_eq_getElem (List.idxOf_lt_length_of_mem hmm), List.getElem_idxOf]
      · obtain ⟨hlt, e6⟩ := List.getElem?_eq_some_iff.mp hm2
        have := List.not_of_lt_findIdx (p := (· == s)) (xs := ys) (show m < List.findIdx (· == s) ys from hml)
        rw [e6] at this
        simp at this
    · cases e3
  | _ => cases e3
theorem Ok.explode {hs : List Trip} {G H : Hp} {σ : L2.St} {ρ : Env} {K : PySem.W.Frag} {v : V} {ds : List D} (h : Ok K c τ ((.L t, v, .lst ds) :: hs) G σ H ρ) :
    ∃ (a : Addr) (inner : List Trip), v = .ref a ∧ H a = some (.lst (inner.map (·.2.1))) ∧ ds = inner.map (·.2.2) ∧ (∀ x ∈ inner, x.1 = t) ∧ Ok K c τ (inner ++ hs) G σ H ρ := by
  obtain ⟨fp, r, nd, z⟩ := h.own
  obtain ⟨fq, r', q⟩ := r.perm List.perm_middle
  have nd' := q.nodup_iff.mp nd
  have z' : ∀ a ∈ fq, G a = none ∧ c.B a = none := fun a m => z a (q.mem_iff.mpr m)
  clear r nd z q
  cases r' with
  | cons h0 l =>
    obtain ⟨a, xs, f, rfl, ea, it, rl, ed, rfl⟩ := h0.lstInv
    obtain ⟨fr, r3, q3⟩ := (rl.append l).perm (ys := envT τ σ ρ ++ (xs ++ hs)) (by
      rw [← List.append_assoc, ← List.append_assoc]
      exact List.perm_append_comm.append_right _)
    exact ⟨a, xs, rfl, ea, ed, it, { h with own := ⟨fr, r3, q3.nodup_iff.mp (List.nodup_cons.mp nd').2, fun b m => z' b (List.mem_cons_of_mem _ (q3.mem_iff.mpr m))⟩ }⟩
/-- tuple(x) of a list of one's own: what is in it goes over -/
theorem do_tupO (na : NS a = true) (n : Bn X "tuple") (h : DO X c τ τ' a (.L t) fa) : DO X c τ τ' (.Call (.Name "tuple" p) [a] [] pos) (.T [] t) fun ρ => (fa ρ).bind tupOf := by
  obtain ⟨ta, pa, oa⟩ := h
  refine ⟨_, pe_callTy call_tuple_of n.gl n.no (by decide +kernel) (pa_cons pa pa_nil (star_cons na)) (by decide) (by decide) (star_cons na) (star_any rfl), fun hs G σ H ρ d Q k e q => ?_⟩
  obtain ⟨x, e1, e2⟩ := bind1 e
  refine oa hs G σ H ρ x _ k e1 fun G1 H1 v k1 g1 h1 => ?_
  cases x with
  | lst ds =>
    cases e2
    obtain ⟨a0, inner, rfl, p1, p2, p3, k2⟩ := k1.explode
    subst p2
    refine ⟨a0, _, rfl, .inl ⟨SqL.of p1, fun p nn => ?_⟩⟩
    have k3 := k2.allocT (ts := []) (t := t) nn fun i x hx => p3 x (List.mem_of_getElem? hx)
    exact q _ _ _ k3 (g1.trans (same_upd (k2.free nn).1)) (h1.trans (same_upd nn))
  | _ => cases e2
end
end My

set_option Elab.async false
set_option linter.all false
set_option maxRecDepth 100000
set_option maxHeartbeats 1000000
/-! A module's own table: a written dict with texts as keys. -/
namespace My
open PySem PySem.Spec PyProof.Rows L2
inductive TabRel : List (Str × Key) → List DictEntry → Prop
  | nil : TabRel [] []
  | cons {k : Str} {v : Key} {t : Tok} {h : Int} {u : Value} {tab : List (Str × Key)} {es : List DictEntry} : RelV (kV v) u → TabRel tab es → TabRel ((k, v) :: tab) (⟨h, .str k t, u⟩ :: es)
theorem TabRel.look {z : Str} : ∀ {tab : List (Str × Key)} {es : List DictEntry}, TabRel tab es → (es.any (·.refKey) = false) ∧
    match tab.lookup z with
    | some v => ∃ e, es.find? (·.key.isStr z) = some e ∧ RelV (kV v) e.val
    | none => es.find? (·.key.isStr z) = none
  | _, _, .nil => ⟨rfl, rfl⟩
  | _, _, .cons (k := k) (v := v) (t := t) (h := h) (u := u) (tab := tab) (es := es) r l => by
    obtain ⟨h1, h2⟩ := TabRel.look (z := z) l
    refine ⟨?_, ?_⟩
    · rw [List.any_cons, h1]; rfl
    · rw [List.find?_cons, List.lookup_cons]
      have e1 : (Value.str k t).isStr z = (k == z) := rfl
      show match (match z == k with | true => some v | false => tab.lookup z) with | some v => _ | none => _
      by_cases e : k = z
      · subst e
        simp [e1]; exact r
      · have e2 : (k == z) = false := by simpa using e
        have e3 : (z == k) = false := by simpa using fun q : z = k => e q.symm
        rw [e1, e2, e3]
        exact h2
/-- the module's table x -/
def KTab (K : PySem.W.Frag) (w : World) (mg : Str → Option Value) (x : Str) (tab : List (Str × Key)) : Prop :=
  ∃ (p : Addr) (es : Array DictEntry) (n : Nat), mg x = some (.ref p) ∧ K.lookup p = some ⟨.type "dict", none, .dict es n, #[]⟩ ∧ PySem.W.KeysLit w.params es.toList ∧ (p == sysModules) = false ∧ TabRel tab es.toList
theorem nsIn_tab {K : PySem.W.Frag} {p : Addr} {es : Array DictEntry} {n : Nat} {tab : List (Str × Key)} (hl : K.lookup p = some ⟨.type "dict", none, .dict es n, #[]⟩) (r : TabRel tab es.toList) (z : Str) :
    match tab.lookup z with
    | some v => ∃ u, PySem.W.nsIn K p z = some (some u) ∧ RelV (kV v) u
    | none => PySem.W.nsIn K p z = some none := by
  obtain ⟨h1, h2⟩ := r.look (z := z)
  have e : PySem.W.nsIn K p z = (match es.toList.find? (·.key.isStr z) with
      | some e => some (some e.val)
      | none => if es.toList.any (·.refKey) then none else some none) := by
    unfold PySem.W.nsIn
    rw [hl]
    rfl
  rw [e]
  cases q : tab.lookup z with
  | some v =>
    rw [q] at h2
    obtain ⟨en, e1, e2⟩ := h2
    exact ⟨en.val, by rw [e1], e2⟩
  | none =>
    rw [q] at h2
    have h2 : es.toList.find? (·.key.isStr z) = none := h2
    show (match es.toList.find? (·.key.isStr z) with
      | some e => some (some e.val)
      | none => if es.toList.any (·.refKey) then none else some none) = some none
    rw [h2, h1]; rfl
theorem kV_D (k : Key) : toV (keyD k) = kV k := by cases k <;> rfl
theorem flat_keyD (k : Key) : flat (keyD k) = true := by cases k <;> rfl
section
variable {X : Cx} {c : FC} {τ τ' : List Slot} {b : Expr} {fb : EF} {t : Ty} {p pos : Pos} {x : Str} {tab : List (Str × Key)}
theorem dp_gidx (hg : Gl X x) (hd : (x == ("__debug__" : Str)) = false) (kt : KTab X.K X.w X.mg x tab) (hs : PlainIx b) (hb : DR X c τ b fb) : DP X c τ (.Subscript (.Name x p) b pos) t fun ρ => (fb ρ).bind (tabV tab) := by
  obtain ⟨tb, pb, ob⟩ := hb
  obtain ⟨ad, es, n, hm, hl, hk, hsm, hr⟩ := kt
  refine ⟨_, pe_ix ix_kdict (pe_glob (v := .ref ad) hg hm rfl hd) pb hs, fun hs G σ H ρ d Q k e q => ?_⟩
  obtain ⟨y, e2, e3⟩ := bind1 e
  refine ob hs G σ H ρ _ _ k e2 fun G2 H2 w k2 g2 h2 zw => ?_
  cases y with
  | str s =>
    obtain ⟨v, e4, rfl⟩ := map1 (show (tab.lookup s).map keyD = some d from e3)
    have := nsIn_tab hl hr s
    rw [e4] at this
    obtain ⟨u, e5, e6⟩ := this
    refine ⟨ad, s, kV v, rfl, zw.str, ⟨es, n, u, hl, hk, e5, e6⟩, ?_⟩
    have := q G2 H2 _ [] k2 g2 h2 (R.flat (d := keyD v) (flat_keyD v))
    rwa [kV_D] at this
  | _ => cases e3
def rGin (neg : Bool) (tab : List (Str × Key)) (ad : Addr) : R2 := fun x y H Q => ∃ z, x = .str z ∧ y = .ref ad ∧ Q (.bl (if neg then !(tab.lookup z).isSome else (tab.lookup z).isSome)) H
theorem op_gin {ad : Addr} {es : Array DictEntry} {n : Nat} (neg : Bool) (hl : X.K.lookup ad = some ⟨.type "dict", none, .dict es n, #[]⟩) (hk : PySem.W.KeysLit X.w.params es.toList) (hsm : (ad == sysModules) = false) (hr : TabRel tab es.toList) : OpR X (compareOp (if neg then .NotIn else .In)) (rGin neg tab ad) := by
  intro pins s σ H x y v u Q I rx ry h
  obtain ⟨z, rfl, rfl, q⟩ := h
  have D : KDict X.K X.w ad es n := ⟨hl, hk, hsm⟩
  have hn := nsIn_tab hl hr z
  have key : ∃ r, PySem.W.nsIn X.K ad z = some r ∧ r.isSome = (tab.lookup z).isSome := by
    cases e : tab.lookup z with
    | some v => rw [e] at hn; obtain ⟨u, h1, _⟩ := hn; exact ⟨_, h1, rfl⟩
    | none => rw [e] at hn; exact ⟨_, hn, rfl⟩
  obtain ⟨r, h1, h2⟩ := key
  cases neg with
  | false => exact op_in_kd D pins s σ H _ _ v u Q I rx ry ⟨z, r, rfl, rfl, h1, by rw [h2]; exact q⟩
  | true => exact op_notIn_kd D pins s σ H _ _ v u Q I rx ry ⟨z, r, rfl, rfl, h1, by rw [h2]; exact q⟩
theorem gin_run {tb : TE} {ad : Addr} {neg : Bool} {v : V} (ob : RdOk X c τ tb fb) {hs : List Trip} {G : Hp} {σ : L2.St} {H : Hp} {ρ : Env} {r : Bool} {Q : VK} (k : Ok X.K c τ hs G σ H ρ) (e : ((fb ρ).bind (ginV neg tab)) = some r) (q : ∀ G' H', Ok X.K c τ hs G' σ H' ρ → Same G G' → Same H H' → Q (.bl r) H') : tOp (rGin neg tab ad) tb (tC (.ref ad)) σ H Q := by
  obtain ⟨y, e2, e3⟩ := bind1 e
  refine ob hs G σ H ρ _ _ k e2 fun G2 H2 w k2 g2 h2 zw => ?_
  cases y with
  | str s =>
    have e3 : some (if neg then !(tab.lookup s).isSome else (tab.lookup s).isSome) = some r := e3
    cases e3
    exact ⟨s, zw.str, rfl, q G2 H2 k2 g2 h2⟩
  | _ => cases e3
/-- which of the two -/
def ginOp (neg : Bool) : CmpOp := if neg then .NotIn else .In
theorem dp_gin {neg : Bool} {op : CmpOp} (ho : op = ginOp neg) (hg : Gl X x) (hd : (x == ("__debug__" : Str)) = false) (kt : KTab X.K X.w X.mg x tab) (hmk : behindInMarks op (.Name x p) = false) (hb : DR X c τ b fb) : DP X c τ (.Compare b [op] [.Name x p] pos) t fun ρ => ((fb ρ).bind (ginV neg tab)).map .bl := by
  subst ho
  unfold ginOp at hmk ⊢
  obtain ⟨tb, pb, ob⟩ := hb
  obtain ⟨ad, es, n, hm, hl, hk, hsm, hr⟩ := kt
  refine ⟨_, pe_cmpR (op_gin neg hl hk hsm hr) pb (pe_glob (v := .ref ad) hg hm rfl hd) hmk, fun hs G σ H ρ d Q k e q => ?_⟩
  obtain ⟨r, e1, rfl⟩ := map1 e
  exact gin_run (v := .ref ad) ob k e1 fun G' H' k' g' h' => q G' H' _ [] k' g' h' (R.flat (d := .bl r) rfl)
theorem dt_gin {neg : Bool} {op : CmpOp} (ho : op = ginOp neg) (hg : Gl X x) (hd : (x == ("__debug__" : Str)) = false) (kt : KTab X.K X.w X.mg x tab) (hmk : behindInMarks op (.Name x p) = false) (hb : DR X c τ b fb) : DT X c τ (.Compare b [op] [.Name x p] pos) fun ρ => (fb ρ).bind (ginV neg tab) := by
  subst ho
  unfold ginOp at hmk ⊢
  obtain ⟨tb, pb, ob⟩ := hb
  obtain ⟨ad, es, n, hm, hl, hk, hsm, hr⟩ := kt
  refine ⟨_, pt_cmpR (op_gin neg hl hk hsm hr) pb (pe_glob (v := .ref ad) hg hm rfl hd) hmk, fun hs G σ H ρ r Q k e q => ?_⟩
  exact gin_run (v := .ref ad) ob k e fun G' H' k' g' h' => ⟨r, rfl, q G' H' k' g' h'⟩
end
end My

set_option Elab.async false
set_option linter.all false
set_option maxRecDepth 100000
set_option maxHeartbeats 1000000
/-! Texts: join, split. -/
namespace My
open PySem PySem.Spec PyProof.Rows L2
theorem FzL.strs {K : PySem.W.Frag} {H : Hp} : ∀ {vs : List V} {ds : List D} {ys : List Str}, FzL K H vs ds → allStrs ds = some ys → vs = ys.map V.str
  | _, _, _, .nil, e => by cases e; rfl
  | _, _, _, .cons (d := d) h l, e => by
    cases d with
    | str x =>
      obtain ⟨r, e1, rfl⟩ := map1 (show (allStrs _).map _ = _ from e)
      rw [h.str, l.strs e1]; rfl
    | _ => cases e
theorem strs_fz {K : PySem.W.Frag} {G : Hp} : ∀ ys : List Str, FzL K G (ys.map V.str) (ys.map D.str)
  | [] => .nil
  | y :: ys => .cons (.flat (d := .str y) rfl) (strs_fz ys)
section
variable {X : Cx} {c : FC} {τ τ' : List Slot} {a b : Expr} {fa fb : EF} {t : Ty} {p pos apos : Pos} {x : Str} {j : Nat}
theorem dp_join (hline : (apos.endLine == pos.line) = true) (nb : NS b = true) (hb : DR X c τ b fb) : DP X c τ (.Call (.Attribute (.Constant (.str x) j p) "join" apos) [b] [] pos) t fun ρ => (fb ρ).bind (joinV x) := by
  obtain ⟨tb, pb, ob⟩ := hb
  refine ⟨_, pe_join pe_str pb (star_cons nb) rfl hline, fun hs G σ H ρ d Q k e q => ?_⟩
  obtain ⟨y, e1, e2⟩ := bind1 e
  obtain ⟨xs, f2, f3⟩ := bind1 (show (seqOf y).bind _ = some d from e2)
  obtain ⟨ys, e3, e4⟩ := bind1 f3
  clear f3 e2
  split at e4
  · rename_i hz
    cases e4
    refine ⟨⟨_, rfl⟩, ?_⟩
    refine ob hs G σ H ρ y _ k e1 fun G1 H1 v k1 g1 h1 z => ?_
    cases y with
    | lst zs =>
      have f2 := Option.some.inj f2
      subst f2
      cases z with
      | flat h => cases h
      | lst h l =>
        have ev := l.strs e3
        subst ev
        exact ⟨x, _, ys, rfl, rfl, .inl h.sq, hz, q G1 H1 _ [] k1 g1 h1 (R.flat (d := .str _) rfl)⟩
    | tup zs =>
      have f2 := Option.some.inj f2
      subst f2
      cases z with
      | flat h => cases h
      | tup h l =>
        have ev := l.strs e3
        subst ev
        exact ⟨x, _, ys, rfl, rfl, .inr h, hz, q G1 H1 _ [] k1 g1 h1 (R.flat (d := .str _) rfl)⟩
    | _ => cases f2
  · cases e4
theorem do_splt {y : Str} {p2 : Pos} (hline : (apos.endLine == pos.line) = true) (ha : DR X c τ (.Name y p) fa) : DO X c τ τ (.Call (.Attribute (.Name y p) "split" apos) [.Constant (.str x) j p2] [] pos) (.L .F) fun ρ => (fa ρ).bind (spltV x) := by
  obtain ⟨ta, pa, oa⟩ := ha
  refine ⟨_, pe_split pa pe_str rfl rfl hline, fun hs G σ H ρ d Q k e q => ?_⟩
  obtain ⟨z, e1, e2⟩ := bind1 e
  refine oa hs G σ H ρ z _ k e1 fun G1 H1 v k1 g1 h1 zv => ?_
  cases z with
  | str s =>
    have e2 : (if (x.length == 0) = false ∧ s.length + 2 ≤ mx then some (D.lst ((Txt.split s x).map .str)) else none) = some d := e2
    split at e2
    · rename_i hc
      cases e2
      refine ⟨⟨_, zv.str⟩, s, x, zv.str, rfl, hc.1, hc.2, fun r nn => ?_⟩
      exact q G1 _ _ (k1.newL nn (strs_fz _)) g1 (h1.trans (same_upd nn))
    · cases e2
  | _ => cases e2
end
end My

set_option Elab.async false
set_option linter.all false
set_option maxRecDepth 100000
set_option maxHeartbeats 1000000
/-! The error that is handled: isinstance(e, X). -/
namespace My
open PySem PySem.Spec PyProof.Rows L2
/-- a name that is a class -/
def ClsN (X : Cx) (x : Str) (v : V) (cv : Value) : Prop := RelV v cv ∧ (∀ u, RelV v u → u = cv) ∧ (X.mg x = some cv ∨ (X.mg x = none ∧ bootBuiltins x = some cv))
/-- isinstance(e, (c1, c2, ..)) -/
def rIsET (K : PySem.W.Frag) (D a : Addr) : List V → Hp → VK → Prop := fun xs H Q => ∃ (tp : Addr) (cs : List V) (us : List Value) (b : Bool), xs = [.ref a, .ref tp] ∧ H tp = some (.tup cs) ∧ (∀ ws, Vals cs ws → ws = us) ∧ PySem.W.kitAny K (.ref D) us = some b ∧ Q (.bl b) H
theorem call_isET {X : Cx} {a D : Addr} {oe : Obj} {pn : List (Addr × Obj)} (C : ExcC X.K D) (hz : Zc (.ref D) none oe) (hf : ∃ vs, oe.data = .fields vs) : CallR (X.suite a ((a, oe) :: pn)) (.builtin "isinstance") (rIsET X.K D a) := by
  intro pins s σ H xs us Q I r h
  obtain ⟨tp, cs, ws, b, rfl, hT, hcs, e, q⟩ := h
  cases r with
  | cons rx rr =>
    cases rr with
    | cons rt rr =>
      cases rr
      cases rx
      cases rt
      obtain ⟨hget, _⟩ := I.pin (a, oe) (List.mem_append.mpr (.inl List.mem_cons_self))
      obtain ⟨vs, hv⟩ := hf
      have J : PySem.W.InstAt s.heap a oe D none := by
        obtain ⟨oc, od, oda, osl⟩ := oe
        obtain ⟨h1, h2⟩ := hz
        dsimp only at h1 h2 hv
        subst h1 h2 hv
        exact ⟨hget, rfl, rfl, trivial⟩
      obtain ⟨_, its, rv, o, h1, h2, n, h3⟩ := (show ObjOk X.prog X.w H s.heap tp (.tup cs) from I.hok tp _ hT)
      have e3 := hcs _ rv
      subst e3
      obtain ⟨oc, od, dt, sl⟩ := o
      simp only at h2 h3
      subst h2 h3
      exact PySem.W.kia_tup (PySem.W.handS_kitx_exc C.hg C.hk C.hs C.hd C.ha C.hn C.ht C.hm) I.kIn J h1 e (fun z => nomatch z) fun tk => ⟨.bl b, H, I.kept (t' := tk) fun _ _ z => z, rfl, q⟩
/-- the context holds the error that c tells of -/
def ExI (X : Cx) (c : FC) (sub : Str → Str → Option Bool) : Prop :=
  ∃ D, CallR X (.builtin "isinstance") (rIsE X.K D c.ea) ∧ CallR X (.builtin "isinstance") (rIsET X.K D c.ea) ∧ ∀ x b, sub c.ec x = some b → ∃ v cv, ClsN X x v cv ∧ PySem.W.kitOne X.K (.ref D) cv = some b
section
variable {X : Cx} {c : FC} {τ τ' : List Slot} {t : Ty} {p p2 p3 pos : Pos} {x y : Str} {i : Nat} {sub : Str → Str → Option Bool}
theorem dp_isx (E : ExI X c sub) (n : Bn X "isinstance") (hp : PE X (.Name y p2) (tVar i)) (he : τ[i]? = some .exc) (hg : Gl X x) (hn : x ≠ "__name__") (hd : (x == ("__debug__" : Str)) = false) :
    DP X c τ (.Call (.Name "isinstance" p) [.Name y p2, .Name x p3] [] pos) t fun ρ => (ρ[i]?).bind (isxV sub x) := by
  obtain ⟨D, hc, _, hs⟩ := E
  cases h : sub c.ec x with
  | none =>
    refine ⟨fun _ _ _ => False, ⟨fun pins s σ H Q I h => h.elim⟩, fun hs G σ H ρ d Q k e q => ?_⟩
    dsimp only at e
    rw [(k.exq i he).2] at e
    have e : (sub c.ec x).map My.D.bl = some d := e
    rw [h] at e; cases e
  | some b =>
    obtain ⟨v, cv, ⟨r1, r2, r3⟩, hk⟩ := hs x b h
    have pc : PE X (.Name x p3) (tC v) := by
      rcases r3 with r3 | ⟨r3, r4⟩
      · exact pe_glob hg r3 r1 hd
      · exact pe_bltn hg r3 r4 r1 hn hd
    refine ⟨_, pe_callB hc n.gl n.no (by decide +kernel) (pa_cons hp (pa_cons pc pa_nil) (star_cons rfl)) (by decide) (by decide) (star_cons rfl) (star_any rfl), fun hs G σ H ρ d Q k e q => ?_⟩
    obtain ⟨e1, e2⟩ := k.exq i he
    dsimp only at e
    rw [e2] at e
    have e : (sub c.ec x).map My.D.bl = some d := e
    rw [h] at e
    cases e
    refine ⟨_, e1, ?_⟩
    exact ⟨v, cv, b, rfl, r2, hk, q G H _ [] k (Same.refl _) (Same.refl _) (R.flat (d := .bl b) rfl)⟩
/-- names of classes, one behind another -/
inductive ClsNs (X : Cx) : List Str → List Expr → Prop
  | nil : ClsNs X [] []
  | cons {x : Str} {p : Pos} {xs : List Str} {es : List Expr} : Gl X x → x ≠ "__name__" → (x == ("__debug__" : Str)) = false → ClsNs X xs es → ClsNs X (x :: xs) (.Name x p :: es)
def tCs (vs : List V) : TA := fun _ H Q => Q vs H
theorem clsNs_pa {D : Addr} {z : Str} (hs : ∀ x b, sub z x = some b → ∃ v cv, ClsN X x v cv ∧ PySem.W.kitOne X.K (.ref D) cv = some b) : ∀ {xs : List Str} {es : List Expr} {r : Bool}, ClsNs X xs es → anySub sub z xs = some r →
    ∃ (vs : List V) (us : List Value), PA X es (tCs vs) ∧ vs.length = es.length ∧ (∀ ws, Vals vs ws → ws = us) ∧ PySem.W.kitAny X.K (.ref D) us = some r
  | _, _, _, .nil, h => by cases h; exact ⟨[], [], pa_nil, rfl, fun ws r => by cases r; rfl, rfl⟩
  | x :: xs, _, r, .cons g n d l, h => by
    obtain ⟨b, h1, h2⟩ := bind1 (show (sub z x).bind _ = some r from h)
    obtain ⟨r', h3, h4⟩ := map1 h2
    obtain ⟨v, cv, ⟨r1, r2, r3⟩, hk⟩ := hs x b h1
    obtain ⟨vs, us, pa, hl, hu, ha⟩ := clsNs_pa hs l h3
    have pc : ∀ {p : Pos}, PE X (.Name x p) (tC v) := by
      intro p
      rcases r3 with r3 | ⟨r3, r4⟩
      · exact pe_glob g r3 r1 d
      · exact pe_bltn g r3 r4 r1 n d
    refine ⟨v :: vs, cv :: us, pa_cons pc pa (star_cons rfl), by rw [List.length_cons, List.length_cons, hl], fun ws rw_ => ?_, ?_⟩
    · cases rw_ with
      | cons ra rb => rw [r2 _ ra, hu _ rb]
    · refine kitAny_cons hk (fun e => ?_) (fun e => ?_)
      · subst e; rw [ha, ← h4]; rfl
      · subst e; rw [← h4]; rfl
theorem dp_isxs {xs : List Str} {es : List Expr} {x1} (E : ExI X c sub) (n : Bn X "isinstance") (hp : PE X (.Name y p2) (tVar i)) (he : τ[i]? = some .exc) (hx : ClsNs X xs es) (hl : es.length ≤ 1000) :
    DP X c τ (.Call (.Name "isinstance" p) [.Name y p2, .Tuple es x1 p3] [] pos) t fun ρ => (ρ[i]?).bind (isxsV sub xs) := by
  obtain ⟨D, _, hc, hs⟩ := E
  cases h : anySub sub c.ec xs with
  | none =>
    refine ⟨fun _ _ _ => False, ⟨fun pins s σ H Q I h => h.elim⟩, fun hs G σ H ρ d Q k e q => ?_⟩
    dsimp only at e
    rw [(k.exq i he).2] at e
    have e : (anySub sub c.ec xs).map My.D.bl = some d := e
    rw [h] at e; cases e
  | some b =>
    obtain ⟨vs, us, pa, hvl, hu, ha⟩ := clsNs_pa hs hx h
    refine ⟨_, pe_callB hc n.gl n.no (by decide +kernel) (pa_cons hp (pa_cons (pe_tup pa) pa_nil (star_cons rfl)) (star_cons rfl)) (by decide) (by decide) (star_cons rfl) (star_any rfl), fun hs G σ H ρ d Q k e q => ?_⟩
    obtain ⟨e1, e2⟩ := k.exq i he
    dsimp only at e
    rw [e2] at e
    have e : (anySub sub c.ec xs).map My.D.bl = some d := e
    rw [h] at e
    cases e
    refine ⟨_, e1, ?_⟩
    refine ⟨by rw [hvl, sizeLine_eq]; omega, fun tp nn => ?_⟩
    exact ⟨tp, vs, us, b, rfl, upd_same, hu, ha, q G _ _ [] (k.grow (same_upd nn)) (Same.refl _) (same_upd nn) (R.flat (d := .bl b) rfl)⟩
end
end My

set_option Elab.async false
set_option linter.all false
set_option maxRecDepth 100000
set_option maxHeartbeats 1000000
/-! A tuple cut out of another one: it has no dict; its count. -/
namespace My
open PySem PySem.Spec PyProof.Rows L2
def rSlN (K : PySem.W.Frag) : V → Option Int → Option Int → Hp → VK → Prop := fun x lo hi H Q => ∃ a xs, x = .ref a ∧ SqT K H a xs ∧ HT.sIx xs.length 0 lo ≠ 0 ∧ ∀ p o, H p = none → o.dict = none → Q (.ref p) (upd H p (.frz o (.tup (cutV xs lo hi))))
theorem sl_tupN {X : Cx} : SlR X (rSlN X.K) := by
  intro pins s σ H x v vl vu lo hi sl Q I rx hs pl pu h
  obtain ⟨a, xs, rfl, hx, hw, q⟩ := h
  cases rx
  obtain ⟨its, r, ht, hz⟩ := I.tuple hx
  have hlen : its.toArray.size = xs.length := by rw [List.size_toArray]; exact r.length.symm
  refine ⟨"tuple", _, PyProof.Rows.slot_tuple_getitem.lookup, ht.typeIs, ?_⟩
  refine HT.getItem_tuple_cut ht hs pl pu (by rw [hlen]; exact fun e => hw e.1) ?_ (by rw [hlen]; exact hz)
  rw [hlen]
  refine ⟨.ref s.heap.objs.size, _, I.laid (t' := s.toks) (o := .frz _ (.tup (cutV xs lo hi))) (fun b ob q => Heap.get?_push_of_some _ q) (Nat.le_refl _) ⟨Heap.get?_push_size _ rfl, ?_⟩, rfl, q _ _ (I.hok.fresh (Nat.le_refl _)) rfl⟩
  exact ⟨Nat.le_trans (cutV_length xs lo hi) hz, _, (r.drop (HT.sIx xs.length 0 lo)).take (HT.sIx xs.length xs.length hi - HT.sIx xs.length 0 lo), IsTup.new _ _⟩
def rCntT (K : PySem.W.Frag) : V → List V → Hp → VK → Prop := fun x xs H Q => ∃ (p : Addr) (ns : List Int) (k : Int), x = .ref p ∧ xs = [.int k] ∧ SqT K H p (ns.map V.int) ∧ Q (.int (ns.count k : Nat)) H
theorem mt_tcount {X : Cx} : MtR X "tuple.count" (rCntT X.K) := by
  intro pins s σ H x xs v us Q I rx rxs h
  obtain ⟨p, ns, k, rfl, rfl, hs, q⟩ := h
  cases rx
  obtain ⟨u, rfl, ru⟩ := rxs.one
  obtain ⟨t, rfl⟩ := ru
  obtain ⟨its, rv, ⟨⟨cls, dd, data, sl⟩, ho, hc, n, hd⟩, hlen⟩ := I.tuple hs
  simp only at hc hd
  subst hc hd
  have hi := ints_of_vals rv
  refine call_meets PySem.F.slot_tuple_count ⟨_, ho, rfl⟩ PySem.F.entry_tuple_count (PySem.F.args_tuple_count_2 _ _)
    (SeqAt.tuple_countAt p its.toArray n dd sl (.int k t) (eqk k)) ⟨ho, fun y hy => (eqk_gives hi y (by simpa using hy)).at _ _, ?_⟩
  have ec : its.toArray.toList.countP (eqk k) = ns.count k := eqk_count hi
  refine ⟨.int (ns.count k : Nat), H, I.tok _, ⟨s.toks, ?_⟩, q⟩
  show Value.int ((its.toArray.toList.countP (eqk k) : Nat) : Int) s.toks = Value.int ((ns.count k : Nat) : Int) s.toks
  rw [ec]
def tBMN (r : V → List V → Hp → VK → Prop) (to : TE) (t : TA) : TE := fun σ H Q => to σ H fun x H1 => (∃ a o xs, x = .ref a ∧ H1 a = some (.frz o (.tup xs)) ∧ o.dict = none) ∧ t σ H1 fun xs H2 => r x xs H2 Q
theorem pe_bmN {X : Cx} {o e : Expr} {es : List Expr} {to : TE} {t : TA} {name : Str} {apos cpos : Pos} {id : String} {r : V → List V → Hp → VK → Prop} (pa : PlainAttrs "tuple") (slot : PySem.Slot "tuple" name id) (hty : typeOf (.builtin id) = pure (.type "method_descriptor")) (hm : MtR X id r) (ho : PE X o to) (ha : PA X (e :: es) t)
    (hbase : attributeBase o name X.env (eval o X.env) = eval o X.env := by rfl)
    (hfew : ((backTo cpos (starEach (e :: es) X.env)).all (fun x => !x.1) && (backToKw cpos (keywordEach [] X.env)).all (fun x => x.1.isSome)
      && decide ((e :: es).length + ([] : List Keyword).length + (if ([] : List Keyword).isEmpty then 0 else 1) < 30)) = true := by rfl)
    (hline : (apos.endLine == cpos.line) = true := by rfl) (hs : starEach (e :: es) X.env = (false, eval e X.env) :: starEach es X.env := by rfl) (hplain : (backTo cpos (starEach es X.env)).any (·.1) = false := by rfl) :
    PE X (.Call (.Attribute o name apos) (e :: es) [] cpos) (tBMN r to t) := by
  refine ⟨fun pins s σ H Q I h => ?_⟩
  refine wpAny_Call_method_late hbase hfew hline rfl (thn (ho.run pins s σ H _ I h) fun v s1 ⟨x, H1, I1, r1, ⟨a, ob, ys, ex, hf, hd⟩, q1⟩ => ?_)
  subst ex
  have ev : v = Value.ref a := r1
  subst ev
  obtain ⟨hget, _, _, _, o2, h1, h2, _⟩ := (show ObjOk X.prog X.w H1 s1.heap a (.frz ob (.tup ys)) from I1.hok a _ hf)
  refine ⟨"tuple", id, pa, slot, hty, ⟨o2, h1, h2⟩, fun b e => ?_, ?_⟩
  · cases e; exact ⟨ob, hget, hd⟩
  have hA := ha.run cpos pins s1 σ H1 _ I1 q1
  rw [hs] at hA ⊢
  refine Calls.callWith_builtin (by show (false || (backTo cpos (starEach es X.env)).any (·.1)) = false; rw [hplain] <;> rfl) (Calls.evalArgs_plain ?_)
  exact thn hA fun us s2 ⟨vs, H2, I2, r2, q2⟩ => hm pins s2 σ H2 _ vs _ us Q I2 r1 r2 q2
section
variable {X : Cx} {c : FC} {τ τ' : List Slot} {a b e : Expr} {fa fb : EF} {t : Ty} {p p2 pos apos cpos : Pos} {x : Str} {i : Nat}
theorem R.nInv {K : PySem.W.Frag} {G H : Hp} {v : V} {ds : List D} {fp : List Addr} (h : R K G H .N v (.tup ds) fp) : ∃ a o vs, v = .ref a ∧ G a = some (.frz o (.tup vs)) ∧ o.dict = none ∧ FzL K G vs ds := by
  cases h with
  | flat h => cases h
  | N h n l => exact ⟨_, _, _, rfl, h, n, l⟩
theorem de_varN (hp : PE X (.Name x pos) (tVar i)) (e : τ[i]? = some (.own .N)) : DP X c τ (.Name x pos) .F fun ρ => ρ[i]? := by
  refine ⟨_, hp, fun hs G σ H ρ d Q k hf q => ?_⟩
  obtain ⟨v, fp, hv, r⟩ := k.slot e hf
  refine ⟨v, hv, q G H v [] k (Same.refl _) (Same.refl _) ?_⟩
  cases r with
  | flat h => exact .flat h
  | hole => exact .hole
  | N h n l => exact .F (.tup (.inl (.inr ⟨_, h⟩)) l)
theorem Ok.pushN {K : PySem.W.Frag} {hs : List Trip} {G H : Hp} {σ : L2.St} {ρ : Env} {v : V} {d : D} (h : Ok K c τ hs G σ H ρ) (f : R K G H t v d []) : Ok K c τ ((t, v, d) :: hs) G σ H ρ := by
  obtain ⟨fp, r, nd, z⟩ := h.own
  obtain ⟨fq, r', q⟩ := (RL.cons f r).perm (ys := envT τ σ ρ ++ (t, v, d) :: hs) List.perm_middle.symm
  rw [List.nil_append] at q
  exact { h with own := ⟨fq, r', q.nodup_iff.mp nd, fun b m => z b (q.mem_iff.mpr m)⟩ }
theorem do_slcN {lo hi : Option Expr} {fl fh : Env → Option (Option D)} (ha : DS X c τ a fa) (hl : DPr X c τ lo fl) (hh : DPr X c τ hi fh) :
    DO X c τ τ (.Subscript a (.Slice lo hi none p2) pos) .N fun ρ => (fa ρ).bind fun x => (fl ρ).bind fun l => (fh ρ).bind fun h => slcNV x l h := by
  obtain ⟨ta, pa, oa⟩ := ha
  obtain ⟨tl, pl, ol⟩ := hl
  obtain ⟨th, ph, oh⟩ := hh
  refine ⟨_, pe_slice sl_tupN pa pl ph, fun hs G σ H ρ d Q k e q => ?_⟩
  obtain ⟨x, l, e1, e2, e3⟩ := bind2 e
  obtain ⟨h, e5, e4⟩ := bind1 e3
  clear e3
  unfold slcNV at e4
  split at e4
  · rename_i xs l' h' el eh
    split at e4
    · cases e4
    · rename_i hne
      cases e4
      refine oa hs G σ H ρ _ _ k e1 fun G1 H1 v k1 g1 h1 s1 => ?_
      refine ol hs G1 σ H1 ρ l l' _ k1 e2 el fun G2 H2 k2 g2 h2 => ?_
      refine oh hs G2 σ H2 ρ h h' _ k2 e5 eh fun G3 H3 k3 g3 h3 => ?_
      obtain ⟨a0, vs, rfl, sq, fz⟩ := (s1.same (g2.trans g3) (h2.trans h3)).tup' k3.frG
      have hlen := fz.length
      refine ⟨a0, vs, rfl, sq, by rw [hlen]; exact hne, fun p o nn hd => ?_⟩
      have k4 := k3.growG (o := .frz o (.tup (cutV vs l' h'))) nn
      have gp := (k3.free nn).1
      have z : FzL X.K (upd G3 p (.frz o (.tup (cutV vs l' h')))) (cutV vs l' h') (cut xs l' h') := by
        have := ((fz.drop (HT.sIx vs.length 0 l')).take (HT.sIx vs.length vs.length h' - HT.sIx vs.length 0 l'))
        unfold cutV cut
        rw [← hlen]
        exact this.same (same_upd gp)
      exact q _ _ _ (k4.pushN (.N upd_same hd z)) (((g1.trans g2).trans g3).trans (same_upd gp)) (((h1.trans h2).trans h3).trans (same_upd nn))
  · cases e4
theorem dp_cntN (hp : PE X (.Name x p) (tVar i)) (e : τ[i]? = some (.own .N)) (hline : (apos.endLine == cpos.line) = true) (nb : NS b = true) (hb : DR X c τ b fb) :
    DP X c τ (.Call (.Attribute (.Name x p) "count" apos) [b] [] cpos) t fun ρ => (ρ[i]?).bind fun x => (fb ρ).bind fun y => cntV x y := by
  obtain ⟨tb, pb, ob⟩ := hb
  have few : ((backTo cpos (starEach [b] X.env)).all (fun x => !x.1) && (backToKw cpos (keywordEach [] X.env)).all (fun x => x.1.isSome) && decide ([b].length + ([] : List Keyword).length + (if ([] : List Keyword).isEmpty then 0 else 1) < 30)) = true := by
    rw [star_cons nb]; rfl
  refine ⟨_, pe_bmN PySem.F.plainAttrs_tuple PySem.F.slot_tuple_count PySem.F.type_tuple_count mt_tcount hp (pa_cons pb pa_nil (star_cons nb)) rfl few hline (star_cons nb) (star_any rfl), fun hs G σ H ρ d Q k e q => ?_⟩
  obtain ⟨x, y, e1, e2, e3⟩ := bind2 e
  cases x with
  | tup ds =>
    cases y with
    | int j =>
      obtain ⟨ns, e4, rfl⟩ := map1 (show (allInts ds).map (fun ns => D.int (ns.count j : Nat)) = some d from e3)
      obtain ⟨v, fp, hv, r⟩ := k.slot (by assumption) e1
      obtain ⟨a0, o, vs, rfl, g, hd, l⟩ := r.nInv
      have ev := l.ints e4
      subst ev
      refine ⟨_, hv, ⟨a0, o, _, rfl, k.frG _ _ g, hd⟩, ?_⟩
      refine ob hs G σ H ρ _ _ k e2 fun G2 H2 w k2 g2 h2 zw => ?_
      have ew := zw.int
      subst ew
      exact ⟨a0, ns, j, rfl, rfl, .inl (.inr ⟨o, h2 _ _ (k.frG _ _ g)⟩), q G2 H2 _ [] k2 g2 h2 (R.flat (d := .int _) rfl)⟩
    | _ => cases e3
  | _ => cases e3
theorem do_catL (ha : DS X c τ a fa) (hb : DS X c τ b fb) : DO X c τ τ (.BinOp a .Add b pos) (.L .F) fun ρ => (fa ρ).bind fun x => (fb ρ).bind fun y => catV x y := by
  obtain ⟨ta, pa, oa⟩ := ha
  obtain ⟨tb, pb, ob⟩ := hb
  refine ⟨_, pe_op op_catL pa pb, fun hs G σ H ρ d Q k e q => ?_⟩
  obtain ⟨x, y, e1, e2, e3⟩ := bind2 e
  refine oa hs G σ H ρ x _ k e1 fun G1 H1 v k1 g1 h1 s1 => ?_
  refine ob hs G1 σ H1 ρ y _ k1 e2 fun G2 H2 w k2 g2 h2 s2 => ?_
  have me := mx_eq
  cases x with
  | lst xs =>
    cases y with
    | lst ys =>
      have e3 : (if xs.length + ys.length ≤ mx then some (D.lst (xs ++ ys)) else none) = some d := e3
      split at e3
      · cases e3
        obtain ⟨a0, vs, rfl, r1, f1⟩ := (s1.same g2 h2).lst' k2.frG
        obtain ⟨b0, ws, rfl, r2, f2⟩ := s2.lst' k2.frG
        have l1 := f1.length
        have l2 := f2.length
        exact ⟨a0, b0, vs, ws, rfl, rfl, r1, r2, by omega, fun p n => q G2 _ _ (k2.newL n (f1.append f2)) (g1.trans g2) ((h1.trans h2).trans (same_upd n))⟩
      · cases e3
    | _ => cases e3
  | _ => cases e3
theorem do_mulL (ha : DS X c τ a fa) (hb : DS X c τ b fb) : DO X c τ τ (.BinOp a .Mult b pos) (.L .F) fun ρ => (fa ρ).bind fun x => (fb ρ).bind fun y => mulV x y := by
  obtain ⟨ta, pa, oa⟩ := ha
  obtain ⟨tb, pb, ob⟩ := hb
  refine ⟨_, pe_op op_repL pa pb, fun hs G σ H ρ d Q k e q => ?_⟩
  obtain ⟨x, y, e1, e2, e3⟩ := bind2 e
  refine oa hs G σ H ρ x _ k e1 fun G1 H1 v k1 g1 h1 s1 => ?_
  refine ob hs G1 σ H1 ρ y _ k1 e2 fun G2 H2 w k2 g2 h2 s2 => ?_
  have me := mx_eq
  cases x with
  | lst xs =>
    cases y with
    | int n =>
      have e3 : (if -(2 ^ 62) ≤ n ∧ n < 2 ^ 62 ∧ xs.length * n.toNat ≤ mx then some (D.lst (reps xs n.toNat)) else none) = some d := e3
      split at e3
      · cases e3
        obtain ⟨a0, vs, rfl, r1, f1⟩ := (s1.same g2 h2).lst' k2.frG
        have l1 := f1.length
        exact ⟨a0, _, vs, rfl, s2.int, r1, by omega, by omega, by rw [l1]; omega, fun p n => q G2 _ _ (k2.newL n (reps_fz f1 _)) (g1.trans g2) ((h1.trans h2).trans (same_upd n))⟩
      · cases e3
    | _ => cases e3
  | _ => cases e3
theorem leX_iff {a b : Str} : leX a b = true ↔ a.cps.toList ≤ b.cps.toList := by
  unfold leX
  rw [PyProof.Rows.ltCps_eq, Bool.not_eq_true', decide_eq_false_iff_not]
  exact Iff.rfl
theorem leX_trans (a b d : Str) (h : leX a b = true) (h' : leX b d = true) : leX a d = true := leX_iff.mpr (List.le_trans (leX_iff.mp h) (leX_iff.mp h'))
theorem leX_total (a b : Str) : (leX a b || leX b a) = true := by
  rcases List.le_total a.cps.toList b.cps.toList with h | h
  · rw [leX_iff.mpr h]; rfl
  · rw [leX_iff.mpr h, Bool.or_true]
theorem leX_anti {a b : Str} (h : leX a b = true) (h' : leX b a = true) : a = b := TL.ext_tl (List.le_antisymm (leX_iff.mp h) (leX_iff.mp h'))
theorem rising_pair : ∀ (l : List Str) (p : Str), PyProof.Rows.risingS p l = true → (∀ y ∈ l, leX p y = true) ∧ l.Pairwise (fun a b => leX a b = true)
  | [], _, _ => ⟨fun _ m => (nomatch m), .nil⟩
  | x :: r, p, h => by
    obtain ⟨h1, h2⟩ := Bool.and_eq_true_iff.mp (show (!PySem.Spec.ltCps x.cps.toList p.cps.toList && PyProof.Rows.risingS x r) = true from h)
    have h1 : leX p x = true := h1
    obtain ⟨i1, i2⟩ := rising_pair r x h2
    refine ⟨fun y m => ?_, .cons (fun y m => i1 y m) i2⟩
    rcases List.mem_cons.mp m with rfl | m
    · exact h1
    · exact leX_trans _ _ _ h1 (i1 y m)
theorem sorted_pair {ys : List Str} (h : PyProof.Rows.sortedS ys = true) : ys.Pairwise (fun a b => leX a b = true) := by
  cases ys with
  | nil => exact .nil
  | cons x r =>
    obtain ⟨h1, h2⟩ := rising_pair r x h
    exact .cons h1 h2
theorem srt_uniq {xs ys : List Str} (p : ys.Perm xs) (h : PyProof.Rows.sortedS ys = true) : ys = srtS xs :=
  List.Perm.eq_of_pairwise (le := fun a b => leX a b = true) (fun _ _ _ _ h h' => leX_anti h h') (sorted_pair h) (List.pairwise_mergeSort leX_trans leX_total xs) (p.trans (List.mergeSort_perm xs leX).symm)
theorem keys_fz {K : PySem.W.Frag} {G : Hp} : ∀ ks : List Key, FzL K G (ks.map kV) (ks.map keyD)
  | [] => .nil
  | .inl i :: ks => .cons (.flat (d := .int i) rfl) (keys_fz ks)
  | .inr x :: ks => .cons (.flat (d := .str x) rfl) (keys_fz ks)
theorem do_keysL (hc : X.calm = true) (ns : NS a = true) (n : Bn X "list") (h : DR X c τ a fa) : DO X c τ τ (.Call (.Name "list" p) [a] [] pos) (.L .F) fun ρ => (fa ρ).bind keysV := by
  obtain ⟨ta, pa, oa⟩ := h
  refine ⟨_, pe_callTy (call_listD hc) n.gl n.no (by decide +kernel) (pa_cons pa pa_nil (star_cons ns)) (by decide) (by decide) (star_cons ns) (star_any rfl), fun hs G σ H ρ d Q k e q => ?_⟩
  obtain ⟨x, e1, e2⟩ := bind1 e
  refine oa hs G σ H ρ x _ k e1 fun G1 H1 v k1 g1 h1 z => ?_
  cases x with
  | dct kds =>
    cases e2
    cases z with
    | flat h => cases h
    | @dct a0 kws _ h l =>
      refine ⟨a0, kws, rfl, h.1, fun p nn => ?_⟩
      have f : FzL X.K G1 (kws.map fun kv => kV kv.1) (kds.map fun p => keyD p.1) := by
        have e1 : (kws.map fun kv => kV kv.1) = (kws.map (·.1)).map kV := by rw [List.map_map]; rfl
        have e2 : (kds.map fun p => keyD p.1) = (kds.map (·.1)).map keyD := by rw [List.map_map]; rfl
        rw [e1, e2, l.keys]
        exact keys_fz _
      exact q G1 _ _ (k1.newL nn f) g1 (h1.trans (same_upd nn))
  | _ => cases e2
theorem do_srt (ns : NS a = true) (n : Bn X "sorted") (h : DR X c τ a fa) : DO X c τ τ (.Call (.Name "sorted" p) [a] [] pos) (.L .F) fun ρ => (fa ρ).bind srtV := by
  obtain ⟨ta, pa, oa⟩ := h
  refine ⟨_, pe_callB cr_sortedS n.gl n.no (by decide +kernel) (pa_cons pa pa_nil (star_cons ns)) (by decide) (by decide) (star_cons ns) (star_any rfl), fun hs G σ H ρ d Q k e q => ?_⟩
  obtain ⟨x, e1, e2⟩ := bind1 e
  refine oa hs G σ H ρ x _ k e1 fun G1 H1 v k1 g1 h1 z => ?_
  cases x with
  | lst ds =>
    obtain ⟨xs, e3, e4⟩ := bind1 (show (allStrs ds).bind (fun xs => if xs.length < 64 then some (D.lst ((srtS xs).map .str)) else none) = some d from e2)
    split at e4
    · rename_i hl
      cases e4
      cases z with
      | flat h => cases h
      | lst h l =>
        have ev := l.strs e3
        subst ev
        refine ⟨_, xs, rfl, h.sq, hl, fun ys p perm so nn => ?_⟩
        have ey := srt_uniq perm so
        subst ey
        exact q G1 _ _ (k1.newL nn (strs_fz _)) g1 (h1.trans (same_upd nn))
    · cases e4
  | _ => cases e2
end
end My

set_option Elab.async false
set_option linter.all false
set_option maxRecDepth 100000
/-! l.index(x), d.get(k, x). -/
namespace My
open PySem PySem.Spec PyProof.Rows L2
section
variable {X : Cx} {c : FC} {τ τ' : List Slot} {a b e e3 : Expr} {fa fb fc f : EF} {t u : Ty} {p pos apos cpos : Pos}
theorem find_first {α : Type} {q : α → Bool} : ∀ {xs : List α} {j : Nat}, xs.findIdx? q = some j → ∃ x, xs[j]? = some x ∧ q x = true ∧ ∀ m y, m < j → xs[m]? = some y → q y = false
  | [], j, h => by cases h
  | x :: xs, j, h => by
    rw [List.findIdx?_cons] at h
    split at h
    · rename_i hx
      cases h
      exact ⟨x, rfl, hx, fun m y hm _ => absurd hm (Nat.not_lt_zero _)⟩
    · rename_i hx
      obtain ⟨k, e, rfl⟩ := map1 h
      obtain ⟨y, h1, h2, h3⟩ := find_first e
      refine ⟨y, by simpa using h1, h2, fun m z hm hz => ?_⟩
      cases m with
      | zero => simp at hz; subst hz; simpa using hx
      | succ m => exact h3 m z (by omega) (by simpa using hz)
theorem dp_ixL (hline : (apos.endLine == cpos.line) = true) (hbase : attributeBase a "index" X.env (eval a X.env) = eval a X.env) (nb : NS b = true) (ha : DR X c τ a fa) (hb : DR X c τ b fb) :
    DP X c τ (.Call (.Attribute a "index" apos) [b] [] cpos) t fun ρ => (fa ρ).bind fun x => (fb ρ).bind fun y => ixlV x y := by
  obtain ⟨ta, pa, oa⟩ := ha
  obtain ⟨tb, pb, ob⟩ := hb
  have few : ((backTo cpos (starEach [b] X.env)).all (fun x => !x.1) && (backToKw cpos (keywordEach [] X.env)).all (fun x => x.1.isSome) && decide ([b].length + ([] : List Keyword).length + (if ([] : List Keyword).isEmpty then 0 else 1) < 30)) = true := by
    rw [star_cons nb]; rfl
  refine ⟨_, pe_bm PySem.F.plainAttrs_list PySem.F.slot_list_index PySem.F.type_list_index mt_index pa (pa_cons pb pa_nil (star_cons nb)) hbase few hline (star_cons nb) (star_any rfl), fun hs G σ H ρ d Q k e q => ?_⟩
  obtain ⟨x, y, e1, e2, e3⟩ := bind2 e
  unfold ixlV at e3
  split at e3
  · rename_i ds s
    obtain ⟨xs, e4, e5⟩ := bind1 e3
    obtain ⟨j, e6, rfl⟩ := map1 e5
    obtain ⟨z, z1, z2, z3⟩ := find_first e6
    refine oa hs G σ H ρ _ _ k e1 fun G1 H1 v k1 g1 h1 s1 => ?_
    cases s1 with
    | flat h => cases h
    | @lst a0 vs _ h l =>
      have ev := l.strs e4
      subst ev
      refine ⟨.inl ⟨rfl, _, h.sq⟩, ob hs G1 σ H1 ρ _ _ k1 e2 fun G2 H2 w k2 g2 h2 zw => ?_⟩
      have ew := zw.str
      subst ew
      refine ⟨a0, xs.map V.str, .str s, j, .str z, rfl, rfl, (sqK_same h2 h).sq, rfl, ?_, by rw [List.getElem?_map, z1]; rfl, z2, fun m z' hm hz => ?_, q G2 H2 _ [] k2 (g1.trans g2) (h1.trans h2) (R.flat (d := .int _) rfl)⟩
      · rw [List.all_eq_true]
        intro v m
        obtain ⟨s', _, rfl⟩ := List.mem_map.mp m
        rfl
      · rw [List.getElem?_map] at hz
        obtain ⟨y, hy, rfl⟩ := map1 hz
        exact z3 m y hm hy
  · cases e3
theorem keyOf_V {d : D} {k : Key} (h : keyOf d = some k) : flat d = true ∧ toV d = kV k := by
  cases d <;> first | (cases h; exact ⟨rfl, rfl⟩) | cases h
theorem getK_fz {K : PySem.W.Frag} {G : Hp} {k : Key} : ∀ {kws : List (Key × V)} {kds : List (Key × D)}, FzK K G kws kds → ∀ {v : V} {d : D}, Fz K G v d → Fz K G ((getK k kws).getD v) ((getK k kds).getD d)
  | _, _, .nil, v, d, z => z
  | _, _, .cons (k := k') h l, v, d, z => by
    unfold getK
    by_cases e : k' = k
    · rw [if_pos e, if_pos e]; exact h
    · rw [if_neg e, if_neg e]; exact getK_fz l z
theorem dp_getD (hu : X.A.units + 1 < cLine) (hline : (apos.endLine == cpos.line) = true) (hbase : attributeBase a "get" X.env (eval a X.env) = eval a X.env) (nb : NS b = true) (ne : NS e3 = true) (ha : DS X c τ a fa) (hb : DR X c τ b fb) (hc : DP X c τ e3 .F fc) :
    DP X c τ (.Call (.Attribute a "get" apos) [b, e3] [] cpos) .F fun ρ => (fa ρ).bind fun x => (fb ρ).bind fun y => (fc ρ).bind fun z => getV x y z := by
  obtain ⟨ta, pa, oa⟩ := ha
  obtain ⟨tb, pb, ob⟩ := hb
  obtain ⟨tc, pc, oc⟩ := hc
  have st : starEach [b, e3] X.env = [(false, eval b X.env), (false, eval e3 X.env)] := by rw [star_cons nb, star_cons ne]; rfl
  have m : M2 X a "get" apos b e3 cpos := ⟨hbase, by rw [st]; rfl, hline, by rw [st]; rfl⟩
  refine ⟨_, pe_dget2 hu pa pb pc m, fun hs G σ H ρ d Q k e q => ?_⟩
  obtain ⟨x, e1, e2⟩ := bind1 e
  obtain ⟨y, e4, e5⟩ := bind1 e2
  obtain ⟨z, e6, e7⟩ := bind1 e5
  unfold getV at e7
  split at e7
  · rename_i kds
    obtain ⟨kk, e8, rfl⟩ := map1 e7
    obtain ⟨fy, ty⟩ := keyOf_V e8
    refine oa hs G σ H ρ _ _ k e1 fun G1 H1 v k1 g1 h1 s1 => ?_
    obtain ⟨a0, kws, rfl, rd, fk⟩ := s1.dct' k1.frG
    refine ⟨a0, rfl, .inl ⟨kws, rd.1⟩, ob hs G1 σ H1 ρ _ _ k1 e4 fun G2 H2 w k2 g2 h2 zw => ?_⟩
    have ew := zw.flat_eq fy
    subst ew
    refine oc hs G2 σ H2 ρ _ _ k2 e6 fun G3 H3 u fp k3 g3 h3 r3 => ?_
    refine ⟨getK kk kws, .inl ⟨kws, kk, (dcR_same (h2.trans h3) rd).1, ty, (valV_getK _ _).symm⟩, ?_⟩
    exact q G3 H3 _ [] k3 ((g1.trans g2).trans g3) ((h1.trans h2).trans h3) (.F (getK_fz (fk.same (g2.trans g3)) r3.toF))
  · cases e7
end
end My

set_option Elab.async false
set_option linter.all false
set_option maxRecDepth 100000
/-! Defs: the promise, the call. -/
namespace My
open PySem PySem.Spec PyProof.Rows L2

/-- how a parameter is handed: frozen (none), or only read (its type) -/
inductive ParL (K : PySem.W.Frag) (G H : Hp) : List (Option Ty) → List V → List D → Prop
  | nil : ParL K G H [] [] []
  | fz {v : V} {d : D} {ps : List (Option Ty)} {vs : List V} {ds : List D} : Fz K G v d → ParL K G H ps vs ds → ParL K G H (none :: ps) (v :: vs) (d :: ds)
  | bo {t : Ty} {v : V} {d : D} {fp : List Addr} {ps : List (Option Ty)} {vs : List V} {ds : List D} : R K G H t v d fp → ParL K G H ps vs ds → ParL K G H (some t :: ps) (v :: vs) (d :: ds)
theorem ParL.same {K : PySem.W.Frag} {G G' H H' : Hp} (e : Same G G') (e' : Same H H') : ∀ {ps : List (Option Ty)} {vs : List V} {ds : List D}, ParL K G H ps vs ds → ParL K G' H' ps vs ds
  | _, _, _, .nil => .nil
  | _, _, _, .fz h l => .fz (h.same e) (ParL.same e e' l)
  | _, _, _, .bo h l => .bo (h.same e e') (ParL.same e e' l)
theorem ParL.length {K : PySem.W.Frag} {G H : Hp} : ∀ {ps : List (Option Ty)} {vs : List V} {ds : List D}, ParL K G H ps vs ds → vs.length = ps.length ∧ ds.length = ps.length
  | _, _, _, .nil => ⟨rfl, rfl⟩
  | _, _, _, .fz h l => ⟨congrArg (· + 1) (ParL.length l).1, congrArg (· + 1) (ParL.length l).2⟩
  | _, _, _, .bo h l => ⟨congrArg (· + 1) (ParL.length l).1, congrArg (· + 1) (ParL.length l).2⟩
/-- an error of the text's own, as it lies -/
def ExcR (K : PySem.W.Frag) (mg : Str → Option Value) (e : Exc) (cls : Value) (d : Option Addr) (H : Hp) : Prop :=
  mg e.cls = some cls ∧ ((e.fld = [] ∧ d = none) ∨ (e.fld ≠ [] ∧ ∃ dx fs, d = some dx ∧ H dx = some (.xd fs) ∧ ∀ p ∈ e.fld, flat p.2 = true ∧ fs.lookup p.1 = some (toV p.2)))
/-- what comes back of a call that began at H with G frozen -/
structure Back (K : PySem.W.Frag) (G H G' H' : Hp) : Prop where
  g : Same G G'
  h : Same H H'
  gh : Same G' H'
  gn : ∀ a, G' a ≠ none → G a ≠ none ∨ H a = none
/-- the promise: what the mirror tells -/
def spD (K : PySem.W.Frag) (mg : Str → Option Value) (ps : List (Option Ty)) (t : Ty) (m : List D → RF) : Sp := fun vs H Q E => ∃ G ds, Same G H ∧ ParL K G H ps vs ds ∧
  match m ds with
  | .ret d => ∀ G' H' v fp, Back K G H G' H' → R K G' H' t v d fp → fp.Nodup → (∀ a ∈ fp, G' a = none ∧ H a = none) → Q v H'
  | .exc e => ∀ G' H' cls d, Back K G H G' H' → ExcR K mg e cls d H' → E cls d H'
  | .no => False

/-- a def of the text that keeps its promise -/
structure Callee (P : Program) (w : World) (K : PySem.W.Frag) (mg : Str → Option Value) (base : Heap) (k : Nat) (x : Str) (ps : List (Option Ty)) (t : Ty) (m : List D → RF) : Prop where
  ex : ∃ (CX : CXT) (f : Addr) (fd : FuncData) (psN : List Str), FnOk P w K mg base CX k f fd psN (spD K mg ps t m) ∧ mg x = some (.ref f) ∧ PySem.W.keepIn K (.ref f) = true ∧ Binds K fd psN [] ∧ CX = L2.CX P w

section
variable {X : Cx} {c : FC} {τ τ' τ'' : List Slot} {a b e : Expr} {es : List Expr} {fa fb f : EF} {fs : Env → Option (List D)} {t u : Ty} {p pos : Pos} {ps : List (Option Ty)}
theorem Ok.called {K : PySem.W.Frag} {hs : List Trip} {G G' H H' : Hp} {σ : L2.St} {ρ : Env} {v : V} {d : D} {fp : List Addr} (k : Ok K c τ hs G σ H ρ) (b : Back K G H G' H') (r : R K G' H' t v d fp) (nd : fp.Nodup) (z : ∀ a ∈ fp, G' a = none ∧ H a = none) :
    Ok K c τ ((t, v, d) :: hs) G' σ H' ρ := by
  obtain ⟨fq, rq, nq, zq⟩ := k.own
  have rq' := rq.same b.g b.h
  obtain ⟨fr, r3, q3⟩ := (RL.cons r rq').perm (ys := envT τ σ ρ ++ (t, v, d) :: hs) List.perm_middle.symm
  have nd2 : (fp ++ fq).Nodup := List.nodup_append.mpr ⟨nd, nq, fun a m1 b' m2 e => by subst e; exact rq.dom a m2 (z a m1).2⟩
  refine { k with bor := fun i t e => ?_, own := ⟨fr, r3, q3.nodup_iff.mp nd2, fun a m => ?_⟩, frG := b.gh, base := k.base.trans b.h, g0 := k.g0.trans b.g, gn := fun a na => ?_ }
  · obtain ⟨v, d, fp, e1, e2, rr⟩ := k.bor i t e
    exact ⟨v, d, fp, e1, e2, rr.mono b.g fun _ _ => rfl⟩
  · rcases List.mem_append.mp (q3.mem_iff.mpr m) with m | m
    · exact ⟨(z a m).1, k.base.free (z a m).2⟩
    · refine ⟨?_, (zq a m).2⟩
      cases q : G' a with
      | none => rfl
      | some o =>
        rcases b.gn a (by rw [q]; exact Option.some_ne_none _) with h | h
        · exact absurd (zq a m).1 h
        · exact absurd h (rq.dom a m)
  · rcases b.gn a na with h | h
    · exact k.gn a h
    · exact .inr (k.base.free h)
/-- arguments -/
def AmOk (X : Cx) (c : FC) (τ τ' : List Slot) (ps : List (Option Ty)) (ta : TA) (f : Env → Option (List D)) : Prop :=
  ∀ hs G σ H ρ ds (Q : List V → Hp → Prop), Ok X.K c τ hs G σ H ρ → f ρ = some ds → (∀ G' H' vs, Ok X.K c τ' hs G' σ H' ρ → Same G G' → Same H H' → ParL X.K G' H' ps vs ds → Q vs H') → ta σ H Q
def DM (X : Cx) (c : FC) (τ τ' : List Slot) (es : List Expr) (ps : List (Option Ty)) (f : Env → Option (List D)) : Prop := ∃ ta, PA X es ta ∧ AmOk X c τ τ' ps ta f
theorem dm_nil : DM X c τ τ [] [] fun _ => some [] := ⟨_, pa_nil, fun hs G σ H ρ ds Q k e q => by cases e; exact q G H [] k (Same.refl _) (Same.refl _) .nil⟩
theorem dm_fz (ns : NS e = true) (ha : DO X c τ τ' e .F fa) (hb : DM X c τ' τ'' es ps fs) : DM X c τ τ'' (e :: es) (none :: ps) fun ρ => (fa ρ).bind fun x => (fs ρ).map fun xs => x :: xs := by
  obtain ⟨ta, pa, oa⟩ := ha
  obtain ⟨tb, pb, ob⟩ := hb
  refine ⟨_, pa_cons pa pb (star_cons ns), fun hs G σ H ρ ds Q k e q => ?_⟩
  obtain ⟨x, e1, e2⟩ := bind1 e
  obtain ⟨xs, e3, rfl⟩ := map1 e2
  refine oa hs G σ H ρ x _ k e1 fun G1 H1 v k1 g1 h1 => ?_
  obtain ⟨fp, r⟩ := k1.top
  refine ob hs G1 σ H1 ρ xs _ k1.drop e3 fun G2 H2 vs k2 g2 h2 z2 => ?_
  exact q G2 H2 (v :: vs) k2 (g1.trans g2) (h1.trans h2) (.fz (r.toF.same g2) z2)
theorem dm_bo (ns : NS e = true) (ha : DP X c τ e t fa) (hb : DM X c τ τ' es ps fs) : DM X c τ τ' (e :: es) (some t :: ps) fun ρ => (fa ρ).bind fun x => (fs ρ).map fun xs => x :: xs := by
  obtain ⟨ta, pa, oa⟩ := ha
  obtain ⟨tb, pb, ob⟩ := hb
  refine ⟨_, pa_cons pa pb (star_cons ns), fun hs G σ H ρ ds Q k e q => ?_⟩
  obtain ⟨x, e1, e2⟩ := bind1 e
  obtain ⟨xs, e3, rfl⟩ := map1 e2
  refine oa hs G σ H ρ x _ k e1 fun G1 H1 v fp k1 g1 h1 r => ?_
  refine ob hs G1 σ H1 ρ xs _ k1 e3 fun G2 H2 vs k2 g2 h2 z2 => ?_
  exact q G2 H2 (v :: vs) k2 (g1.trans g2) (h1.trans h2) (.bo (r.same g2 h2) z2)
theorem passes_E0 {CX : CXT} (h : CX = CX0 ∨ CX = L2.CX X.prog X.w) : Passes CX X E0 := by
  rcases h with rfl | rfl
  · exact pass0
  · exact passL
theorem do_call {k : Nat} {x : Str} {m : List D → RF} (C : Callee X.prog X.w X.K X.mg X.base k x ps t m) (hr : Room k X.A) (hg : Gl X x) (hd : (x == ("__debug__" : Str)) = false) (ns : (a :: es).all NS = true) (h : DM X c τ τ' (a :: es) ps fs) :
    DO X c τ τ' (.Call (.Name x p) (a :: es) [] pos) t fun ρ => (fs ρ).bind fun ds => retOf (m ds) := by
  obtain ⟨CX, ff, fd, psN, F, hm, hk, hb, hc⟩ := C.ex
  obtain ⟨ta, pa, oa⟩ := h
  refine ⟨_, pe_call F hr hg hm hk hb .nil (passes_E0 (.inr hc)) pa hd (star_cons (Bool.and_eq_true_iff.mp ns).1) (star_any (Bool.and_eq_true_iff.mp ns).2), fun hs G σ H ρ d Q k e q => ?_⟩
  obtain ⟨ds, e1, e2⟩ := bind1 e
  refine oa hs G σ H ρ ds _ k e1 fun G1 H1 vs k1 g1 h1 z => ?_
  rw [List.append_nil]
  refine ⟨G1, ds, k1.frG, z, ?_⟩
  cases em : m ds with
  | ret d' =>
    rw [em] at e2
    cases e2
    intro G' H' v fp b r nd zz
    exact q G' H' v (k1.called b r nd zz) (g1.trans b.g) (h1.trans b.h)
  | exc _ => rw [em] at e2; cases e2
  | no => rw [em] at e2; cases e2
theorem do_call0 {k : Nat} {x : Str} {m : List D → RF} (C : Callee X.prog X.w X.K X.mg X.base k x [] t m) (hr : Room k X.A) (hg : Gl X x) (hd : (x == ("__debug__" : Str)) = false) : DO X c τ τ (.Call (.Name x p) [] [] pos) t fun _ => retOf (m []) := by
  obtain ⟨CX, ff, fd, psN, F, hm, hk, hb, hc⟩ := C.ex
  refine ⟨_, pe_call0 F hr hg hm hk hb .nil (passes_E0 (.inr hc)) hd, fun hs G σ H ρ d Q k e q => ?_⟩
  refine ⟨G, [], k.frG, .nil, ?_⟩
  cases em : m [] with
  | ret d' =>
    rw [em] at e
    cases e
    intro G' H' v fp b r nd zz
    exact q G' H' v (k.called b r nd zz) b.g b.h
  | exc _ => rw [em] at e; cases e
  | no => rw [em] at e; cases e
end
end My

set_option Elab.async false
set_option linter.all false
set_option maxRecDepth 100000
set_option maxHeartbeats 1000000
/-! a, b = a list or a tuple of two. -/
namespace PySem
section
variable {prog : Program} {w : World} {A : Around} {E : Value → Shared → Prop} {s : Shared}
theorem my_draw_list {it t : Addr} {items : Array Value} (hne : t ≠ it) : ∀ (n i : Nat) (s : Shared) (Q : List Value → Shared → Prop), s.heap.IsListIter it t i → s.heap.IsList t items → i + n ≤ items.size →
    (∀ h', h'.IsListIter it t (i + n) → Heap.SameBut it s.heap h' → Q ((items.toList.drop i).take n) { s with heap := h' }) → wpAny (model prog w) A (draw (.ref it) n) Q E s
  | 0, i, s, Q, hit, _, _, hQ => by
    show wpAny _ _ (pure []) Q E s
    exact wpAny_pure (by simpa using hQ s.heap hit (Heap.SameBut.refl ..))
  | n + 1, i, s, Q, hit, ht, hle, hQ => by
    have hlt : i < items.size := by omega
    show wpAny _ _ (pyNext (.ref it) >>= _) Q E s
    refine wpAny_bind (wpAny_pyNext_list_item hit ht (x := items[i]) (by simp [hlt]) fun h₁ hit₁ hs₁ => ?_)
    refine wpAny_bind (wpAny_holding (my_draw_list hne n (i + 1) _ _ hit₁ (ht.extBut hs₁.extBut hne) (by omega) fun h₂ hit₂ hs₂ => wpAny_pure ?_))
    have hd : items.toList.drop i = items[i] :: items.toList.drop (i + 1) := by simp [List.drop_eq_getElem_cons, hlt]
    have := hQ h₂ (by rw [show i + (n + 1) = i + 1 + n by omega]; exact hit₂) (hs₁.trans hs₂)
    rw [hd, List.take_succ_cons] at this
    exact this
theorem my_unpackItems_list {t : Addr} {items : Array Value} {Q : List Value → Shared → Prop} (hh : A.handled = none) (ht : s.heap.IsList t items)
    (hQ : ∀ h', Heap.ExtBut s.heap.objs.size s.heap h' → Q items.toList { s with heap := h' }) : wpAny (model prog w) A (unpackItems (.ref t) items.size none) Q E s := by
  have hlt : t ≠ s.heap.objs.size := by obtain ⟨o, ho, _⟩ := ht; exact Nat.ne_of_lt (Heap.lt_size ho)
  unfold unpackItems
  refine wpAny_bind ?_
  · unfold notIterableAtAll
    refine wpAny_bind (wpAny_specialOf ht.typeIs F.slot_list_iter.lookup ?_)
    refine wpAny_pure ?_
    simp only [Bool.false_eq_true, if_false]
    refine wpAny_bind (wpAny_holding (wpAny_pyIter_list ht ?_))
    refine wpAny_bind (wpAny_holding (my_draw_list hlt items.size 0 _ _ ⟨_, Heap.get?_push_size _ rfl, rfl, rfl⟩ (ht.push _) (by omega) fun h₁ hit₁ hs₁ => ?_))
    have hall : List.take items.size (List.drop 0 items.toList) = items.toList := by
      rw [List.drop_zero]; exact List.take_of_length_le (by simp)
    rw [hall]
    rw [if_neg (by simp)]
    have ht₁ : h₁.IsList t items := (ht.push _).extBut hs₁.extBut hlt
    refine wpAny_bind (wpAny_holding (wpAny_pyNext_list_end hh hit₁ ht₁ (by simp) fun h₂ he₂ => ?_))
    simp only [Option.isSome_none, Bool.false_eq_true, if_false]
    refine wpAny_pure (hQ h₂ fun b o hb e => he₂ b o hb (hs₁.extBut b o hb (Heap.get?_push_of_some _ e)))
theorem my_assign_Tuple_list {env : Env} {elts : List Expr} {x1} {pos : Pos} {t : Addr} {items : Array Value} {Q : Unit → Shared → Prop} (hh : A.handled = none) (ht : s.heap.IsList t items)
    (hn : (assignEach elts env).length = items.size) (hstar : (assignEach elts env).findIdx? (·.1) = none)
    (h : ∀ h', Heap.ExtBut s.heap.objs.size s.heap h' → wpAny (model prog w) A (assignInOrder ((assignEach elts env).map (·.2)) items.toList) Q E { s with heap := h' }) :
    wpAny (model prog w) A (assign (.Tuple elts x1 pos) env (.ref t)) Q E s := by
  rw [arm_assign_Tuple]
  refine wpAny_bind (wpAny_standAt ?_)
  unfold unpack
  rw [hn, hstar]
  exact wpAny_bind (wpAny_holding (my_unpackItems_list hh ht h))
end
end PySem
namespace My
open PySem PySem.Spec PyProof.Rows L2
def gTupA (K : PySem.W.Frag) (n : Nat) (t : TGs) : TG := fun v σ H Q => ∃ a xs, v = .ref a ∧ (SqT K H a xs ∨ SqL K H a xs) ∧ xs.length = n ∧ t xs σ H Q
theorem pg_tupA {X : Cx} {pos : Pos} {es : List Expr} {k : Nat} {t : TGs} {n : Nat} (hc : X.calm = true) (h : PGs X es t)
    (hn : (assignEach es X.env).length = n) (hst : (assignEach es X.env).findIdx? (·.1) = none) : PG X (.Tuple es k pos) (gTupA X.K n t) := by
  refine ⟨fun pins s σ H v u Q I r hw => ?_⟩
  obtain ⟨a, xs, e1, hq, hl, hw⟩ := hw
  subst e1
  cases r
  rcases hq with hq | hq
  · obtain ⟨its, rv, ht, hz⟩ := I.tuple hq
    refine assign_Tuple_tuple (I.ok.hd hc) ht (by simp [hn, ← hl, rv.length]) hst fun h' hx => ?_
    have I1 : Inv X pins σ H { s with heap := h' } := I.kept (t' := s.toks) fun b o e => hx b o (Nat.ne_of_lt (Heap.lt_size e)) e
    exact h.run pins _ σ H xs _ Q I1 (by simpa using rv) hw
  · obtain ⟨its, rv, ht, hz⟩ := I.list hq
    refine my_assign_Tuple_list (I.ok.hd hc) ht.isList (by simp [hn, ← hl, rv.length]) hst fun h' hx => ?_
    have I1 : Inv X pins σ H { s with heap := h' } := I.kept (t' := s.toks) fun b o e => hx b o (Nat.ne_of_lt (Heap.lt_size e)) e
    exact h.run pins _ σ H xs _ Q I1 (by simpa using rv) hw
theorem Ok.pushL {K : PySem.W.Frag} {c : FC} {τ : List Slot} {hs xs : List Trip} {G H : Hp} {σ : L2.St} {ρ : Env} (k : Ok K c τ hs G σ H ρ) (r : RL K G H xs []) : Ok K c τ (xs ++ hs) G σ H ρ := by
  obtain ⟨fp, r0, n, z⟩ := k.own
  obtain ⟨fq, r', q⟩ := (r.append r0).perm (ys := envT τ σ ρ ++ (xs ++ hs)) (by
    rw [← List.append_assoc, ← List.append_assoc]
    exact List.perm_append_comm.append_right _)
  rw [List.nil_append] at q
  exact { k with own := ⟨fq, r', q.nodup_iff.mp n, fun a m => z a (q.mem_iff.mpr m)⟩ }
end My

set_option Elab.async false
set_option linter.all false
set_option maxRecDepth 100000
/-! A dict is locked while it is walked. -/
namespace My
open PySem PySem.Spec PyProof.Rows L2
/-- one heap's rows and dicts are read in the other one -/
structure Vw (G G' : Hp) : Prop where
  lst : ∀ a xs, Rd G a (.lst xs) → Rd G' a (.lst xs)
  tup : ∀ a xs, Rd G a (.tup xs) → Rd G' a (.tup xs)
  dk : ∀ a xs, Rd G a (.dK xs) → Rd G' a (.dK xs)
  frt : ∀ a o xs, G a = some (.frz o (.tup xs)) → G' a = some (.frz o (.tup xs))
section
variable {K : PySem.W.Frag} {G G' H H' : Hp}
theorem Vw.sqK {a : Addr} {xs : List V} (w : Vw G G') (h : SqK K G a xs) : SqK K G' a xs := h.elim (fun h => .inl (w.lst a xs h)) .inr
theorem Vw.sqT {a : Addr} {xs : List V} (w : Vw G G') (h : SqT K G a xs) : SqT K G' a xs := h.elim (fun h => .inl (w.tup a xs h)) .inr
theorem Vw.dcR {a : Addr} {xs : List (Key × V)} (w : Vw G G') (h : DcR K G a xs) : DcR K G' a xs := ⟨w.dk a xs h.1, h.2⟩
mutual
theorem Fz.vw {v : V} {d : D} (w : Vw G G') (h : Fz K G v d) : Fz K G' v d := by
  cases h with
  | flat h => exact .flat h
  | hole => exact .hole
  | lst h l => exact .lst (w.sqK h) (FzL.vw w l)
  | tup h l => exact .tup (w.sqT h) (FzL.vw w l)
  | dct h l => exact .dct (w.dcR h) (FzK.vw w l)
theorem FzL.vw {vs : List V} {ds : List D} (w : Vw G G') (h : FzL K G vs ds) : FzL K G' vs ds := by
  cases h with
  | nil => exact .nil
  | cons h l => exact .cons (Fz.vw w h) (FzL.vw w l)
theorem FzK.vw {vs : List (Key × V)} {ds : List (Key × D)} (w : Vw G G') (h : FzK K G vs ds) : FzK K G' vs ds := by
  cases h with
  | nil => exact .nil
  | cons h l => exact .cons (Fz.vw w h) (FzK.vw w l)
end
theorem R.vw {t : Ty} {v : V} {d : D} {fp : List Addr} (w : Vw G G') (k : ∀ a ∈ fp, H' a = H a) (h : R K G H t v d fp) : R K G' H' t v d fp :=
  R.rec (motive_1 := fun t v d fp _ => (∀ a ∈ fp, H' a = H a) → R K G' H' t v d fp) (motive_2 := fun xs fp _ => (∀ a ∈ fp, H' a = H a) → RL K G' H' xs fp)
    (fun h _ => .flat h) (fun h _ => .F (h.vw w)) (fun _ => .hole)
    (fun h i _ l k => .L ((k _ List.mem_cons_self).trans h) i (l fun a m => k a (List.mem_cons_of_mem _ m)))
    (fun h i _ l k => .T (w.tup _ _ h) i (l k))
    (fun h n i _ l k => .Dc ((k _ List.mem_cons_self).trans h) n i (l fun a m => k a (List.mem_cons_of_mem _ m)))
    (fun h n l _ => .N (w.frt _ _ _ h) n (l.vw w))
    (fun _ => .nil) (fun _ _ h l k => .cons (h fun a m => k a (List.mem_append_left _ m)) (l fun a m => k a (List.mem_append_right _ m))) h k
theorem RL.vw (w : Vw G G') : ∀ {xs : List Trip} {fp : List Addr}, (∀ a ∈ fp, H' a = H a) → RL K G H xs fp → RL K G' H' xs fp
  | _, _, _, .nil => .nil
  | _, _, k, .cons h l => .cons (h.vw w fun a m => k a (List.mem_append_left _ m)) (RL.vw w (fun a m => k a (List.mem_append_right _ m)) l)
end
section
variable {d : Addr} {o : Obj} {kvs : List (Key × V)} {G H : Hp}
def lkH (d : Addr) (o : Obj) (kvs : List (Key × V)) (H : Hp) : Hp := upd H d (.frz o (.dK kvs))
def ulH (d : Addr) (kvs : List (Key × V)) (H : Hp) : Hp := upd H d (.dK kvs)
theorem vw_lk (h : G d = some (.dK kvs)) : Vw G (lkH d o kvs G) := by
  have ne : ∀ {a : Addr} {u : HO}, G a = some u → u ≠ .dK kvs → lkH d o kvs G a = some u := fun {a u} e n => by
    unfold lkH
    rw [upd_ne (fun z => by rw [z, h] at e; cases e; exact n rfl)]; exact e
  refine ⟨fun a xs r => ?_, fun a xs r => ?_, fun a xs r => ?_, fun a o' xs r => ne r (fun z => nomatch z)⟩
  · rcases r with r | ⟨o', r⟩
    · exact .inl (ne r (fun z => nomatch z))
    · exact .inr ⟨o', ne r (fun z => nomatch z)⟩
  · rcases r with r | ⟨o', r⟩
    · exact .inl (ne r (fun z => nomatch z))
    · exact .inr ⟨o', ne r (fun z => nomatch z)⟩
  · rcases r with r | ⟨o', r⟩
    · by_cases z : a = d
      · rw [z, h] at r
        cases r
        exact .inr ⟨o, by rw [z]; exact upd_same⟩
      · exact .inl (by unfold lkH; rw [upd_ne z]; exact r)
    · exact .inr ⟨o', ne r (fun z => nomatch z)⟩
theorem vw_ul (h : G d = some (.frz o (.dK kvs))) : Vw G (ulH d kvs G) := by
  have ne : ∀ {a : Addr} {u : HO}, G a = some u → u ≠ .frz o (.dK kvs) → ulH d kvs G a = some u := fun {a u} e n => by
    unfold ulH
    rw [upd_ne (fun z => by rw [z, h] at e; cases e; exact n rfl)]; exact e
  refine ⟨fun a xs r => ?_, fun a xs r => ?_, fun a xs r => ?_, fun a o' xs r => ne r (fun z => nomatch z)⟩
  · rcases r with r | ⟨o', r⟩
    · exact .inl (ne r (fun z => nomatch z))
    · exact .inr ⟨o', ne r (fun z => nomatch z)⟩
  · rcases r with r | ⟨o', r⟩
    · exact .inl (ne r (fun z => nomatch z))
    · exact .inr ⟨o', ne r (fun z => nomatch z)⟩
  · rcases r with r | ⟨o', r⟩
    · exact .inl (ne r (fun z => nomatch z))
    · by_cases z : a = d
      · rw [z, h] at r
        cases r
        exact .inl (by rw [z]; exact upd_same)
      · exact .inr ⟨o', by unfold ulH; rw [upd_ne z]; exact r⟩
end
/-- no slot is borrowed -/
def NoBor (τ : List Slot) : Prop := ∀ (i : Nat) t, τ[i]? ≠ some (.bor t)
def FC.lk (c : FC) (d : Addr) (o : Obj) (kvs : List (Key × V)) (G : Hp) : FC := { c with B := fun b => if b = d then (if (c.B d).isSome then some (.frz o (.dK kvs)) else none) else c.B b, G0 := lkH d o kvs G }
section
variable {K : PySem.W.Frag} {c : FC} {τ τ' : List Slot} {hs hs' : List Trip} {G G' H H' : Hp} {σ σ' : L2.St} {ρ ρ' : Env} {d : Addr} {o : Obj} {kvs : List (Key × V)}
theorem lkB_none {b : Addr} {G : Hp} : (c.lk d o kvs G).B b = none ↔ c.B b = none := by
  show (if b = d then (if (c.B d).isSome then some (HO.frz o (.dK kvs)) else none) else c.B b) = none ↔ _
  by_cases z : b = d
  · rw [if_pos z, z]
    cases c.B d <;> simp
  · rw [if_neg z]
theorem lkB_some {b : Addr} {G : Hp} {u : HO} (h : (c.lk d o kvs G).B b = some u) : (b = d ∧ u = .frz o (.dK kvs)) ∨ (b ≠ d ∧ c.B b = some u) := by
  have h : (if b = d then (if (c.B d).isSome then some (HO.frz o (.dK kvs)) else none) else c.B b) = some u := h
  by_cases z : b = d
  · rw [if_pos z] at h
    split at h
    · cases h; exact .inl ⟨z, rfl⟩
    · cases h
  · rw [if_neg z] at h
    exact .inr ⟨z, h⟩
theorem Ok.lock (k : Ok K c τ hs G σ H ρ) (h : G d = some (.dK kvs)) (nb : NoBor τ) : Ok K (c.lk d o kvs G) τ hs (lkH d o kvs G) σ (lkH d o kvs H) ρ := by
  obtain ⟨fp, r, n, z⟩ := k.own
  have nd : ∀ a ∈ fp, a ≠ d := fun a m e => by have := (z a m).1; rw [e, h] at this; cases this
  refine ⟨k.ls, k.lr, k.has, fun i t e => absurd e (nb i t), k.exq, ⟨fp, r.vw (vw_lk h) (fun a m => by unfold lkH; rw [upd_ne (nd a m)]), n, fun a m => ⟨by unfold lkH; rw [upd_ne (nd a m)]; exact (z a m).1, lkB_none.mpr (z a m).2⟩⟩, fun b u e => ?_, fun b u e => ?_, Same.refl _, fun a e => .inl e⟩
  · by_cases zz : b = d
    · rw [zz] at e ⊢
      unfold lkH at e ⊢
      rw [upd_same] at e ⊢; exact e
    · unfold lkH at e ⊢
      rw [upd_ne zz] at e ⊢; exact k.frG b u e
  · rcases lkB_some e with ⟨zz, rfl⟩ | ⟨zz, e⟩
    · rw [zz]; exact upd_same
    · unfold lkH; rw [upd_ne zz]; exact k.base b u e
theorem Ok.unlock {G0 H0 : Hp} {τ0 : List Slot} {hs0 : List Trip} {σ0 : L2.St} {ρ0 : Env} (k0 : Ok K c τ0 hs0 G0 σ0 H0 ρ0) (h : G0 d = some (.dK kvs)) (k : Ok K (c.lk d o kvs G0) τ hs G σ H ρ) (nb : NoBor τ) : H d = some (.frz o (.dK kvs)) ∧ Same G0 (ulH d kvs G) ∧ Ok K c τ hs (ulH d kvs G) σ (ulH d kvs H) ρ := by
  have gd : G d = some (.frz o (.dK kvs)) := k.g0 d _ upd_same
  have sm : Same G0 (ulH d kvs G) := fun b u e => by
    by_cases zz : b = d
    · rw [zz, h] at e
      cases e
      rw [zz]; exact upd_same
    · unfold ulH
      rw [upd_ne zz]
      exact k.g0 b u (by show lkH d o kvs G0 b = _; unfold lkH; rw [upd_ne zz]; exact e)
  obtain ⟨fp, r, n, z⟩ := k.own
  have nd : ∀ a ∈ fp, a ≠ d := fun a m e => by have := (z a m).1; rw [e, gd] at this; cases this
  refine ⟨k.frG d _ gd, sm, k.ls, k.lr, k.has, fun i t e => absurd e (nb i t), k.exq, ⟨fp, r.vw (vw_ul gd) (fun a m => by unfold ulH; rw [upd_ne (nd a m)]), n, fun a m => ⟨by unfold ulH; rw [upd_ne (nd a m)]; exact (z a m).1, lkB_none.mp (z a m).2⟩⟩, fun b u e => ?_, fun b u e => ?_, k0.g0.trans sm, fun a e => ?_⟩
  · by_cases zz : b = d
    · rw [zz] at e ⊢
      unfold ulH at e ⊢
      rw [upd_same] at e ⊢; exact e
    · unfold ulH at e ⊢
      rw [upd_ne zz] at e ⊢; exact k.frG b u e
  · by_cases zz : b = d
    · rw [zz] at e ⊢
      have := k0.base d u e
      rw [k0.frG d _ h] at this
      cases this
      exact upd_same
    · unfold ulH
      rw [upd_ne zz]
      refine k.base b u ?_
      show (if b = d then _ else c.B b) = some u
      rw [if_neg zz]; exact e
  · have ga : G a ≠ none := fun q => e (by
      unfold ulH
      rw [upd_ne (fun zz => by rw [zz, gd] at q; cases q)]; exact q)
    rcases k.gn a ga with q | q
    · have : G0 a ≠ none := fun q2 => q (by
        show lkH d o kvs G0 a = none
        unfold lkH
        rw [upd_ne (fun zz => by rw [zz, h] at q2; cases q2)]; exact q2)
      exact k0.gn a this
    · exact .inr (lkB_none.mp q)
end
/-! ### what is worth so while a dict is locked -/
section
variable {X : Cx} {c : FC} {τ : List Slot} {i : Nat} {t : Ty} {te : TE} {f : EF} {e : Expr}
def OwAt (X : Cx) (c : FC) (τ : List Slot) (t : Ty) (te : TE) (f : EF) (hs : List Trip) (G : Hp) (σ : L2.St) (H : Hp) (ρ : Env) : Prop :=
  ∀ d (Q : VK), f ρ = some d → (∀ G' H' v, Ok X.K c τ ((t, v, d) :: hs) G' σ H' ρ → Same G G' → Same H H' → Q v H') → te σ H Q
/-- the dict at slot i is locked -/
def LkAt (K : PySem.W.Frag) (i : Nat) (G : Hp) (σ : L2.St) (ρ : Env) : Prop := ∃ kds a o kws, ρ[i]? = some (.dct kds) ∧ σ[i]? = some (some (.ref a)) ∧ G a = some (.frz o (.dK kws)) ∧ FzK K G kws kds
def LkOk (X : Cx) (τ : List Slot) (i : Nat) (t : Ty) (te : TE) (f : EF) : Prop := ∀ c hs G σ H ρ, Ok X.K c τ hs G σ H ρ → LkAt X.K i G σ ρ → OwAt X c τ t te f hs G σ H ρ
/-- the thing is done at once, or while something is locked -/
def tLk (t : TE) : TE := fun σ H Q => t σ H Q ∨ tLockE t σ H Q
theorem pe_lk (h : PE X e te) : PE X e (tLk te) := ⟨fun pins s σ H Q I w => w.elim (h.run pins s σ H Q I) ((pe_lock h).run pins s σ H Q I)⟩
/-- a frozen dict at a slot: locked already, or it can be -/
theorem Ok.lockable {hs : List Trip} {G H : Hp} {σ : L2.St} {ρ : Env} {kds : List (Key × D)} (k : Ok X.K c τ hs G σ H ρ) (hi : τ[i]? = some (.own .F)) (e : ρ[i]? = some (.dct kds)) :
    LkAt X.K i G σ ρ ∨ ∃ a kws, G a = some (.dK kws) ∧ H a = some (.dK kws) ∧ ∀ o, LkAt X.K i (lkH a o kws G) σ ρ := by
  obtain ⟨v, fp, hv, r⟩ := k.slot hi e
  have z := r.toF
  cases z with
  | flat h => cases h
  | @dct a kws _ h l =>
    obtain ⟨h | ⟨o, h⟩, _⟩ := h
    · exact .inr ⟨a, kws, h, k.frG a _ h, fun o => ⟨kds, a, o, kws, e, hv, upd_same, l.vw (vw_lk h)⟩⟩
    · exact .inl ⟨kds, a, o, kws, e, hv, h, l⟩
theorem lockE (h : LkOk X τ i t te f) (hi : τ[i]? = some (.own .F)) (nb : NoBor τ) (hf : ∀ ρ d, f ρ = some d → ∃ kds, ρ[i]? = some (.dct kds)) : OwOk X c τ τ t (tLk te) f := by
  intro hs G σ H ρ d Q k e q
  obtain ⟨kds, ek⟩ := hf ρ d e
  rcases k.lockable hi ek with l | ⟨a, kws, ga, ha, l⟩
  · exact .inl (h c hs G σ H ρ k l d Q e q)
  · refine .inr ⟨a, .dK kws, ha, trivial, fun o => h _ hs _ σ _ ρ (k.lock ga nb) (l o) d _ e fun G' H' v k' s1 s2 => ?_⟩
    obtain ⟨h1, h2, h3⟩ := k.unlock ga k' nb
    refine ⟨h1, q _ _ v h3 h2 fun b u e => ?_⟩
    by_cases zz : b = a
    · rw [zz, ha] at e
      cases e
      rw [zz]; exact upd_same
    · rw [upd_ne zz]
      exact s2 b u (by unfold lkH; rw [upd_ne zz]; exact e)
end
end My

set_option Elab.async false
set_option linter.all false
set_option maxRecDepth 100000
/-! Targets, what is walked, comprehensions. -/
namespace My
open PySem PySem.Spec PyProof.Rows L2

mutual
def Tg.slots : Tg → List Nat
  | .s i => [i]
  | .t l => Tg.slotsL l
def Tg.slotsL : List Tg → List Nat
  | [] => []
  | g :: gs => Tg.slots g ++ Tg.slotsL gs
end
/-- the types of a tuple's items -/
def Ty.items (n : Nat) : Ty → Option (List Ty)
  | .F => some (List.replicate n .F)
  | .T ts t => some ((List.range n).map (Ty.atI ts t))
  | _ => none
mutual
/-- the slots' types behind a target -/
def tgTy : Tg → Ty → List Slot → Option (List Slot)
  | .s i, t, τ => if i < τ.length then some (τ.set i (.own t)) else none
  | .t l, t, τ => (Ty.items l.length t).bind fun ts => tgTys l ts τ
def tgTys : List Tg → List Ty → List Slot → Option (List Slot)
  | [], [], τ => some τ
  | g :: gs, t :: ts, τ => (tgTy g t τ).bind fun τ' => tgTys gs ts τ'
  | _, _, _ => none
end
/-- alike but at some places -/
def Alike {α : Type} (sl : List Nat) (xs ys : List α) : Prop := ys.length = xs.length ∧ ∀ i, i ∉ sl → ys[i]? = xs[i]?
theorem Alike.refl {α : Type} (sl : List Nat) (xs : List α) : Alike sl xs xs := ⟨rfl, fun _ _ => rfl⟩
theorem Alike.set {α : Type} (i : Nat) (x : α) (xs : List α) : Alike [i] xs (xs.set i x) := ⟨List.length_set, fun j hj => List.getElem?_set_ne (fun e => hj (by simp [e]))⟩
theorem Alike.trans {α : Type} {s1 s2 : List Nat} {xs ys zs : List α} (a : Alike s1 xs ys) (b : Alike s2 ys zs) : Alike (s1 ++ s2) xs zs :=
  ⟨b.1.trans a.1, fun i hi => (b.2 i fun m => hi (List.mem_append_right _ m)).trans (a.2 i fun m => hi (List.mem_append_left _ m))⟩
mutual
theorem bindT_alike : ∀ (tg : Tg) (d : D) (ρ ρ' : Env), bindT tg d ρ = some ρ' → Alike tg.slots ρ ρ'
  | .s i, d, ρ, ρ', e => by cases e; exact .set i d ρ
  | .t l, d, ρ, ρ', e => by
    obtain ⟨xs, e1, e2⟩ := bind1 (show ((seqOf d).bind fun xs => bindTs l xs ρ) = some ρ' from e)
    exact bindTs_alike l xs ρ ρ' e2
theorem bindTs_alike : ∀ (l : List Tg) (xs : List D) (ρ ρ' : Env), bindTs l xs ρ = some ρ' → Alike (Tg.slotsL l) ρ ρ'
  | [], [], ρ, ρ', e => by cases e; exact .refl _ _
  | [], _ :: _, _, _, e => by cases e
  | _ :: _, [], _, _, e => by cases e
  | t :: ts, x :: xs, ρ, ρ', e => by
    obtain ⟨ρ1, e1, e2⟩ := bind1 (show ((bindT t x ρ).bind fun r => bindTs ts xs r) = some ρ' from e)
    exact (bindT_alike t x ρ ρ1 e1).trans (bindTs_alike ts xs ρ1 ρ' e2)
end

section
variable {K : PySem.W.Frag} {c : FC} {τ τ' : List Slot} {hs : List Trip} {G H : Hp} {σ σ' : L2.St} {ρ ρ' : Env}
theorem envT_agree : ∀ {τ : List Slot} {σ σ' : L2.St} {ρ ρ' : Env}, σ'.length = σ.length → ρ'.length = ρ.length → (∀ (i : Nat) (t : Ty), τ[i]? = some (.own t) → σ'[i]? = σ[i]? ∧ ρ'[i]? = ρ[i]?) → envT τ σ' ρ' = envT τ σ ρ
  | [], σ, σ', ρ, ρ', _, _, _ => by unfold envT; rfl
  | a :: τ, [], [], ρ, ρ', _, _, _ => by cases a <;> rfl
  | a :: τ, b :: σ, b' :: σ', [], [], _, _, _ => by cases a <;> cases b <;> cases b' <;> rfl
  | a :: τ, [], _ :: _, _, _, h, _, _ => by cases h
  | a :: τ, _ :: _, [], _, _, h, _, _ => by cases h
  | a :: τ, _ :: _, _ :: _, [], _ :: _, _, h, _ => by cases h
  | a :: τ, _ :: _, _ :: _, _ :: _, [], _, h, _ => by cases h
  | a :: τ, b :: σ, b' :: σ', d :: ρ, d' :: ρ', h1, h2, h => by
    have ih := envT_agree (τ := τ) (σ := σ) (σ' := σ') (ρ := ρ) (ρ' := ρ') (by simpa using h1) (by simpa using h2) fun i t e => by
      have := h (i + 1) t (by simpa using e)
      simpa using this
    cases a with
    | own t =>
      have h0 := h 0 t rfl
      simp at h0
      obtain ⟨e1, e2⟩ := h0
      subst e1 e2
      cases b' <;> simp only [envT, ih]
    | gone => simp only [envT, ih]
    | bor t => simp only [envT, ih]
    | exc => simp only [envT, ih]
/-- where no claim is made anything may stand -/
theorem Ok.agree (k : Ok K c τ hs G σ H ρ) (l1 : σ'.length = σ.length) (l2 : ρ'.length = ρ.length) (h : ∀ (i : Nat) (s : Slot), τ[i]? = some s → s ≠ .gone → σ'[i]? = σ[i]? ∧ ρ'[i]? = ρ[i]?) : Ok K c τ hs G σ' H ρ' := by
  have e : envT τ σ' ρ' = envT τ σ ρ := envT_agree l1 l2 fun i t e => h i _ e (by intro z; cases z)
  refine { k with ls := l1.trans k.ls, lr := l2.trans k.lr, has := fun i t e => ?_, bor := fun i t e => ?_, exq := fun i e => ?_, own := by rw [e]; exact k.own }
  · obtain ⟨v, hv⟩ := k.has i t e
    exact ⟨v, (h i _ e (by intro z; cases z)).1.trans hv⟩
  · obtain ⟨v, d, fp, h1, h2, r⟩ := k.bor i t e
    obtain ⟨a, b⟩ := h i _ e (by intro z; cases z)
    exact ⟨v, d, fp, a.trans h1, b.trans h2, r⟩
  · obtain ⟨h1, h2⟩ := k.exq i e
    obtain ⟨a, b⟩ := h i _ e (by intro z; cases z)
    exact ⟨a.trans h1, b.trans h2⟩
def goneAll (τ : List Slot) : List Nat → List Slot
  | [] => τ
  | i :: r => (goneAll τ r).set i .gone
theorem Ok.forgets (k : Ok K c τ hs G σ H ρ) : ∀ l : List Nat, Ok K c (goneAll τ l) hs G σ H ρ
  | [] => k
  | i :: r => (Ok.forgets k r).forget i
theorem goneAll_mem {i : Nat} {s : Slot} : ∀ {l : List Nat}, i ∈ l → (goneAll τ l)[i]? = some s → s = .gone
  | j :: r, m, e => by
    by_cases hij : j = i
    · subst hij
      unfold goneAll at e
      rw [List.getElem?_set] at e
      split at e
      · split at e <;> first | (cases e; rfl) | cases e
      · exact absurd rfl ‹_›
    · unfold goneAll at e
      rw [List.getElem?_set_ne hij] at e
      rcases List.mem_cons.mp m with h | h
      · exact absurd h.symm hij
      · exact goneAll_mem h e
/-- a tuple's items are held in its stead -/
theorem Ok.untup {t : Ty} {v : V} {ds : List D} {ts : List Ty} (k : Ok K c τ ((t, v, .tup ds) :: hs) G σ H ρ) (e : Ty.items ds.length t = some ts) :
    ∃ (a : Addr) (xs : List Trip), v = .ref a ∧ SqT K H a (xs.map (·.2.1)) ∧ xs.map (·.1) = ts ∧ xs.map (·.2.2) = ds ∧ Ok K c τ (xs ++ hs) G σ H ρ := by
  obtain ⟨fp, r, n, z⟩ := k.own
  obtain ⟨fq, r', q⟩ := r.perm List.perm_middle
  have n' := q.nodup_iff.mp n
  have z' : ∀ a ∈ fq, G a = none ∧ c.B a = none := fun a m => z a (q.mem_iff.mpr m)
  clear r n z q
  have fin : ∀ {a : Addr} {xs : List Trip} {f1 f2 : List Addr}, SqT K G a (xs.map (·.2.1)) → RL K G H xs f1 → RL K G H (envT τ σ ρ ++ hs) f2 → (f1 ++ f2).Nodup → (∀ a ∈ f1 ++ f2, G a = none ∧ c.B a = none) → xs.map (·.1) = ts → xs.map (·.2.2) = ds → v = .ref a →
      ∃ (a : Addr) (xs : List Trip), v = .ref a ∧ SqT K H a (xs.map (·.2.1)) ∧ xs.map (·.1) = ts ∧ xs.map (·.2.2) = ds ∧ Ok K c τ (xs ++ hs) G σ H ρ := by
    intro a xs f1 f2 s r1 r2 n z e1 e2 ev
    refine ⟨a, xs, ev, sqT_same k.frG s, e1, e2, ?_⟩
    obtain ⟨fr, r3, q3⟩ := (r1.append r2).perm (ys := envT τ σ ρ ++ (xs ++ hs)) (by
      rw [← List.append_assoc, ← List.append_assoc]
      exact List.perm_append_comm.append_right _)
    exact { k with own := ⟨fr, r3, q3.nodup_iff.mp n, fun a m => z a (q3.mem_iff.mpr m)⟩ }
  cases r' with
  | cons h l =>
    cases h with
    | flat h => cases h
    | F h =>
      cases h with
      | flat h => cases h
      | tup s f =>
        cases e
        obtain ⟨xs, e1, e2, e3, e4⟩ := trips f
        subst e1 e2
        refine fin s (e4 H) l n' z' ?_ rfl rfl
        have : ∀ {xs : List Trip}, (∀ x ∈ xs, x.1 = Ty.F) → xs.map (·.1) = List.replicate (xs.map (·.2.2)).length Ty.F := by
          intro xs
          induction xs with
          | nil => intro _; rfl
          | cons x r ih => intro h; rw [List.map_cons, h x List.mem_cons_self, ih fun y m => h y (List.mem_cons_of_mem _ m)]; simp [List.replicate_succ]
        exact this e3
    | N _ _ _ => cases e
    | @T ts' t' a xs f1 s i rl =>
      cases e
      refine fin (.inl s) rl l n' z' ?_ rfl rfl
      refine List.ext_getElem? fun j => ?_
      rw [List.length_map, List.getElem?_map, List.getElem?_map]
      cases hj : xs[j]? with
      | none =>
        have := List.getElem?_eq_none_iff.mp hj
        rw [List.getElem?_eq_none (by rw [List.length_range]; exact this)]
        rfl
      | some x =>
        have hlt := (List.getElem?_eq_some_iff.mp hj).1
        rw [List.getElem?_range hlt]
        simp [i j x hj]
end

section
variable {X : Cx} {c : FC} {τ τ' τ'' : List Slot} {a b e : Expr} {es : List Expr} {fa fb f : EF} {fs : Env → Option (List D)} {t u : Ty} {p pos : Pos}
/-! ### targets -/
def TgOk (X : Cx) (c : FC) (τ τ' : List Slot) (t : Ty) (g : TG) (tg : Tg) : Prop :=
  ∀ hs G σ H ρ v d ρ' (Q : L2.St → Hp → Prop), Ok X.K c τ ((t, v, d) :: hs) G σ H ρ → bindT tg d ρ = some ρ' → (∀ σ', Ok X.K c τ' hs G σ' H ρ' → Alike tg.slots σ σ' → Q σ' H) → g v σ H Q
def DG (X : Cx) (c : FC) (τ τ' : List Slot) (e : Expr) (t : Ty) (tg : Tg) : Prop := ∃ g, PG X e g ∧ TgOk X c τ τ' t g tg
def TgsOk (X : Cx) (c : FC) (τ τ' : List Slot) (ts : List Ty) (g : TGs) (l : List Tg) : Prop :=
  ∀ hs G σ H ρ (xs : List Trip) ρ' (Q : L2.St → Hp → Prop), Ok X.K c τ (xs ++ hs) G σ H ρ → xs.map (·.1) = ts → bindTs l (xs.map (·.2.2)) ρ = some ρ' → (∀ σ', Ok X.K c τ' hs G σ' H ρ' → Alike (Tg.slotsL l) σ σ' → Q σ' H) → g (xs.map (·.2.1)) σ H Q
def DGs (X : Cx) (c : FC) (τ τ' : List Slot) (es : List Expr) (ts : List Ty) (l : List Tg) : Prop := ∃ g, PGs X es g ∧ TgsOk X c τ τ' ts g l
theorem dg_name {i : Nat} {x : Str} (h : PG X (.Name x pos) (gName i)) (hi : i < τ.length) : DG X c τ (τ.set i (.own t)) (.Name x pos) t (.s i) := by
  refine ⟨_, h, fun hs G σ H ρ v d ρ' Q k e q => ?_⟩
  cases e
  exact q _ (k.put hi) (.set i _ σ)
theorem assign_cons {e : Expr} {es : List Expr} {env : PySem.Env} (h : NS e = true) : (assignEach (e :: es) env) = (false, assign e env) :: assignEach es env := by
  cases e <;> first | rfl | cases h
theorem assign_len {env : PySem.Env} : ∀ {es : List Expr}, es.all NS = true → (assignEach es env).length = es.length ∧ (assignEach es env).findIdx? (·.1) = none
  | [], _ => ⟨rfl, rfl⟩
  | e :: es, h => by
    obtain ⟨h1, h2⟩ := Bool.and_eq_true_iff.mp (show (NS e && es.all NS) = true from h)
    obtain ⟨a, b⟩ := assign_len (env := env) h2
    rw [assign_cons h1]
    refine ⟨congrArg (· + 1) a, ?_⟩
    rw [List.findIdx?_cons, b]; rfl
theorem dgs_nil : DGs X c τ τ [] [] [] := by
  refine ⟨_, pgs_nil, fun hs G σ H ρ xs ρ' Q k m e q => ?_⟩
  cases xs with
  | nil => cases e; exact ⟨rfl, q σ k (.refl _ _)⟩
  | cons _ _ => cases m
theorem dgs_cons {ts : List Ty} {tg : Tg} {l : List Tg} (ns : NS e = true) (h1 : DG X c τ τ' e t tg) (h2 : DGs X c τ' τ'' es ts l) : DGs X c τ τ'' (e :: es) (t :: ts) (tg :: l) := by
  obtain ⟨g1, p1, o1⟩ := h1
  obtain ⟨g2, p2, o2⟩ := h2
  refine ⟨_, pgs_cons p1 p2 (by rw [assign_cons ns]; rfl), fun hs G σ H ρ xs ρ' Q k m e q => ?_⟩
  cases xs with
  | nil => cases m
  | cons x xs =>
    obtain ⟨t', v, d⟩ := x
    rw [List.map_cons] at m
    obtain ⟨m0, m'⟩ := List.cons.inj m
    have m0 : t' = t := m0
    subst m0
    obtain ⟨ρ1, e1, e2⟩ := bind1 (show ((bindT tg d ρ).bind fun r => bindTs l (xs.map (·.2.2)) r) = some ρ' from e)
    refine ⟨v, xs.map (·.2.1), rfl, o1 (xs ++ hs) G σ H ρ v d ρ1 _ k e1 fun σ1 k1 a1 => ?_⟩
    exact o2 hs G σ1 H ρ1 xs ρ' _ k1 m' e2 fun σ2 k2 a2 => q σ2 k2 (show Alike (tg.slots ++ Tg.slotsL l) σ σ2 from a1.trans a2)
theorem bindTs_len : ∀ {l : List Tg} {xs : List D} {ρ ρ' : Env}, bindTs l xs ρ = some ρ' → xs.length = l.length := by
  intro l
  induction l with
  | nil => intro xs ρ ρ' e; cases xs with
    | nil => rfl
    | cons _ _ => cases e
  | cons t ts ih => intro xs ρ ρ' e; cases xs with
    | nil => cases e
    | cons x xs =>
      obtain ⟨_, _, e2⟩ := bind1 (show ((bindT t x ρ).bind fun r => bindTs ts xs r) = some ρ' from e)
      exact congrArg (· + 1) (ih e2)
theorem dg_tup {ts : List Ty} {l : List Tg} {x1} (hc : X.calm = true) (ns : es.all NS = true) (hl : es.length = l.length) (hi : Ty.items l.length t = some ts) (h : DGs X c τ τ' es ts l) : DG X c τ τ' (.Tuple es x1 pos) t (.t l) := by
  obtain ⟨g, p, o⟩ := h
  refine ⟨_, pg_tupA hc p (assign_len ns).1 (assign_len ns).2, fun hs G σ H ρ v d ρ' Q k e q => ?_⟩
  obtain ⟨ds, e1, e2⟩ := bind1 (show ((seqOf d).bind fun xs => bindTs l xs ρ) = some ρ' from e)
  have hlen : ds.length = l.length := bindTs_len e2
  cases d with
  | tup ds' =>
    cases e1
    obtain ⟨a, xs, rfl, s, m1, m2, k'⟩ := k.untup (by rw [hlen]; exact hi)
    subst m2
    exact ⟨a, _, rfl, .inl s, by rw [List.length_map] at hlen ⊢; rw [hlen, hl], o hs G σ H ρ xs ρ' Q k' m1 e2 fun σ' k2 al => q σ' k2 al⟩
  | lst ds' =>
    cases e1
    obtain ⟨fp, r⟩ := k.top
    have z : t = .F ∧ Fz X.K G v (.lst ds) := by
      cases r with
      | flat h => cases h
      | F h => exact ⟨rfl, h⟩
      | L _ _ _ => cases hi
    obtain ⟨rfl, z⟩ := z
    cases z with
    | flat h => cases h
    | @lst a vs _ hk f =>
      obtain ⟨xs, e3, e4, e5, e6⟩ := trips f
      subst e3 e4
      have k2 := k.drop
      have m1 : xs.map (·.1) = ts := by
        have e7 : ts = List.replicate l.length Ty.F := (Option.some.inj hi).symm
        rw [e7, ← hlen, List.length_map]
        have : ∀ {xs : List Trip}, (∀ x ∈ xs, x.1 = Ty.F) → xs.map (·.1) = List.replicate xs.length Ty.F := by
          intro xs
          induction xs with
          | nil => intro _; rfl
          | cons x r ih => intro h; rw [List.map_cons, h x List.mem_cons_self, ih fun y m => h y (List.mem_cons_of_mem _ m)]; rfl
        exact this e5
      exact ⟨a, _, rfl, .inr (sqK_same k2.frG hk).sq, by rw [List.length_map] at hlen ⊢; rw [hlen, hl], o hs G σ H ρ xs ρ' Q (k2.pushL (e6 H)) m1 e2 fun σ' k2 al => q σ' k2 al⟩
  | _ => cases e1

/-! ### what is walked -/
def IsIt (X : Cx) (c : FC) (J : It) (G1 : Hp) (ds : List D) : Prop :=
  ∀ i τ hs G σ H ρ, Same G1 G → Ok X.K c τ hs G σ H ρ → (ds.length = i → J.stop i H) ∧ ∀ d, ds[i]? = some d → J.go i H ∧ ∀ x H', J.yld i H x H' → ∃ G', Same G G' ∧ Same H H' ∧ Ok X.K c τ ((.F, x, d) :: hs) G' σ H' ρ
def WkOk (X : Cx) (c : FC) (τ τ' : List Slot) (wi : TI) (f : Env → Option (List D)) : Prop :=
  ∀ hs G σ H ρ ds (R : It → Hp → Prop), Ok X.K c τ hs G σ H ρ → f ρ = some ds → (∀ G' H' J, Ok X.K c τ' hs G' σ H' ρ → Same G G' → Same H H' → IsIt X c J G' ds → R J H') → wi σ H R
def DI (X : Cx) (c : FC) (τ τ' : List Slot) (tg e : Expr) (f : Env → Option (List D)) : Prop := ∃ wi, PI X tg e wi ∧ WkOk X c τ τ' wi f
/-- the same while the heap stands as it is -/
def IsItC (X : Cx) (c : FC) (J : It) (G1 H1 : Hp) (ds : List D) : Prop :=
  ∀ i τ hs G σ H ρ, Same G1 G → Same H1 H → Ok X.K c τ hs G σ H ρ → (ds.length = i → J.stop i H) ∧ ∀ d, ds[i]? = some d → J.go i H ∧ ∀ x H', J.yld i H x H' → ∃ G', Same G G' ∧ Same H H' ∧ Ok X.K c τ ((.F, x, d) :: hs) G' σ H' ρ
def WkC (X : Cx) (c : FC) (τ τ' : List Slot) (wi : TI) (f : Env → Option (List D)) : Prop :=
  ∀ hs G σ H ρ ds (R : It → Hp → Prop), Ok X.K c τ hs G σ H ρ → f ρ = some ds → (∀ G' H' J, Ok X.K c τ' hs G' σ H' ρ → Same G G' → Same H H' → IsItC X c J G' H' ds → R J H') → wi σ H R
def DIC (X : Cx) (c : FC) (τ τ' : List Slot) (tg e : Expr) (f : Env → Option (List D)) : Prop := ∃ wi, PI X tg e wi ∧ WkC X c τ τ' wi f
theorem IsIt.toC {J : It} {G1 H1 : Hp} {ds : List D} (h : IsIt X c J G1 ds) : IsItC X c J G1 H1 ds := fun i τ hs G σ H ρ s _ k => h i τ hs G σ H ρ s k
theorem WkOk.toC {wi : TI} {f : Env → Option (List D)} (h : WkOk X c τ τ' wi f) : WkC X c τ τ' wi f := fun hs G σ H ρ ds R k e q => h hs G σ H ρ ds R k e fun G' H' J k' g h' it => q G' H' J k' g h' it.toC
theorem DI.toC {tg e : Expr} {f : Env → Option (List D)} (h : DI X c τ τ' tg e f) : DIC X c τ τ' tg e f := let ⟨wi, p, o⟩ := h; ⟨wi, p, o.toC⟩
def Sd (X : Cx) (x : V) (H : Hp) : Prop := (∃ a xs, x = .ref a ∧ SqL X.K H a xs) ∨ ∃ a xs, x = .ref a ∧ SqT X.K H a xs
/-- frozen lists, frozen tuples are walked -/
theorem isIt_list {G1 : Hp} {a : Addr} {vs : List V} {ds : List D} (h : SqK X.K G1 a vs) (l : FzL X.K G1 vs ds) : IsIt X c (Itl X.K a) G1 ds := by
  intro i τ hs G σ H ρ s k
  have r : SqL X.K H a vs := (sqK_same k.frG (sqK_same s h)).sq
  refine ⟨fun hi => ⟨vs, r, by rw [l.length]; exact Nat.le_of_eq hi⟩, fun d hd => ?_⟩
  obtain ⟨v, hv, z⟩ := l.get hd
  refine ⟨⟨vs, v, r, hv⟩, fun x H' y => ?_⟩
  obtain ⟨rfl, y⟩ := y
  have e := y vs r
  rw [hv] at e
  cases e
  exact ⟨G, Same.refl _, Same.refl _, k.push (z.same s)⟩
theorem isIt_tup {G1 : Hp} {a : Addr} {vs : List V} {ds : List D} (h : SqT X.K G1 a vs) (l : FzL X.K G1 vs ds) : IsIt X c (Itt X.K a) G1 ds := by
  intro i τ hs G σ H ρ s k
  have r : SqT X.K H a vs := sqT_same k.frG (sqT_same s h)
  refine ⟨fun hi => ⟨vs, r, by rw [l.length]; exact Nat.le_of_eq hi⟩, fun d hd => ?_⟩
  obtain ⟨v, hv, z⟩ := l.get hd
  refine ⟨⟨vs, v, r, hv⟩, fun x H' y => ?_⟩
  obtain ⟨rfl, y⟩ := y
  have e := y vs r
  rw [hv] at e
  cases e
  exact ⟨G, Same.refl _, Same.refl _, k.push (z.same s)⟩
theorem isIt_str {G1 : Hp} {x : Str} : IsIt X c (Its x) G1 (x.cps.toList.map fun c => .str ⟨#[c]⟩) := by
  intro i τ hs G σ H ρ s k
  refine ⟨fun hi => by rw [List.length_map, Array.length_toList] at hi; exact Nat.le_of_eq hi, fun d hd => ?_⟩
  rw [List.getElem?_map, Array.getElem?_toList] at hd
  obtain ⟨cc, e1, e2⟩ := map1 hd
  refine ⟨(Array.getElem?_eq_some_iff.mp e1).1, fun v H' y => ?_⟩
  obtain ⟨rfl, c', e3, rfl⟩ := y
  rw [e1] at e3
  cases e3
  subst e2
  exact ⟨G, Same.refl _, Same.refl _, k.pushFlat (d := .str ⟨#[cc]⟩) .F rfl⟩
/-- a list, a tuple, a text -/
theorem pi_seqA {tg l : Expr} {tl : TE} (hl : PE X l tl) : PI X tg l fun σ H R => tl σ H fun x H1 => ((∃ a, x = .ref a ∧ (∃ xs, SqL X.K H1 a xs) ∧ R (Itl X.K a) H1) ∨ ∃ a, x = .ref a ∧ (∃ xs, SqT X.K H1 a xs) ∧ R (Itt X.K a) H1) ∨ ∃ z, x = .str z ∧ R (Its z) H1 := by
  refine ⟨fun pins s σ H R I h => ?_⟩
  refine thn (hl.run pins s σ H _ I h) fun v s1 ⟨x, H1, I1, r1, q1⟩ => ?_
  have fr : ∀ b, b ∈ [s1.heap.objs.size] → FpOk X pins H1 b := fun b hb => by
    have e : b = s1.heap.objs.size := by simpa using hb
    subst e
    exact I1.fpOk (Nat.le_refl _) (I1.hok.fresh (Nat.le_refl _))
  rcases q1 with (⟨a, e, ⟨xs, hq⟩, q⟩ | ⟨a, e, ⟨xs, hq⟩, q⟩) | ⟨z, e, q⟩
  · subst e
    cases r1
    obtain ⟨its, rv, p, hz⟩ := I1.list hq
    exact wpAny_pyIter_list p.isList ⟨_, _, _, _, H1, rfl, I1.kept (t' := s1.toks) fun b o e => Heap.get?_push_of_some _ e, turn_list a _, ⟨_, Heap.get?_push_size _ rfl, rfl, rfl⟩, fr, q⟩
  · subst e
    cases r1
    obtain ⟨its, rv, p, hz⟩ := I1.tuple hq
    exact wpAny_pyIter_tuple (show s1.heap.IsTuple a its.toArray from p) ⟨_, _, _, _, H1, rfl, I1.kept (t' := s1.toks) fun b o e => Heap.get?_push_of_some _ e, turn_tuple a _, ⟨_, Heap.get?_push_size _ rfl, rfl, rfl⟩, fr, q⟩
  · subst e
    obtain ⟨t, rfl⟩ := r1
    cases ha : z.cps.all (· < 128)
    · exact wpAny_pyIter_wide ha (pi_one (tk := s1.toks) I1 _ (turn_str _ z t "str_iterator" (.inr rfl)) ⟨_, Heap.get?_push_size _ rfl, rfl, rfl⟩ q)
    · exact wpAny_pyIter_ascii ha (pi_one (tk := s1.toks) I1 _ (turn_str _ z t "str_ascii_iterator" (.inl rfl)) ⟨_, Heap.get?_push_size _ rfl, rfl, rfl⟩ q)
theorem di_seq {tg : Expr} (h : DO X c τ τ' e .F fa) : DI X c τ τ' tg e fun ρ => (fa ρ).bind fun d => srcItems .seq [d] := by
  obtain ⟨te, p, o⟩ := h
  refine ⟨_, pi_seqA p, fun hs G σ H ρ ds R k e q => ?_⟩
  obtain ⟨d, e1, e2⟩ := bind1 e
  refine o hs G σ H ρ d _ k e1 fun G1 H1 v k1 g1 h1 => ?_
  obtain ⟨fp, r⟩ := k1.top
  have z := r.toF
  have k2 := k1.drop
  cases d with
  | lst xs =>
    cases e2
    cases z with
    | flat h => cases h
    | lst h l => exact .inl (.inl ⟨_, rfl, ⟨_, (sqK_same k2.frG h).sq⟩, q G1 H1 _ k2 g1 h1 (isIt_list h l)⟩)
  | tup xs =>
    cases e2
    cases z with
    | flat h => cases h
    | tup h l => exact .inl (.inr ⟨_, rfl, ⟨_, sqT_same k2.frG h⟩, q G1 H1 _ k2 g1 h1 (isIt_tup h l)⟩)
  | str x =>
    cases e2
    exact .inr ⟨x, z.str, q G1 H1 _ k2 g1 h1 isIt_str⟩
  | _ => cases e2
theorem isIt_listC {G1 H1 : Hp} {a : Addr} {vs : List V} {ds : List D} (h : SqK X.K H1 a vs) (l : FzL X.K G1 vs ds) : IsItC X c (Itl X.K a) G1 H1 ds := by
  intro i τ hs G σ H ρ s s' k
  have r : SqL X.K H a vs := (sqK_same s' h).sq
  refine ⟨fun hi => ⟨vs, r, by rw [l.length]; exact Nat.le_of_eq hi⟩, fun d hd => ?_⟩
  obtain ⟨v, hv, z⟩ := l.get hd
  refine ⟨⟨vs, v, r, hv⟩, fun x H' y => ?_⟩
  obtain ⟨rfl, y⟩ := y
  have e := y vs r
  rw [hv] at e
  cases e
  exact ⟨G, Same.refl _, Same.refl _, k.push (z.same s)⟩
/-- a list or a tuple of one's own -/
theorem di_seqC {tg : Expr} {as : List ME} {Φ : Tab} (h : DS X c τ e fun ρ => (evs Φ as ρ).bind fun ds => match ds with | [d] => some d | _ => none) : DIC X c τ τ tg e fun ρ => (evs Φ as ρ).bind (srcItems .seq) := by
  obtain ⟨te, p, o⟩ := h
  refine ⟨_, pi_seqA p, fun hs G σ H ρ ds R k e q => ?_⟩
  obtain ⟨xs, e1, e2⟩ := bind1 e
  cases xs with
  | nil => cases e2
  | cons d xs =>
  cases xs with
  | cons _ _ => cases d <;> cases e2
  | nil =>
  refine o hs G σ H ρ d _ k (by show (evs Φ as ρ).bind _ = _; rw [e1]; rfl) fun G1 H1 v k1 g1 h1 z => ?_
  cases d with
  | lst ys =>
    cases e2
    obtain ⟨a, vs, rfl, h, l⟩ := Sh.lst' k1.frG z
    exact .inl (.inl ⟨_, rfl, ⟨_, h.sq⟩, q G1 H1 _ k1 g1 h1 (isIt_listC h l)⟩)
  | tup ys =>
    cases e2
    cases z with
    | fz z =>
      cases z with
      | flat h => cases h
      | tup h l => exact .inl (.inr ⟨_, rfl, ⟨_, sqT_same k1.frG h⟩, q G1 H1 _ k1 g1 h1 (isIt_tup h l).toC⟩)
  | str x =>
    cases e2
    cases z with
    | fz z => exact .inr ⟨x, z.str, q G1 H1 _ k1 g1 h1 isIt_str.toC⟩
  | _ => cases e2
theorem di_seqA {tg : Expr} {as : List ME} {Φ : Tab} (h : DO X c τ τ' e .F fun ρ => (evs Φ as ρ).bind fun ds => match ds with | [d] => some d | _ => none) : DI X c τ τ' tg e fun ρ => (evs Φ as ρ).bind (srcItems .seq) := by
  obtain ⟨wi, p, o⟩ := di_seq (tg := tg) h
  refine ⟨wi, p, fun hs G σ H ρ ds R k e q => o hs G σ H ρ ds R k ?_ q⟩
  obtain ⟨xs, e1, e2⟩ := bind1 e
  show ((evs Φ as ρ).bind _).bind _ = _
  rw [e1]
  cases xs with
  | nil => cases e2
  | cons x r => cases r with
    | nil => exact e2
    | cons _ _ => cases x <;> cases e2
/-- ranges -/
theorem ups_get (lo : Int) : ∀ (n i : Nat), (ups lo n)[i]? = if i < n then some (.int (lo + i)) else none := by
  intro n
  induction n generalizing lo with
  | zero => intro i; simp [ups]
  | succ n ih =>
    intro i
    cases i with
    | zero => simp [ups]
    | succ i =>
      rw [ups, List.getElem?_cons_succ, ih]
      by_cases h : i < n
      · rw [if_pos h, if_pos (by omega)]
        congr 2
        omega
      · rw [if_neg h, if_neg (by omega)]
theorem ups_len (lo : Int) : ∀ n : Nat, (ups lo n).length = n := by
  intro n
  induction n generalizing lo with
  | zero => rfl
  | succ n ih => rw [ups, List.length_cons, ih]
theorem isIt_rng {G1 : Hp} {lo : Int} {n : Nat} : IsIt X c (Itr lo n) G1 (ups lo n) := by
  intro i τ hs G σ H ρ s k
  refine ⟨fun hi => by rw [ups_len] at hi; exact Nat.le_of_eq hi, fun d hd => ?_⟩
  rw [ups_get] at hd
  split at hd
  · cases hd
    refine ⟨by assumption, fun x H' y => ?_⟩
    obtain ⟨rfl, rfl⟩ := y
    exact ⟨G, Same.refl _, Same.refl _, k.pushFlat (d := .int (lo + i)) .F rfl⟩
  · cases hd
theorem di_rng1 {tg : Expr} (n : Bn X "range") (ns : NS a = true) (h : DAr X c τ [a] fs) : DI X c τ τ tg (.Call (.Name "range" p) [a] [] pos) fun ρ => (fs ρ).bind (srcItems .rng1) := by
  obtain ⟨ta, pa, oa⟩ := h
  refine ⟨_, pi_range1 n.gl n.no pa (star_cons ns), fun hs G σ H ρ ds R k e q => ?_⟩
  obtain ⟨xs, e1, e2⟩ := bind1 e
  refine oa hs G σ H ρ xs _ k e1 fun G1 H1 vs k1 g1 h1 z => ?_
  unfold srcItems at e2
  split at e2 <;> first | contradiction | skip
  all_goals first | (rename_i e0; cases e0; done) | skip
  · split at e2
    · rename_i hr
      cases e2
      obtain ⟨v, rfl, h⟩ := z.one
      have e3 := h.int
      subst e3
      exact ⟨_, rfl, by have := hr.1; have := hr.2; omega, by have := hr.1; have := hr.2; omega, q G1 H1 _ k1 g1 h1 isIt_rng⟩
    · cases e2
theorem di_rng2 {tg : Expr} (n : Bn X "range") (na : NS a = true) (nb : NS b = true) (h : DAr X c τ [a, b] fs) : DI X c τ τ tg (.Call (.Name "range" p) [a, b] [] pos) fun ρ => (fs ρ).bind (srcItems .rng2) := by
  obtain ⟨ta, pa, oa⟩ := h
  refine ⟨_, pi_range2 n.gl n.no pa ((star_cons na).trans (by rw [star_cons nb]; rfl)) ((star_cons nb).trans rfl), fun hs G σ H ρ ds R k e q => ?_⟩
  obtain ⟨xs, e1, e2⟩ := bind1 e
  refine oa hs G σ H ρ xs _ k e1 fun G1 H1 vs k1 g1 h1 z => ?_
  unfold srcItems at e2
  split at e2 <;> first | contradiction | skip
  all_goals first | (rename_i e0; cases e0; done) | skip
  · split at e2
    · rename_i hr
      cases e2
      obtain ⟨v, w, rfl, h, h'⟩ := z.two
      have e3 := h.int
      have e4 := h'.int
      subst e3 e4
      obtain ⟨⟨a1, a2⟩, b1, b2⟩ := hr
      exact ⟨_, _, rfl, by omega, q G1 H1 _ k1 g1 h1 isIt_rng⟩
    · cases e2

/-! ### a loop's run over what is walked -/
theorem wipe_alike (σ : L2.St) : ∀ l : List Nat, Alike l σ (wipe σ l)
  | [] => .refl _ _
  | v :: vs => by
    have h := wipe_alike σ vs
    refine ⟨by unfold wipe; rw [List.length_set]; exact h.1, fun i hi => ?_⟩
    unfold wipe
    rw [List.getElem?_set_ne (fun e => hi (by simp [e]))]
    exact h.2 i fun m => hi (List.mem_cons_of_mem _ m)
theorem wipe_in (σ : L2.St) {i : Nat} : ∀ {l : List Nat}, i ∈ l → i < σ.length → (wipe σ l)[i]? = some none
  | v :: vs, m, hl => by
    unfold wipe
    by_cases e : v = i
    · subst e; rw [List.getElem?_set_self (by rw [wipe_length]; exact hl)]
    · rw [List.getElem?_set_ne e]
      rcases List.mem_cons.mp m with h | h
      · exact absurd h.symm e
      · exact wipe_in σ h hl
theorem wipe_of_alike {σ σ' : L2.St} {sl l : List Nat} (h : Alike sl (wipe σ l) σ') (s : ∀ i ∈ sl, i ∈ l) : wipe σ' l = wipe σ l := by
  refine List.ext_getElem? fun i => ?_
  by_cases m : i ∈ l
  · by_cases hl : i < σ.length
    · rw [wipe_in σ m hl, wipe_in σ' m (by rw [h.1, wipe_length]; exact hl)]
    · rw [List.getElem?_eq_none (by rw [wipe_length, h.1, wipe_length]; omega), List.getElem?_eq_none (by rw [wipe_length]; omega)]
  · rw [(wipe_alike σ' l).2 i m, h.2 i fun z => m (s i z)]

/-! ### comprehensions -/
/-- the contexts of a comprehension's block -/
def Blk (X X' : Cx) (scope : Scope) : Prop := ∃ (s : Shared) (H : Hp) (C : Addr) (cl : List (Str × Addr)) (fp : List Addr), X' = X.blk s H scope (compEnvC scope cl C X.env) fp
def DTs (X : Cx) (c : FC) (τ : List Slot) (es : List Expr) (f : Env → Option Bool) : Prop := ∃ tt, PTs X es tt ∧ TsOk X c τ tt f
theorem dts_nil : DTs X c τ [] fun _ => some true := ⟨_, pts_nil, fun hs G σ H ρ b Q k e q => by cases e; exact q G H k (Same.refl _) (Same.refl _)⟩
theorem dts_one {g : Env → Option Bool} (h : DT X c τ a g) : DTs X c τ [a] g := let ⟨tt, p, o⟩ := h; ⟨tt, pts_one p, o⟩
theorem compL_step {bind : D → List D → Option (List D)} {cond : List D → Option Bool} {elt : List D → Option D} {ρ : List D} {x : D} {xs ys : List D} (e : compL bind cond elt ρ (x :: xs) = some ys) :
    ∃ ρ1 b, bind x ρ = some ρ1 ∧ cond ρ1 = some b ∧ ((b = true ∧ ∃ y r, elt ρ1 = some y ∧ compL bind cond elt ρ xs = some r ∧ ys = y :: r) ∨ (b = false ∧ compL bind cond elt ρ xs = some ys)) := by
  obtain ⟨ρ1, e1, e2⟩ := bind1 (show ((bind x ρ).bind fun ρ1 => (cond ρ1).bind fun b => if b then (elt ρ1).bind fun y => (compL bind cond elt ρ xs).map (y :: ·) else compL bind cond elt ρ xs) = some ys from e)
  obtain ⟨b, e2, e3⟩ := bind1 e2
  refine ⟨ρ1, b, e1, e2, ?_⟩
  cases b with
  | false => exact .inr ⟨rfl, e3⟩
  | true =>
    obtain ⟨y, e3, e4⟩ := bind1 e3
    obtain ⟨r, e4, e5⟩ := map1 e4
    exact .inl ⟨rfl, y, r, e3, e4, e5.symm⟩
theorem comp_at {own : List Nat} {tg : Tg} {wi : TI} {g : TG} {tt : TT} {te : TE} {fc : Env → Option Bool} {fe : EF} {τ2 : List Slot} {hs : List Trip} {G H : Hp} {σ : L2.St} {ρ : Env} {xs ys : List D} {Q : VK}
    (ow : ∀ R : It → Hp → Prop, (∀ G' H' J, Ok X.K c τ' hs G' σ H' ρ → Same G G' → Same H H' → IsItC X c J G' H' xs → R J H') → wi σ H R) (og : TgOk X c τ' τ2 .F g tg) (ot : TsOk X c τ2 tt fc) (oe : OwOk X c τ2 τ2 t te fe)
    (hg : ∀ i ∈ own, τ'[i]? = some .gone) (hsl : ∀ i ∈ tg.slots, i ∈ own) (hb : goneAll τ2 own = τ') (hmx : xs.length ≤ mx) (e3 : compL (bindT tg) fc fe ρ xs = some ys)
    (q : ∀ G' H' v, Ok X.K c τ' ((.L t, v, .lst ys) :: hs) G' σ H' ρ → Same G G' → Same H H' → Q v H') : tLc wi g tt te own σ H Q := by
  refine ow _ fun G1 H1 J k1 g1 h1 it => ?_
  intro Da hD
  -- behind i turns: what is made so far, what is left
  refine ⟨fun i m H' => m = xs.length - i ∧ i ≤ xs.length ∧ ∃ G' acc rest, Ok X.K c τ' ((.L t, .ref Da, .lst acc) :: hs) G' σ H' ρ ∧ Same G1 G' ∧ Same H1 H' ∧ acc.length ≤ i ∧ compL (bindT tg) fc fe ρ (xs.drop i) = some rest ∧ ys = acc ++ rest,
    ⟨xs.length, rfl, Nat.zero_le _, G1, [], ys, Ok.alloc (xs := []) k1 hD (fun fp r => by cases r; exact .L (xs := []) upd_same (fun x m => nomatch m) .nil), Same.refl _, same_upd hD, Nat.le_refl _, by rw [List.drop_zero]; exact e3, rfl⟩, ?_⟩
  rintro i m H2 ⟨rfl, hi, G2, acc, rest, k2, g2, h2, hacc, er, ey⟩
  obtain ⟨stop, go⟩ := it i τ' _ G2 σ H2 ρ g2 h2 k2
  by_cases hlt : i < xs.length
  · have hd : xs.drop i = xs[i] :: xs.drop (i + 1) := List.drop_eq_getElem_cons hlt
    obtain ⟨go1, go2⟩ := go xs[i] (by rw [List.getElem?_eq_getElem hlt])
    refine .inr ⟨go1, fun H' => ∃ G' acc' rest', Ok X.K c τ' ((.L t, .ref Da, .lst acc') :: hs) G' σ H' ρ ∧ Same G1 G' ∧ Same H1 H' ∧ acc'.length ≤ i + 1 ∧ compL (bindT tg) fc fe ρ (xs.drop (i + 1)) = some rest' ∧ ys = acc' ++ rest', fun H' p => ⟨xs.length - (i + 1), by omega, rfl, hlt, p⟩, fun x H3 y => ?_⟩
    obtain ⟨G3, g3, h3, k3⟩ := go2 x H3 y
    rw [hd] at er
    obtain ⟨ρ1, b, eb, ec, er⟩ := compL_step er
    have k4 : Ok X.K c τ' ((.F, x, xs[i]) :: (.L t, .ref Da, .lst acc) :: hs) G3 (wipe σ own) H3 ρ := k3.agree (wipe_length _ _) rfl fun j s es ns => by
      refine ⟨(wipe_alike σ own).2 j fun mj => ns ?_, rfl⟩
      have := hg j mj
      rw [es] at this
      exact Option.some.inj this
    refine og _ G3 (wipe σ own) H3 ρ x xs[i] ρ1 _ k4 eb fun σ2 k5 al => ?_
    have alw := wipe_of_alike al hsl
    refine ⟨alw, ot _ G3 σ2 H3 ρ1 b _ k5 ec fun G5 H5 k6 g5 h5 => ?_⟩
    -- back to the block's outside
    have back : ∀ {hs' : List Trip} {G' H' : Hp}, Ok X.K c τ2 hs' G' σ2 H' ρ1 → Ok X.K c τ' hs' G' σ H' ρ := fun {hs' G' H'} k => by
      have k' := k.forgets own
      rw [hb] at k'
      have alr := bindT_alike tg xs[i] ρ ρ1 eb
      have lσ : σ.length = σ2.length := by rw [al.1, wipe_length]
      refine k'.agree lσ alr.1.symm fun j s es ns => ?_
      have nj : j ∉ own := fun mj => ns (by have := hg j mj; rw [es] at this; exact Option.some.inj this)
      refine ⟨?_, (alr.2 j fun z => nj (hsl j z)).symm⟩
      have a1 := (wipe_alike σ own).2 j nj
      have a2 := al.2 j fun z => nj (hsl j z)
      rw [a2, a1]
    cases b with
    | false =>
      rw [if_neg (by decide)]
      rcases er with ⟨z, _⟩ | ⟨_, er⟩
      · cases z
      · exact ⟨G5, acc, rest, back k6, (g2.trans g3).trans g5, (h2.trans h3).trans h5, by omega, er, ey⟩
    | true =>
      rw [if_pos rfl]
      rcases er with ⟨_, y', r', ee, er, ery⟩ | ⟨z, _⟩
      · refine oe _ G5 σ2 H5 ρ1 y' _ k6 ee fun G6 H6 w k7 g6 h6 => ?_
        obtain ⟨vs, ev, el, k8⟩ := k7.append
        have ms := mx_eq
        refine ⟨vs, ev, by omega, G6, acc ++ [y'], r', back k8, ((g2.trans g3).trans g5).trans g6, fun b o eb' => ?_, by rw [List.length_append]; simp; omega, er, by rw [ey, ery]; simp⟩
        have e6 := (((h2.trans h3).trans h5).trans h6) b o eb'
        rw [upd_ne (fun eq => by rw [eq] at eb'; rw [hD] at eb'; cases eb')]
        exact e6
      · cases z
  · have ei : i = xs.length := by omega
    subst ei
    rw [List.drop_length] at er
    cases er
    rw [List.append_nil] at ey
    subst ey
    exact .inl ⟨stop rfl, q G2 H2 _ k2 (g1.trans g2) (h1.trans h2)⟩
theorem comp_run {own : List Nat} {tg : Tg} {wi : TI} {g : TG} {tt : TT} {te : TE} {fsrc : Env → Option (List D)} {fc : Env → Option Bool} {fe : EF} {τ2 : List Slot}
    (ow : WkC X c τ τ' wi fsrc) (og : TgOk X c τ' τ2 .F g tg) (ot : TsOk X c τ2 tt fc) (oe : OwOk X c τ2 τ2 t te fe)
    (hg : ∀ i ∈ own, τ'[i]? = some .gone) (hsl : ∀ i ∈ tg.slots, i ∈ own) (hb : goneAll τ2 own = τ') (hr : 0 ≤ 0) :
    OwOk X c τ τ' (.L t) (tLc wi g tt te own) fun ρ => (fsrc ρ).bind fun xs => if xs.length ≤ mx then (compL (bindT tg) fc fe ρ xs).map .lst else none := by
  intro hs G σ H ρ d Q k e q
  obtain ⟨xs, e1, e2⟩ := bind1 e
  split at e2
  · rename_i hmx
    obtain ⟨ys, e3, rfl⟩ := map1 e2
    exact comp_at (fun R h => ow hs G σ H ρ xs R k e1 h) og ot oe hg hsl hb hmx e3 q
  · cases e2
/-! over a dict's keys, values, pairs -/
theorem isIt_keys {G1 : Hp} {d : Addr} {o : Obj} {kws : List (Key × V)} {kds : List (Key × D)} (h : G1 d = some (.frz o (.dK kws))) (l : FzK X.K G1 kws kds) : IsIt X c (Itk d o kws) G1 (kds.map fun p => keyD p.1) := by
  intro i τ hs G σ H ρ s k
  have r : H d = some (.frz o (.dK kws)) := k.frG _ _ (s _ _ h)
  have hl := l.length
  refine ⟨fun hi => ⟨r, by rw [List.length_map] at hi; omega⟩, fun x hx => ?_⟩
  obtain ⟨p, hp, rfl⟩ := map1 (by rw [List.getElem?_map] at hx; exact hx)
  have hlt : i < kds.length := (List.getElem?_eq_some_iff.mp hp).1
  refine ⟨⟨r, by omega⟩, fun w H' y => ?_⟩
  obtain ⟨rfl, kk, v, e1, rfl⟩ := y
  have e2 := congrArg (fun z => z[i]?) l.keys
  simp only [List.getElem?_map, e1, hp, Option.map_some, Option.some.injEq] at e2
  rw [← e2]
  have e4 : toV (keyD kk) = kV kk := by cases kk <;> rfl
  have e5 : flat (keyD kk) = true := by cases kk <;> rfl
  have := k.pushFlat (d := keyD kk) .F e5
  rw [e4] at this
  exact ⟨G, Same.refl _, Same.refl _, this⟩
theorem isIt_vals {G1 : Hp} {d : Addr} {o : Obj} {kws : List (Key × V)} {kds : List (Key × D)} (h : G1 d = some (.frz o (.dK kws))) (l : FzK X.K G1 kws kds) : IsIt X c (Itd d o kws) G1 (kds.map (·.2)) := by
  intro i τ hs G σ H ρ s k
  have r : H d = some (.frz o (.dK kws)) := k.frG _ _ (s _ _ h)
  have hl := l.length
  refine ⟨fun hi => ⟨r, by rw [List.length_map] at hi; omega⟩, fun x hx => ?_⟩
  obtain ⟨v, hv, z⟩ := l.vals.get hx
  obtain ⟨p, hp, rfl⟩ := map1 (by rw [List.getElem?_map] at hv; exact hv)
  have hlt : i < kws.length := (List.getElem?_eq_some_iff.mp hp).1
  refine ⟨⟨r, hlt⟩, fun w H' y => ?_⟩
  obtain ⟨rfl, kk, e1⟩ := y
  rw [hp] at e1
  cases e1
  exact ⟨G, Same.refl _, Same.refl _, k.push (z.same s)⟩
theorem isIt_items {G1 : Hp} {d : Addr} {o : Obj} {kws : List (Key × V)} {kds : List (Key × D)} (h : G1 d = some (.frz o (.dK kws))) (l : FzK X.K G1 kws kds) : IsIt X c (Iti d o kws) G1 (kds.map fun p => .tup [keyD p.1, p.2]) := by
  intro i τ hs G σ H ρ s k
  have r : H d = some (.frz o (.dK kws)) := k.frG _ _ (s _ _ h)
  have hl := l.length
  refine ⟨fun hi => ⟨r, by rw [List.length_map] at hi; omega⟩, fun x hx => ?_⟩
  obtain ⟨p, hp, rfl⟩ := map1 (by rw [List.getElem?_map] at hx; exact hx)
  obtain ⟨v, hv, z⟩ := l.vals.get (i := i) (d := p.2) (by rw [List.getElem?_map, hp]; rfl)
  obtain ⟨q, hq, rfl⟩ := map1 (by rw [List.getElem?_map] at hv; exact hv)
  have hlt : i < kws.length := (List.getElem?_eq_some_iff.mp hq).1
  refine ⟨⟨r, hlt⟩, fun w H' y => ?_⟩
  obtain ⟨T, kk, v, e1, rfl, hT, rfl⟩ := y
  rw [hq] at e1
  cases e1
  have e2 := congrArg (fun z => z[i]?) l.keys
  simp only [List.getElem?_map, hq, hp, Option.map_some, Option.some.injEq] at e2
  rw [← e2]
  have e4 : toV (keyD kk) = kV kk := by cases kk <;> rfl
  have e5 : flat (keyD kk) = true := by cases kk <;> rfl
  obtain ⟨G', g, k'⟩ := k.newTF (vs := [kV kk, v]) (ds := [keyD kk, p.2]) hT (.cons (by rw [← e4]; exact .flat e5) (.cons (z.same s) .nil))
  exact ⟨G', g, same_upd hT, k'⟩
/-- a locked dict is walked -/
def WkK (X : Cx) (τ : List Slot) (i : Nat) (wi : TI) (src : List (Key × D) → List D) : Prop :=
  ∀ c hs G σ H ρ kds a o kws, Ok X.K c τ hs G σ H ρ → ρ[i]? = some (.dct kds) → σ[i]? = some (some (.ref a)) → G a = some (.frz o (.dK kws)) → FzK X.K G kws kds → ∀ R : It → Hp → Prop, (∀ J, IsIt X c J G (src kds) → R J H) → wi σ H R
def DLk (X : Cx) (τ : List Slot) (tg e : Expr) (f : Env → Option (List D)) : Prop := ∃ wi i src, PI X tg e wi ∧ τ[i]? = some (.own .F) ∧ NoBor τ ∧ WkK X τ i wi src ∧ ∀ ρ ds, f ρ = some ds → ∃ kds, ρ[i]? = some (.dct kds) ∧ ds = src kds
theorem comp_lk {own : List Nat} {tg : Tg} {wi : TI} {g : TG} {tt : TT} {te : TE} {fsrc : Env → Option (List D)} {fc : Env → Option Bool} {fe : EF} {τ2 : List Slot} {i : Nat} {src : List (Key × D) → List D}
    (ow : WkK X τ i wi src) (hf : ∀ ρ ds, fsrc ρ = some ds → ∃ kds, ρ[i]? = some (.dct kds) ∧ ds = src kds) (og : ∀ c, TgOk X c τ τ2 .F g tg) (ot : ∀ c, TsOk X c τ2 tt fc) (oe : ∀ c, OwOk X c τ2 τ2 t te fe)
    (hg : ∀ i ∈ own, τ[i]? = some .gone) (hsl : ∀ i ∈ tg.slots, i ∈ own) (hb : goneAll τ2 own = τ) :
    LkOk X τ i (.L t) (tLc wi g tt te own) fun ρ => (fsrc ρ).bind fun xs => if xs.length ≤ mx then (compL (bindT tg) fc fe ρ xs).map .lst else none := by
  intro c hs G σ H ρ k ⟨kds, a, o, kws, e1, e2, e3, e4⟩ d Q e q
  obtain ⟨xs, e5, e6⟩ := bind1 e
  obtain ⟨kds', e7, rfl⟩ := hf ρ xs e5
  rw [e1] at e7
  cases e7
  split at e6
  · rename_i hmx
    obtain ⟨ys, e8, rfl⟩ := map1 e6
    exact comp_at (fun R h => ow c hs G σ H ρ kds a o kws k e1 e2 e3 e4 R fun J it => h G H J k (Same.refl _) (Same.refl _) it.toC) (og c) (ot c) (oe c) hg hsl hb hmx e8 q
  · cases e6
/-- for k in d, for k in d.values(), for k in d.items() -/
theorem wk_keys {i : Nat} : WkK X τ i (iKeys (tVar i)) fun kds => kds.map fun p => keyD p.1 :=
  fun c hs G σ H ρ kds a o kws k e1 e2 e3 e4 R h => ⟨_, e2, a, o, rfl, .inl ⟨kws, k.frG _ _ e3, h _ (isIt_keys e3 e4)⟩⟩
theorem wk_vals {i : Nat} : WkK X τ i (iVals (tVar i)) fun kds => kds.map (·.2) :=
  fun c hs G σ H ρ kds a o kws k e1 e2 e3 e4 R h => ⟨_, e2, a, o, kws, rfl, k.frG _ _ e3, h _ (isIt_vals e3 e4)⟩
theorem wk_items {i : Nat} : WkK X τ i (iItems (tVar i)) fun kds => kds.map fun p => .tup [keyD p.1, p.2] :=
  fun c hs G σ H ρ kds a o kws k e1 e2 e3 e4 R h => ⟨_, e2, a, o, kws, rfl, k.frG _ _ e3, h _ (isIt_items e3 e4)⟩

/-- one reading for all contexts -/
theorem DO.uni {𝒳 : Cx → Prop} (hK : ∀ X', 𝒳 X' → X'.K = X.K) (h : ∀ X', 𝒳 X' → DO X' c τ τ' e t f) : ∃ te, (∀ X', 𝒳 X' → PE X' e te) ∧ OwOk X c τ τ' t te f :=
  ⟨fun σ H Q => ∀ X', 𝒳 X' → ∃ te, PE X' e te ∧ te σ H Q, fun X' m => ⟨fun pins s σ H Q I w => let ⟨te, p, q⟩ := w X' m; p.run pins s σ H Q I q⟩,
    fun hs G σ H ρ d Q k hf q X' m => let ⟨te, p, o⟩ := h X' m; ⟨te, p, o hs G σ H ρ d Q (by rw [hK X' m]; exact k) hf fun G' H' v k' => q G' H' v (by rw [← hK X' m]; exact k')⟩⟩
theorem DG.uni {𝒳 : Cx → Prop} {tg : Tg} (hK : ∀ X', 𝒳 X' → X'.K = X.K) (h : ∀ X', 𝒳 X' → DG X' c τ τ' e t tg) : ∃ g, (∀ X', 𝒳 X' → PG X' e g) ∧ TgOk X c τ τ' t g tg :=
  ⟨fun v σ H Q => ∀ X', 𝒳 X' → ∃ g, PG X' e g ∧ g v σ H Q, fun X' m => ⟨fun pins s σ H v u Q I r w => let ⟨g, p, q⟩ := w X' m; p.run pins s σ H v u Q I r q⟩,
    fun hs G σ H ρ v d ρ' Q k hf q X' m => let ⟨g, p, o⟩ := h X' m; ⟨g, p, o hs G σ H ρ v d ρ' Q (by rw [hK X' m]; exact k) hf fun σ' k' => q σ' (by rw [← hK X' m]; exact k')⟩⟩
theorem DTs.uni {𝒳 : Cx → Prop} {g : Env → Option Bool} (hK : ∀ X', 𝒳 X' → X'.K = X.K) (h : ∀ X', 𝒳 X' → DTs X' c τ es g) : ∃ tt, (∀ X', 𝒳 X' → PTs X' es tt) ∧ TsOk X c τ tt g :=
  ⟨fun σ H Q => ∀ X', 𝒳 X' → ∃ tt, PTs X' es tt ∧ tt σ H Q, fun X' m => ⟨fun pins s σ H Q I w => let ⟨tt, p, q⟩ := w X' m; p.run pins s σ H Q I q⟩,
    fun hs G σ H ρ b Q k hf q X' m => let ⟨tt, p, o⟩ := h X' m; ⟨tt, p, o hs G σ H ρ b Q (by rw [hK X' m]; exact k) hf fun G' H' k' => q G' H' (by rw [← hK X' m]; exact k')⟩⟩
theorem DO.uniA {𝒳 : Cx → Prop} (hK : ∀ X', 𝒳 X' → X'.K = X.K) (h : ∀ c X', 𝒳 X' → DO X' c τ τ' e t f) : ∃ te, (∀ X', 𝒳 X' → PE X' e te) ∧ ∀ c, OwOk X c τ τ' t te f :=
  ⟨fun σ H Q => ∀ X', 𝒳 X' → ∃ te, PE X' e te ∧ te σ H Q, fun X' m => ⟨fun pins s σ H Q I w => let ⟨te, p, q⟩ := w X' m; p.run pins s σ H Q I q⟩,
    fun c hs G σ H ρ d Q k hf q X' m => let ⟨te, p, o⟩ := h c X' m; ⟨te, p, o hs G σ H ρ d Q (by rw [hK X' m]; exact k) hf fun G' H' v k' => q G' H' v (by rw [← hK X' m]; exact k')⟩⟩
theorem DG.uniA {𝒳 : Cx → Prop} {tg : Tg} (hK : ∀ X', 𝒳 X' → X'.K = X.K) (h : ∀ c X', 𝒳 X' → DG X' c τ τ' e t tg) : ∃ g, (∀ X', 𝒳 X' → PG X' e g) ∧ ∀ c, TgOk X c τ τ' t g tg :=
  ⟨fun v σ H Q => ∀ X', 𝒳 X' → ∃ g, PG X' e g ∧ g v σ H Q, fun X' m => ⟨fun pins s σ H v u Q I r w => let ⟨g, p, q⟩ := w X' m; p.run pins s σ H v u Q I r q⟩,
    fun c hs G σ H ρ v d ρ' Q k hf q X' m => let ⟨g, p, o⟩ := h c X' m; ⟨g, p, o hs G σ H ρ v d ρ' Q (by rw [hK X' m]; exact k) hf fun σ' k' => q σ' (by rw [← hK X' m]; exact k')⟩⟩
theorem DTs.uniA {𝒳 : Cx → Prop} {g : Env → Option Bool} (hK : ∀ X', 𝒳 X' → X'.K = X.K) (h : ∀ c X', 𝒳 X' → DTs X' c τ es g) : ∃ tt, (∀ X', 𝒳 X' → PTs X' es tt) ∧ ∀ c, TsOk X c τ tt g :=
  ⟨fun σ H Q => ∀ X', 𝒳 X' → ∃ tt, PTs X' es tt ∧ tt σ H Q, fun X' m => ⟨fun pins s σ H Q I w => let ⟨tt, p, q⟩ := w X' m; p.run pins s σ H Q I q⟩,
    fun c hs G σ H ρ b Q k hf q X' m => let ⟨tt, p, o⟩ := h c X' m; ⟨tt, p, o hs G σ H ρ b Q (by rw [hK X' m]; exact k) hf fun G' H' k' => q G' H' (by rw [← hK X' m]; exact k')⟩⟩
theorem blk_K {X' : Cx} {scope : Scope} (h : Blk X X' scope) : X'.K = X.K := by
  obtain ⟨s, H, C, cl, fp, rfl⟩ := h
  rfl
/-- a list comprehension -/
theorem do_comp {elt tgE iter : Expr} {ifs : List Expr} {scope : Scope} {own : List (Str × Nat)} {tg : Tg} {fsrc : Env → Option (List D)} {fc : Env → Option Bool} {fe : EF} {τ2 : List Slot} (hc : X.calm = true) (hN : X.N.Nodup) (ok : BlkOk X.N X.env.scope scope own)
    (hi : DIC X c τ τ' tgE iter fsrc ∨ (τ' = τ ∧ DLk X τ tgE iter fsrc)) (hgt : ∀ c X', Blk X X' scope → DG X' c τ' τ2 tgE .F tg) (ht : ∀ c X', Blk X X' scope → DTs X' c τ2 ifs fc) (he : ∀ c X', Blk X X' scope → DO X' c τ2 τ2 elt t fe)
    (hg : ∀ i ∈ own.map (·.2), τ'[i]? = some .gone) (hsl : ∀ i ∈ tg.slots, i ∈ own.map (·.2)) (hb : goneAll τ2 (own.map (·.2)) = τ') (hs : ∀ x, foldedSetIterable iter X.env x = pure x) :
    DO X c τ τ' (.ListComp elt [⟨tgE, iter, ifs, 0⟩] scope pos) (.L t) fun ρ => (fsrc ρ).bind fun xs => if xs.length ≤ mx then (compL (bindT tg) fc fe ρ xs).map .lst else none := by
  obtain ⟨g, pg, og⟩ := DG.uniA (fun X' h => blk_K h) hgt
  obtain ⟨tt, pt, ot⟩ := DTs.uniA (fun X' h => blk_K h) ht
  obtain ⟨te, pe, oe⟩ := DO.uniA (fun X' h => blk_K h) he
  rcases hi with ⟨wi, pw, ow⟩ | ⟨rfl, wi, i, src, pw, hi, nb, ow, hf⟩
  · exact ⟨_, pe_lc hc hN pw ok (fun s H C cl fp => pg _ ⟨s, H, C, cl, fp, rfl⟩) (fun s H C cl fp => pt _ ⟨s, H, C, cl, fp, rfl⟩) (fun s H C cl fp => pe _ ⟨s, H, C, cl, fp, rfl⟩) hs,
      comp_run ow (og c) (ot c) (oe c) hg hsl hb (Nat.le_refl _)⟩
  · exact ⟨_, pe_lk (pe_lc hc hN pw ok (fun s H C cl fp => pg _ ⟨s, H, C, cl, fp, rfl⟩) (fun s H C cl fp => pt _ ⟨s, H, C, cl, fp, rfl⟩) (fun s H C cl fp => pe _ ⟨s, H, C, cl, fp, rfl⟩) hs),
      lockE (comp_lk ow hf og ot oe hg hsl hb) hi nb fun ρ d e => let ⟨xs, e1, _⟩ := bind1 e; let ⟨kds, e2, _⟩ := hf ρ xs e1; ⟨kds, e2⟩⟩
end
end My

set_option Elab.async false
set_option linter.all false
set_option maxRecDepth 100000
set_option maxHeartbeats 1000000
/-! What is walked: enumerate of a tuple, zip of a text with a list or a tuple. -/
namespace PySem
theorem meets_enumerate_new1 {v : Value} {o : Obj} {H : Heap → Prop} (B : Begins v o H) :
    Meets (Builtin.«enumerate.__new__» ⟨[.type "enumerate", v], []⟩) (fun _ R s => H s.heap ∧
      R (.ok (.ret (.ref (s.heap.push o).objs.size))) { s with heap := (s.heap.push o).push { cls := .type "enumerate", data := .fields #[.none, .bool false, .ref s.heap.objs.size, rawInt 0, .none, .none] } }) :=
  .of_wp fun prog w A R s h => by
    obtain ⟨hp, g, d, tk, os⟩ := s; obtain ⟨h1, h⟩ := h
    have hsub := sub_enumerate
    have q1 : ∀ {A' : Around} {E : Value → Shared → Prop} {Q : Value → Shared → Prop}, Q (.ref hp.objs.size) ⟨hp.push o, g, d, tk, os⟩ → wpAny (model prog w) A' (pyIter v) Q E ⟨hp, g, d, tk, os⟩ :=
      fun q => B.iter prog w _ _ ⟨hp, g, d, tk, os⟩ _ h1 q
    wp_walk using q1
    refine wpAny_stack_any fun st => wpAny_pure ?_
    split
    · rename_i c _ _ _ _ _
      cases (c == Value.type "enumerate")
      · wp_walk using q1
        exact ⟨_, rfl, h⟩
      · wp_walk using q1
        exact ⟨_, rfl, h⟩
    · wp_walk using q1
      exact ⟨_, rfl, h⟩
theorem enum_begins1 {prog : Program} {w : World} {A : Around} {E : Value → Shared → Prop} {s : Shared} {v : Value} {o : Obj} {H : Heap → Prop} {Q : Value → Shared → Prop} (B : Begins v o H) (h1 : H s.heap)
    (h : ∀ h', IsEnum h' (s.heap.objs.size + 1) s.heap.objs.size 0 .none → h'.get? s.heap.objs.size = some o → h'.objs.size = s.heap.objs.size + 2 →
      (∀ b o, s.heap.get? b = some o → h'.get? b = some o) → Q (.ref (s.heap.objs.size + 1)) { s with heap := h' }) :
    wpAny (model prog w) A (call (.type "enumerate") [v]) Q E s := by
  refine callType_new F.called_enumerate (by decide) (F.typeCall_enumerate_1 _) (F.newCall_enumerate_1 _) (fun obj => F.args_object_init_2 obj _) F.entry_enumerate_new
    (meets_enumerate_new1 B) ⟨h1, ?_⟩
  have hz : (s.heap.push o).objs.size = s.heap.objs.size + 1 := Heap.size_push ..
  show _ ∧ _
  rw [hz]
  have he : IsEnum ((s.heap.push o).push { cls := .type "enumerate", data := .fields #[.none, .bool false, .ref s.heap.objs.size, rawInt 0, .none, .none] }) (s.heap.objs.size + 1) s.heap.objs.size 0 .none := by
    have := Heap.get?_push_size (s.heap.push o) (o := { cls := .type "enumerate", data := .fields #[.none, .bool false, .ref s.heap.objs.size, rawInt 0, .none, .none] }) rfl
    rw [hz] at this; exact this
  refine ⟨⟨_, he, rfl⟩, h _ he (Heap.get?_push_of_some _ (Heap.get?_push_size _ B.free)) (by rw [Heap.size_push, hz]) fun b o x => Heap.get?_push_of_some _ (Heap.get?_push_of_some _ x)⟩
end PySem
namespace My
open PySem PySem.Spec PyProof.Rows L2
def IteT (K : PySem.W.Frag) (a : Addr) : It :=
  ⟨fun i H => ∃ (xs : List V) (x : V), SqT K H a xs ∧ xs[i]? = some x, fun i H v H' => ∃ T x, v = .ref T ∧ H T = none ∧ H' = upd H T (.tup [.int (i : Nat), x]) ∧ ∀ xs, SqT K H a xs → xs[i]? = some x, fun i H => ∃ xs : List V, SqT K H a xs ∧ xs.length ≤ i⟩
theorem turn_enumT {P : Program} {w : World} {K : PySem.W.Frag} {elts : List Expr} {kk : Nat} {tpos : Pos} (a e it : Addr) :
    Turn P w K (.Tuple elts kk tpos) (IteT K a) [e, it] e (fun i h => (∃ old, IsEnum h e it ((i : Nat) : Int) old) ∧ h.IsTupleIter it a i ∧ e ≠ it ∧ a ≠ it ∧ e ≠ a) where
  mem := by simp
  obj := fun i h st b hb => by
    obtain ⟨⟨old, he⟩, ⟨o, ho, hc, hd⟩, _⟩ := st
    have e' : b = e ∨ b = it := by simpa using hb
    rcases e' with z | z
    · rw [z]; exact ⟨_, he, fun v q => nomatch q⟩
    · rw [z]; exact ⟨o, ho, fun v q => by rw [hd] at q; cases q⟩
  keep := fun i h h' st k => let ⟨⟨old, he⟩, hi, hne⟩ := st; ⟨⟨old, k e (by simp) _ he⟩, hi.at fun o q => k it (by simp) o q, hne⟩
  item := by
    intro X hP hw hK hc i pins s σ H E I hf st hg
    subst hP hw hK
    obtain ⟨⟨old, he⟩, hit, hne, hai, hea⟩ := st
    obtain ⟨xs, x, hq, hx⟩ := hg
    obtain ⟨its, rv, p, hz⟩ := I.tuple hq
    obtain ⟨u, hu, ru⟩ := rv.get hx
    have hel : e < s.heap.objs.size := Heap.lt_size he
    have hil : it < s.heap.objs.size := by obtain ⟨_, q, _⟩ := hit; exact Heap.lt_size q
    have hlt : i < its.toArray.size := by
      have := (List.getElem?_eq_some_iff.mp hu).1
      simpa using this
    refine wpAny_pyNext_enum_itemD (Draws.tuple (show X.A.in1.handled = none from I.ok.hd hc) it a hai its.toArray) he ⟨hit, p⟩ hlt hne (by simp [hne, hea]) fun x' h' tk hxx ho hst' hT hsz hk => ?_
    have ex : x' = u := by
      have h1 : its[i]? = some x' := by simpa using hxx
      rw [hu] at h1; exact (Option.some.inj h1).symm
    subst ex
    refine ⟨_, rfl, wpAny_letOwnedTupleGo_enum (s := { s with heap := h', toks := tk + 1 }) ho fun h'' he' sb => ?_⟩
    have hT2 : h''.get? s.heap.objs.size = some { cls := .type "tuple", data := .seq #[.int i tk, x'] } := (sb.2 _ (Nat.ne_of_gt hel)).trans hT
    have new : ObjOk X.prog X.w (upd H s.heap.objs.size (.tup [.int (i : Nat), x])) h'' s.heap.objs.size (.tup [.int (i : Nat), x]) :=
      ⟨by show 2 ≤ sizeLine; decide, [.int i tk, x'], .cons ⟨_, rfl⟩ (.cons ru .nil), ⟨_, hT2, rfl, _, rfl⟩⟩
    have I1 : Inv X pins σ (upd H s.heap.objs.size (.tup [.int (i : Nat), x])) { s with heap := h'', toks := tk + 1 } :=
      I.turnedNew (ch := [e, it]) (fun b ob hb q => (sb.2 b (fun z => hb (by simp [z]))).trans (hk b ob (fun z => hb (by simp [z])) (fun z => hb (by simp [z])) q)) hf (Nat.le_refl _) new
    refine ⟨.ref s.heap.objs.size, _, I1, rfl, ⟨_, x, rfl, I.hok.fresh (Nat.le_refl _), rfl, fun ys hy => by rw [I.tuple_inj hy hq]; exact hx⟩, ⟨⟨x', ?_⟩, hst'.1.at fun o q => (sb.2 it (Ne.symm hne)).trans q, hne, hai, hea⟩, fun b hb => ?_⟩
    · have e1 : ((i + 1 : Nat) : Int) = (i : Int) + 1 := by omega
      rw [e1]; exact he'
    · have hb' : b < s.heap.objs.size := by
        have e' : b = e ∨ b = it := by simpa using hb
        rcases e' with z | z
        · rw [z]; exact hel
        · rw [z]; exact hil
      rw [upd_ne (Nat.ne_of_lt hb')]
      exact (hf b hb).1
  done := by
    intro X hP hw hK hc i pins s σ H E I hf st hg
    subst hP hw hK
    obtain ⟨⟨old, he⟩, hit, hne, hai, hea⟩ := st
    obtain ⟨xs, hq, hx⟩ := hg
    obtain ⟨its, rv, p, hz⟩ := I.tuple hq
    obtain ⟨f0, f1, f2, f3, f4, f5⟩ := hf it (by simp)
    have hl := rv.length
    have hsz : its.toArray.size ≤ i := by rw [List.size_toArray]; omega
    have hh := I.ok.hd hc
    have hT : s.TypeIs (.ref e) "enumerate" := ⟨_, he, rfl⟩
    unfold pyNext
    refine wpAny_bind (wpAny_attempt (wpAny_callSpecial?_slot (name := Str.ofString "__next__") hT PySem.F.slot_enumerate_next
      (wpAny_call_entry PySem.F.slot_enumerate_next hT PySem.F.entry_enumerate_next ?_ (PySem.F.args_enumerate_next_1 _))))
    show wpAny _ _ (field (.ref e) 2 >>= _) _ _ _
    refine wpAny_bind (wpAny_field he rfl (x := .ref it) rfl ?_)
    refine wpAny_bind (wpAny_nextOf_tuple_end hh hit (show s.heap.IsTuple a its.toArray from p) (by simp; omega) fun h' x he' hx' => ?_)
    obtain ⟨o, ho, hc⟩ := hx'
    refine wpAny_bind (wpAny_isInstance (T := "StopIteration") (b := true) ⟨o, ho, hc⟩ isSubtype_stop ?_)
    exact wpAny_pure ⟨rfl, I.turned (t' := s.toks) (fun b o hb q => he' b o hb q) f0 f1 f3 f4 f5⟩
  self := fun A i s Q E st h => let ⟨⟨_, he⟩, _⟩ := st; wpAny_pyIter_enum he h
def iEnumA (K : PySem.W.Frag) (ta : TA) : TI := fun σ H R => ta σ H fun vs H1 => ∃ a xs, vs = [.ref a] ∧ ((SqL K H1 a xs ∧ R (Ite K a) H1) ∨ (SqT K H1 a xs ∧ R (IteT K a) H1))
theorem pi_enumA {X : Cx} {e : Expr} {ta : TA} {p pos tpos : Pos} {elts : List Expr} {kk : Nat} (hg : Gl X "enumerate") (hm : X.mg "enumerate" = none) (ha : PA X [e] ta) (hs : starEach [e] X.env = [(false, eval e X.env)] := by rfl) :
    PI X (.Tuple elts kk tpos) (.Call (.Name "enumerate" p) [e] [] pos) (iEnumA X.K ta) := by
  refine ⟨fun pins s σ H R I h => ?_⟩
  refine Call_ (ld_blt I hg hm boot_enumerate (PyProof.Rows.callWith_type1 (thn (ha.run pos pins s σ H _ I h) fun us s1 ⟨vs, H1, I1, r1, q1⟩ => ?_) hs rfl))
  obtain ⟨a, xs, ex, q⟩ := q1
  subst ex
  cases r1 with
  | cons r rr =>
    cases rr
    cases r
    have fr : ∀ b, b ∈ [s1.heap.objs.size + 1, s1.heap.objs.size] → FpOk X pins H1 b := fun b hb => by
      have e' : b = s1.heap.objs.size + 1 ∨ b = s1.heap.objs.size := by simpa using hb
      have hle : s1.heap.objs.size ≤ b := by
        rcases e' with z | z
        · rw [z]; exact Nat.le_add_right _ _
        · rw [z]; exact Nat.le_refl _
      exact I1.fpOk hle (I1.hok.fresh hle)
    rcases q with ⟨hq, q⟩ | ⟨hq, q⟩
    · obtain ⟨its, rv, p', hz⟩ := I1.list hq
      refine call_enumerate_list p'.isList fun h' he hit hsz hk => wpAny_pyIter_enum he ?_
      have I2 : Inv X pins σ H1 { s1 with heap := h' } := I1.kept (t' := s1.toks) hk
      exact ⟨s1.heap.objs.size + 1, [s1.heap.objs.size + 1, s1.heap.objs.size], _, _, H1, rfl, I2, turn_enum a (s1.heap.objs.size + 1) s1.heap.objs.size, ⟨⟨.none, he⟩, hit, Nat.succ_ne_self _⟩, fr, q⟩
    · obtain ⟨its, rv, p', hz⟩ := I1.tuple hq
      obtain ⟨o', ho', _⟩ := id p'
      have hlt := Heap.lt_size ho'
      refine enum_begins1 (begins_tuple a its.toArray) (show s1.heap.IsTuple a its.toArray from p') fun h' he hit hsz hk => wpAny_pyIter_enum he ?_
      have I2 : Inv X pins σ H1 { s1 with heap := h' } := I1.kept (t' := s1.toks) hk
      exact ⟨s1.heap.objs.size + 1, [s1.heap.objs.size + 1, s1.heap.objs.size], _, _, H1, rfl, I2, turn_enumT a (s1.heap.objs.size + 1) s1.heap.objs.size, ⟨⟨.none, he⟩, ⟨_, hit, rfl, rfl⟩, Nat.succ_ne_self _, Nat.ne_of_lt hlt, Nat.ne_of_gt (Nat.lt_succ_of_lt hlt)⟩, fr, q⟩

/-! ### zip of a text with a list or a tuple -/
def ItzS (SQ : Hp → List V → Prop) (z : Str) : It :=
  ⟨fun i H => ∃ (ys : List V) (c : Nat) (y : V), SQ H ys ∧ z.cps[i]? = some c ∧ ys[i]? = some y,
    fun i H v H' => ∃ T c y, v = .ref T ∧ H T = none ∧ H' = upd H T (.tup [.str ⟨#[c]⟩, y]) ∧ z.cps[i]? = some c ∧ ∀ ys, SQ H ys → ys[i]? = some y,
    fun i H => ∃ ys : List V, SQ H ys ∧ i ≤ z.cps.size ∧ i ≤ ys.length ∧ (i = z.cps.size ∨ i = ys.length)⟩
theorem turn_zipS {P : Program} {w : World} {K : PySem.W.Frag} {elts : List Expr} {kk : Nat} {tpos : Pos} {x : Str} {t : Tok} {z TI TO i1 i2 : Addr} {fp2 : List Addr} {SQ : Hp → List V → Prop} {IT : Nat → Heap → Prop} {SQH : Heap → Array Value → Prop}
    (S : ZipSep2 z TI TO i1 i2 [i1] fp2)
    (hIT : ∀ i h, IT i h → ∃ o, h.get? i2 = some o ∧ ∀ v, o.data ≠ .cell v) (hKeep : ∀ i h h', IT i h → (∀ o, h.get? i2 = some o → h'.get? i2 = some o) → IT i h')
    (hSq : ∀ {X : Cx} {pins : List (Addr × Obj)} {σ : L2.St} {H : Hp} {s : Shared} {ys : List V}, X.K = K → Inv X pins σ H s → SQ H ys → ∃ its, Vals ys its ∧ SQH s.heap its.toArray)
    (hInj : ∀ {X : Cx} {pins : List (Addr × Obj)} {σ : L2.St} {H : Hp} {s : Shared} {ys zs : List V}, X.K = K → Inv X pins σ H s → SQ H ys → SQ H zs → ys = zs)
    (hD : ∀ (A : Around) (items : Array Value), A.handled = none → Draws P w A i2 fp2 items.size (fun i v => items[i]? = some v) (fun i h => IT i h ∧ SQH h items)) :
    Turn P w K (.Tuple elts kk tpos) (ItzS SQ x) [z, TI, TO, i1, i2] z (fun i h => IsZip h z TI TO .none ∧ IsTupOf2 h TI (.ref i1) (.ref i2) ∧ (∃ a1 a2, IsTupOf2 h TO a1 a2) ∧ h.IsStrIter i1 (strIterType x) x t i ∧ IT i h) where
  mem := by simp
  obj := fun i h st c hc => by
    obtain ⟨hz, hTI, ⟨a1, a2, hTO⟩, ⟨o1, e1, _, d1⟩, h2⟩ := st
    have e' : c = z ∨ c = TI ∨ c = TO ∨ c = i1 ∨ c = i2 := by simpa using hc
    rcases e' with q | q | q | q | q
    · rw [q]; exact ⟨_, hz, fun v q => nomatch q⟩
    · rw [q]; exact ⟨_, hTI, fun v q => nomatch q⟩
    · rw [q]; exact ⟨_, hTO, fun v q => nomatch q⟩
    · rw [q]; exact ⟨o1, e1, fun v q => by rw [d1] at q; cases q⟩
    · rw [q]; obtain ⟨o, ho, hn⟩ := hIT _ _ h2; exact ⟨o, ho, hn⟩
  keep := fun i h h' st k => by
    obtain ⟨hz, hTI, ⟨a1, a2, hTO⟩, h1, h2⟩ := st
    exact ⟨k z (by simp) _ hz, k TI (by simp) _ hTI, ⟨a1, a2, k TO (by simp) _ hTO⟩, (let ⟨o, ho, r⟩ := h1; ⟨o, k i1 (by simp) o ho, r⟩), hKeep _ _ _ h2 fun o q => k i2 (by simp) o q⟩
  item := by
    intro X hP hw hK hc i pins s σ H E I hf st hg
    subst hP hw
    obtain ⟨hz, hTI, ⟨a1, a2, hTO⟩, h1, h2⟩ := st
    obtain ⟨ys, c, y, hqy, hx, hy⟩ := hg
    obtain ⟨its2, rv2, p2⟩ := hSq hK I hqy
    obtain ⟨u2, hu2, ru2⟩ := rv2.get hy
    have hzl : z < s.heap.objs.size := Heap.lt_size hz
    have hh : X.A.in1.handled = none := I.ok.hd hc
    have hi1 : i < x.cps.size := (Array.getElem?_eq_some_iff.mp hx).1
    have hi2 : i < its2.toArray.size := by
      have := (List.getElem?_eq_some_iff.mp hu2).1
      simpa using this
    refine wpAny_pyNext_zipD2_item S (Draws.text hh i1 x t) (hD _ its2.toArray hh) hz hTI hTO h1 ⟨h2, p2⟩ hi1 hi2 fun x1 x2 h' tk hx1 hx2 z' TO' h1' h2' hT hsz hk => ?_
    obtain ⟨c', u, hc', rfl⟩ := hx1
    rw [hx] at hc'
    cases hc'
    have ex : x2 = u2 := by
      have h1 : its2[i]? = some x2 := by simpa using hx2
      rw [hu2] at h1; exact (Option.some.inj h1).symm
    subst ex
    refine ⟨_, rfl, wpAny_letOwnedTupleGo_zip (s := { s with heap := h', toks := tk }) z' fun h'' z'' sb => ?_⟩
    have hT2 : h''.get? s.heap.objs.size = some { cls := .type "tuple", data := .seq #[.str ⟨#[c]⟩ u, x2] } := (sb.2 _ (Nat.ne_of_gt hzl)).trans hT
    have new : ObjOk X.prog X.w (upd H s.heap.objs.size (.tup [.str ⟨#[c]⟩, y])) h'' s.heap.objs.size (.tup [.str ⟨#[c]⟩, y]) :=
      ⟨by show 2 ≤ sizeLine; decide, [.str ⟨#[c]⟩ u, x2], .cons ⟨_, rfl⟩ (.cons ru2 .nil), ⟨_, hT2, rfl, _, rfl⟩⟩
    have I1 : Inv X pins σ (upd H s.heap.objs.size (.tup [.str ⟨#[c]⟩, y])) { s with heap := h'', toks := tk } :=
      I.turnedNew (t' := tk) (ch := [z, TI, TO, i1, i2]) (fun c o hb q => (sb.2 c (fun q' => hb (by simp [q']))).trans (hk c o (fun q' => hb (by simp [q'])) (fun q' => hb (by simp [q'])) (fun q' => hb (by simp [q'])) (fun q' => hb (by simp [q'])) q)) hf (Nat.le_refl _) new
    refine ⟨.ref s.heap.objs.size, _, I1, rfl, ⟨_, c, y, rfl, I.hok.fresh (Nat.le_refl _), rfl, hx, fun l hl => by rw [hInj hK I hl hqy]; exact hy⟩, ⟨z'', ?_, ⟨.str ⟨#[c]⟩ u, x2, ?_⟩, ?_, ?_⟩, fun c hcm => ?_⟩
    · exact (sb.2 _ S.TIz).trans (hk _ _ S.TIz S.TITO S.TIi1 S.TIi2 hTI)
    · exact (sb.2 _ S.TOz).trans TO'
    · obtain ⟨o, ho, r⟩ := h1'
      exact ⟨o, (sb.2 _ (Ne.symm S.zi1)).trans ho, r⟩
    · exact hKeep _ _ _ h2'.1 fun o q => (sb.2 _ (Ne.symm S.zi2)).trans q
    · have hlt : c < s.heap.objs.size := by
        have e' : c = z ∨ c = TI ∨ c = TO ∨ c = i1 ∨ c = i2 := by simpa using hcm
        rcases e' with q | q | q | q | q
        · rw [q]; exact hzl
        · rw [q]; exact Heap.lt_size hTI
        · rw [q]; exact Heap.lt_size hTO
        · rw [q]; obtain ⟨_, e1, _⟩ := h1; exact Heap.lt_size e1
        · rw [q]; obtain ⟨_, e2, _⟩ := hIT _ _ h2; exact Heap.lt_size e2
      rw [upd_ne (Nat.ne_of_lt hlt)]
      exact (hf c hcm).1
  done := by
    intro X hP hw hK hc i pins s σ H E I hf st hg
    subst hP hw
    obtain ⟨hz, hTI, ⟨a1, a2, hTO⟩, h1, h2⟩ := st
    obtain ⟨ys, hqy, l1, l2, hend⟩ := hg
    obtain ⟨its2, rv2, p2⟩ := hSq hK I hqy
    have hl2 := rv2.length
    have hh : X.A.in1.handled = none := I.ok.hd hc
    have hs2 : its2.toArray.size = ys.length := by rw [List.size_toArray]; exact hl2.symm
    exact wpAny_pyNext_zipD2_end S (Draws.text hh i1 x t) (hD _ its2.toArray hh) hz hTI hTO h1 ⟨h2, p2⟩ l1 (by omega) (by omega) fun h' tk hk => ⟨rfl, I.turnedL (t' := tk) (ch := [z, TI, TO, i1, i2]) (fun c o hb q =>
      hk c o (fun q' => hb (by simp [q'])) (fun q' => hb (by simp [q'])) (fun q' => hb (by simp [q'])) (fun q' => hb (by simp [q'])) q) hf⟩
  self := fun A i s Q E st h => wpAny_pyIter_zip st.1 h
def iZipS (K : PySem.W.Frag) (ta : TA) : TI := fun σ H R => ta σ H fun vs H1 => ∃ z b, vs = [.str z, .ref b] ∧ (((∃ ys, SqL K H1 b ys) ∧ R (ItzS (fun H ys => SqL K H b ys) z) H1) ∨ ((∃ ys, SqT K H1 b ys) ∧ R (ItzS (fun H ys => SqT K H b ys) z) H1))
theorem pi_zipS {X : Cx} {e e2 : Expr} {ta : TA} {p pos tpos : Pos} {elts : List Expr} {kk : Nat} (hg : Gl X "zip") (hm : X.mg "zip" = none) (ha : PA X [e, e2] ta)
    (hs : starEach [e, e2] X.env = (false, eval e X.env) :: starEach [e2] X.env) (hpl : (backTo pos (starEach [e2] X.env)).any (·.1) = false) :
    PI X (.Tuple elts kk tpos) (.Call (.Name "zip" p) [e, e2] [] pos) (iZipS X.K ta) := by
  refine ⟨fun pins s σ H R I h => ?_⟩
  refine Call_ (ld_blt I hg hm PyProof.Rows.boot_zip (PyProof.Rows.callWith_type1 (thn (ha.run pos pins s σ H _ I h) fun us s1 ⟨vs, H1, I1, r1, q1⟩ => ?_) hs hpl))
  obtain ⟨x, b, ex, q1⟩ := q1
  subst ex
  cases r1 with
  | cons r rr =>
    cases rr with
    | cons r' rr =>
      cases rr
      obtain ⟨t, rfl⟩ := r
      cases r'
      have fresh5 : ∀ c, c ∈ [s1.heap.objs.size + 4, s1.heap.objs.size + 2, s1.heap.objs.size + 3, s1.heap.objs.size, s1.heap.objs.size + 1] → FpOk X pins H1 c := fun c hcm => by
        have e' : c = s1.heap.objs.size + 4 ∨ c = s1.heap.objs.size + 2 ∨ c = s1.heap.objs.size + 3 ∨ c = s1.heap.objs.size ∨ c = s1.heap.objs.size + 1 := by simpa using hcm
        have hle : s1.heap.objs.size ≤ c := by
          rcases e' with z | z | z | z | z
          · rw [z]; exact Nat.le_add_right _ _
          · rw [z]; exact Nat.le_add_right _ _
          · rw [z]; exact Nat.le_add_right _ _
          · rw [z]; exact Nat.le_refl _
          · rw [z]; exact Nat.le_add_right _ _
        exact I1.fpOk hle (I1.hok.fresh hle)
      rcases q1 with ⟨⟨ys, hq⟩, q⟩ | ⟨⟨ys, hq⟩, q⟩
      · obtain ⟨its, rv, p1, _⟩ := I1.list hq
        have hlt := p1.lt
        refine zip_begins2 (begins_text x t) (begins_list b its.toArray) trivial p1.isList fun h' hz hTI hTO g1 g2 hsz hk => wpAny_pyIter_zip hz ?_
        have I2 : Inv X pins σ H1 { s1 with heap := h' } := I1.kept (t' := s1.toks) hk
        refine ⟨s1.heap.objs.size + 4, [s1.heap.objs.size + 4, s1.heap.objs.size + 2, s1.heap.objs.size + 3, s1.heap.objs.size, s1.heap.objs.size + 1], _, _, H1, rfl, I2,
          turn_zipS (x := x) (t := t) (fp2 := [s1.heap.objs.size + 1, b]) (IT := fun i h => h.IsListIter (s1.heap.objs.size + 1) b i) (SQH := fun h its => h.IsList b its)
            (zip_sep2 (N := s1.heap.objs.size) (fp1 := []) (fp2 := [b]) (fun _ m => nomatch m) (fun c m => by rw [List.mem_singleton.mp m]; exact hlt))
            (fun i h ⟨o, ho, hc, hd⟩ => ⟨o, ho, fun v q => by rw [hd] at q; cases q⟩) (fun i h h' st k => st.at k) (fun hK I hq => by
              have hq := hK.symm ▸ hq
              obtain ⟨its, rv, p, _⟩ := I.list hq
              exact ⟨its, rv, p.isList⟩) (fun hK I h1 h2 => I.list_inj (hK.symm ▸ h1) (hK.symm ▸ h2))
            (fun A items hh => Draws.list hh (s1.heap.objs.size + 1) b (Nat.ne_of_lt (Nat.lt_succ_of_lt hlt)) items),
          ⟨hz, hTI, ⟨_, _, hTO⟩, ⟨_, g1, rfl, rfl⟩, ⟨_, g2, rfl, rfl⟩⟩, fresh5, q⟩
      · obtain ⟨its, rv, p1, _⟩ := I1.tuple hq
        obtain ⟨ob, hob, _⟩ := id p1
        have hlt := Heap.lt_size hob
        refine zip_begins2 (begins_text x t) (begins_tuple b its.toArray) trivial (show s1.heap.IsTuple b its.toArray from p1) fun h' hz hTI hTO g1 g2 hsz hk => wpAny_pyIter_zip hz ?_
        have I2 : Inv X pins σ H1 { s1 with heap := h' } := I1.kept (t' := s1.toks) hk
        refine ⟨s1.heap.objs.size + 4, [s1.heap.objs.size + 4, s1.heap.objs.size + 2, s1.heap.objs.size + 3, s1.heap.objs.size, s1.heap.objs.size + 1], _, _, H1, rfl, I2,
          turn_zipS (x := x) (t := t) (fp2 := [s1.heap.objs.size + 1, b]) (IT := fun i h => h.IsTupleIter (s1.heap.objs.size + 1) b i) (SQH := fun h its => h.IsTuple b its)
            (zip_sep2 (N := s1.heap.objs.size) (fp1 := []) (fp2 := [b]) (fun _ m => nomatch m) (fun c m => by rw [List.mem_singleton.mp m]; exact hlt))
            (fun i h ⟨o, ho, hc, hd⟩ => ⟨o, ho, fun v q => by rw [hd] at q; cases q⟩) (fun i h h' st k => st.at k) (fun hK I hq => by
              have hq := hK.symm ▸ hq
              obtain ⟨its, rv, p, _⟩ := I.tuple hq
              exact ⟨its, rv, p⟩) (fun hK I h1 h2 => I.tuple_inj (hK.symm ▸ h1) (hK.symm ▸ h2))
            (fun A items hh => Draws.tuple hh (s1.heap.objs.size + 1) b (Nat.ne_of_lt (Nat.lt_succ_of_lt hlt)) items),
          ⟨hz, hTI, ⟨_, _, hTO⟩, ⟨_, g1, rfl, rfl⟩, ⟨_, g2, rfl, rfl⟩⟩, fresh5, q⟩
/-! ### over data -/
section
variable {X : Cx} {c : FC} {τ τ' : List Slot} {e e2 : Expr} {fs : Env → Option (List D)} {t u : Ty} {p pos tpos : Pos} {elts : List Expr} {kk : Nat}
theorem enumFrom_len : ∀ (n : Int) (ds : List D), (enumFrom n ds).length = ds.length
  | _, [] => rfl
  | n, _ :: ds => congrArg (· + 1) (enumFrom_len (n + 1) ds)
theorem enumFrom_get : ∀ (n : Int) (ds : List D) (i : Nat) (d : D), (enumFrom n ds)[i]? = some d → ∃ x, ds[i]? = some x ∧ d = .tup [.int (n + i), x]
  | _, [], i, d, h => by simp [enumFrom] at h
  | n, x :: ds, 0, d, h => by
    have h : (D.tup [.int n, x] :: enumFrom (n + 1) ds)[0]? = some d := h
    simp at h
    exact ⟨x, rfl, by rw [← h]; simp⟩
  | n, x :: ds, i + 1, d, h => by
    have h : (D.tup [.int n, x] :: enumFrom (n + 1) ds)[i + 1]? = some d := h
    rw [List.getElem?_cons_succ] at h
    obtain ⟨y, h1, h2⟩ := enumFrom_get (n + 1) ds i d h
    refine ⟨y, by simpa using h1, ?_⟩
    rw [h2]
    congr 3
    omega
theorem zipD_len : ∀ (xs ys : List D), (zipD xs ys).length = min xs.length ys.length
  | [], _ => by simp [zipD]
  | _ :: _, [] => by simp [zipD]
  | x :: xs, y :: ys => by
    show (zipD xs ys).length + 1 = min (xs.length + 1) (ys.length + 1)
    rw [zipD_len xs ys]; omega
theorem zipD_get : ∀ (xs ys : List D) (i : Nat) (d : D), (zipD xs ys)[i]? = some d → ∃ x y, xs[i]? = some x ∧ ys[i]? = some y ∧ d = .tup [x, y]
  | [], _, i, d, h => by simp [zipD] at h
  | _ :: _, [], i, d, h => by simp [zipD] at h
  | x :: xs, y :: ys, 0, d, h => by
    have h : (D.tup [x, y] :: zipD xs ys)[0]? = some d := h
    simp at h
    exact ⟨x, y, rfl, rfl, h.symm⟩
  | x :: xs, y :: ys, i + 1, d, h => by
    have h : (D.tup [x, y] :: zipD xs ys)[i + 1]? = some d := h
    rw [List.getElem?_cons_succ] at h
    obtain ⟨a, b, h1, h2, h3⟩ := zipD_get xs ys i d h
    exact ⟨a, b, by simpa using h1, by simpa using h2, h3⟩
theorem isIt_enum {G1 : Hp} {a : Addr} {vs : List V} {ds : List D} (h : SqK X.K G1 a vs) (l : FzL X.K G1 vs ds) : IsIt X c (Ite X.K a) G1 (enumFrom 0 ds) := by
  intro i τ hs G σ H ρ s k
  have r : SqL X.K H a vs := (sqK_same k.frG (sqK_same s h)).sq
  refine ⟨fun hi => ⟨vs, r, by rw [l.length]; rw [enumFrom_len] at hi; exact Nat.le_of_eq hi⟩, fun d hd => ?_⟩
  obtain ⟨x, hx, rfl⟩ := enumFrom_get 0 ds i d hd
  obtain ⟨v, hv, z⟩ := l.get hx
  refine ⟨⟨vs, v, r, hv⟩, fun w H' y => ?_⟩
  obtain ⟨T, x', rfl, hT, rfl, y⟩ := y
  have e := y vs r
  rw [hv] at e
  cases e
  obtain ⟨G', g, k'⟩ := k.newTF (vs := [.int (i : Nat), v]) (ds := [.int (0 + (i : Nat)), x]) hT (.cons (by rw [Int.zero_add]; exact .flat (d := .int (i : Nat)) rfl) (.cons (z.same s) .nil))
  exact ⟨G', g, same_upd hT, k'⟩
theorem isIt_enumT {G1 : Hp} {a : Addr} {vs : List V} {ds : List D} (h : SqT X.K G1 a vs) (l : FzL X.K G1 vs ds) : IsIt X c (IteT X.K a) G1 (enumFrom 0 ds) := by
  intro i τ hs G σ H ρ s k
  have r : SqT X.K H a vs := sqT_same k.frG (sqT_same s h)
  refine ⟨fun hi => ⟨vs, r, by rw [l.length]; rw [enumFrom_len] at hi; exact Nat.le_of_eq hi⟩, fun d hd => ?_⟩
  obtain ⟨x, hx, rfl⟩ := enumFrom_get 0 ds i d hd
  obtain ⟨v, hv, z⟩ := l.get hx
  refine ⟨⟨vs, v, r, hv⟩, fun w H' y => ?_⟩
  obtain ⟨T, x', rfl, hT, rfl, y⟩ := y
  have e := y vs r
  rw [hv] at e
  cases e
  obtain ⟨G', g, k'⟩ := k.newTF (vs := [.int (i : Nat), v]) (ds := [.int (0 + (i : Nat)), x]) hT (.cons (by rw [Int.zero_add]; exact .flat (d := .int (i : Nat)) rfl) (.cons (z.same s) .nil))
  exact ⟨G', g, same_upd hT, k'⟩
theorem isIt_zipS {G1 : Hp} {z : Str} {SQ : Hp → List V → Prop} {vs : List V} {ds : List D} (h : ∀ {G H : Hp}, Same G1 G → Same G H → SQ H vs) (l : FzL X.K G1 vs ds) : IsIt X c (ItzS SQ z) G1 (zipD (z.cps.toList.map fun c => .str ⟨#[c]⟩) ds) := by
  intro i τ hs G σ H ρ s k
  have r := h s k.frG
  refine ⟨fun hi => ?_, fun d hd => ?_⟩
  · rw [zipD_len, List.length_map, Array.length_toList, ← l.length] at hi
    exact ⟨vs, r, by omega, by omega, by omega⟩
  obtain ⟨x, y, hx, hy, rfl⟩ := zipD_get _ _ i d hd
  obtain ⟨v, hv, z1⟩ := l.get hy
  rw [List.getElem?_map, Array.getElem?_toList] at hx
  obtain ⟨cc, e1, e2⟩ := map1 hx
  refine ⟨⟨vs, cc, v, r, e1, hv⟩, fun w H' yy => ?_⟩
  obtain ⟨T, c', y', rfl, hT, rfl, ec, yy⟩ := yy
  have e := yy vs r
  rw [hv] at e
  cases e
  rw [e1] at ec
  cases ec
  obtain ⟨G', g, k'⟩ := k.newTF (vs := [.str ⟨#[cc]⟩, v]) (ds := [x, y]) hT (.cons (by rw [← e2]; exact .flat (d := .str ⟨#[cc]⟩) rfl) (.cons (z1.same s) .nil))
  exact ⟨G', g, same_upd hT, k'⟩
theorem di_enum (n : Bn X "enumerate") (ns : NS e = true) (h : DA X c τ τ' [e] [t] fs) : DI X c τ τ' (.Tuple elts kk tpos) (.Call (.Name "enumerate" p) [e] [] pos) fun ρ => (fs ρ).bind (srcItems .enum) := by
  obtain ⟨ta, pa, oa⟩ := h
  refine ⟨_, pi_enumA n.gl n.no pa (star_cons ns), fun hs G σ H ρ ds R k e q => ?_⟩
  obtain ⟨d0, e1, e2⟩ := bind1 e
  refine oa hs G σ H ρ d0 _ k e1 fun G1 H1 xs k1 g1 h1 m1 m2 => ?_
  match xs, m1 with
  | [x], _ =>
    obtain ⟨tx, v, d⟩ := x
    subst m2
    obtain ⟨G2, g2, k2⟩ := Ok.freeze k1
    obtain ⟨fp, r⟩ := k2.top
    have z := r.toF
    have k3 := k2.drop
    have e2 : (seqOf d).map (enumFrom 0) = some ds := e2
    cases d with
    | lst ys =>
      cases e2
      cases z with
      | flat h => cases h
      | lst h l => exact ⟨_, _, rfl, .inl ⟨(sqK_same k3.frG h).sq, q G2 H1 _ k3 (g1.trans g2) h1 (isIt_enum h l)⟩⟩
    | tup ys =>
      cases e2
      cases z with
      | flat h => cases h
      | tup h l => exact ⟨_, _, rfl, .inr ⟨sqT_same k3.frG h, q G2 H1 _ k3 (g1.trans g2) h1 (isIt_enumT h l)⟩⟩
    | _ => cases e2
theorem isIt_rev {G1 : Hp} {a : Addr} {vs : List V} {ds : List D} (h : SqK X.K G1 a vs) (l : FzL X.K G1 vs ds) : IsIt X c (Itv X.K a vs.length) G1 ds.reverse := by
  intro i τ hs G σ H ρ s k
  have r : SqL X.K H a vs := (sqK_same k.frG (sqK_same s h)).sq
  have hl := l.length
  refine ⟨fun hi => by rw [List.length_reverse] at hi; show vs.length ≤ i; omega, fun d hd => ?_⟩
  have hlt : i < ds.reverse.length := (List.getElem?_eq_some_iff.mp hd).1
  rw [List.length_reverse] at hlt
  rw [List.getElem?_reverse hlt] at hd
  obtain ⟨v, hv, z⟩ := l.get hd
  rw [← hl] at hv hlt
  refine ⟨⟨hlt, vs, v, r, hv⟩, fun x H' y => ?_⟩
  obtain ⟨rfl, y⟩ := y
  have e := y vs r
  rw [hv] at e
  cases e
  exact ⟨G, Same.refl _, Same.refl _, k.push (z.same s)⟩
theorem di_rev {tg : Expr} (n : Bn X "reversed") (ns : NS e = true) (h : DA X c τ τ' [e] [t] fs) : DI X c τ τ' tg (.Call (.Name "reversed" p) [e] [] pos) fun ρ => (fs ρ).bind (srcItems .rev) := by
  obtain ⟨ta, pa, oa⟩ := h
  refine ⟨_, pi_reversed n.gl n.no pa (star_cons ns), fun hs G σ H ρ ds R k e q => ?_⟩
  obtain ⟨d0, e1, e2⟩ := bind1 e
  refine oa hs G σ H ρ d0 _ k e1 fun G1 H1 xs k1 g1 h1 m1 m2 => ?_
  match xs, m1 with
  | [x], _ =>
    obtain ⟨tx, v, d⟩ := x
    subst m2
    obtain ⟨G2, g2, k2⟩ := Ok.freeze k1
    obtain ⟨fp, r⟩ := k2.top
    have z := r.toF
    have k3 := k2.drop
    cases d with
    | lst ys =>
      cases e2
      cases z with
      | flat h => cases h
      | lst h l => exact ⟨_, _, rfl, (sqK_same k3.frG h).sq, q G2 H1 _ k3 (g1.trans g2) h1 (isIt_rev h l)⟩
    | _ => cases e2
theorem di_zip (n : Bn X "zip") (ns : NS e = true) (ns2 : NS e2 = true) (h : DA X c τ τ' [e, e2] [t, u] fs) : DI X c τ τ' (.Tuple elts kk tpos) (.Call (.Name "zip" p) [e, e2] [] pos) fun ρ => (fs ρ).bind (srcItems .zip) := by
  obtain ⟨ta, pa, oa⟩ := h
  refine ⟨_, pi_zipS n.gl n.no pa (star_cons ns) (star_any (by simp [ns2])), fun hs G σ H ρ ds R k e q => ?_⟩
  obtain ⟨d0, e1, e2⟩ := bind1 e
  refine oa hs G σ H ρ d0 _ k e1 fun G1 H1 xs k1 g1 h1 m1 m2 => ?_
  match xs, m1 with
  | [x, y], _ =>
    obtain ⟨tx, v, d⟩ := x
    obtain ⟨ty, w, d'⟩ := y
    subst m2
    have e2 : srcItems .zip [d, d'] = some ds := e2
    obtain ⟨fp0, r0⟩ := k1.top
    obtain ⟨G2, g2, k2⟩ := Ok.freeze k1.drop
    obtain ⟨fp, r⟩ := k2.top
    have z := r.toF
    have k3 := k2.drop
    cases d with
    | str s =>
      have ev : v = .str s := by
        cases r0 with
        | flat _ => rfl
        | F h => exact h.str
      have e2 : (seqOf d').map (fun ys => zipD (s.cps.toList.map fun c => .str ⟨#[c]⟩) ys) = some ds := e2
      cases d' with
      | lst ys =>
        cases e2
        cases z with
        | flat h => cases h
        | @lst a vs _ h l => exact ⟨s, a, by rw [← ev]; rfl, .inl ⟨⟨vs, (sqK_same k3.frG h).sq⟩, q G2 H1 _ k3 (g1.trans g2) h1 (isIt_zipS (fun s1 s2 => (sqK_same s2 (sqK_same s1 h)).sq) l)⟩⟩
      | tup ys =>
        cases e2
        cases z with
        | flat h => cases h
        | @tup a vs _ h l => exact ⟨s, a, by rw [← ev]; rfl, .inr ⟨⟨vs, sqT_same k3.frG h⟩, q G2 H1 _ k3 (g1.trans g2) h1 (isIt_zipS (fun s1 s2 => sqT_same s2 (sqT_same s1 h)) l)⟩⟩
      | _ => cases e2
    | _ => cases e2
theorem steps_get (lo c : Int) : ∀ (n i : Nat), (steps lo c n)[i]? = if i < n then some (.int (lo + i * c)) else none := by
  intro n
  induction n generalizing lo with
  | zero => intro i; simp [steps]
  | succ n ih =>
    intro i
    cases i with
    | zero => simp [steps]
    | succ i =>
      rw [steps, List.getElem?_cons_succ, ih]
      by_cases h : i < n
      · rw [if_pos h, if_pos (by omega)]
        congr 2
        rw [Int.natCast_succ, Int.add_mul]
        omega
      · rw [if_neg h, if_neg (by omega)]
theorem steps_len (lo c : Int) : ∀ n : Nat, (steps lo c n).length = n := by
  intro n
  induction n generalizing lo with
  | zero => rfl
  | succ n ih => rw [steps, List.length_cons, ih]
theorem isIt_rngC {G1 : Hp} {lo k : Int} {n : Nat} : IsIt X c (Itc lo k n) G1 (steps lo k n) := by
  intro i τ hs G σ H ρ s kk
  refine ⟨fun hi => by rw [steps_len] at hi; exact Nat.le_of_eq hi, fun d hd => ?_⟩
  rw [steps_get] at hd
  split at hd
  · cases hd
    refine ⟨by assumption, fun x H' y => ?_⟩
    obtain ⟨rfl, rfl⟩ := y
    exact ⟨G, Same.refl _, Same.refl _, kk.pushFlat (d := .int (lo + i * k)) .F rfl⟩
  · cases hd
theorem rSize_nonneg {a b c : Int} (h : c ≠ 0) : 0 ≤ Builtin.Range.rangeSize a b c := by
  unfold Builtin.Range.rangeSize
  split
  · split
    · have := Int.ediv_nonneg (show 0 ≤ b - a - 1 by omega) (show 0 ≤ c by omega)
      omega
    · omega
  · split
    · have := Int.ediv_nonneg (show 0 ≤ a - b - 1 by omega) (show 0 ≤ -c by omega)
      omega
    · omega
theorem di_rng3 {tg a b c' : Expr} (n : Bn X "range") (na : NS a = true) (nb : NS b = true) (nc : NS c' = true) (h : DAr X c τ [a, b, c'] fs) : DI X c τ τ tg (.Call (.Name "range" p) [a, b, c'] [] pos) fun ρ => (fs ρ).bind (srcItems .rng3) := by
  obtain ⟨ta, pa, oa⟩ := h
  refine ⟨_, pi_range3 n.gl n.no pa (star_cons na) (star_any (by simp [nb, nc])), fun hs G σ H ρ ds R k e q => ?_⟩
  obtain ⟨xs, e1, e2⟩ := bind1 e
  refine oa hs G σ H ρ xs _ k e1 fun G1 H1 vs k1 g1 h1 z => ?_
  unfold srcItems at e2
  split at e2 <;> first | contradiction | skip
  all_goals first | (rename_i e0; cases e0; done) | skip
  · split at e2
    · rename_i hr
      cases e2
      cases z with
      | cons ha l =>
        obtain ⟨v, w, rfl, hb, hc⟩ := l.two
        rw [ha.int, hb.int, hc.int]
        obtain ⟨h1', h2', h3'⟩ := hr
        exact ⟨_, _, _, _, rfl, ⟨h1', h2', h3', (Int.toNat_of_nonneg (rSize_nonneg h1')).symm⟩, q G1 H1 _ k1 g1 h1 isIt_rngC⟩
    · cases e2
end
end My

set_option Elab.async false
set_option linter.all false
set_option maxRecDepth 100000
/-! Statements. -/
namespace My
open PySem PySem.Spec PyProof.Rows L2
structure Tys where
  nx : List Slot
  brk : List Slot
  cnt : List Slot
  exc : List Slot
  ret : Ty
abbrev SF := Env → RS
def Post (K : PySem.W.Frag) (mg : Str → Option Value) (c : FC) (hs : List Trip) (G : Hp) (T : Tys) (D : Ends) (W : WX) : RS → Prop
  | .nx ρ' => ∀ G' σ' H', Ok K c T.nx hs G' σ' H' ρ' → Same G G' → D.nx σ' H'
  | .ret d => ∀ G' σ' H' v τ' ρ', Ok K c τ' ((T.ret, v, d) :: hs) G' σ' H' ρ' → D.rt v H'
  | .brk ρ' => ∀ G' σ' H', Ok K c T.brk hs G' σ' H' ρ' → Same G G' → D.bk σ' H'
  | .cnt ρ' => ∀ G' σ' H', Ok K c T.cnt hs G' σ' H' ρ' → Same G G' → D.ct σ' H'
  | .exc e ρ' => ∀ G' σ' H' cls d, Ok K c T.exc hs G' σ' H' ρ' → Same G G' → ExcR K mg e cls d H' → W cls d σ' H'
  | .no => False
def StOk (X : Cx) (c : FC) (τ : List Slot) (T : Tys) (W : WX) (ts : TS) (f : SF) : Prop := ∀ hs G σ H ρ D, Ok X.K c τ hs G σ H ρ → Post X.K X.mg c hs G T D W (f ρ) → ts D σ H
def DSt (X : Cx) (c : FC) (τ : List Slot) (T : Tys) (W : WX) (st : Stmt) (f : SF) : Prop := ∃ ts, PS X st ts ∧ StOk X c τ T W ts f
def DSs (X : Cx) (c : FC) (τ : List Slot) (T : Tys) (W : WX) (sts : List Stmt) (f : SF) : Prop := ∃ ts, PSs X sts ts ∧ StOk X c τ T W ts f
section
variable {X : Cx} {c : FC} {τ τ' τ'' : List Slot} {a b e : Expr} {es : List Expr} {fa fb f : EF} {fs : Env → Option (List D)} {t u : Ty} {p pos : Pos} {T : Tys} {W : WX} {st : Stmt} {sts : List Stmt} {g g' : SF}
theorem Post.mono {K : PySem.W.Frag} {mg : Str → Option Value} {hs : List Trip} {G G' : Hp} {D : Ends} {r : RS} (s : Same G G') (h : Post K mg c hs G T D W r) : Post K mg c hs G' T D W r := by
  cases r with
  | nx ρ => exact fun G2 σ H k s2 => h G2 σ H k (s.trans s2)
  | ret d => exact h
  | brk ρ => exact fun G2 σ H k s2 => h G2 σ H k (s.trans s2)
  | cnt ρ => exact fun G2 σ H k s2 => h G2 σ H k (s.trans s2)
  | exc e ρ => exact fun G2 σ H cls d k s2 => h G2 σ H cls d k (s.trans s2)
  | no => exact h
/-! ### rows of statements -/
def seqR (f : SF) (r : RS) : RS := match r with
  | .nx ρ' => f ρ'
  | r => r
theorem dss_nil : DSs X c T.nx T W [] fun ρ => .nx ρ := ⟨_, pss_nil, fun hs G σ H ρ D k q => q G σ H k (Same.refl _)⟩
theorem dss_one (h : DSt X c τ T W st g) : DSs X c τ T W [st] g := let ⟨ts, p, o⟩ := h; ⟨ts, pss_one p, o⟩
theorem dss_cons (h1 : DSt X c τ { T with nx := τ' } W st g) (h2 : DSs X c τ' T W sts g') : DSs X c τ T W (st :: sts) fun ρ => seqR g' (g ρ) := by
  obtain ⟨t1, p1, o1⟩ := h1
  obtain ⟨t2, p2, o2⟩ := h2
  refine ⟨_, pss_cons p1 p2, fun hs G σ H ρ D k q => ?_⟩
  try dsimp only at q
  refine o1 hs G σ H ρ _ k ?_
  cases e : g ρ with
  | nx ρ1 =>
    rw [e] at q
    exact fun G' σ' H' k' s => o2 hs G' σ' H' ρ1 D k' (Post.mono s q)
  | ret d => rw [e] at q; exact q
  | brk ρ1 => rw [e] at q; exact q
  | cnt ρ1 => rw [e] at q; exact q
  | exc e' ρ1 => rw [e] at q; exact q
  | no => rw [e] at q; exact q
/-- a slot's claim is given up, or frozen -/
theorem dss_gone (i : Nat) (h : DSs X c (τ.set i .gone) T W sts g) : DSs X c τ T W sts g := let ⟨ts, p, o⟩ := h; ⟨ts, p, fun hs G σ H ρ D k q => o hs G σ H ρ D (k.forget i) q⟩
theorem dss_fz {i : Nat} (e : τ[i]? = some (.own t)) (h : DSs X c (τ.set i (.own .F)) T W sts g) : DSs X c τ T W sts g := by
  obtain ⟨ts, p, o⟩ := h
  refine ⟨ts, p, fun hs G σ H ρ D k q => ?_⟩
  try dsimp only at q
  obtain ⟨v, hv⟩ := k.has i t e
  have hi : i < ρ.length := by rw [k.lr]; exact (List.getElem?_eq_some_iff.mp e).1
  obtain ⟨G', s, _, k'⟩ := k.frzSlot (d := ρ[i]) e hv (List.getElem?_eq_getElem hi)
  exact o hs G' σ H ρ D k' (q.mono s)

/-! ### single ones -/
theorem dst_ret (h : DO X c τ τ' e T.ret f) : DSt X c τ T W (.Return (some e) pos) fun ρ => match f ρ with | some d => .ret d | none => .no := by
  obtain ⟨te, p, o⟩ := h
  refine ⟨_, ps_ret p, fun hs G σ H ρ D k q => ?_⟩
  try dsimp only at q
  cases e1 : f ρ with
  | none => rw [e1] at q; exact q.elim
  | some d => rw [e1] at q; exact o hs G σ H ρ d _ k e1 fun G' H' v k' s1 s2 => q G' σ H' v τ' ρ k'
theorem dst_retN : DSt X c τ T W (.Return none pos) fun _ => .ret .non := ⟨_, ps_retN, fun hs G σ H ρ D k q => q G σ H .non τ ρ (k.pushFlat (d := .non) T.ret rfl)⟩
theorem dst_pass : DSt X c T.nx T W (.Pass pos) fun ρ => .nx ρ := ⟨_, ps_pass, fun hs G σ H ρ D k q => q G σ H k (Same.refl _)⟩
theorem dst_brk : DSt X c T.brk T W (.Break pos) fun ρ => .brk ρ := ⟨_, ps_break, fun hs G σ H ρ D k q => q G σ H k (Same.refl _)⟩
theorem dst_cnt : DSt X c T.cnt T W (.Continue pos) fun ρ => .cnt ρ := ⟨_, ps_continue, fun hs G σ H ρ D k q => q G σ H k (Same.refl _)⟩
theorem dst_exp (hs : swapsWith e none pos.line X.env = pure false) (h : DR X c T.nx e f) : DSt X c T.nx T W (.Expr e pos) fun ρ => ofO ((f ρ).map fun _ => ρ) := by
  obtain ⟨te, p, o⟩ := h
  refine ⟨_, ps_expr p hs, fun hs G σ H ρ D k q => ?_⟩
  try dsimp only at q
  cases e1 : f ρ with
  | none => rw [e1] at q; exact q.elim
  | some d => rw [e1] at q; exact o hs G σ H ρ d _ k e1 fun G' H' v k' s1 s2 z => q G' σ H' k' s1
theorem asg_run {te : TE} {gg : TG} {tg : Tg} (o : OwOk X c τ τ' t te f) (og : TgOk X c τ' T.nx t gg tg) : StOk X c τ T W (tAsg te gg) fun ρ => ofO ((f ρ).bind fun d => bindT tg d ρ) := by
  intro hs G σ H ρ D k q
  try dsimp only at q
  cases e1 : f ρ with
  | none => rw [e1] at q; exact q.elim
  | some d =>
    rw [e1] at q
    cases e2 : bindT tg d ρ with
    | none => rw [show (Option.bind (some d) fun d => bindT tg d ρ) = none from e2] at q; exact q.elim
    | some ρ' =>
      rw [show (Option.bind (some d) fun d => bindT tg d ρ) = some ρ' from e2] at q
      exact o hs G σ H ρ d _ k e1 fun G' H' v k' s1 s2 => og hs G' σ H' ρ v d ρ' _ k' e2 fun σ' k2 al => q G' σ' H' k2 s1
theorem dst_set {i : Nat} {x : Str} {p2 : Pos} (ps : ∀ te, PE X e te → PS X (.Assign [.Name x p2] e pos) (tAsg te (gName i))) (h : DO X c τ τ' e t f) (hi : i < τ'.length) (hn : T.nx = τ'.set i (.own t)) :
    DSt X c τ T W (.Assign [.Name x p2] e pos) fun ρ => ofO ((f ρ).bind fun d => bindT (.s i) d ρ) := by
  obtain ⟨te, p, o⟩ := h
  refine ⟨_, ps te p, asg_run o fun hs G σ H ρ v d ρ' Q k e q => ?_⟩
  cases e
  exact q _ (by rw [hn]; exact k.put hi) (.set i _ σ)
theorem dst_asg {tgE : Expr} {tg : Tg} (hs : swapsWithSole [tgE] e pos.line X.env = pure false) (hw : swappedStores [tgE] e X.env = pure none) (ns : NS tgE = true) (h : DO X c τ τ' e t f) (hg : DG X c τ' T.nx tgE t tg) :
    DSt X c τ T W (.Assign [tgE] e pos) fun ρ => ofO ((f ρ).bind fun d => bindT tg d ρ) := by
  obtain ⟨te, p, o⟩ := h
  obtain ⟨gg, pg, og⟩ := hg
  exact ⟨_, ps_asg p pg hs hw (by rw [assign_cons ns]; rfl), asg_run o og⟩
theorem dst_if {x : Expr} {gt : Env → Option Bool} {sa sb : List Stmt} (hc : DT X c τ x gt) (ha : DSs X c τ T W sa g) (hb : DSs X c τ T W sb g') :
    DSt X c τ T W (.If x sa sb pos) fun ρ => match gt ρ with | some true => g ρ | some false => g' ρ | none => .no := by
  obtain ⟨tc, pc, oc⟩ := hc
  obtain ⟨ta, pa, oa⟩ := ha
  obtain ⟨tb, pb, ob⟩ := hb
  refine ⟨_, ps_if pc pa pb, fun hs G σ H ρ D k q => ?_⟩
  try dsimp only at q
  cases e1 : gt ρ with
  | none => rw [e1] at q; exact q.elim
  | some r =>
    rw [e1] at q
    refine oc hs G σ H ρ r _ k e1 fun G1 H1 k1 g1 h1 => ?_
    cases r with
    | true => rw [if_pos rfl]; exact oa hs G1 σ H1 ρ D k1 (q.mono g1)
    | false => rw [if_neg (by decide)]; exact ob hs G1 σ H1 ρ D k1 (q.mono g1)
/-! ### loops -/
theorem forL_step {bind : D → List D → Option (List D)} {body : SF} {x : D} {xs : List D} {ρ : Env} : forL bind body (x :: xs) ρ = match bind x ρ with
    | none => .no
    | some ρ1 => contL (body ρ1) (forL bind body xs) := rfl
theorem dst_for {tgE iter : Expr} {body : List Stmt} {tg : Tg} {fsrc : Env → Option (List D)} {fbody : SF} {τ2 : List Slot} (hp : PassesOwn (model X.prog X.w) X.A X.env X.xe) (hc : X.calm = true)
    (hi : DI X c τ T.nx tgE iter fsrc) (hgt : DG X c T.nx τ2 tgE .F tg) (hb : DSs X c τ2 { T with brk := T.nx, cnt := T.nx } W body fbody) (hs : ∀ x, foldedSetIterable iter X.env x = pure x) :
    DSt X c τ T W (.For tgE iter body [] pos) fun ρ => match fsrc ρ with | some xs => forL (bindT tg) fbody xs ρ | none => .no := by
  obtain ⟨wi, pw, ow⟩ := hi
  obtain ⟨gg, pg, og⟩ := hgt
  obtain ⟨tb, pb, ob⟩ := hb
  refine ⟨_, ps_for hp hc pw pg pb hs, fun hs G σ H ρ D k q => ?_⟩
  try dsimp only at q
  cases e1 : fsrc ρ with
  | none => rw [e1] at q; exact q.elim
  | some xs =>
    rw [e1] at q
    refine ow hs G σ H ρ xs _ k e1 fun G1 H1 J k1 g1 h1 it => ?_
    refine ⟨fun i m σ' H' => m = xs.length - i ∧ i ≤ xs.length ∧ ∃ G' ρ', Ok X.K c T.nx hs G' σ' H' ρ' ∧ Same G1 G' ∧ Post X.K X.mg c hs G' T D W (forL (bindT tg) fbody (xs.drop i) ρ'),
      ⟨xs.length, rfl, Nat.zero_le _, G1, ρ, k1, Same.refl _, by rw [List.drop_zero]; exact q.mono g1⟩, ?_⟩
    rintro i m σ2 H2 ⟨rfl, hi, G2, ρ2, k2, g2, q2⟩
    obtain ⟨stop, go⟩ := it i T.nx hs G2 σ2 H2 ρ2 g2 k2
    by_cases hlt : i < xs.length
    · have hd : xs.drop i = xs[i] :: xs.drop (i + 1) := List.drop_eq_getElem_cons hlt
      obtain ⟨go1, go2⟩ := go xs[i] (by rw [List.getElem?_eq_getElem hlt])
      refine .inr ⟨go1, fun σ' H' => ∃ G' ρ', Ok X.K c T.nx hs G' σ' H' ρ' ∧ Same G1 G' ∧ Post X.K X.mg c hs G' T D W (forL (bindT tg) fbody (xs.drop (i + 1)) ρ'), fun σ' H' p => ⟨xs.length - (i + 1), by omega, rfl, hlt, p⟩, fun x H3 y => ?_⟩
      obtain ⟨G3, g3, h3, k3⟩ := go2 x H3 y
      rw [hd, forL_step] at q2
      cases eb : bindT tg xs[i] ρ2 with
      | none => rw [eb] at q2; exact q2.elim
      | some ρ3 =>
        rw [eb] at q2
        replace q2 : Post X.K X.mg c hs G2 T D W (contL (fbody ρ3) (forL (bindT tg) fbody (xs.drop (i + 1)))) := q2
        refine og hs G3 σ2 H3 ρ2 x xs[i] ρ3 _ k3 eb fun σ3 k4 al => ?_
        refine ob hs G3 σ3 H3 ρ3 _ k4 ?_
        cases ef : fbody ρ3 with
        | nx ρ4 => rw [ef] at q2; exact fun G' σ' H' k' s => ⟨G', ρ4, k', (g2.trans g3).trans s, q2.mono (g3.trans s)⟩
        | cnt ρ4 => rw [ef] at q2; exact fun G' σ' H' k' s => ⟨G', ρ4, k', (g2.trans g3).trans s, q2.mono (g3.trans s)⟩
        | brk ρ4 => rw [ef] at q2; exact fun G' σ' H' k' s => q2 G' σ' H' k' (g3.trans s)
        | ret d => rw [ef] at q2; exact q2
        | exc e' ρ4 => rw [ef] at q2; exact fun G' σ' H' cls d k' s => q2 G' σ' H' cls d k' (g3.trans s)
        | no => rw [ef] at q2; exact q2.elim
    · have ei : i = xs.length := by omega
      subst ei
      rw [List.drop_length] at q2
      exact .inl ⟨stop rfl, q2 G2 σ2 H2 k2 (Same.refl _)⟩
theorem dst_while {x : Expr} {gt : Env → Option Bool} {body : List Stmt} {fbody : SF} {n : Nat} (hp : PassesOwn (model X.prog X.w) X.A X.env X.xe) (hc : DT X c T.nx x gt) (hb : DSs X c T.nx { T with brk := T.nx, cnt := T.nx } W body fbody) :
    DSt X c T.nx T W (.While x body [] pos) fun ρ => whlL gt fbody n ρ := by
  obtain ⟨tc, pc, oc⟩ := hc
  obtain ⟨tb, pb, ob⟩ := hb
  refine ⟨_, ps_while hp pc pb, fun hs G σ H ρ D k q => ?_⟩
  try dsimp only at q
  refine ⟨fun m σ' H' => ∃ G' ρ', Ok X.K c T.nx hs G' σ' H' ρ' ∧ Same G G' ∧ Post X.K X.mg c hs G' T D W (whlL gt fbody m ρ'), ⟨n, G, ρ, k, Same.refl _, q⟩, ?_⟩
  rintro m σ2 H2 ⟨G2, ρ2, k2, g2, q2⟩
  cases m with
  | zero => exact q2.elim
  | succ m =>
    unfold whlL at q2
    cases e1 : gt ρ2 with
    | none => rw [e1] at q2; exact q2.elim
    | some r =>
      rw [e1] at q2
      refine oc hs G2 σ2 H2 ρ2 r _ k2 e1 fun G3 H3 k3 g3 h3 => ?_
      cases r with
      | false => rw [if_neg (by decide)]; exact q2 G3 σ2 H3 k3 g3
      | true =>
        rw [if_pos rfl]
        replace q2 : Post X.K X.mg c hs G2 T D W (contL (fbody ρ2) (whlL gt fbody m)) := q2
        refine ⟨fun σ' H' => ∃ G' ρ', Ok X.K c T.nx hs G' σ' H' ρ' ∧ Same G G' ∧ Post X.K X.mg c hs G' T D W (whlL gt fbody m ρ'), fun σ' H' p => ⟨m, Nat.lt_succ_self m, p⟩, ?_⟩
        refine ob hs G3 σ2 H3 ρ2 _ k3 ?_
        cases ef : fbody ρ2 with
        | nx ρ4 => rw [ef] at q2; exact fun G' σ' H' k' s => ⟨G', ρ4, k', (g2.trans g3).trans s, q2.mono (g3.trans s)⟩
        | cnt ρ4 => rw [ef] at q2; exact fun G' σ' H' k' s => ⟨G', ρ4, k', (g2.trans g3).trans s, q2.mono (g3.trans s)⟩
        | brk ρ4 => rw [ef] at q2; exact fun G' σ' H' k' s => q2 G' σ' H' k' (g3.trans s)
        | ret d => rw [ef] at q2; exact q2
        | exc e' ρ4 => rw [ef] at q2; exact fun G' σ' H' cls d k' s => q2 G' σ' H' cls d k' (g3.trans s)
        | no => rw [ef] at q2; exact q2.elim

/-! ### defs -/
def parSlot : Option Ty → Slot
  | none => .own .F
  | some t => .bor t
def slots0 (n : Nat) (ps : List (Option Ty)) : List Slot := ps.map parSlot ++ List.replicate (n - ps.length) .gone
def runR (n : Nat) (fb : SF) (args : List D) : RF := match fb (args ++ List.replicate (n - args.length) .non) with
  | .nx _ => .ret .non
  | .ret d => .ret d
  | .exc e _ => .exc e
  | _ => .no
theorem ok_start {K : PySem.W.Frag} {G H : Hp} (s : Same G H) : ∀ {ps : List (Option Ty)} {vs : List V} {ds : List D} (n : Nat), ParL K G H ps vs ds → Ok K (fc0 H G) (ps.map parSlot ++ List.replicate n .gone) [] G (vs.map some ++ List.replicate n none) H (ds ++ List.replicate n .non) := by
  intro ps vs ds n h
  have envg : ∀ n : Nat, envT (List.replicate n Slot.gone) (List.replicate n none) (List.replicate n D.non) = [] := by
    intro n
    induction n with
    | zero => rfl
    | succ n ih => exact ih
  have main : ∀ {ps : List (Option Ty)} {vs : List V} {ds : List D}, ParL K G H ps vs ds → (∃ fp, RL K G H (envT (ps.map parSlot ++ List.replicate n .gone) (vs.map some ++ List.replicate n none) (ds ++ List.replicate n .non)) fp ∧ fp = []) ∧
      (∀ (i : Nat) t, (ps.map parSlot ++ List.replicate n Slot.gone)[i]? = some (.own t) → ∃ v, (vs.map some ++ List.replicate n (none : Option V))[i]? = some (some v)) ∧
      ∀ (i : Nat) t, (ps.map parSlot ++ List.replicate n Slot.gone)[i]? = some (.bor t) → ∃ v d fp, (vs.map some ++ List.replicate n (none : Option V))[i]? = some (some v) ∧ (ds ++ List.replicate n D.non)[i]? = some d ∧ R K G H t v d fp := by
    intro ps vs ds h
    induction h with
    | nil =>
      refine ⟨⟨[], by
        show RL K G H (envT (List.replicate n Slot.gone) (List.replicate n none) (List.replicate n D.non)) []
        rw [envg n]; exact .nil, rfl⟩, fun i t e => ?_, fun i t e => ?_⟩
      · have := List.mem_replicate.mp (List.mem_of_getElem? (by simpa using e)); cases this.2
      · have := List.mem_replicate.mp (List.mem_of_getElem? (by simpa using e)); cases this.2
    | fz hz _ ih =>
      obtain ⟨⟨fp, r, e⟩, h2, h3⟩ := ih
      refine ⟨⟨_, .cons (fp := []) (.F hz) r, by simpa using e⟩, fun i t e => ?_, fun i t e => ?_⟩
      · cases i with
        | zero => exact ⟨_, rfl⟩
        | succ i => exact h2 i t (by simpa using e)
      · cases i with
        | zero => cases e
        | succ i => exact h3 i t (by simpa using e)
    | bo hz _ ih =>
      obtain ⟨⟨fp, r, e⟩, h2, h3⟩ := ih
      refine ⟨⟨_, r, e⟩, fun i t e => ?_, fun i t e => ?_⟩
      · cases i with
        | zero => cases e
        | succ i => exact h2 i t (by simpa using e)
      · cases i with
        | zero => cases e; exact ⟨_, _, _, rfl, rfl, hz⟩
        | succ i => exact h3 i t (by simpa using e)
  obtain ⟨l1, l2⟩ := h.length
  obtain ⟨⟨fp, r, e⟩, h2, h3⟩ := main h
  subst e
  have h4 : ∀ i : Nat, (ps.map parSlot ++ List.replicate n Slot.gone)[i]? = some .exc → (vs.map some ++ List.replicate n none)[i]? = some (some (V.ref (fc0 H G).ea)) ∧ (ds ++ List.replicate n D.non)[i]? = some (.str (fc0 H G).ec) := fun i e => by
    rcases List.mem_append.mp (List.mem_of_getElem? e) with m | m
    · obtain ⟨p, _, hp⟩ := List.mem_map.mp m
      cases p <;> cases hp
    · have := List.mem_replicate.mp m
      cases this.2
  exact { ls := by simp [l1], lr := by simp [l2], has := h2, bor := h3, exq := h4, own := ⟨[], by rw [List.append_nil]; exact r, List.nodup_nil, fun a m => nomatch m⟩, frG := s, base := Same.refl _, g0 := Same.refl _, gn := fun a h => .inl h }
theorem fnok_of {P : Program} {w : World} {K : PySem.W.Frag} {mg : Str → Option Value} {base : Heap} {x qual : Str} {st : Stmt} {f : Addr} {fd : FuncData} {N pn : List Str} {k : Nat} {ps : List (Option Ty)} {t : Ty} {fb : SF} {τn τb τc τe : List Slot}
    (F : Fun K x qual st f fd) (S : FnScope N pn (defScope st)) (hm : mg x = some (.ref f)) (hb : Binds K fd pn []) (hl : ps.length = pn.length)
    (hN : pn.length ≤ N.length)
    (body : ∀ (c : FC) (cdv : Value) (A : Around) (outer : List PySem.Env) (s : Shared) (H : Hp) (E : XK), Room k (A.deeper (envOfC qual (defScope st) s.heap.objs.size f cdv)) → DSs (cxOf (L2.CX P w) P w K mg base N qual (defScope st) f cdv A outer s H E) c (slots0 N.length ps) ⟨τn, τb, τc, τe, t⟩ (fun cls d _ H' => E cls d H') (defBody st) fb) :
    FnOk P w K mg base (L2.CX P w) (k + 1) f fd pn (spD K mg ps t (runR N.length fb)) := by
  refine F.okX S (fun vs H Q E h => ?_) (fun cdv A outer s H vs Q E hr h => ?_)
  · obtain ⟨G, ds, _, h, _⟩ := h
    rw [h.length.1, hl]
  · obtain ⟨G, ds, sG, par, q⟩ := h
    obtain ⟨ts, p, o⟩ := body (fc0 H G) cdv A outer s H E hr
    obtain ⟨l1, l2⟩ := par.length
    refine ⟨ts, p, o [] G (L2.start N vs) H (ds ++ List.replicate (N.length - ds.length) .non) _ ?_ ?_⟩
    · have k := ok_start sG (N.length - ps.length) par
      unfold L2.start slots0
      rw [l1, l2]
      exact k
    · unfold runR at q
      have bk : ∀ {τ' : List Slot} {hs : List Trip} {G' : Hp} {σ' : L2.St} {H' : Hp} {ρ' : Env}, Ok K (fc0 H G) τ' hs G' σ' H' ρ' → Back K G H G' H' := fun k => ⟨k.g0, k.base, k.frG, k.gn⟩
      have rt : ∀ {τ' : List Slot} {hs : List Trip} {G' : Hp} {σ' : L2.St} {H' : Hp} {ρ' : Env} {v : V} {d : D}, Ok K (fc0 H G) τ' ((t, v, d) :: hs) G' σ' H' ρ' → ∃ fp, R K G' H' t v d fp ∧ fp.Nodup ∧ ∀ a ∈ fp, G' a = none ∧ H a = none := fun k => by
        obtain ⟨fp, r, n, z⟩ := k.own
        obtain ⟨fq, r', q⟩ := r.perm List.perm_middle
        cases r' with
        | @cons _ _ _ f1 _ f2 h l =>
          exact ⟨f1, h, (List.nodup_append.mp (q.nodup_iff.mp n)).1, fun a m => z a (q.mem_iff.mpr (List.mem_append_left _ m))⟩
      cases e : fb (ds ++ List.replicate (N.length - ds.length) .non) with
      | nx ρ' =>
        rw [e] at q
        exact fun G' σ' H' k s => q G' H' .non [] (bk k) (.flat (d := .non) rfl) List.nodup_nil fun a m => nomatch m
      | ret d =>
        rw [e] at q
        exact fun G' σ' H' v τ' ρ' k => let ⟨fp, r, n, z⟩ := rt k; q G' H' v fp (bk k) r n z
      | brk ρ' => rw [e] at q; exact q.elim
      | cnt ρ' => rw [e] at q; exact q.elim
      | exc e' ρ' =>
        rw [e] at q
        exact fun G' σ' H' cls d k s x => q G' H' cls d (bk k) x
      | no => rw [e] at q; exact q.elim
theorem callee_of {P : Program} {w : World} {K : PySem.W.Frag} {mg : Str → Option Value} {base : Heap} {x qual : Str} {st : Stmt} {f : Addr} {fd : FuncData} {N pn : List Str} {k : Nat} {ps : List (Option Ty)} {t : Ty} {fb : SF} {τn τb τc τe : List Slot}
    (F : Fun K x qual st f fd) (S : FnScope N pn (defScope st)) (hm : mg x = some (.ref f)) (hb : Binds K fd pn []) (hl : ps.length = pn.length)
    (hN : pn.length ≤ N.length)
    (body : ∀ (c : FC) (cdv : Value) (A : Around) (outer : List PySem.Env) (s : Shared) (H : Hp) (E : XK), Room k (A.deeper (envOfC qual (defScope st) s.heap.objs.size f cdv)) → DSs (cxOf (L2.CX P w) P w K mg base N qual (defScope st) f cdv A outer s H E) c (slots0 N.length ps) ⟨τn, τb, τc, τe, t⟩ (fun cls d _ H' => E cls d H') (defBody st) fb) :
    Callee P w K mg base (k + 1) x ps t (runR N.length fb) :=
  ⟨L2.CX P w, f, fd, pn, fnok_of F S hm hb hl hN body, hm, F.kp, hb, rfl⟩
end
end My

set_option Elab.async false
set_option linter.all false
set_option maxRecDepth 100000
/-! Errors: raised, passed on, handled. -/
namespace My
open PySem PySem.Spec PyProof.Rows L2
/-- a class of the module whose instances are raised; it has no __init__ of its own -/
structure ExcF (K : PySem.W.Frag) (mg : Str → Option Value) (x : Str) (D : Addr) : Prop where
  g : mg x = some (.ref D)
  x : PySem.W.excIn K D [.type "ValueError", .type "Exception", .type "BaseException", .type "object"] "ValueError.__new__" = true
  k : PySem.W.keepIn K (.ref D) = true
  b : PySem.W.subIn K (.ref D) (.type "BaseException") = some true
  t : PySem.W.typeIn K (.ref D) = some (.type "type")
section
variable {X : Cx} {c : FC} {τ τ' τ'' : List Slot} {a b e : Expr} {es : List Expr} {fa fb f : EF} {fs : Env → Option (List D)} {t u : Ty} {p p2 pos spos : Pos} {T : Tys} {W : WX} {st : Stmt} {sts : List Stmt} {g g' : SF} {ps : List (Option Ty)}
theorem Ok.back {K : PySem.W.Frag} {hs : List Trip} {G G' H H' : Hp} {σ : L2.St} {ρ : Env} (k : Ok K c τ hs G σ H ρ) (b : Back K G H G' H') : Ok K c τ hs G' σ H' ρ :=
  (k.called b (t := .F) (v := .non) (d := .non) (.flat (d := .non) rfl) List.nodup_nil fun a m => nomatch m).drop
/-- raise X('..') -/
theorem dst_rai {x m : Str} {j : Nat} {D : Addr} (hc : X.calm = true) (tk : Takes X W) (F : ExcF X.K X.mg x D) (hg : Gl X x) (hd : (x == ("__debug__" : Str)) = false) : DSt X c T.exc T W (.Raise (some (.Call (.Name x p) [.Constant (.str m) j p2] [] pos)) none spos) fun ρ => .exc ⟨x, []⟩ ρ :=
  ⟨_, ps_raise hc tk (pmk_own PySem.F.excBase_ValueError F.x F.g F.k (raises_own F.b F.t) hg hd), fun hs G σ H ρ D k q => q G σ H _ none k (Same.refl _) ⟨F.g, .inl ⟨rfl, rfl⟩⟩⟩
/-- a call as a statement that may raise -/
theorem dst_callX {k : Nat} {x : Str} {m : List D → RF} (tk : Takes X W) (C : Callee X.prog X.w X.K X.mg X.base k x ps t m) (hr : Room k X.A) (hg : Gl X x) (hd : (x == ("__debug__" : Str)) = false) (ns : (a :: es).all NS = true) (h : DM X c τ T.nx (a :: es) ps fs) (he : T.exc = T.nx) :
    DSt X c τ T W (.Expr (.Call (.Name x p) (a :: es) [] pos) spos) fun ρ => callR m ρ (fs ρ) := by
  obtain ⟨CX, ff, fd, psN, F, hm, hk, hb, rfl⟩ := C.ex
  obtain ⟨ta, pa, oa⟩ := h
  refine ⟨_, ps_expr (pe_callS F hr hg hm hk hb (fun σ => passAt tk σ) pa hd (star_cons (Bool.and_eq_true_iff.mp ns).1) (star_any (Bool.and_eq_true_iff.mp ns).2)) rfl, fun hs G σ H ρ D k q => ?_⟩
  dsimp only at q
  cases e1 : fs ρ with
  | none => rw [e1] at q; exact q.elim
  | some ds =>
    rw [e1] at q
    unfold callR at q
    dsimp only at q
    refine oa hs G σ H ρ ds _ k e1 fun G1 H1 vs k1 g1 h1 z => ?_
    refine ⟨G1, ds, k1.frG, z, ?_⟩
    cases em : m ds with
    | ret d' =>
      rw [em] at q
      intro G' H' v fp b r nd zz
      exact q G' σ H' (k1.back b) (g1.trans b.g)
    | exc e =>
      rw [em] at q
      intro G' H' cls d b x
      exact q G' σ H' cls d (by rw [he]; exact k1.back b) (g1.trans b.g) x
    | no => rw [em] at q; exact q.elim
end
def isE : Slot → Bool
  | .exc => true
  | _ => false
def noE (τ : List Slot) : Bool := τ.all fun s => !isE s
theorem noE_no {τ : List Slot} (h : noE τ = true) {i : Nat} (e : τ[i]? = some .exc) : False := by
  have := List.all_eq_true.mp h _ (List.mem_of_getElem? e)
  cases this
theorem envT_exc : ∀ {τ : List Slot} {σ : L2.St} {ρ : Env} {i : Nat}, envT (τ.set i .exc) σ ρ = envT (τ.set i .gone) σ ρ
  | [], _, _, _ => rfl
  | a :: _, [], _, i => by cases i <;> cases a <;> rfl
  | a :: _, b :: _, [], i => by cases i <;> cases a <;> cases b <;> rfl
  | a :: τ, b :: σ, d :: ρ, 0 => rfl
  | a :: τ, b :: σ, d :: ρ, i + 1 => by
    have ih := envT_exc (τ := τ) (σ := σ) (ρ := ρ) (i := i)
    simp only [List.set_cons_succ]
    cases a with
    | own t => cases b <;> simp only [envT, ih]
    | _ => simp only [envT, ih]
section
variable {K : PySem.W.Frag} {c c' : FC} {τ : List Slot} {hs : List Trip} {G H : Hp} {σ : L2.St} {ρ : Env} {i : Nat}
/-- the same run, seen beside another error -/
theorem Ok.recl (h : noE τ = true) (k : Ok K c τ hs G σ H ρ) (a : Addr) (z : Str) : Ok K { c with ea := a, ec := z } τ hs G σ H ρ :=
  ⟨k.ls, k.lr, k.has, k.bor, fun i e => (noE_no h e).elim, k.own, k.frG, k.base, k.g0, k.gn⟩
theorem Ok.uncl {a : Addr} {z : Str} (h : noE τ = true) (k : Ok K { c with ea := a, ec := z } τ hs G σ H ρ) : Ok K c τ hs G σ H ρ :=
  ⟨k.ls, k.lr, k.has, k.bor, fun i e => (noE_no h e).elim, k.own, k.frG, k.base, k.g0, k.gn⟩
theorem Ok.toE (k : Ok K c (τ.set i .gone) hs G σ H ρ) (h1 : σ[i]? = some (some (.ref c.ea))) (h2 : ρ[i]? = some (.str c.ec)) (hn : noE τ = true) : Ok K c (τ.set i .exc) hs G σ H ρ := by
  have ne : ∀ {j : Nat} {s : Slot}, (τ.set i .exc)[j]? = some s → s ≠ .exc → (τ.set i .gone)[j]? = some s := fun {j s} e n => by
    by_cases hij : i = j
    · subst hij
      rw [List.getElem?_set] at e
      split at e
      · split at e
        · cases e; exact absurd rfl n
        · cases e
      · exact absurd rfl ‹_›
    · rw [List.getElem?_set_ne hij] at e ⊢; exact e
  refine ⟨by rw [List.length_set]; have := k.ls; rwa [List.length_set] at this, by rw [List.length_set]; have := k.lr; rwa [List.length_set] at this, fun j t e => k.has j t (ne e (by intro z; cases z)), fun j t e => k.bor j t (ne e (by intro z; cases z)), fun j e => ?_, by rw [envT_exc]; exact k.own, k.frG, k.base, k.g0, k.gn⟩
  by_cases hij : i = j
  · subst hij; exact ⟨h1, h2⟩
  · rw [List.getElem?_set_ne hij] at e
    exact (noE_no hn e).elim
/-- an error is caught -/
theorem Ok.catch (hn : noE τ = true) (hi : i < τ.length) (k : Ok K c τ hs G σ H ρ) (a : Addr) (z : Str) : Ok K { c with ea := a, ec := z } (τ.set i .exc) hs G (σ.set i (some (.ref a))) H (ρ.set i (.str z)) := by
  have k1 := (k.recl hn a z).forget i
  have k2 : Ok K { c with ea := a, ec := z } (τ.set i .gone) hs G (σ.set i (some (.ref a))) H (ρ.set i (.str z)) := k1.agree (by simp) (by simp) fun j s e n => by
    by_cases hij : i = j
    · subst hij
      rw [List.getElem?_set_self hi] at e
      cases e; exact absurd rfl n
    · exact ⟨List.getElem?_set_ne hij, List.getElem?_set_ne hij⟩
  exact k2.toE (by rw [List.getElem?_set_self (by rw [k.ls]; exact hi)]) (by rw [List.getElem?_set_self (by rw [k.lr]; exact hi)]) hn
/-- its name goes -/
theorem Ok.release {a : Addr} {z : Str} (hn : noE (τ.set i .gone) = true) (k : Ok K { c with ea := a, ec := z } τ hs G σ H ρ) : Ok K c (τ.set i .gone) hs G (σ.set i none) H (ρ.set i .non) :=
  ((k.forget i).agree (by simp) (by simp) fun j s e n => by
    by_cases hij : i = j
    · subst hij
      rw [List.getElem?_set] at e
      split at e
      · split at e
        · cases e; exact absurd rfl n
        · cases e
      · exact absurd rfl ‹_›
    · exact ⟨List.getElem?_set_ne hij, List.getElem?_set_ne hij⟩).uncl hn
theorem goneAll_len : ∀ (τ : List Slot) (l : List Nat), (goneAll τ l).length = τ.length
  | _, [] => rfl
  | τ, i :: r => by unfold goneAll; rw [List.length_set, goneAll_len τ r]
/-- nothing more is claimed of the slots -/
theorem Ok.bareAll {a : Addr} {z : Str} (k : Ok K { c with ea := a, ec := z } τ hs G σ H ρ) : ∃ τ', Ok K c τ' hs G σ H ρ := by
  refine ⟨_, (k.forgets (List.range τ.length)).uncl (List.all_eq_true.mpr fun s m => ?_)⟩
  obtain ⟨j, hj⟩ := List.mem_iff_getElem?.mp m
  have hl : j < τ.length := by
    rcases Nat.lt_or_ge j (goneAll τ (List.range τ.length)).length with h | h
    · rwa [goneAll_len] at h
    · rw [List.getElem?_eq_none h] at hj; cases hj
  rw [goneAll_mem (List.mem_range.mpr hl) hj]; rfl
end
section
variable {X : Cx} {c : FC} {τ : List Slot} {T Tb Ts : Tys} {W : WX} {fb fsu : SF} {i : Nat} {x n : Str} {cv : Value} {body suite : List Stmt} {b₀ : Stmt} {np pos pos' : Pos} {sub : Str → Str → Option Bool}
theorem dst_try (hs0 : X.stack = X.env :: X.outer) (hf : X.env.frame = some X.env.locals) (hN : X.N.Nodup) (hi : X.N[i]? = some n) (hln : X.env.kindOf n = some .local) (hc : Names X x cv) (tk : Takes X W)
    (hsub : ∀ z b, sub z x = some b → ∃ D, X.mg z = some (.ref D) ∧ PySem.W.exmOne X.K (.ref D) cv = some b)
    (hb : ∀ (W' : WX) (pn : List (Addr × Obj)) (xe : Value → Shared → Prop), Takes (X.tr pn xe) W' → PassesOwn (model X.prog X.w) X.A X.env xe → DSs (X.tr pn xe) c τ Tb W' body fb)
    (hsu : ∀ (a : Addr) (z : Str) (oe : Obj) (D : Addr) (pn : List (Addr × Obj)), X.mg z = some (.ref D) → sub z x = some true → Zc (.ref D) none oe → (∃ vs, oe.data = .fields vs) → DSs (X.suite a ((a, oe) :: pn)) { c with ea := a, ec := z } (Tb.exc.set i .exc) Ts (fun _ _ _ _ => True) (b₀ :: suite) fsu)
    (e1 : Tb.nx = T.nx) (e2 : Tb.brk = T.brk) (e3 : Tb.cnt = T.cnt) (e4 : Tb.exc = T.exc) (e5 : Tb.ret = T.ret) (e6 : Ts.ret = T.ret) (e7 : Ts.nx.set i .gone = T.nx) (n1 : noE Tb.exc = true) (n2 : noE T.nx = true) (hl : i < Tb.exc.length) :
    DSt X c τ T W (.Try body [.ExceptHandler (some (.Name x np)) (some n) (b₀ :: suite) pos'] [] [] pos) fun ρ => tryR sub x i fsu (fb ρ) := by
  refine ⟨_, ps_try_as (i := i) (tb := fun W' D σ H => ∀ (pn : List (Addr × Obj)) (xe : Value → Shared → Prop), Takes (X.tr pn xe) W' → PassesOwn (model X.prog X.w) X.A X.env xe → ∃ ts, PSs (X.tr pn xe) body ts ∧ ts D σ H)
    (ts := fun a cls d D σ H => ∀ (oe : Obj) (pn : List (Addr × Obj)), Zc cls d oe → (∃ vs, oe.data = .fields vs) → ∃ ts, PSs (X.suite a ((a, oe) :: pn)) (b₀ :: suite) ts ∧ ts D σ H) hs0 hf hN hi hln hc tk
    (fun W' pn xe tk' pa => ⟨fun pins s σ H D I w => let ⟨ts, p, q⟩ := w pn xe tk' pa; p.run pins s σ H D I q⟩)
    (fun a oe cls d pn hz hd => ⟨fun pins s σ H D I w => let ⟨ts, p, q⟩ := w oe pn hz hd; p.run pins s σ H D I q⟩), fun hs G σ H ρ D k q pn xe tk' pa => ?_⟩
  obtain ⟨ts, p, o⟩ := hb (wAs X.K cv i _ W D) pn xe tk' pa
  refine ⟨ts, p, o hs G σ H ρ D k ?_⟩
  dsimp only at q
  cases er : fb ρ with
  | nx ρ' =>
    rw [er] at q
    exact fun G' σ' H' k' s => q G' σ' H' (by rw [← e1]; exact k') s
  | ret d =>
    rw [er] at q
    exact fun G' σ' H' v τ' ρ' k' => q G' σ' H' v τ' ρ' (by rw [← e5]; exact k')
  | brk ρ' =>
    rw [er] at q
    exact fun G' σ' H' k' s => q G' σ' H' (by rw [← e2]; exact k') s
  | cnt ρ' =>
    rw [er] at q
    exact fun G' σ' H' k' s => q G' σ' H' (by rw [← e3]; exact k') s
  | no => rw [er] at q; exact q.elim
  | exc e ρ' =>
    rw [er] at q
    intro G' σ' H' cls d k' s x'
    unfold tryR at q
    dsimp only at q
    obtain ⟨ecls, efld⟩ := e
    dsimp only at q
    cases efld with
    | cons _ _ => exact q.elim
    | nil =>
      cases hsb : sub ecls x with
      | none => rw [hsb] at q; exact q.elim
      | some b =>
        rw [hsb] at q
        obtain ⟨D0, hm, hex⟩ := hsub ecls b hsb
        obtain ⟨hm2, hd⟩ := x'
        have hm2 : X.mg ecls = some cls := hm2
        rw [hm] at hm2
        cases hm2
        have hd : d = .none := by
          rcases hd with ⟨_, hd⟩ | hd
          · exact hd
          · exact absurd rfl hd.1
        refine ⟨b, hex, fun hb1 a na oe pn2 hz hdat => ?_, fun hb0 => ?_⟩
        · subst hb1
          subst hd
          obtain ⟨ts2, p2, o2⟩ := hsu a ecls oe D0 pn2 hm hsb hz hdat
          refine ⟨ts2, p2, o2 hs G' _ H' _ _ (k'.catch n1 hl a ecls) ?_⟩
          dsimp only at q
          cases er2 : fsu (ρ'.set i (.str ecls)) with
          | nx ρ2 =>
            rw [er2] at q
            exact fun G2 σ2 H2 k2 s2 => q G2 _ H2 (by rw [← e7]; exact k2.release (by rw [e7]; exact n2)) (s.trans s2)
          | ret d =>
            rw [er2] at q
            exact fun G2 σ2 H2 v τ2 ρ2 k2 => let ⟨τ3, k3⟩ := Ok.bareAll k2; q G2 σ2 H2 v τ3 ρ2 (by rw [← e6]; exact k3)
          | brk _ => rw [er2] at q; exact q.elim
          | cnt _ => rw [er2] at q; exact q.elim
          | exc _ _ => rw [er2] at q; exact q.elim
          | no => rw [er2] at q; exact q.elim
        · subst hb0
          exact q G' σ' H' (.ref D0) d (by rw [← e4]; exact k') s ⟨hm, .inl ⟨rfl, hd⟩⟩
end
end My

set_option Elab.async false
set_option linter.all false
set_option maxRecDepth 100000
/-! The checker: is a text mirrored by a term? -/
namespace My
open PySem PySem.Spec PyProof.Rows L2
mutual
def tyEq : Ty → Ty → Bool
  | .F, .F => true
  | .N, .N => true
  | .L a, .L b => tyEq a b
  | .T xs a, .T ys b => tyEqs xs ys && tyEq a b
  | .Dc xs a, .Dc ys b => tyEqk xs ys && tyEq a b
  | _, _ => false
def tyEqs : List Ty → List Ty → Bool
  | [], [] => true
  | x :: xs, y :: ys => tyEq x y && tyEqs xs ys
  | _, _ => false
def tyEqk : List (Key × Ty) → List (Key × Ty) → Bool
  | [], [] => true
  | (k, x) :: xs, (j, y) :: ys => decide (k = j) && tyEq x y && tyEqk xs ys
  | _, _ => false
end
mutual
theorem tyEq_eq : ∀ {a b : Ty}, tyEq a b = true → a = b
  | .F, b, h => by cases b <;> first | rfl | cases h
  | .N, b, h => by cases b <;> first | rfl | cases h
  | .L a, b, h => by cases b with
    | L b => rw [tyEq_eq (a := a) (b := b) h]
    | _ => cases h
  | .T xs a, b, h => by cases b with
    | T ys b =>
      obtain ⟨h1, h2⟩ := Bool.and_eq_true_iff.mp (show (tyEqs xs ys && tyEq a b) = true from h)
      rw [tyEqs_eq h1, tyEq_eq h2]
    | _ => cases h
  | .Dc xs a, b, h => by cases b with
    | Dc ys b =>
      obtain ⟨h1, h2⟩ := Bool.and_eq_true_iff.mp (show (tyEqk xs ys && tyEq a b) = true from h)
      rw [tyEqk_eq h1, tyEq_eq h2]
    | _ => cases h
theorem tyEqs_eq : ∀ {a b : List Ty}, tyEqs a b = true → a = b
  | [], [], _ => rfl
  | [], _ :: _, h => by cases h
  | _ :: _, [], h => by cases h
  | x :: xs, y :: ys, h => by
    obtain ⟨h1, h2⟩ := Bool.and_eq_true_iff.mp (show (tyEq x y && tyEqs xs ys) = true from h)
    rw [tyEq_eq h1, tyEqs_eq h2]
theorem tyEqk_eq : ∀ {a b : List (Key × Ty)}, tyEqk a b = true → a = b
  | [], [], _ => rfl
  | [], _ :: _, h => by cases h
  | _ :: _, [], h => by cases h
  | (k, x) :: xs, (j, y) :: ys, h => by
    obtain ⟨h1, h2⟩ := Bool.and_eq_true_iff.mp (show (decide (k = j) && tyEq x y && tyEqk xs ys) = true from h)
    obtain ⟨h0, h1⟩ := Bool.and_eq_true_iff.mp h1
    rw [of_decide_eq_true h0, tyEq_eq h1, tyEqk_eq h2]
end
def slEq : Slot → Slot → Bool
  | .gone, .gone => true
  | .own a, .own b => tyEq a b
  | .bor a, .bor b => tyEq a b
  | .exc, .exc => true
  | _, _ => false
theorem slEq_eq {a b : Slot} (h : slEq a b = true) : a = b := by
  cases a <;> cases b <;> first | rfl | (rw [tyEq_eq h]) | cases h
def slsEq : List Slot → List Slot → Bool
  | [], [] => true
  | x :: xs, y :: ys => slEq x y && slsEq xs ys
  | _, _ => false
theorem slsEq_eq : ∀ {a b : List Slot}, slsEq a b = true → a = b
  | [], [], _ => rfl
  | [], _ :: _, h => by cases h
  | _ :: _, [], h => by cases h
  | x :: xs, y :: ys, h => by
    obtain ⟨h1, h2⟩ := Bool.and_eq_true_iff.mp (show (slEq x y && slsEq xs ys) = true from h)
    rw [slEq_eq h1, slsEq_eq h2]

def isN : Option Slot → Bool
  | some (.own .N) => true
  | _ => false
theorem isN_eq {a : Option Slot} (h : isN a = true) : a = some (.own .N) := by
  unfold isN at h
  split at h
  · rfl
  · cases h
def isExc : Option Slot → Bool
  | some .exc => true
  | _ => false
theorem isExc_eq {a : Option Slot} (h : isExc a = true) : a = some .exc := by
  unfold isExc at h
  split at h
  · rfl
  · cases h
structure FnSig where
  x : Str
  ps : List (Option Ty)
  t : Ty
/-- what the text says around an expression -/
structure Syn where
  N : List Str
  sc : Scope
  top : Bool
  fns : List FnSig
  gls : List Str
  bns : List Str
  tups : List (Str × List Str) := []
  tabs : List (Str × List (Str × Key)) := []
  /-- no error is being handled -/
  calm : Bool := true
  /-- classes that are raised; that are caught -/
  excs : List Str := []
  cats : List Str := []
def Syn.look (S : Syn) (x : Str) : Option NameKind := S.sc.names.lookup x
def Syn.vis (S : Syn) (x : Str) : Bool := match S.look x with | some .local => true | some .cell => true | some .free => true | _ => false
def Syn.gl (S : Syn) (x : Str) : Bool := match S.look x with | some .globalImplicit => true | _ => false
def okName (x : Str) : Bool := !(x == ("__debug__" : Str)) && !(x == ("__classdict__" : Str)) && !decide (x = ("__name__" : Str))
def Syn.tab (S : Syn) (x : Str) (tab : List (Str × Key)) : Bool := S.tabs.any fun p => decide (p = (x, tab))
theorem Syn.tab_mem {S : Syn} {x : Str} {tab : List (Str × Key)} (h : S.tab x tab = true) : (x, tab) ∈ S.tabs := by
  obtain ⟨p, h1, h2⟩ := List.any_eq_true.mp h
  have := of_decide_eq_true h2
  subst this
  exact h1
/-- what isinstance says of an error, by its class -/
def SubF (K : PySem.W.Frag) (mg : Str → Option Value) (sub : Str → Str → Option Bool) : Prop := ∀ z x b, sub z x = some b → ∃ D v cv, mg z = some (.ref D) ∧ ExcC K D ∧ L2.RelV v cv ∧ (∀ u, L2.RelV v u → u = cv) ∧ (mg x = some cv ∨ (mg x = none ∧ bootBuiltins x = some cv)) ∧ PySem.W.kitOne K (.ref D) cv = some b
/-- what except says of it -/
def CatF (K : PySem.W.Frag) (mg : Str → Option Value) (sub : Str → Str → Option Bool) (x : Str) : Prop := ∃ cv, mg x = some cv ∧ ∀ z b, sub z x = some b → ∃ D, mg z = some (.ref D) ∧ PySem.W.exmOne K (.ref D) cv = some b
structure GX (kR : Nat) (S : Syn) (Φ : Tab) (X : Cx) (c : FC) : Prop where
  N : X.N = S.N
  sc : X.env.scope = S.sc
  nd : X.N.Nodup
  kind : X.env.scope.kind = .function
  calm : S.calm = true → X.calm = true
  pas : PassesOwn (model X.prog X.w) X.A X.env X.xe
  fn : S.top = true → ∀ x, X.fn x = true
  units : X.A.units + 64 < cLine
  room : S.calm = true → Room kR X.A
  fns : ∀ k F, S.fns[k]? = some F → Callee X.prog X.w X.K X.mg X.base kR F.x F.ps F.t (Φ.fn k)
  gls : ∀ k x, S.gls[k]? = some x → ∃ v u, X.mg x = some u ∧ RelV v u ∧ ∀ G, Fz X.K G v (Φ.gl k)
  bns : ∀ x ∈ S.bns, X.mg x = none
  tups : ∀ p ∈ S.tups, KTup X.K X.mg p.1 p.2
  tabs : ∀ p ∈ S.tabs, KTab X.K X.w X.mg p.1 p.2
  exi : S.calm = false → ExI X c Φ.sub
  excs : ∀ x ∈ S.excs, ∃ D, ExcF X.K X.mg x D
  subs : SubF X.K X.mg Φ.sub
  cats : ∀ x ∈ S.cats, CatF X.K X.mg Φ.sub x
  stk : S.top = true → X.stack = X.env :: X.outer ∧ X.env.frame = some X.env.locals

structure Rs where
  own : Bool
  t : Ty
  τ : List Slot
def Rs.rd (τ : List Slot) : Option Rs → Bool
  | some ⟨false, _, _⟩ => true
  | some ⟨true, _, τ'⟩ => slsEq τ' τ
  | none => false
def Rs.sh (τ : List Slot) : Option Rs → Bool
  | some ⟨false, t, _⟩ => t.sh
  | some ⟨true, t, τ'⟩ => t.sh && slsEq τ' τ
  | none => false
/-- as an owned thing -/
def Rs.ow : Option Rs → Option (Ty × List Slot)
  | some ⟨true, t, τ'⟩ => some (t, τ')
  | some ⟨false, .F, τ'⟩ => some (.F, τ')
  | _ => none
def isCst : ME → Bool
  | .cst d => flat d
  | _ => false
/-- as an owned thing of a type -/
def Rs.owT (t : Ty) (m : ME) (r : Option Rs) : Option (List Slot) :=
  match Rs.ow r with
  | some (t', τ') => if tyEq t .F || tyEq t t' || isCst m then some τ' else none
  | none => none
def Rs.path (τ : List Slot) : Option Rs → Option Ty
  | some ⟨false, t, _⟩ => some t
  | some ⟨true, t, τ'⟩ => if slsEq τ' τ then some t else none
  | none => none
/-- what an inference says -/
def Sound (X : Cx) (c : FC) (τ : List Slot) (e : Expr) (f : EF) : Option Rs → Prop
  | some ⟨false, t, τ'⟩ => τ' = τ ∧ DP X c τ e t f
  | some ⟨true, t, τ'⟩ => DO X c τ τ' e t f
  | none => True
section
variable {X : Cx} {c : FC} {τ τ' : List Slot} {e : Expr} {f : EF} {r : Option Rs} {t : Ty} {m : ME}
theorem Sound.rd (h : Sound X c τ e f r) (k : Rs.rd τ r = true) : DR X c τ e f := by
  unfold Rs.rd at k
  split at k
  · exact h.2.read
  · rename_i τ'
    have := slsEq_eq k
    subst this
    exact (DO.path h).read
  · cases k
theorem Sound.sh (h : Sound X c τ e f r) (k : Rs.sh τ r = true) : DS X c τ e f := by
  unfold Rs.sh at k
  split at k
  · exact h.2.sh k
  · obtain ⟨k1, k2⟩ := Bool.and_eq_true_iff.mp k
    have := slsEq_eq k2
    subst this
    exact DO.sh h k1
  · cases k
theorem Sound.ow (h : Sound X c τ e f r) (k : Rs.ow r = some (t, τ')) : DO X c τ τ' e t f := by
  unfold Rs.ow at k
  split at k
  · cases k; exact h
  · cases k
    obtain ⟨rfl, h⟩ := h
    exact h.own
  · cases k
theorem Sound.path (h : Sound X c τ e f r) (k : Rs.path τ r = some t) : DP X c τ e t f := by
  unfold Rs.path at k
  split at k
  · cases k; exact h.2
  · split at k
    · rename_i q
      cases k
      have := slsEq_eq q
      subst this
      exact DO.path h
    · cases k
  · cases k
end
end My

set_option Elab.async false
set_option linter.all false
set_option maxRecDepth 100000
/-! The inference over expressions. -/
namespace My
open PySem PySem.Spec PyProof.Rows L2
def Syn.nm (S : Syn) (i : Nat) (x : Str) : Bool := decide (S.N[i]? = some x) && S.vis x && okName x
def Syn.st (S : Syn) (i : Nat) (x : Str) : Bool := decide (S.N[i]? = some x) && (match S.look x with | some .local => true | some .cell => S.top | _ => false)
def Syn.bn (S : Syn) (x y : Str) : Bool := decide (x = y) && S.gl x && S.bns.contains x
def cstOk : D → Expr → Bool
  | .int i, .Constant (.int j) _ _ => decide (i = j)
  | .bl i, .Constant (.bool j) _ _ => i == j
  | .non, .Constant .none _ _ => true
  | .str x, .Constant (.str y) _ _ => decide (x = y)
  | _, _ => false
def plainT : Expr → Bool
  | .UnaryOp .. => false | .BoolOp .. => false | .IfExp .. => false | .Compare .. => false
  | _ => true
def notSlice : Expr → Bool
  | .Slice .. => false
  | _ => true
def opEq : Operator → Operator → Bool
  | .Add, .Add => true | .Sub, .Sub => true | .Mult, .Mult => true | .FloorDiv, .FloorDiv => true | .Mod, .Mod => true | .Pow, .Pow => true
  | _, _ => false
theorem opEq_eq {a b : Operator} (h : opEq a b = true) : a = b := by cases a <;> cases b <;> first | rfl | cases h
def cpEq : CmpOp → CmpOp → Bool
  | .Eq, .Eq => true | .NotEq, .NotEq => true | .Lt, .Lt => true | .LtE, .LtE => true | .Gt, .Gt => true | .GtE, .GtE => true
  | .In, .In => true | .NotIn, .NotIn => true | .Is, .Is => true | .IsNot, .IsNot => true
  | _, _ => false
theorem cpEq_eq {a b : CmpOp} (h : cpEq a b = true) : a = b := by cases a <;> cases b <;> first | rfl | cases h
abbrev Inf := Option Rs × Bool
/-- a value whose test is its truth -/
def val (τ : List Slot) (e : Expr) (r : Option Rs) : Inf := (r, Rs.rd τ r && plainT e)
def fl (τ : List Slot) (e : Expr) (b : Bool) : Inf := val τ e (if b then some ⟨false, .F, τ⟩ else none)
mutual
/-- the slots' types behind a target -/
def chkG (S : Syn) : Tg → Ty → List Slot → Expr → Option (List Slot)
  | .s i, t, τ, e => match e with
    | .Name x _ => if S.st i x && decide (i < τ.length) then some (τ.set i (.own t)) else none
    | _ => none
  | .t l, t, τ, e => match e with
    | .Tuple es _ _ => if S.calm && es.all NS && decide (es.length = l.length) then (Ty.items l.length t).bind fun ts => chkGs S l ts τ es else none
    | _ => none
def chkGs (S : Syn) : List Tg → List Ty → List Slot → List Expr → Option (List Slot)
  | [], ts, τ, es => match ts, es with
    | [], [] => some τ
    | _, _ => none
  | g :: gs, ts, τ, es => match ts, es with
    | t :: ts, e :: es => (chkG S g t τ e).bind fun τ' => chkGs S gs ts τ' es
    | _, _ => none
end
def nameIs (S : Syn) (x : Str) (e : Expr) : Bool := match e with
  | .Name z _ => decide (z = x) && S.gl x && okName x
  | _ => false
/-- names of the module's own, one behind another -/
def namesAre (S : Syn) : List Str → List Expr → Bool
  | [], es => match es with | [] => true | _ => false
  | x :: xs, es => match es with
    | e :: es => nameIs S x e && namesAre S xs es
    | [] => false
def BI.nm : BI → Str
  | .len => "len" | .list => "list" | .tuple => "tuple" | .int => "int" | .str => "str" | .min2 => "min" | .max2 => "max" | .sum => "sum" | .sorted => "sorted" | .abs => "abs" | .all => "all" | .any => "any" | .dict => "dict" | .isi _ => "isinstance" | .lenset => "len"
/-- built-in functions that want that no error is being handled -/
def BI.hot : BI → Bool
  | .min2 => true | .max2 => true | .all => true | .any => true | .sum => true
  | _ => false
/-- built-in functions that are read and answer flat -/
def BI.rd : BI → Bool
  | .len => true | .int => true | .str => true | .min2 => true | .max2 => true | .abs => true | .all => true | .any => true | .sum => true
  | _ => false
def Syn.inBlk (S : Syn) (scope : Scope) : Syn := { S with sc := relS scope S.sc, top := false }
def ownOk (S : Syn) (τ : List Slot) (own : List Nat) : Bool := own.all fun i => match τ[i]? with | some .gone => true | _ => false
def noSet : Expr → Bool
  | .Set .. => false
  | _ => true
def kysOk : List ME → List (Option Expr) → Bool
  | [], [] => true
  | .cst d :: ms, some e :: es => cstOk d e && kysOk ms es
  | _, _ => false
def callArgs : Expr → List Expr
  | .Call _ xs _ _ => xs
  | _ => []
def isTup : Expr → Bool
  | .Tuple .. => true
  | _ => false
/-- what is walked -/
def wk (S : Syn) (τ : List Slot) (k : SrcK) (r1 : Option Rs) (rl : Bool) (ro : Option (List Ty × List Slot)) (tgE : Expr) (iter : Expr) : Option (List Slot) :=
  match k with
  | .seq => (Rs.ow r1).map (·.2)
  | .rng1 => match iter with
    | .Call (.Name x _) xs kw _ => match xs, kw with
      | [a], [] => if NS a && S.bn x "range" && rl then some τ else none
      | _, _ => none
    | _ => none
  | .rng2 => match iter with
    | .Call (.Name x _) xs kw _ => match xs, kw with
      | [a, b], [] => if NS a && NS b && S.bn x "range" && rl then some τ else none
      | _, _ => none
    | _ => none
  | .rng3 => match iter with
    | .Call (.Name x _) xs kw _ => match xs, kw with
      | [a, b, c], [] => if NS a && NS b && NS c && S.bn x "range" && rl then some τ else none
      | _, _ => none
    | _ => none
  | .enum => match iter with
    | .Call (.Name x _) xs kw _ => match xs, kw with
      | [a], [] => if NS a && S.bn x "enumerate" && isTup tgE then ro.map (·.2) else none
      | _, _ => none
    | _ => none
  | .zip => match iter with
    | .Call (.Name x _) xs kw _ => match xs, kw with
      | [a, b], [] => if NS a && NS b && S.bn x "zip" && isTup tgE then ro.map (·.2) else none
      | _, _ => none
    | _ => none
  | .rev => match iter with
    | .Call (.Name x _) xs kw _ => match xs, kw with
      | [a], [] => if NS a && S.bn x "reversed" then ro.map (·.2) else none
      | _, _ => none
    | _ => none
  | _ => none
def wkC (S : Syn) (τ : List Slot) (k : SrcK) (r1 : Option Rs) (rl : Bool) (ro : Option (List Ty × List Slot)) (tgE : Expr) (iter : Expr) : Option (List Slot) :=
  match wk S τ k r1 rl ro tgE iter with
  | some τ' => some τ'
  | none => match k with
    | .seq => if Rs.sh τ r1 then some τ else none
    | _ => none
/-- a method is taken from it as from any thing -/
def attrOk : Expr → Bool
  | .Name .. => true
  | .Call _ (_ :: _) _ _ => true
  | .Subscript .. => true
  | _ => false
def isFt : Option Ty → Bool
  | some .F => true
  | _ => false
def noBorB (τ : List Slot) : Bool := τ.all fun s => match s with | .bor _ => false | _ => true
def isFs : Option Slot → Bool
  | some (.own .F) => true
  | _ => false
def wkF (S : Syn) (k : SrcK) (i : Nat) (tgE iter : Expr) : Bool := match k with
  | .keys => match iter with
    | .Name x _ => S.nm i x
    | _ => false
  | .vals => match iter with
    | .Call (.Attribute (.Name x _) m apos) [] [] cpos => S.nm i x && decide (m = ("values" : Str)) && (apos.endLine == cpos.line)
    | _ => false
  | .items => match iter with
    | .Call (.Attribute (.Name x _) m apos) [] [] cpos => S.nm i x && decide (m = ("items" : Str)) && (apos.endLine == cpos.line) && isTup tgE
    | _ => false
  | _ => false
/-- a frozen dict at a slot that is walked -/
def wkD (S : Syn) (τ : List Slot) (k : SrcK) (as : List ME) (tgE iter : Expr) : Option Nat :=
  match as with
  | [.var i] => if S.calm && noBorB τ && isFs τ[i]? && wkF S k i tgE iter then some i else none
  | _ => none
def wkE (S : Syn) (τ : List Slot) (k : SrcK) (as : List ME) (r1 : Option Rs) (rl : Bool) (ro : Option (List Ty × List Slot)) (tgE : Expr) (iter : Expr) : Option (List Slot) :=
  match wkC S τ k r1 rl ro tgE iter with
  | some τ' => some τ'
  | none => match wkD S τ k as tgE iter with
    | some _ => some τ
    | none => none
mutual
def inf (S : Syn) (τ : List Slot) : ME → Expr → Inf
  | .cst d, e => fl τ e (cstOk d e)
  | .var i, e => val τ e (match e with
    | .Name x _ => if S.nm i x then (match τ[i]? with | some (.own t) => some ⟨false, t, τ⟩ | some (.bor t) => some ⟨false, t, τ⟩ | _ => none) else none
    | _ => none)
  | .mov i, e => val τ e (match e with
    | .Name x _ => if S.nm i x then (match τ[i]? with | some (.own t) => some ⟨true, t, τ.set i .gone⟩ | _ => none) else none
    | _ => none)
  | .frz i, e => val τ e (match e with
    | .Name x _ => if S.nm i x then (match τ[i]? with | some (.own _) => some ⟨true, .F, τ.set i (.own .F)⟩ | _ => none) else none
    | _ => none)
  | .frzE a, e => val τ e ((Rs.ow (inf S τ a e).1).map fun p => ⟨true, .F, p.2⟩)
  | .glob i, e => fl τ e (match e with
    | .Name x _ => decide (S.gls[i]? = some x) && S.gl x && okName x
    | _ => false)
  | .bin o a b, e => val τ e (match e with
    | .BinOp x op y _ => if opEq op (opOf o) && Rs.sh τ (inf S τ a x).1 && Rs.sh τ (inf S τ b y).1 then some ⟨true, .F, τ⟩ else none
    | _ => none)
  | .neg a, e => match e with
    | .UnaryOp .USub x _ => (if Rs.rd τ (inf S τ a x).1 then some ⟨false, .F, τ⟩ else none, false)
    | _ => (none, false)
  | .cmp o a b, e => match e with
    | .Compare x ops ys _ => match ops, ys with
      | [op], [y] => if cpEq op (copOf o) && !behindInMarks op y && Rs.rd τ (inf S τ a x).1 && Rs.rd τ (inf S τ b y).1 then (some ⟨false, .F, τ⟩, true) else (none, false)
      | _, _ => (none, false)
    | _ => (none, false)
  | .chain o o' a b c, e => match e with
    | .Compare x ops ys _ => match ops, ys with
      | [op, op'], [y, z] => if cpEq op (copOf o) && cpEq op' (copOf o') && !behindInMarks op' z && Rs.rd τ (inf S τ a x).1 && Rs.rd τ (inf S τ b y).1 && Rs.rd τ (inf S τ c z).1 then (some ⟨false, .F, τ⟩, true) else (none, false)
      | _, _ => (none, false)
    | _ => (none, false)
  | .notE a, e => match e with
    | .UnaryOp .Not x _ => (if Rs.rd τ (inf S τ a x).1 then some ⟨false, .F, τ⟩ else none, (inf S τ a x).2)
    | _ => (none, false)
  | .boolE op es, e => match e with
    | .BoolOp .And vs _ => (if op && infB S τ es vs then some ⟨true, .F, τ⟩ else none, op && infTs S τ es vs)
    | .BoolOp .Or vs _ => (if !op && infB S τ es vs then some ⟨true, .F, τ⟩ else none, !op && infTs S τ es vs)
    | _ => (none, false)
  | .ife c a b, e => match e with
    | .IfExp x y z _ => (if (inf S τ c x).2 then (match Rs.ow (inf S τ a y).1, Rs.ow (inf S τ b z).1 with
        | some (t, τ'), some (t', τ'') => if tyEq t t' && slsEq τ' τ'' then some ⟨true, t, τ'⟩ else none
        | _, _ => none) else none, false)
    | _ => (none, false)
  | .idx a i, e => val τ e (match e with
    | .Subscript x y _ => if notSlice y && Rs.rd τ (inf S τ i y).1 then (Rs.path τ (inf S τ a x).1).bind fun t => if t.ix then some ⟨false, t.elem, τ⟩ else none else none
    | _ => none)
  | .slc a lo hi, e => val τ e (match e with
    | .Subscript x s _ => match s with
      | .Slice l h st _ => match st with
        | none => if Rs.sh τ (inf S τ a x).1 && infP S τ lo l && infP S τ hi h then some ⟨true, .F, τ⟩ else none
        | _ => none
      | _ => none
    | _ => none)
  | .tupE es, e => val τ e (match e with
    | .Tuple xs _ _ => if xs.all NS && decide (xs.length ≤ 1000) then (infLO S τ es xs).map fun p => ⟨true, .T p.1 .F, p.2⟩ else none
    | _ => none)
  | .lstE t es, e => val τ e (match e with
    | .List xs _ => if xs.all NS && decide (xs.length ≤ 1000) then (infLT S t τ es xs).map fun τ' => ⟨true, .L t, τ'⟩ else none
    | _ => none)
  | .dctE _ _ ks vs, e => val τ e (match e with
    | .Dict keys xs _ => if kysOk ks keys && keys.all (·.isSome) && decide (keys.length = xs.length) && decide (keys.length ≤ 15) && infLF S τ vs xs then some ⟨true, .Dc [] .F, τ⟩ else none
    | _ => none)
  | .bi f as, e => val τ e (match e with
    | .Call (.Name x _) xs kw _ => match kw with
      | [] => if xs.all NS && S.bn x f.nm && !xs.isEmpty then
          (if f.rd then (if (S.calm || !f.hot) && infLR S τ as xs then some ⟨false, .F, τ⟩ else none) else match f with
            | .list => if infLS S τ as xs then some ⟨true, .L .F, τ⟩ else none
            | .tuple => if infLS S τ as xs then some ⟨true, .F, τ⟩ else none
            | .isi ts => match ts, as, xs with
              | [T], [a], [y, z] => match z with
                | .Name w _ => if Rs.rd τ (inf S τ a y).1 && S.bn w (Str.ofString T.nm) then some ⟨false, .F, τ⟩ else none
                | _ => none
              | _, _, _ => none
            | _ => none) else none
      | _ => none
    | _ => none)
  | .call k as, e => val τ e (match e with
    | .Call (.Name x _) xs kw _ => match kw with
      | [] => match S.fns[k]? with
        | some F => if S.calm && decide (F.x = x) && S.gl x && okName x && xs.all NS then (infLP S F.ps τ as xs).map fun τ' => ⟨true, F.t, τ'⟩ else none
        | none => none
      | _ => none
    | _ => none)
  | .lrng a b, e => val τ e (match e with
    | .Call (.Name x _) xs kw _ => match xs, kw with
      | [w], [] => match w with
        | .Call (.Name z _) ys kw2 _ => match ys, kw2 with
          | [u, v], [] => if S.calm && S.bn x "list" && S.bn z "range" && NS u && NS v && Rs.rd τ (inf S τ a u).1 && Rs.rd τ (inf S τ b v).1 then some ⟨true, .L .F, τ⟩ else none
          | _, _ => none
        | _ => none
      | _, _ => none
    | _ => none)
  | .lenset a, e => val τ e (match e with
    | .Call (.Name x _) xs kw _ => match xs, kw with
      | [w], [] => match w with
        | .Call (.Name z _) ys kw2 _ => match ys, kw2 with
          | [u], [] => if S.calm && S.bn x "len" && S.bn z "set" && NS u && Rs.rd τ (inf S τ a u).1 then some ⟨false, .F, τ⟩ else none
          | _, _ => none
        | _ => none
      | _, _ => none
    | _ => none)
  | .tupO a, e => val τ e (match e with
    | .Call (.Name x _) xs kw _ => match xs, kw with
      | [y], [] => if S.bn x "tuple" && NS y then (match Rs.ow (inf S τ a y).1 with
        | some (.L t, τ') => some ⟨true, .T [] t, τ'⟩
        | _ => none) else none
      | _, _ => none
    | _ => none)
  | .tidx ys b, e => val τ e (match e with
    | .Call f xs kw cpos => match f, xs, kw with
      | .Attribute (.Name x _) nm apos, [y], [] => if decide (nm = ("index" : Str)) && S.gl x && okName x && decide ((x, ys) ∈ S.tups) && (apos.endLine == cpos.line) && NS y && Rs.rd τ (inf S τ b y).1 then some ⟨false, .F, τ⟩ else none
      | _, _, _ => none
    | _ => none)
  | .join s b, e => val τ e (match e with
    | .Call f xs kw cpos => match f, xs, kw with
      | .Attribute o nm apos, [y], [] => match o with
        | .Constant (.str z) _ _ => if decide (nm = ("join" : Str)) && decide (z = s) && (apos.endLine == cpos.line) && NS y && Rs.rd τ (inf S τ b y).1 then some ⟨false, .F, τ⟩ else none
        | _ => none
      | _, _, _ => none
    | _ => none)
  | .splt a s, e => val τ e (match e with
    | .Call f xs kw cpos => match f, xs, kw with
      | .Attribute o nm apos, [y], [] => match o, y with
        | .Name x p, .Constant (.str z) _ _ => if decide (nm = ("split" : Str)) && decide (z = s) && (apos.endLine == cpos.line) && Rs.rd τ (inf S τ a (.Name x p)).1 then some ⟨true, .L .F, τ⟩ else none
        | _, _ => none
      | _, _, _ => none
    | _ => none)
  | .isx i x, e => val τ e (match e with
    | .Call (.Name f _) xs kw _ => match xs, kw with
      | [w, z], [] => match w, z with
        | .Name y _, .Name z _ => if !S.calm && S.bn f "isinstance" && S.nm i y && decide (z = x) && S.gl x && okName x && isExc τ[i]? then some ⟨false, .F, τ⟩ else none
        | _, _ => none
      | _, _ => none
    | _ => none)
  | .keysL a, e => val τ e (match e with
    | .Call (.Name x _) xs kw _ => match xs, kw with
      | [y], [] => if S.calm && S.bn x "list" && NS y && Rs.rd τ (inf S τ a y).1 then some ⟨true, .L .F, τ⟩ else none
      | _, _ => none
    | _ => none)
  | .srt a, e => val τ e (match e with
    | .Call (.Name x _) xs kw _ => match xs, kw with
      | [y], [] => if S.bn x "sorted" && NS y && Rs.rd τ (inf S τ a y).1 then some ⟨true, .L .F, τ⟩ else none
      | _, _ => none
    | _ => none)
  | .ixL a b, e => val τ e (match e with
    | .Call g xs kw cpos => match g, xs, kw with
      | .Attribute o m apos, [y], [] => if decide (m = ("index" : Str)) && NS y && attrOk o && (apos.endLine == cpos.line) && Rs.rd τ (inf S τ a o).1 && Rs.rd τ (inf S τ b y).1 then some ⟨false, .F, τ⟩ else none
      | _, _, _ => none
    | _ => none)
  | .getD a b c, e => val τ e (match e with
    | .Call g xs kw cpos => match g, xs, kw with
      | .Attribute o m apos, [y, z], [] => if decide (m = ("get" : Str)) && NS y && NS z && attrOk o && (apos.endLine == cpos.line) && Rs.sh τ (inf S τ a o).1 && Rs.rd τ (inf S τ b y).1 && isFt (Rs.path τ (inf S τ c z).1) then some ⟨false, .F, τ⟩ else none
      | _, _, _ => none
    | _ => none)
  | .catL a b, e => val τ e (match e with
    | .BinOp x op y _ => if opEq op .Add && Rs.sh τ (inf S τ a x).1 && Rs.sh τ (inf S τ b y).1 then some ⟨true, .L .F, τ⟩ else none
    | _ => none)
  | .mulL a b, e => val τ e (match e with
    | .BinOp x op y _ => if opEq op .Mult && Rs.sh τ (inf S τ a x).1 && Rs.sh τ (inf S τ b y).1 then some ⟨true, .L .F, τ⟩ else none
    | _ => none)
  | .varN i, e => val τ e (match e with
    | .Name x _ => if S.nm i x && isN τ[i]? then some ⟨false, .F, τ⟩ else none
    | _ => none)
  | .slcN a lo hi, e => val τ e (match e with
    | .Subscript x s _ => match s with
      | .Slice l h st _ => match st with
        | none => if Rs.sh τ (inf S τ a x).1 && infP S τ lo l && infP S τ hi h then some ⟨true, .N, τ⟩ else none
        | _ => none
      | _ => none
    | _ => none)
  | .cntN i b, e => val τ e (match e with
    | .Call f xs kw cpos => match f, xs, kw with
      | .Attribute o nm apos, [y], [] => match o with
        | .Name x _ => if S.nm i x && decide (nm = ("count" : Str)) && isN τ[i]? && (apos.endLine == cpos.line) && NS y && Rs.rd τ (inf S τ b y).1 then some ⟨false, .F, τ⟩ else none
        | _ => none
      | _, _, _ => none
    | _ => none)
  | .isxs i xs, e => val τ e (match e with
    | .Call (.Name f _) ys kw _ => match ys, kw with
      | [w, z], [] => match w, z with
        | .Name y _, .Tuple es _ _ => if !S.calm && S.bn f "isinstance" && S.nm i y && namesAre S xs es && decide (es.length ≤ 1000) && isExc τ[i]? then some ⟨false, .F, τ⟩ else none
        | _, _ => none
      | _, _ => none
    | _ => none)
  | .gidx tab b, e => val τ e (match e with
    | .Subscript x y _ => match x with
      | .Name x _ => if S.gl x && okName x && S.tab x tab && notSlice y && Rs.rd τ (inf S τ b y).1 then some ⟨false, .F, τ⟩ else none
      | _ => none
    | _ => none)
  | .gin neg tab b, e => match e with
    | .Compare y ops xs _ => match ops, xs with
      | [op], [x] => match x with
        | .Name x p => if cpEq op (ginOp neg) && S.gl x && okName x && S.tab x tab && !behindInMarks op (.Name x p) && Rs.rd τ (inf S τ b y).1 then (some ⟨false, .F, τ⟩, true) else (none, false)
        | _ => (none, false)
      | _, _ => (none, false)
    | _ => (none, false)
  | .comp elt tg own k as cond, e => val τ e (match e with
    | .ListComp x gens scope _ => match gens with
      | [⟨tgE, iter, ifs, isA⟩] => if S.calm && decide (isA = 0) && noSet iter && blkC S.N S.sc scope (own.map fun i => (S.N.getD i (Str.ofString ""), i)) then
          match wkE S τ k as (inf1 S τ as iter) (infLR S τ as (callArgs iter)) (infLO S τ as (callArgs iter)) tgE iter with
          | some τ' => if ownOk S τ' own && (Tg.slots tg).all (own.contains ·) then
              match chkG (S.inBlk scope) tg .F τ' tgE with
              | some τ2 => if slsEq (goneAll τ2 own) τ' && infC (S.inBlk scope) τ2 cond ifs then
                  match Rs.ow (inf (S.inBlk scope) τ2 elt x).1 with
                  | some (t, τ3) => if slsEq τ3 τ2 then some ⟨true, .L t, τ'⟩ else none
                  | none => none
                else none
              | none => none
            else none
          | none => none
        else none
      | _ => none
    | _ => none)
/-- all owned, by their own types -/
def infLO (S : Syn) (τ : List Slot) : List ME → List Expr → Option (List Ty × List Slot)
  | [], xs => match xs with | [] => some ([], τ) | _ => none
  | m :: ms, xs => match xs with
    | x :: xs => match Rs.ow (inf S τ m x).1 with
      | some (t, τ') => (infLO S τ' ms xs).map fun p => (t :: p.1, p.2)
      | none => none
    | [] => none
def infLT (S : Syn) (t : Ty) (τ : List Slot) : List ME → List Expr → Option (List Slot)
  | [], xs => match xs with | [] => some τ | _ => none
  | m :: ms, xs => match xs with
    | x :: xs => match Rs.owT t m (inf S τ m x).1 with
      | some τ' => infLT S t τ' ms xs
      | none => none
    | [] => none
def infLR (S : Syn) (τ : List Slot) : List ME → List Expr → Bool
  | [], xs => xs.isEmpty
  | m :: ms, xs => match xs with
    | x :: xs => Rs.rd τ (inf S τ m x).1 && infLR S τ ms xs
    | [] => false
def infLF (S : Syn) (τ : List Slot) : List ME → List Expr → Bool
  | [], xs => xs.isEmpty
  | m :: ms, xs => match xs with
    | x :: xs => (match Rs.ow (inf S τ m x).1 with | some (_, τ') => slsEq τ' τ | none => false) && infLF S τ ms xs
    | [] => false
def infLS (S : Syn) (τ : List Slot) : List ME → List Expr → Bool
  | [], xs => xs.isEmpty
  | m :: ms, xs => match xs with
    | x :: xs => Rs.sh τ (inf S τ m x).1 && infLS S τ ms xs
    | [] => false
def infLP (S : Syn) (ps : List (Option Ty)) (τ : List Slot) : List ME → List Expr → Option (List Slot)
  | [], xs => match ps, xs with | [], [] => some τ | _, _ => none
  | m :: ms, xs => match ps, xs with
    | p :: ps, x :: xs => match p with
      | none => match Rs.ow (inf S τ m x).1 with
        | some (_, τ') => infLP S ps τ' ms xs
        | none => none
      | some t => match Rs.path τ (inf S τ m x).1 with
        | some t' => if tyEq t t' then infLP S ps τ ms xs else none
        | none => none
    | _, _ => none
/-- owned and frozen, the slots as before -/
def infB (S : Syn) (τ : List Slot) : List ME → List Expr → Bool
  | [], _ => false
  | m :: ms, xs => match xs with
    | x :: xs => (match Rs.ow (inf S τ m x).1 with | some (_, τ') => slsEq τ' τ | none => false) && (match ms, xs with | [], [] => true | _, _ => infB S τ ms xs)
    | [] => false
def infTs (S : Syn) (τ : List Slot) : List ME → List Expr → Bool
  | [], _ => false
  | m :: ms, xs => match xs with
    | x :: xs => (inf S τ m x).2 && (match ms, xs with | [], [] => true | _, _ => infTs S τ ms xs)
    | [] => false
def infP (S : Syn) (τ : List Slot) : Option ME → Option Expr → Bool
  | none, x => x.isNone
  | some m, x => match x with
    | some x => Rs.rd τ (inf S τ m x).1
    | none => false
def infC (S : Syn) (τ : List Slot) : Option ME → List Expr → Bool
  | none, xs => xs.isEmpty
  | some m, xs => match xs with
    | [x] => (inf S τ m x).2
    | _ => false
def inf1 (S : Syn) (τ : List Slot) : List ME → Expr → Option Rs
  | [], _ => none
  | m :: ms, x => match ms with
    | [] => (inf S τ m x).1
    | _ => none
end
end My

set_option Elab.async false
set_option linter.all false
set_option maxRecDepth 100000
/-! The inference is sound. -/
namespace My
open PySem PySem.Spec PyProof.Rows L2
theorem and2 {a b : Bool} (h : (a && b) = true) : a = true ∧ b = true := Bool.and_eq_true_iff.mp h
theorem and3 {a b c : Bool} (h : (a && b && c) = true) : a = true ∧ b = true ∧ c = true := ⟨(and2 (and2 h).1).1, (and2 (and2 h).1).2, (and2 h).2⟩
theorem isTrue_plainT {e : Expr} {env : PySem.Env} (h : plainT e = true) : ∀ whole, isTrue e env whole = (do let v ← whole; standAt e.pos; holding [v] (truthy v)) := by
  cases e <;> first | (intro w; rfl) | cases h
section
variable {kR : Nat} {S : Syn} {Φ : Tab} {X : Cx} {c : FC} {τ τ' : List Slot} {e : Expr} {f f' : EF} {r : Option Rs} {t : Ty} {m : ME} {i : Nat} {x : Str} {pos : Pos}
theorem nm_pe (g : GX kR S Φ X c) (h : S.nm i x = true) : PE X (.Name x pos) (tVar i) := by
  obtain ⟨h1, h2, h3⟩ := and3 h
  obtain ⟨h3, h4, h5⟩ := and3 h3
  refine pe_var (by rw [g.N]; exact of_decide_eq_true h1) ?_ (by simpa using h3) (by simpa using h4)
  unfold Syn.vis Syn.look at h2
  unfold Vis
  rw [g.sc]
  split at h2 <;> first | cases h2 | skip
  · exact .inl (by assumption)
  · exact .inr (.inl (by assumption))
  · exact .inr (.inr (by assumption))
theorem st_pg (g : GX kR S Φ X c) (h : S.st i x = true) : PG X (.Name x pos) (gName i) := by
  obtain ⟨h1, h2⟩ := and2 h
  have e1 : X.N[i]? = some x := by rw [g.N]; exact of_decide_eq_true h1
  unfold Syn.look at h2
  split at h2
  · rename_i h3
    exact pg_name g.nd e1 (.inl (by rw [g.sc]; exact h3)) (.inr (by rw [g.sc]; exact h3))
  · rename_i h3
    exact pg_name g.nd e1 (.inr (by rw [g.sc]; exact h3)) (.inl (g.fn h2 x))
  · cases h2
theorem st_of (g : GX kR S Φ X c) (h : S.st i x = true) : X.N[i]? = some x ∧ Loc X.env.scope x ∧ (X.fn x = true ∨ X.env.scope.names.lookup x = some .local) := by
  obtain ⟨h1, h2⟩ := and2 h
  have e1 : X.N[i]? = some x := by rw [g.N]; exact of_decide_eq_true h1
  unfold Syn.look at h2
  split at h2
  · rename_i h3
    exact ⟨e1, .inl (by rw [g.sc]; exact h3), .inr (by rw [g.sc]; exact h3)⟩
  · rename_i h3
    exact ⟨e1, .inr (by rw [g.sc]; exact h3), .inl (g.fn h2 x)⟩
  · cases h2
theorem gl_of (g : GX kR S Φ X c) (h : S.gl x = true) : Gl X x := by
  unfold Syn.gl Syn.look at h
  unfold Gl
  split at h
  · rename_i h2
    show X.env.scope.names.lookup x = _
    rw [g.sc]; exact h2
  · cases h
theorem bn_of {y : Str} (g : GX kR S Φ X c) (h : S.bn x y = true) : x = y ∧ Bn X x := by
  obtain ⟨h1, h2, h3⟩ := and3 h
  exact ⟨of_decide_eq_true h1, gl_of g h2, g.bns x (by simpa using h3)⟩
theorem Sound.congr (h : Sound X c τ e f r) (q : f = f') : Sound X c τ e f' r := by subst q; exact h
theorem val_ok (h : Sound X c τ e f r) : Sound X c τ e f (val τ e r).1 ∧ ((val τ e r).2 = true → DT X c τ e fun ρ => (f ρ).bind truth) :=
  ⟨h, fun k => by
    obtain ⟨k1, k2⟩ := and2 k
    exact dt_truth (h.rd k1) (isTrue_plainT k2)⟩
theorem fl_ok {b : Bool} (h : b = true → DP X c τ e .F f) : Sound X c τ e f (fl τ e b).1 ∧ ((fl τ e b).2 = true → DT X c τ e fun ρ => (f ρ).bind truth) := by
  unfold fl
  refine val_ok ?_
  cases b with
  | false => trivial
  | true => exact ⟨rfl, h rfl⟩
theorem cst_ok {d : D} (h : cstOk d e = true) : DP X c τ e t fun _ => some d := by
  unfold cstOk at h
  split at h
  · have := of_decide_eq_true h; subst this; exact de_int
  · have := eq_of_beq h; subst this; exact de_bl
  · exact de_non
  · have := of_decide_eq_true h; subst this; exact de_str
  · cases h
theorem plainIx_of (h : notSlice e = true) : PlainIx e := by cases e <;> first | (intro o i; rfl) | cases h
theorem noSet_of {env : PySem.Env} (h : noSet e = true) : ∀ x, foldedSetIterable e env x = pure x := by cases e <;> first | (intro x; rfl) | cases h
theorem DT.congr {g g' : Env → Option Bool} (h : DT X c τ e g) (q : g = g') : DT X c τ e g' := by subst q; exact h
theorem truth_bl (b : Bool) : truth (.bl b) = some b := rfl
theorem map_bl_truth (o : Option Bool) : (o.map D.bl).bind truth = o := by cases o <;> rfl
mutual
theorem chkG_ok (g : GX kR S Φ X c) : ∀ (tg : Tg) (t : Ty) (τ τ' : List Slot) (e : Expr), chkG S tg t τ e = some τ' → DG X c τ τ' e t tg
  | .s i, t, τ, τ', e, h => by
    unfold chkG at h
    split at h
    · split at h
      · rename_i h2
        obtain ⟨h2, h3⟩ := and2 h2
        cases h
        exact dg_name (st_pg g h2) (of_decide_eq_true h3)
      · cases h
    · cases h
  | .t l, t, τ, τ', e, h => by
    unfold chkG at h
    split at h
    · split at h
      · rename_i es _ _ h2
        obtain ⟨h2, h3⟩ := and2 h2
        obtain ⟨hcm, h2⟩ := and2 h2
        obtain ⟨ts, h4, h5⟩ := bind1 h
        exact dg_tup (g.calm hcm) h2 (of_decide_eq_true h3) h4 (chkGs_ok g l ts τ τ' es h2 h5)
      · cases h
    · cases h
theorem chkGs_ok (g : GX kR S Φ X c) : ∀ (l : List Tg) (ts : List Ty) (τ τ' : List Slot) (es : List Expr), es.all NS = true → chkGs S l ts τ es = some τ' → DGs X c τ τ' es ts l
  | [], ts, τ, τ', es, _, h => by
    unfold chkGs at h
    split at h
    · cases h; exact dgs_nil
    · cases h
  | tg :: l, ts, τ, τ', es, hn, h => by
    unfold chkGs at h
    split at h
    · rename_i t ts e es
      obtain ⟨τ1, h1, h2⟩ := bind1 h
      obtain ⟨n1, n2⟩ := and2 (show (NS e && es.all NS) = true from hn)
      exact dgs_cons n1 (chkG_ok g tg t τ τ1 e h1) (chkGs_ok g l ts τ1 τ' es n2 h2)
    · cases h
end
theorem gx_blk {X' : Cx} {scope : Scope} (hcm : S.calm = true) (hk : scope.kind = .function) (g : GX kR S Φ X c) (h : Blk X X' scope) : GX kR (S.inBlk scope) Φ X' c := by
  obtain ⟨s, H, C, cl, fp, rfl⟩ := h
  refine { N := g.N, sc := by show relS scope X.env.scope = relS scope S.sc; rw [g.sc], nd := g.nd, kind := ?_, calm := g.calm, pas := PassesOwn.never, fn := (fun h => by cases h), units := g.units, room := g.room, fns := g.fns, gls := g.gls, bns := g.bns, tups := g.tups, tabs := g.tabs, exi := (fun h => absurd (show S.calm = false from h) (by rw [hcm]; decide)), excs := g.excs, subs := g.subs, cats := g.cats, stk := (fun h => by cases h) }
  exact hk

theorem isTup_of {e : Expr} (h : isTup e = true) : ∃ es k p, e = .Tuple es k p := by cases e <;> first | exact ⟨_, _, _, rfl⟩ | cases h
theorem wk_ok {tgE iter : Expr} {k : SrcK} {as : List ME} {r1 : Option Rs} {rl : Bool} {ro : Option (List Ty × List Slot)} (g : GX kR S Φ X c) (h1 : Sound X c τ iter (fun ρ => (evs Φ as ρ).bind fun ds => match ds with | [d] => some d | _ => none) r1)
    (h2 : rl = true → ∀ {xs : List Expr}, callArgs iter = xs → xs.all NS = true → DAr X c τ xs (evs Φ as))
    (hO : ∀ {xs : List Expr} {ts : List Ty} {τ' : List Slot}, callArgs iter = xs → xs.all NS = true → ro = some (ts, τ') → DA X c τ τ' xs ts (evs Φ as) ∧ ts.length = xs.length) (h : wk S τ k r1 rl ro tgE iter = some τ') : DI X c τ τ' tgE iter fun ρ => (evs Φ as ρ).bind (srcItems k) := by
  unfold wk at h
  split at h
  · obtain ⟨p, h3, h4⟩ := map1 h
    have d := (h1.ow (t := p.1) (τ' := p.2) h3)
    rw [h4] at d
    exact di_seqA (DO.freeze d)
  · split at h
    · split at h
      · rename_i a
        split at h
        · rename_i h0
          obtain ⟨h3, h4, h5⟩ := and3 h0
          clear h0
          cases h
          obtain ⟨rfl, b⟩ := bn_of g h4
          exact di_rng1 b h3 (h2 h5 rfl (by simp [h3]))
        · cases h
      · cases h
    · cases h
  · split at h
    · split at h
      · rename_i a b'
        split at h
        · rename_i h0
          obtain ⟨h1', h4⟩ := and2 h0
          obtain ⟨h3, h6, h5⟩ := and3 h1'
          clear h0 h1'
          cases h
          obtain ⟨rfl, b⟩ := bn_of g h5
          exact di_rng2 b h3 h6 (h2 h4 rfl (by simp [h3, h6]))
        · cases h
      · cases h
    · cases h
  · split at h
    · split at h
      · rename_i a b' c'
        split at h
        · rename_i h0
          obtain ⟨h0, h4⟩ := and2 h0
          obtain ⟨h0, h5⟩ := and2 h0
          obtain ⟨n1, n2, n3⟩ := and3 h0
          clear h0
          cases h
          obtain ⟨rfl, b⟩ := bn_of g h5
          exact di_rng3 b n1 n2 n3 (h2 h4 rfl (by simp [n1, n2, n3]))
        · cases h
      · cases h
    · cases h
  · split at h
    · split at h
      · rename_i a
        split at h
        · rename_i h0
          obtain ⟨n1, h4, h5⟩ := and3 h0
          clear h0
          obtain ⟨rfl, b⟩ := bn_of g h4
          obtain ⟨es, kk, pp, rfl⟩ := isTup_of h5
          obtain ⟨p, h6, rfl⟩ := map1 h
          obtain ⟨d, hl⟩ := hO (xs := [a]) (ts := p.1) (τ' := p.2) rfl (by simp [n1]) h6
          match p, d, hl with
          | ([t], τ''), d, _ => exact di_enum b n1 d
        · cases h
      · cases h
    · cases h
  · split at h
    · split at h
      · rename_i a b'
        split at h
        · rename_i h0
          obtain ⟨h0, h5⟩ := and2 h0
          obtain ⟨n1, n2, h4⟩ := and3 h0
          clear h0
          obtain ⟨rfl, b⟩ := bn_of g h4
          obtain ⟨es, kk, pp, rfl⟩ := isTup_of h5
          obtain ⟨p, h6, rfl⟩ := map1 h
          obtain ⟨d, hl⟩ := hO (xs := [a, b']) (ts := p.1) (τ' := p.2) rfl (by simp [n1, n2]) h6
          match p, d, hl with
          | ([t, u], τ''), d, _ => exact di_zip b n1 n2 d
        · cases h
      · cases h
    · cases h
  · split at h
    · split at h
      · rename_i a
        split at h
        · rename_i h0
          obtain ⟨n1, h4⟩ := and2 h0
          clear h0
          obtain ⟨rfl, b⟩ := bn_of g h4
          obtain ⟨p, h6, rfl⟩ := map1 h
          obtain ⟨d, hl⟩ := hO (xs := [a]) (ts := p.1) (τ' := p.2) rfl (by simp [n1]) h6
          match p, d, hl with
          | ([t], τ''), d, _ => exact di_rev b n1 d
        · cases h
      · cases h
    · cases h
  · cases h
theorem wkC_ok {tgE iter : Expr} {k : SrcK} {as : List ME} {r1 : Option Rs} {rl : Bool} {ro : Option (List Ty × List Slot)} (g : GX kR S Φ X c) (h1 : Sound X c τ iter (fun ρ => (evs Φ as ρ).bind fun ds => match ds with | [d] => some d | _ => none) r1)
    (h2 : rl = true → ∀ {xs : List Expr}, callArgs iter = xs → xs.all NS = true → DAr X c τ xs (evs Φ as))
    (hO : ∀ {xs : List Expr} {ts : List Ty} {τ' : List Slot}, callArgs iter = xs → xs.all NS = true → ro = some (ts, τ') → DA X c τ τ' xs ts (evs Φ as) ∧ ts.length = xs.length) (h : wkC S τ k r1 rl ro tgE iter = some τ') : DIC X c τ τ' tgE iter fun ρ => (evs Φ as ρ).bind (srcItems k) := by
  unfold wkC at h
  split at h
  · rename_i hw
    cases h
    exact (wk_ok g h1 h2 hO hw).toC
  · split at h
    · split at h
      · rename_i h0
        cases h
        exact di_seqC (h1.sh h0)
      · cases h
    · cases h
end
theorem noBor_of {τ : List Slot} (h : noBorB τ = true) : NoBor τ := fun i t e => by
  have := List.all_eq_true.mp h _ (List.mem_of_getElem? e)
  cases this
theorem isFs_eq {a : Option Slot} (h : isFs a = true) : a = some (.own .F) := by
  unfold isFs at h
  split at h
  · rfl
  · cases h
theorem isFt_eq {a : Option Ty} (h : isFt a = true) : a = some .F := by
  unfold isFt at h
  split at h
  · rfl
  · cases h
theorem attrOk_base {o : Expr} {m : Str} {env : PySem.Env} {w : Sem Value} (h : attrOk o = true) : attributeBase o m env w = w := by
  unfold attrOk at h
  split at h <;> first | rfl | (rename_i f _ _ _ _; cases f <;> rfl) | cases h
theorem evs_one {ρ : Env} {i : Nat} {d : D} (e : ρ[i]? = some d) : evs Φ [.var i] ρ = some [d] := by
  show ((ρ[i]?).bind fun d => (some []).map (d :: ·)) = _
  rw [e]; rfl
/-- a dict that is walked: what is walked, its turns -/
theorem wkD_ok {tgE iter : Expr} {k : SrcK} {as : List ME} {i : Nat} (g : GX kR S Φ X c) (h : wkD S τ k as tgE iter = some i) : S.calm = true ∧ as = [.var i] ∧ τ[i]? = some (.own .F) ∧ NoBor τ ∧ ∃ wi, PI X tgE iter wi ∧ WkK X τ i wi (srcK k) ∧ ∀ d ds, srcItems k [d] = some ds → ∃ kds, d = .dct kds ∧ ds = srcK k kds := by
  unfold wkD at h
  split at h
  · rename_i j
    split at h
    · rename_i h0
      cases h
      obtain ⟨h0, h4⟩ := and2 h0
      obtain ⟨h1, h2, h3⟩ := and3 h0
      refine ⟨h1, rfl, isFs_eq h3, noBor_of h2, ?_⟩
      clear h0 h1 h2 h3
      unfold wkF at h4
      split at h4
      · split at h4
        · exact ⟨_, pi_keys (nm_pe g h4), wk_keys, fun d ds e => by cases d <;> first | (cases e; exact ⟨_, rfl, rfl⟩) | cases e⟩
        · cases h4
      · split at h4
        · obtain ⟨a, b, d⟩ := and3 h4
          have b := of_decide_eq_true b
          subst b
          exact ⟨_, pi_values (nm_pe g a) rfl d, wk_vals, fun d ds e => by cases d <;> first | (cases e; exact ⟨_, rfl, rfl⟩) | cases e⟩
        · cases h4
      · split at h4
        · obtain ⟨h4, e⟩ := and2 h4
          obtain ⟨a, b, d⟩ := and3 h4
          have b := of_decide_eq_true b
          subst b
          obtain ⟨es, kk, pp, rfl⟩ := isTup_of e
          exact ⟨_, pi_items (nm_pe g a) rfl d, wk_items, fun d ds e => by cases d <;> first | (cases e; exact ⟨_, rfl, rfl⟩) | cases e⟩
        · cases h4
      · cases h4
    · cases h
  · cases h
theorem wkE_ok {tgE iter : Expr} {k : SrcK} {as : List ME} {r1 : Option Rs} {rl : Bool} {ro : Option (List Ty × List Slot)} (g : GX kR S Φ X c) (h1 : Sound X c τ iter (fun ρ => (evs Φ as ρ).bind fun ds => match ds with | [d] => some d | _ => none) r1)
    (h2 : rl = true → ∀ {xs : List Expr}, callArgs iter = xs → xs.all NS = true → DAr X c τ xs (evs Φ as))
    (hO : ∀ {xs : List Expr} {ts : List Ty} {τ' : List Slot}, callArgs iter = xs → xs.all NS = true → ro = some (ts, τ') → DA X c τ τ' xs ts (evs Φ as) ∧ ts.length = xs.length) (h : wkE S τ k as r1 rl ro tgE iter = some τ') :
    DIC X c τ τ' tgE iter (fun ρ => (evs Φ as ρ).bind (srcItems k)) ∨ (τ' = τ ∧ DLk X τ tgE iter fun ρ => (evs Φ as ρ).bind (srcItems k)) := by
  unfold wkE at h
  split at h
  · rename_i hw
    cases h
    exact .inl (wkC_ok g h1 h2 hO hw)
  · split at h
    · rename_i i hw
      cases h
      obtain ⟨_, rfl, hi, nb, wi, pw, ow, hs⟩ := wkD_ok g hw
      refine .inr ⟨rfl, wi, i, srcK k, pw, hi, nb, ow, fun ρ ds e => ?_⟩
      obtain ⟨xs, e1, e2⟩ := bind1 e
      cases er : ρ[i]? with
      | none => 
        have : evs Φ [.var i] ρ = none := by
          show ((ρ[i]?).bind fun d => (some []).map (d :: ·)) = _
          rw [er]; rfl
        rw [this] at e1; cases e1
      | some d =>
        rw [evs_one er] at e1
        cases e1
        obtain ⟨kds, rfl, rfl⟩ := hs d ds e2
        exact ⟨kds, rfl, rfl⟩
    · cases h
/-- nothing of it hangs on what the callers hold -/
theorem GX.any (g : GX kR S Φ X c) (hcm : S.calm = true) (c' : FC) : GX kR S Φ X c' :=
  { N := g.N, sc := g.sc, nd := g.nd, kind := g.kind, calm := g.calm, pas := g.pas, fn := g.fn, units := g.units, room := g.room, fns := g.fns, gls := g.gls, bns := g.bns, tups := g.tups, tabs := g.tabs, exi := (fun h => absurd h (by rw [hcm]; decide)), excs := g.excs, subs := g.subs, cats := g.cats, stk := g.stk }
end My

set_option Elab.async false
set_option linter.all false
set_option maxRecDepth 100000
/-! Dict displays. -/
namespace My
open PySem PySem.Spec PyProof.Rows L2
theorem putD_mem {α : Type} {k j : Key} {v : α} : ∀ {kvs : List (Key × α)}, j ∈ (putD k v kvs).map (·.1) → j = k ∨ j ∈ kvs.map (·.1)
  | [], h => by
    have h : j ∈ [k] := h
    exact .inl (List.mem_singleton.mp h)
  | (k', u) :: r, h => by
    unfold putD at h
    split at h
    · exact .inr h
    · rcases List.mem_cons.mp h with h | h
      · exact .inr (List.mem_cons.mpr (.inl h))
      · rcases putD_mem (kvs := r) h with h | h
        · exact .inl h
        · exact .inr (List.mem_cons_of_mem _ h)
theorem putD_nodup {α : Type} {k : Key} {v : α} : ∀ {kvs : List (Key × α)}, (kvs.map (·.1)).Nodup → ((putD k v kvs).map (·.1)).Nodup
  | [], h => by
    show [k].Nodup
    simp
  | (k', u) :: r, h => by
    unfold putD
    split
    · exact h
    · rename_i ne
      have h2 := List.nodup_cons.mp h
      refine List.nodup_cons.mpr ⟨fun m => ?_, putD_nodup h2.2⟩
      rcases putD_mem m with m | m
      · exact ne m
      · exact h2.1 m
theorem putK_putD {k : Key} {v : V} : ∀ {kvs : List (Key × V)}, (kvs.map (·.1)).Nodup → putK kvs k v = putD k v kvs
  | [], _ => rfl
  | (k', u) :: r, nd => by
    obtain ⟨n1, n2⟩ := List.nodup_cons.mp nd
    unfold putD
    by_cases e : k' = k
    · subst e
      rw [if_pos rfl]
      unfold putK
      rw [if_pos (by simp), List.map_cons, if_pos rfl]
      refine congrArg _ ((List.map_congr_left fun p m => ?_).trans (List.map_id r))
      rw [if_neg fun e : p.1 = k' => n1 (List.mem_map.mpr ⟨p, m, e⟩)]; rfl
    · rw [if_neg e, ← putK_putD n2]
      unfold putK
      rw [List.any_cons, decide_eq_false e, Bool.false_or]
      split
      · rw [List.map_cons, if_neg e]
      · rfl
section
variable {K : PySem.W.Frag} {G H : Hp}
theorem FzK.put {k : Key} {v : V} {d : D} (h : Fz K G v d) : ∀ {kws : List (Key × V)} {kds : List (Key × D)}, FzK K G kws kds → FzK K G (putD k v kws) (putD k d kds)
  | _, _, .nil => .cons h .nil
  | _, _, .cons (k := k') q l => by
    unfold putD
    by_cases e : k' = k
    · rw [if_pos e, if_pos e]; exact .cons h l
    · rw [if_neg e, if_neg e]; exact .cons q (FzK.put h l)
theorem FzK.merge : ∀ {more : List (Key × V)} {r : List (Key × D)} {acc : List (Key × V)} {acc' : List (Key × D)}, FzK K G more r → FzK K G acc acc' → (acc.map (·.1)).Nodup → FzK K G (mergeK acc more) (mergeD acc' r) ∧ ((mergeK acc more).map (·.1)).Nodup
  | _, _, _, _, .nil, h, n => ⟨h, n⟩
  | _, _, acc, acc', .cons (k := k) (v := v) (d := d) (vs := vs) (ds := ds) q l, h, n => by
    have e : mergeK acc ((k, v) :: vs) = mergeK (putD k v acc) vs := by
      show mergeK (putK acc k v) vs = _
      rw [putK_putD n]
    rw [e]
    show FzK K G _ (mergeD (putD k d acc') ds) ∧ _
    exact FzK.merge l (h.put q) (putD_nodup n)
theorem FzK.trips : ∀ {kws : List (Key × V)} {kds : List (Key × D)}, FzK K G kws kds → ∃ kxs : List (Key × Trip), kws = kxs.map (fun p => (p.1, p.2.2.1)) ∧ kds = kxs.map (fun p => (p.1, p.2.2.2)) ∧ (∀ p ∈ kxs, p.2.1 = .F) ∧ RL K G H (kxs.map (·.2)) []
  | _, _, .nil => ⟨[], rfl, rfl, (fun p m => nomatch m), RL.nil⟩
  | _, _, .cons (k := k) (v := v) (d := d) q l => by
    obtain ⟨kxs, e1, e2, i, r⟩ := FzK.trips l
    refine ⟨(k, .F, v, d) :: kxs, by rw [e1]; rfl, by rw [e2]; rfl, fun p m => ?_, RL.cons (R.F q) r⟩
    rcases List.mem_cons.mp m with m | m
    · rw [m]
    · exact i p m
end
section
variable {X : Cx} {c : FC} {τ τ' : List Slot} {e : Expr} {es : List Expr} {pos : Pos}
inductive DVs (X : Cx) (c : FC) (τ : List Slot) : List Expr → (Env → Option (List D)) → Prop
  | nil : DVs X c τ [] fun _ => some []
  | cons {e : Expr} {es : List Expr} {fe : EF} {fs : Env → Option (List D)} : DO X c τ τ e .F fe → DVs X c τ es fs → DVs X c τ (e :: es) fun ρ => (fe ρ).bind fun x => (fs ρ).map fun xs => x :: xs
/-- constants as keys -/
inductive KysOk : List D → List (Option Expr) → Prop
  | nil : KysOk [] []
  | cons {d : D} {e : Expr} {ds : List D} {es : List (Option Expr)} : cstOk d e = true → KysOk ds es → KysOk (d :: ds) (some e :: es)
def DKV (X : Cx) (c : FC) (τ : List Slot) (pos : Pos) (ks : List (Option Expr)) (vs : List Expr) (kd : List D) (fv : Env → Option (List D)) : Prop := ∃ trs, PPs X pos ks vs trs ∧ ∀ hs G σ H ρ vd r (Q : List (V × V) → Hp → Prop), Ok X.K c τ hs G σ H ρ → fv ρ = some vd → mkDct kd vd = some r →
  (∀ G' H' kvs, Ok X.K c τ hs G' σ H' ρ → Same G G' → Same H H' → FzK X.K G' kvs r → kvs.length = vs.length → Q (kvs.map fun kv => (kV kv.1, kv.2)) H') → tPairs trs σ H Q
theorem dkv_of {pos : Pos} : ∀ {kd : List D} {ks : List (Option Expr)} {es : List Expr} {fv : Env → Option (List D)}, KysOk kd ks → DVs X c τ es fv → ks.length = es.length → DKV X c τ pos ks es kd fv
  | _, _, _, _, .nil, .nil, _ => ⟨[], pps_nil, fun hs G σ H ρ vd r Q k e em q => by cases e; cases em; exact q G H [] k (Same.refl _) (Same.refl _) .nil rfl⟩
  | _, _, _, _, .nil, .cons _ _, h => by cases h
  | _, _, _, _, .cons _ _, .nil, h => by cases h
  | _, _, _, _, .cons hk lk, .cons hv lv, h => by
    obtain ⟨trs, pp, o⟩ := dkv_of (pos := pos) lk lv (Nat.succ.inj h)
    obtain ⟨tk, pk, ok⟩ := (cst_ok (X := X) (c := c) (τ := τ) (t := .F) hk).read
    obtain ⟨tv, pv, ov⟩ := hv
    refine ⟨_, pps_cons pk pv pp, fun hs G σ H ρ vd r Q k e em q => ?_⟩
    obtain ⟨x, e1, e2⟩ := bind1 e
    obtain ⟨xs, e3, rfl⟩ := map1 e2
    unfold mkDct at em
    obtain ⟨kk, m1, m2⟩ := bind1 em
    obtain ⟨r', m3, rfl⟩ := map1 m2
    refine ok hs G σ H ρ _ _ k rfl fun G1 H1 vk k1 g1 h1 zk => ?_
    have ek := keyOf_kV zk m1
    subst ek
    refine ov hs G1 σ H1 ρ x _ k1 e1 fun G2 H2 w k2 g2 h2 => ?_
    obtain ⟨fp, rw_⟩ := k2.top
    refine o hs G2 σ H2 ρ xs r' _ k2.drop e3 m3 fun G3 H3 kvs k3 g3 h3 zz hl => ?_
    exact q G3 H3 ((kk, w) :: kvs) k3 (g1.trans (g2.trans g3)) (h1.trans (h2.trans h3)) (.cons (rw_.toF.same g3) zz) (congrArg (· + 1) hl)
theorem do_dct0 : DO X c τ τ (.Dict [] [] pos) (.Dc [] .F) fun ρ => some (.dct []) := by
  refine ⟨_, pe_dnewK, fun hs G σ H ρ d Q k e q => ?_⟩
  cases e
  exact fun p n => q G _ _ (Ok.alloc (xs := []) (t := .Dc [] .F) (d := .dct []) (o := .dK []) k n fun fp r => by cases r; exact .Dc (kxs := []) upd_same List.nodup_nil (fun _ m => nomatch m) .nil) (Same.refl _) (same_upd n)
theorem do_dct {kd : List D} {ks : List (Option Expr)} {es : List Expr} {fv : Env → Option (List D)} (h : DKV X c τ pos ks es kd fv) (hall : ks.all (·.isSome) = true) (hl : ks.length = es.length) (h0 : ks ≠ []) (h15 : ks.length ≤ 15) :
    DO X c τ τ (.Dict ks es pos) (.Dc [] .F) fun ρ => (fv ρ).bind fun v => (mkDct kd v).map fun r => .dct (mergeD [] r) := by
  obtain ⟨trs, pp, o⟩ := h
  refine ⟨_, pe_disp pp hall hl h0 h15, fun hs G σ H ρ d Q k e q => ?_⟩
  obtain ⟨vd, e1, e2⟩ := bind1 e
  obtain ⟨r, e3, rfl⟩ := map1 e2
  intro p n
  have k1 := Ok.alloc (xs := []) (t := .Dc [] .F) (d := .dct []) (o := .dK []) k n fun fp r => by cases r; exact .Dc (kxs := []) upd_same List.nodup_nil (fun _ m => nomatch m) .nil
  refine o _ G σ _ ρ vd r _ k1 e1 e3 fun G1 H1 kvs k2 g1 h1 zz hlen => ?_
  obtain ⟨inner, ⟨rfl, ep⟩, ko⟩ := Ok.open (new := []) (P := fun inner => inner = [] ∧ H1 p = some (.dK [])) k2 fun fp r => by
    obtain ⟨a', xs, f, ea, e, n, i, l, ed, ef⟩ := r.dctInv
    cases ea
    have : xs = [] := by
      cases xs with
      | nil => rfl
      | cons a b => cases ed
    subst this
    exact ⟨[], f, l, ef, rfl, e⟩
  refine ⟨ep, kvs, rfl, by omega, ?_⟩
  obtain ⟨z1, n1⟩ := FzK.merge zz .nil (acc := []) (acc' := []) List.nodup_nil
  have k3 := ko (.dK (mergeK [] kvs)) [] [] (.Dc [] .F) (.dct (mergeD [] r)) (.refl _) fun f l => by
    cases l
    obtain ⟨kxs, e1, e2, i, rr⟩ := FzK.trips (H := upd H1 p (.dK (mergeK [] kvs))) z1
    have hh : upd H1 p (.dK (mergeK [] kvs)) p = some (.dK (kxs.map fun q => (q.1, q.2.2.1))) := by rw [upd_same, e1]
    rw [e2]
    exact .Dc hh (by rw [e1] at n1; simpa [Function.comp_def] using n1) i rr
  refine q G1 _ _ k3 g1 fun b u eb => ?_
  have hb : b ≠ p := fun e => by rw [e, n] at eb; cases eb
  rw [upd_ne hb]
  exact h1 _ _ (by rw [upd_ne hb]; exact eb)
end
end My

set_option Elab.async false
set_option linter.all false
set_option maxRecDepth 100000
/-! list(range(..)) as a value. -/
namespace My
open PySem PySem.Spec PyProof.Rows L2
theorem rgV_fz {K : PySem.W.Frag} {G : Hp} (a b : Int) : FzL K G (rgV a b) (ups a (b - a).toNat) := by
  have h : ∀ (n : Nat) (lo : Int), FzL K G ((List.range n).map fun i => V.int (lo + (i : Nat))) (ups lo n) := by
    intro n
    induction n with
    | zero => intro lo; exact .nil
    | succ n ih =>
      intro lo
      rw [List.range_succ_eq_map, List.map_cons, List.map_map]
      have e1 : (fun i : Nat => V.int (lo + (i : Int))) ∘ Nat.succ = fun i : Nat => V.int (lo + 1 + (i : Int)) := by
        funext i
        show V.int (lo + ((i + 1 : Nat) : Int)) = V.int (lo + 1 + (i : Int))
        congr 1; omega
      have e0 : V.int (lo + ((0 : Nat) : Int)) = V.int lo := by congr 1; omega
      rw [e1, e0]
      exact .cons (.flat (d := .int lo) rfl) (ih (lo + 1))
  exact h _ a
section
variable {X : Cx} {c : FC} {τ : List Slot} {a b : Expr} {fa fb : EF} {p p2 pos pos2 : Pos}
theorem do_lstRg2 (hc : X.calm = true) (n : Bn X "range") (nl : Bn X "list") (na : NS a = true) (nb : NS b = true) (ha : DR X c τ a fa) (hb : DR X c τ b fb) :
    DO X c τ τ (.Call (.Name "list" p) [.Call (.Name "range" p2) [a, b] [] pos2] [] pos) (.L .F) fun ρ => (fa ρ).bind fun x => (fb ρ).bind fun y => rngV x y := by
  obtain ⟨ta, pa, oa⟩ := ha
  obtain ⟨tb, pb, ob⟩ := hb
  refine ⟨_, pe_listRg hc nl.gl nl.no (prg_2 n.gl n.no pa pb (star_cons na) (star_cons nb) (by rw [star_cons nb]; rfl)) (star_cons rfl), fun hs G σ H ρ d Q k e q => ?_⟩
  obtain ⟨x, e1, e2⟩ := bind1 e
  obtain ⟨y, e3, e4⟩ := bind1 e2
  refine RdOk.two (r := fun v w H Q => ∃ i j, v = .int i ∧ w = .int j ∧ RgOk i j ∧ ∀ q, H q = none → Q (.ref q) (upd H q (.lst (rgV i j)))) oa ob k e1 e3 fun G' H' v w k' g' h' z1 z2 => ?_
  unfold rngV at e4
  split at e4
  · split at e4
    · rename_i i j hcnd
      cases e4
      obtain ⟨i1, i2, i3⟩ := hcnd
      have ms : mx = 16777216 := rfl
      refine ⟨i, j, z1.int, z2.int, ⟨by have := i1.1; omega, by have := i1.2; omega, by have := i2.1; omega, by have := i2.2; omega, by omega⟩, fun r nn => ?_⟩
      exact q G' _ _ (k'.newL nn (rgV_fz i j)) g' (h'.trans (same_upd nn))
    · cases e4
  · cases e4
end
end My

set_option Elab.async false
set_option linter.all false
set_option maxRecDepth 100000
set_option maxHeartbeats 1000000
/-! The inference is sound: expressions. -/
namespace My
open PySem PySem.Spec PyProof.Rows L2
theorem kysOk_ok {Φ : Tab} : ∀ {ms : List ME} {es : List (Option Expr)}, kysOk ms es = true → ∃ kd, (∀ ρ, evs Φ ms ρ = some kd) ∧ KysOk kd es
  | [], [], _ => ⟨[], fun _ => rfl, .nil⟩
  | .cst d :: ms, some e :: es, h => by
    obtain ⟨h1, h2⟩ := and2 (show (cstOk d e && kysOk ms es) = true from h)
    obtain ⟨kd, q, k⟩ := kysOk_ok h2
    refine ⟨d :: kd, fun ρ => ?_, .cons h1 k⟩
    show (some d).bind (fun x => (evs Φ ms ρ).map fun xs => x :: xs) = _
    rw [q ρ]; rfl
  | .cst _ :: _, none :: _, h => by cases h
  | .cst _ :: _, [], h => by cases h
  | [], _ :: _, h => by cases h
/-- what is said of a term -/
def IOk (kR : Nat) (Φ : Tab) (m : ME) : Prop := ∀ S X c τ e, GX kR S Φ X c → Sound X c τ e (ev Φ m) (inf S τ m e).1 ∧ ((inf S τ m e).2 = true → DT X c τ e fun ρ => (ev Φ m ρ).bind truth)
section
variable {kR : Nat} {Φ : Tab}
theorem owT_ok {X : Cx} {c : FC} {τ τ' : List Slot} {e : Expr} {t : Ty} {m : ME} {S : Syn} (h : Sound X c τ e (ev Φ m) (inf S τ m e).1) (k : Rs.owT t m (inf S τ m e).1 = some τ') : DO X c τ τ' e t (ev Φ m) := by
  unfold Rs.owT at k
  split at k
  · rename_i t' τ1 h1
    split at k
    · rename_i hb
      cases k
      have d := h.ow h1
      rcases Bool.or_eq_true_iff.mp hb with hb | hb
      · rcases Bool.or_eq_true_iff.mp hb with hb | hb
        · rw [tyEq_eq hb]; exact d.freeze
        · rw [tyEq_eq hb]; exact d
      · cases m with
        | cst d' =>
          obtain ⟨te, p, o⟩ := d
          refine ⟨te, p, fun hs G σ H ρ d Q k e q => o hs G σ H ρ d Q k e fun G' H' v k' s1 s2 => ?_⟩
          obtain ⟨fp, r⟩ := k'.top
          have fl : flat d = true := by cases e; exact hb
          have ev := (r.read k'.frG).flat_eq fl
          subst ev
          exact q G' H' _ (k'.drop.pushFlat t fl) s1 s2
        | _ => cases hb
    · cases k
  · cases k
theorem DO.congr {X : Cx} {c : FC} {τ τ' : List Slot} {e : Expr} {t : Ty} {f f' : EF} (h : DO X c τ τ' e t f) (q : f = f') : DO X c τ τ' e t f' := by subst q; exact h
theorem DP.congr {X : Cx} {c : FC} {τ : List Slot} {e : Expr} {t : Ty} {f f' : EF} (h : DP X c τ e t f) (q : f = f') : DP X c τ e t f' := by subst q; exact h
theorem beq_t (t : Bool) : (t == true) = t := by cases t <;> rfl
theorem beq_f (t : Bool) : (t == false) = !t := by cases t <;> rfl
theorem tb_and (x : Option D) (g : Option D) : ((x.bind fun x => (truth x).bind fun t => if t == true then g else some x).bind truth) = (x.bind truth).bind fun t => if t then g.bind truth else some false := by
  cases x with
  | none => rfl
  | some x =>
    show ((truth x).bind fun t => if t == true then g else some x).bind truth = (truth x).bind fun t => if t then g.bind truth else some false
    cases e : truth x with
    | none => rfl
    | some t => cases t with
      | true => rfl
      | false => exact e
theorem tb_or (x : Option D) (g : Option D) : ((x.bind fun x => (truth x).bind fun t => if t == false then g else some x).bind truth) = (x.bind truth).bind fun t => if t then some true else g.bind truth := by
  cases x with
  | none => rfl
  | some x =>
    show ((truth x).bind fun t => if t == false then g else some x).bind truth = (truth x).bind fun t => if t then some true else g.bind truth
    cases e : truth x with
    | none => rfl
    | some t => cases t with
      | true => exact e
      | false => rfl
def opB : Bool → BoolOp
  | true => .And
  | false => .Or
theorem namesAre_ok {kR : Nat} {Φ : Tab} {S : Syn} {X : Cx} {c : FC} (g : GX kR S Φ X c) : ∀ {xs : List Str} {es : List Expr}, namesAre S xs es = true → ClsNs X xs es
  | [], [], _ => .nil
  | [], _ :: _, h => by cases h
  | _ :: _, [], h => by cases h
  | x :: xs, e :: es, h => by
    obtain ⟨h1, h2⟩ := and2 (show (nameIs S x e && namesAre S xs es) = true from h)
    unfold nameIs at h1
    split at h1
    · obtain ⟨h3, h4, h5⟩ := and3 h1
      have h3 := of_decide_eq_true h3
      subst h3
      obtain ⟨q1, q2, q3⟩ := and3 h5
      exact .cons (gl_of g h4) (by simpa using q3) (by simpa using q1) (namesAre_ok g h2)
    · cases h1
mutual
theorem inf_ok : ∀ m : ME, IOk kR Φ m
  | .cst d => fun S X c τ e g => fl_ok fun h => cst_ok h
  | .var i => fun S X c τ e g => val_ok (by
      split
      · split
        · rename_i h
          split
          · rename_i h2; exact ⟨rfl, de_var (nm_pe g h) (.inl h2)⟩
          · rename_i h2; exact ⟨rfl, de_var (nm_pe g h) (.inr h2)⟩
          · trivial
        · trivial
      · trivial)
  | .mov i => fun S X c τ e g => val_ok (by
      split
      · split
        · rename_i h
          split
          · rename_i h2; exact de_mov (nm_pe g h) h2
          · trivial
        · trivial
      · trivial)
  | .frz i => fun S X c τ e g => val_ok (by
      split
      · split
        · rename_i h
          split
          · rename_i h2; exact de_frz (nm_pe g h) h2
          · trivial
        · trivial
      · trivial)
  | .frzE a => fun S X c τ e g => val_ok (by
      cases h : Rs.ow (inf S τ a e).1 with
      | none => trivial
      | some p => exact DO.freeze ((inf_ok a S X c τ e g).1.ow (t := p.1) (τ' := p.2) h))
  | .glob i => fun S X c τ e g => fl_ok fun h => by
      split at h
      · obtain ⟨h1, h2, h3⟩ := and3 h
        obtain ⟨h3, h4, h5⟩ := and3 h3
        obtain ⟨v, u, e1, r, z⟩ := g.gls i _ (of_decide_eq_true h1)
        refine ⟨_, pe_glob (gl_of g h2) e1 r (by simpa using h3), fun hs G σ H ρ d Q k e q => ?_⟩
        cases e
        exact q G H v [] k (Same.refl _) (Same.refl _) (.F (z G))
      · cases h
  | .bin o a b => fun S X c τ e g => val_ok (by
      split
      · split
        · rename_i h
          obtain ⟨h1, h2, h3⟩ := and3 h
          exact de_bin (opEq_eq h1) ((inf_ok a S X c τ _ g).1.sh h2) ((inf_ok b S X c τ _ g).1.sh h3)
        · trivial
      · trivial)
  | .neg a => fun S X c τ e g => by
      unfold inf
      split
      · refine ⟨?_, fun h => by cases h⟩
        split
        · rename_i h
          exact ⟨rfl, de_neg ((inf_ok a S X c τ _ g).1.rd h)⟩
        · trivial
      · exact ⟨trivial, fun h => by cases h⟩
  | .cmp o a b => fun S X c τ e g => by
      unfold inf
      split
      · split
        · split
          · rename_i h
            obtain ⟨h0, h2, h3⟩ := and3 h
            obtain ⟨h0, h1⟩ := and2 h0
            have e1 := cpEq_eq h0
            have ra := (inf_ok a S X c τ _ g).1.rd h2
            have rb := (inf_ok b S X c τ _ g).1.rd h3
            refine ⟨⟨rfl, de_cmp g.units e1 (by simpa using h1) ra rb⟩, fun _ => (dt_cmp g.units e1 (by simpa using h1) ra rb).congr ?_⟩
            funext ρ
            show _ = ((ev Φ a ρ).bind fun x => (ev Φ b ρ).bind fun y => (dCmp o x y).map .bl).bind truth
            cases ev Φ a ρ with
            | none => rfl
            | some x => cases ev Φ b ρ with
              | none => rfl
              | some y => exact (map_bl_truth _).symm
          · exact ⟨trivial, fun h => by cases h⟩
        · exact ⟨trivial, fun h => by cases h⟩
      · exact ⟨trivial, fun h => by cases h⟩
  | .chain o o' a b c' => fun S X c τ e g => by
      unfold inf
      split
      · split
        · split
          · rename_i h
            obtain ⟨h0, h3, h4⟩ := and3 h
            obtain ⟨h0, h2⟩ := and2 h0
            obtain ⟨h0, h1, h5⟩ := and3 h0
            have e1 := cpEq_eq h0
            have e2 := cpEq_eq h1
            have ra := (inf_ok a S X c τ _ g).1.rd h2
            have rb := (inf_ok b S X c τ _ g).1.rd h3
            have rc := (inf_ok c' S X c τ _ g).1.rd h4
            have fe : (fun ρ => ((ev Φ a ρ).bind fun x => (ev Φ b ρ).bind fun y => (dCmp o x y).bind fun r => if r then (ev Φ c' ρ).bind fun z => dCmp o' y z else some false).map D.bl) = ev Φ (.chain o o' a b c') := by
              funext ρ
              show _ = (ev Φ a ρ).bind fun x => (ev Φ b ρ).bind fun y => (dCmp o x y).bind fun r => if r then (ev Φ c' ρ).bind fun z => (dCmp o' y z).map D.bl else some (D.bl false)
              cases ev Φ a ρ with
              | none => rfl
              | some x => cases ev Φ b ρ with
                | none => rfl
                | some y =>
                  show ((dCmp o x y).bind _).map D.bl = (dCmp o x y).bind _
                  cases dCmp o x y with
                  | none => rfl
                  | some r => cases r with
                    | false => rfl
                    | true =>
                      show ((ev Φ c' ρ).bind _).map D.bl = (ev Φ c' ρ).bind _
                      cases ev Φ c' ρ <;> rfl
            refine ⟨⟨rfl, (de_chain g.units e1 e2 (by simpa [lastMarks] using h5) ra rb rc).congr fe⟩, fun _ => (dt_chain g.units e1 e2 (by simpa [lastMarks] using h5) ra rb rc).congr ?_⟩
            rw [← fe]
            funext ρ
            exact (map_bl_truth _).symm
          · exact ⟨trivial, fun h => by cases h⟩
        · exact ⟨trivial, fun h => by cases h⟩
      · exact ⟨trivial, fun h => by cases h⟩
  | .notE a => fun S X c τ e g => by
      unfold inf
      split
      · have ia := inf_ok a S X c τ (by assumption) g
        refine ⟨?_, fun h => ?_⟩
        · split
          · rename_i h
            exact ⟨rfl, de_notT (ia.1.rd h)⟩
          · trivial
        · refine (dt_not (ia.2 h)).congr ?_
          funext ρ
          show ((ev Φ a ρ).bind truth).map _ = ((((ev Φ a ρ).bind truth).map fun b => D.bl (!b)).bind truth)
          cases (ev Φ a ρ).bind truth <;> rfl
      · exact ⟨trivial, fun h => by cases h⟩
  | .boolE op es => fun S X c τ e g => by
      unfold inf
      split
      · refine ⟨?_, fun h => ?_⟩
        · split
          · rename_i h
            obtain ⟨h1, h2⟩ := and2 h
            subst h1
            exact infB_ok true es S X c τ _ _ g h2
          · trivial
        · obtain ⟨h1, h2⟩ := and2 h
          subst h1
          exact (infTs_ok true es S X c τ _ _ g h2).test
      · refine ⟨?_, fun h => ?_⟩
        · split
          · rename_i h
            obtain ⟨h1, h2⟩ := and2 h
            have h1 : op = false := by simpa using h1
            subst h1
            exact infB_ok false es S X c τ _ _ g h2
          · trivial
        · obtain ⟨h1, h2⟩ := and2 h
          have h1 : op = false := by simpa using h1
          subst h1
          exact (infTs_ok false es S X c τ _ _ g h2).test
      · exact ⟨trivial, fun h => by cases h⟩
  | .ife c' a b => fun S X c τ e g => by
      unfold inf
      split
      · refine ⟨?_, fun h => by cases h⟩
        split
        · rename_i h
          split
          · rename_i t τ1 t2 τ2 h1 h2
            split
            · rename_i h3
              obtain ⟨h3, h4⟩ := and2 h3
              have e1 := tyEq_eq h3
              have e2 := slsEq_eq h4
              subst e1 e2
              exact do_if ((inf_ok c' S X c τ _ g).2 h) ((inf_ok a S X c τ _ g).1.ow h1) ((inf_ok b S X c τ _ g).1.ow h2)
            · trivial
          · trivial
        · trivial
      · exact ⟨trivial, fun h => by cases h⟩
  | .idx a i => fun S X c τ e g => val_ok (by
      split
      · split
        · rename_i h
          obtain ⟨h1, h2⟩ := and2 h
          cases h3 : Rs.path τ (inf S τ a _).1 with
          | none => trivial
          | some t =>
            show Sound X c τ _ _ (if t.ix then some ⟨false, t.elem, τ⟩ else none)
            split
            · rename_i h4
              have hu := g.units
              exact ⟨rfl, de_idx (by omega) h4 ((inf_ok a S X c τ _ g).1.path h3) ((inf_ok i S X c τ _ g).1.rd h2) (plainIx_of h1)⟩
            · trivial
        · trivial
      · trivial)
  | .slc a lo hi => fun S X c τ e g => val_ok (by
      split
      · split
        · split
          · split
            · rename_i h
              obtain ⟨h1, h2, h3⟩ := and3 h
              exact do_slc ((inf_ok a S X c τ _ g).1.sh h1) (infP_ok lo S X c τ _ g h2) (infP_ok hi S X c τ _ g h3)
            · trivial
          · trivial
        · trivial
      · trivial)
  | .tupE es => fun S X c τ e g => val_ok (by
      split
      · split
        · rename_i xs _ _ h
          obtain ⟨h1, h2⟩ := and2 h
          cases h3 : infLO S τ es xs with
          | none => trivial
          | some p =>
            obtain ⟨d, hl⟩ := infLO_ok es S X c τ xs p.1 p.2 g h1 h3
            exact do_tup (of_decide_eq_true h2) d hl
        · trivial
      · trivial)
  | .lstE t es => fun S X c τ e g => val_ok (by
      split
      · split
        · rename_i xs _ h
          obtain ⟨h1, h2⟩ := and2 h
          cases h3 : infLT S t τ es xs with
          | none => trivial
          | some τ' => exact do_lst (of_decide_eq_true h2) (infLT_ok t es S X c τ xs τ' g h1 h3) rfl
        · trivial
      · trivial)
  | .dctE _ _ ks vs => fun S X c τ e g => val_ok (by
      split
      · split
        · rename_i keys xs pos h
          obtain ⟨h, h5⟩ := and2 h
          obtain ⟨h, h4⟩ := and2 h
          obtain ⟨h, h3⟩ := and2 h
          obtain ⟨h1, h2⟩ := and2 h
          obtain ⟨kd, ek, hk⟩ := kysOk_ok (Φ := Φ) h1
          have hv := infLF_ok vs S X c τ xs g h5
          have el := of_decide_eq_true h3
          cases keys with
          | nil =>
            cases hk
            cases xs with
            | nil =>
              refine DO.congr do_dct0 (funext fun ρ => ?_)
              cases vs with
              | nil =>
                show some (D.dct []) = (evs Φ ks ρ).bind fun k => (some []).bind fun v => (mkDct k v).map fun r => D.dct (mergeD [] r)
                rw [ek ρ]; rfl
              | cons m ms => unfold infLF at h5; cases h5
            | cons _ _ => cases el
          | cons a b =>
            have d := do_dct (dkv_of (pos := pos) hk hv el) h2 el (by simp) (of_decide_eq_true h4)
            show DO X c τ τ _ _ _
            have e1 : (fun ρ => (evs Φ vs ρ).bind fun v => (mkDct kd v).map fun r => D.dct (mergeD [] r)) = fun ρ => (evs Φ ks ρ).bind fun k => (evs Φ vs ρ).bind fun v => (mkDct k v).map fun r => D.dct (mergeD [] r) := by
              funext ρ
              rw [ek ρ]; rfl
            rw [e1] at d
            exact d
        · trivial
      · trivial)
  | .bi f as => fun S X c τ e g => by
      unfold inf
      refine val_ok ?_
      split
      · split
        · split
          · rename_i x p xs kw pos h
            obtain ⟨h1, h2, h3⟩ := and3 h
            obtain ⟨rfl, b⟩ := bn_of g h2
            cases xs with
            | nil => cases h3
            | cons y ys =>
              split
              · rename_i hr
                split
                · rename_i h4
                  obtain ⟨hcm, h4⟩ := and2 h4
                  have d := infLR_ok as S X c τ _ g h1 h4
                  refine ⟨rfl, ?_⟩
                  have cm : f.hot = true → S.calm = true := fun hh => by
                    rw [hh] at hcm
                    simpa using hcm
                  cases f <;> first | cases hr | skip
                  · exact dp_len h1 b d
                  · exact dp_int h1 b d
                  · exact dp_str h1 b d
                  · exact dp_min2 (g.calm (cm rfl)) h1 b d
                  · exact dp_max2 (g.calm (cm rfl)) h1 b d
                  · exact dp_sum (g.calm (cm rfl)) h1 b d
                  · exact dp_abs h1 b d
                  · exact dp_all (g.calm (cm rfl)) h1 b d
                  · exact dp_any (g.calm (cm rfl)) h1 b d
                · trivial
              · split
                · split
                  · rename_i h4; exact do_list h1 b (infLS_ok as S X c τ _ g h1 h4)
                  · trivial
                · split
                  · rename_i h4; exact do_tuple h1 b (infLS_ok as S X c τ _ g h1 h4)
                  · trivial
                · split
                  · rename_i T a y z e2 _
                    cases e2
                    split
                    · split
                      · rename_i h40
                        obtain ⟨h4, h5⟩ := and2 h40
                        clear h40
                        obtain ⟨rfl, b2⟩ := bn_of g h5
                        have ra := (inf_ok a S X c τ _ g).1.rd h4
                        obtain ⟨n1, _⟩ := and2 (show (NS y && List.all _ NS) = true from h1)
                        refine ⟨rfl, (dp_isi1 (T := T) n1 b b2 (by cases T <;> decide +kernel) (by cases T <;> decide) (by cases T <;> decide) ra).congr ?_⟩
                        funext ρ
                        show _ = (Option.bind ((ev Φ a ρ).bind fun x => (some []).map fun xs => x :: xs) _)
                        cases ev Φ a ρ <;> rfl
                      · trivial
                    · trivial
                  · trivial
                · trivial
          · trivial
        · trivial
      · trivial
  | .call k as => fun S X c τ e g => by
      unfold inf
      refine val_ok ?_
      split
      · split
        · split
          · rename_i x p xs pos kw _ F hF
            split
            · rename_i h
              obtain ⟨h1, h3, h4⟩ := and3 h
              obtain ⟨h1, h2⟩ := and2 h1
              obtain ⟨hcm, h1⟩ := and2 h1
              have h1 := of_decide_eq_true h1
              subst h1
              obtain ⟨q1, q2, q3⟩ := and3 h3
              cases h5 : infLP S F.ps τ as xs with
              | none => trivial
              | some τ' =>
                have d := infLP_ok as S X c F.ps τ xs τ' g h4 h5
                have C := g.fns k F hF
                cases xs with
                | nil =>
                  cases as with
                  | cons _ _ => unfold infLP at h5; split at h5 <;> first | (rename_i e1 e2; cases e2) | cases h5
                  | nil =>
                    unfold infLP at h5
                    split at h5
                    · rename_i e1 _
                      cases h5
                      rw [e1] at C
                      exact (do_call0 C (g.room hcm) (gl_of g h2) (by simpa using q1)).congr rfl
                    · cases h5
                | cons y ys => exact do_call C (g.room hcm) (gl_of g h2) (by simpa using q1) h4 d
            · trivial
          · trivial
        · trivial
      · trivial
  | .lrng a b => fun S X c τ e g => val_ok (by
      split
      · split
        · split
          · split
            · split
              · rename_i h
                obtain ⟨h, h6⟩ := and2 h
                obtain ⟨h, h5⟩ := and2 h
                obtain ⟨h, h4⟩ := and2 h
                obtain ⟨h, h3⟩ := and2 h
                obtain ⟨h, h2⟩ := and2 h
                obtain ⟨hcm, h1⟩ := and2 h
                obtain ⟨rfl, n1⟩ := bn_of g h1
                obtain ⟨rfl, n2⟩ := bn_of g h2
                exact do_lstRg2 (g.calm hcm) n2 n1 h3 h4 ((inf_ok a S X c τ _ g).1.rd h5) ((inf_ok b S X c τ _ g).1.rd h6)
              · trivial
            · trivial
          · trivial
        · trivial
      · trivial)
  | .lenset a => fun S X c τ e g => val_ok (by
      split
      · split
        · split
          · split
            · split
              · rename_i h
                obtain ⟨h, h4⟩ := and2 h
                obtain ⟨h1, h2, h3⟩ := and3 h
                obtain ⟨hcm, h1⟩ := and2 h1
                obtain ⟨rfl, n1⟩ := bn_of g h1
                obtain ⟨rfl, n2⟩ := bn_of g h2
                exact ⟨rfl, dp_lenset (g.calm hcm) h3 n1 n2 ((inf_ok a S X c τ _ g).1.rd h4)⟩
              · trivial
            · trivial
          · trivial
        · trivial
      · trivial)
  | .tupO a => fun S X c τ e g => val_ok (by
      split
      · split
        · split
          · rename_i h
            obtain ⟨h1, h2⟩ := and2 h
            obtain ⟨rfl, n1⟩ := bn_of g h1
            split
            · rename_i t τ' ht
              exact do_tupO h2 n1 ((inf_ok a S X c τ _ g).1.ow ht)
            · trivial
          · trivial
        · trivial
      · trivial)
  | .tidx ys b => fun S X c τ e g => val_ok (by
      split
      · split
        · split
          · rename_i h
            obtain ⟨h, h7⟩ := and2 h
            obtain ⟨h, h6⟩ := and2 h
            obtain ⟨h, h5⟩ := and2 h
            obtain ⟨h, h4⟩ := and2 h
            obtain ⟨h1, h2, h3⟩ := and3 h
            have h1 := of_decide_eq_true h1
            subst h1
            obtain ⟨q1, q2, q3⟩ := and3 h3
            exact ⟨rfl, dp_tidx (gl_of g h2) (by simpa using q3) (by simpa using q1) (g.tups _ (of_decide_eq_true h4)) h5 h6 ((inf_ok b S X c τ _ g).1.rd h7)⟩
          · trivial
        · trivial
      · trivial)
  | .join s b => fun S X c τ e g => val_ok (by
      split
      · split
        · split
          · split
            · rename_i h
              obtain ⟨h, h5⟩ := and2 h
              obtain ⟨h, h4⟩ := and2 h
              obtain ⟨h1, h2, h3⟩ := and3 h
              have h1 := of_decide_eq_true h1
              have h2 := of_decide_eq_true h2
              subst h1 h2
              exact ⟨rfl, dp_join h3 h4 ((inf_ok b S X c τ _ g).1.rd h5)⟩
            · trivial
          · trivial
        · trivial
      · trivial)
  | .splt a s => fun S X c τ e g => val_ok (by
      split
      · split
        · split
          · split
            · rename_i h
              obtain ⟨h, h4⟩ := and2 h
              obtain ⟨h1, h2, h3⟩ := and3 h
              have h1 := of_decide_eq_true h1
              have h2 := of_decide_eq_true h2
              subst h1 h2
              exact do_splt h3 ((inf_ok a S X c τ _ g).1.rd h4)
            · trivial
          · trivial
        · trivial
      · trivial)
  | .isx i x => fun S X c τ e g => val_ok (by
      split
      · split
        · split
          · split
            · rename_i h
              obtain ⟨h, h7⟩ := and2 h
              obtain ⟨h, h6⟩ := and2 h
              obtain ⟨h, h5⟩ := and2 h
              obtain ⟨h, h4⟩ := and2 h
              obtain ⟨h1, h2, h3⟩ := and3 h
              have h4 := of_decide_eq_true h4
              subst h4
              obtain ⟨rfl, n⟩ := bn_of g h2
              obtain ⟨q1, q2, q3⟩ := and3 h6
              refine ⟨rfl, dp_isx (g.exi (by simpa using h1)) n (nm_pe g h3) (isExc_eq h7) (gl_of g h5) (by simpa using q3) (by simpa using q1)⟩
            · trivial
          · trivial
        · trivial
      · trivial)
  | .keysL a => fun S X c τ e g => val_ok (by
      split
      · split
        · split
          · rename_i h
            obtain ⟨h, h4⟩ := and2 h
            obtain ⟨h1, h2, h3⟩ := and3 h
            obtain ⟨rfl, n⟩ := bn_of g h2
            exact do_keysL (g.calm h1) h3 n ((inf_ok a S X c τ _ g).1.rd h4)
          · trivial
        · trivial
      · trivial)
  | .srt a => fun S X c τ e g => val_ok (by
      split
      · split
        · split
          · rename_i h
            obtain ⟨h1, h2, h3⟩ := and3 h
            obtain ⟨rfl, n⟩ := bn_of g h1
            exact do_srt h2 n ((inf_ok a S X c τ _ g).1.rd h3)
          · trivial
        · trivial
      · trivial)
  | .ixL a b => fun S X c τ e g => val_ok (by
      split
      · split
        · split
          · rename_i h
            obtain ⟨h, h6⟩ := and2 h
            obtain ⟨h, h5⟩ := and2 h
            obtain ⟨h, h4⟩ := and2 h
            obtain ⟨h1, h2, h3⟩ := and3 h
            have h1 := of_decide_eq_true h1
            subst h1
            exact ⟨rfl, dp_ixL h4 (attrOk_base h3) h2 ((inf_ok a S X c τ _ g).1.rd h5) ((inf_ok b S X c τ _ g).1.rd h6)⟩
          · trivial
        · trivial
      · trivial)
  | .getD a b d => fun S X c τ e g => val_ok (by
      split
      · split
        · split
          · rename_i h
            obtain ⟨h, h8⟩ := and2 h
            obtain ⟨h, h7⟩ := and2 h
            obtain ⟨h, h6⟩ := and2 h
            obtain ⟨h, h5⟩ := and2 h
            obtain ⟨h, h4⟩ := and2 h
            obtain ⟨h1, h2, h3⟩ := and3 h
            have h1 := of_decide_eq_true h1
            subst h1
            have h8' := isFt_eq h8
            exact ⟨rfl, dp_getD (by have := g.units; omega) h5 (attrOk_base h4) h2 h3 ((inf_ok a S X c τ _ g).1.sh h6) ((inf_ok b S X c τ _ g).1.rd h7) ((inf_ok d S X c τ _ g).1.path h8')⟩
          · trivial
        · trivial
      · trivial)
  | .catL a b => fun S X c τ e g => val_ok (by
      split
      · split
        · rename_i h
          obtain ⟨h1, h2, h3⟩ := and3 h
          have h1 := opEq_eq h1
          subst h1
          exact do_catL ((inf_ok a S X c τ _ g).1.sh h2) ((inf_ok b S X c τ _ g).1.sh h3)
        · trivial
      · trivial)
  | .mulL a b => fun S X c τ e g => val_ok (by
      split
      · split
        · rename_i h
          obtain ⟨h1, h2, h3⟩ := and3 h
          have h1 := opEq_eq h1
          subst h1
          exact do_mulL ((inf_ok a S X c τ _ g).1.sh h2) ((inf_ok b S X c τ _ g).1.sh h3)
        · trivial
      · trivial)
  | .varN i => fun S X c τ e g => val_ok (by
      split
      · split
        · rename_i h
          obtain ⟨h1, h2⟩ := and2 h
          exact ⟨rfl, de_varN (nm_pe g h1) (isN_eq h2)⟩
        · trivial
      · trivial)
  | .slcN a lo hi => fun S X c τ e g => val_ok (by
      split
      · split
        · split
          · split
            · rename_i h
              obtain ⟨h1, h2, h3⟩ := and3 h
              exact do_slcN ((inf_ok a S X c τ _ g).1.sh h1) (infP_ok lo S X c τ _ g h2) (infP_ok hi S X c τ _ g h3)
            · trivial
          · trivial
        · trivial
      · trivial)
  | .cntN i b => fun S X c τ e g => val_ok (by
      split
      · split
        · split
          · split
            · rename_i h
              obtain ⟨h, h6⟩ := and2 h
              obtain ⟨h, h5⟩ := and2 h
              obtain ⟨h, h4⟩ := and2 h
              obtain ⟨h1, h2, h3⟩ := and3 h
              have h2 := of_decide_eq_true h2
              subst h2
              exact ⟨rfl, dp_cntN (nm_pe g h1) (isN_eq h3) h4 h5 ((inf_ok b S X c τ _ g).1.rd h6)⟩
            · trivial
          · trivial
        · trivial
      · trivial)
  | .isxs i xs => fun S X c τ e g => val_ok (by
      split
      · split
        · split
          · split
            · rename_i h
              obtain ⟨h, h7⟩ := and2 h
              obtain ⟨h, h6⟩ := and2 h
              obtain ⟨h, h5⟩ := and2 h
              obtain ⟨h1, h2, h3⟩ := and3 h
              obtain ⟨rfl, n⟩ := bn_of g h2
              refine ⟨rfl, dp_isxs (g.exi (by simpa using h1)) n (nm_pe g h3) (isExc_eq h7) (namesAre_ok g h5) (of_decide_eq_true h6)⟩
            · trivial
          · trivial
        · trivial
      · trivial)
  | .gidx tab b => fun S X c τ e g => val_ok (by
      split
      · split
        · split
          · rename_i h
            obtain ⟨h, h7⟩ := and2 h
            obtain ⟨h, h5⟩ := and2 h
            obtain ⟨h1, h2, h4⟩ := and3 h
            obtain ⟨q1, q2, q3⟩ := and3 h2
            exact ⟨rfl, dp_gidx (gl_of g h1) (by simpa using q1) (g.tabs _ (Syn.tab_mem h4)) (plainIx_of h5) ((inf_ok b S X c τ _ g).1.rd h7)⟩
          · trivial
        · trivial
      · trivial)
  | .gin neg tab b => fun S X c τ e g => by
      unfold inf
      split
      · split
        · split
          · split
            · rename_i h
              obtain ⟨h, h7⟩ := and2 h
              obtain ⟨h, h6⟩ := and2 h
              obtain ⟨h, h5⟩ := and2 h
              obtain ⟨h1, h2, h3⟩ := and3 h
              obtain ⟨q1, q2, q3⟩ := and3 h3
              have ho := cpEq_eq h1
              have hm := Syn.tab_mem h5
              refine ⟨⟨rfl, ?_⟩, fun _ => ?_⟩
              · exact dp_gin ho (gl_of g h2) (by simpa using q1) (g.tabs _ hm) (by simpa using h6) ((inf_ok b S X c τ _ g).1.rd h7)
              · exact (dt_gin ho (gl_of g h2) (by simpa using q1) (g.tabs _ hm) (by simpa using h6) ((inf_ok b S X c τ _ g).1.rd h7)).congr (funext fun ρ => (map_bl_truth _).symm)
            · exact ⟨trivial, fun h => by cases h⟩
          · exact ⟨trivial, fun h => by cases h⟩
        · exact ⟨trivial, fun h => by cases h⟩
      · exact ⟨trivial, fun h => by cases h⟩
  | .comp elt tg own k as cond => fun S X c τ e g => by
      unfold inf
      refine val_ok ?_
      split
      · split
        · rename_i x scope pos gens tgE iter ifs isA
          split
          · rename_i h0
            obtain ⟨h1, h2, h3⟩ := and3 h0
            obtain ⟨hcm, h1⟩ := and2 h1
            have h1 := of_decide_eq_true h1
            subst h1
            split
            · rename_i τ' hw
              split
              · rename_i h4
                obtain ⟨h4, h5⟩ := and2 h4
                split
                · rename_i τ2 hg2
                  split
                  · rename_i h6
                    obtain ⟨h6, h7⟩ := and2 h6
                    split
                    · rename_i t τ3 he
                      split
                      · rename_i h8
                        have e8 := slsEq_eq h8
                        subst e8
                        have ix : ((own.map fun i => (S.N.getD i (Str.ofString ""), i)).map (·.2)) = own := by simp [Function.comp_def]
                        have bk : BlkOk X.N X.env.scope scope (own.map fun i => (S.N.getD i (Str.ofString ""), i)) := by rw [g.N, g.sc]; exact blkOk_by h3
                        refine DO.congr (do_comp (own := own.map fun i => (S.N.getD i (Str.ofString ""), i)) (g.calm hcm) g.nd bk (wkE_ok g (inf1_ok as S X c τ iter g) (fun hr xs ex hn => ?_) (fun {xs ts τ'} ex hn ho => infLO_ok as S X c τ xs ts τ' g hn (by rw [← ex]; exact ho)) hw) (fun c' X' b => chkG_ok (gx_blk hcm bk.kind (g.any hcm c') b) tg .F τ' τ3 tgE hg2) (fun c' X' b => infC_ok cond _ X' c' τ3 ifs (gx_blk hcm bk.kind (g.any hcm c') b) h7) (fun c' X' b => (inf_ok elt _ X' c' τ3 x (gx_blk hcm bk.kind (g.any hcm c') b)).1.ow he)
                          (by rw [ix]; intro i hi; have := List.all_eq_true.mp h4 i hi; split at this <;> first | assumption | cases this) (by rw [ix]; intro i hi; simpa using List.all_eq_true.mp h5 i hi) (by rw [ix]; exact slsEq_eq h6) (noSet_of h2)) (by
                            funext ρ
                            show ((evs Φ as ρ).bind (srcItems k)).bind _ = (evs Φ as ρ).bind fun ds => (srcItems k ds).bind _
                            cases evs Φ as ρ <;> rfl)
                        rw [ex] at hr
                        exact infLR_ok as S X c τ xs g hn hr
                      · trivial
                    · trivial
                  · trivial
                · trivial
              · trivial
            · trivial
          · trivial
        · trivial
      · trivial
termination_by m => sizeOf m

theorem infLO_ok : ∀ (ms : List ME) (S : Syn) (X : Cx) (c : FC) (τ : List Slot) (xs : List Expr) (ts : List Ty) (τ' : List Slot), GX kR S Φ X c → xs.all NS = true → infLO S τ ms xs = some (ts, τ') → DA X c τ τ' xs ts (evs Φ ms) ∧ ts.length = xs.length
  | [], S, X, c, τ, xs, ts, τ', g, hn, h => by
    unfold infLO at h
    split at h
    · cases h; exact ⟨da_nil, rfl⟩
    · cases h
  | m :: ms, S, X, c, τ, xs, ts, τ', g, hn, h => by
    unfold infLO at h
    split at h
    · rename_i x xs
      obtain ⟨n1, n2⟩ := and2 (show (NS x && xs.all NS) = true from hn)
      split at h
      · rename_i t τ1 h1
        obtain ⟨p, h2, h3⟩ := map1 h
        cases h3
        obtain ⟨d, hl⟩ := infLO_ok ms S X c τ1 xs p.1 p.2 g n2 h2
        exact ⟨da_cons n1 ((inf_ok m S X c τ x g).1.ow h1) d, congrArg (· + 1) hl⟩
      · cases h
    · cases h
termination_by m => sizeOf m

theorem infLT_ok (t : Ty) : ∀ (ms : List ME) (S : Syn) (X : Cx) (c : FC) (τ : List Slot) (xs : List Expr) (τ' : List Slot), GX kR S Φ X c → xs.all NS = true → infLT S t τ ms xs = some τ' → DA X c τ τ' xs (List.replicate xs.length t) (evs Φ ms)
  | [], S, X, c, τ, xs, τ', g, hn, h => by
    unfold infLT at h
    split at h
    · cases h; exact da_nil
    · cases h
  | m :: ms, S, X, c, τ, xs, τ', g, hn, h => by
    unfold infLT at h
    split at h
    · rename_i x xs
      obtain ⟨n1, n2⟩ := and2 (show (NS x && xs.all NS) = true from hn)
      split at h
      · rename_i τ1 h1
        exact da_cons n1 (owT_ok (inf_ok m S X c τ x g).1 h1) (infLT_ok t ms S X c τ1 xs τ' g n2 h)
      · cases h
    · cases h
termination_by m => sizeOf m

theorem infLR_ok : ∀ (ms : List ME) (S : Syn) (X : Cx) (c : FC) (τ : List Slot) (xs : List Expr), GX kR S Φ X c → xs.all NS = true → infLR S τ ms xs = true → DAr X c τ xs (evs Φ ms)
  | [], S, X, c, τ, xs, g, hn, h => by
    unfold infLR at h
    cases xs with
    | nil => exact dar_nil
    | cons _ _ => cases h
  | m :: ms, S, X, c, τ, xs, g, hn, h => by
    unfold infLR at h
    split at h
    · rename_i x xs
      obtain ⟨n1, n2⟩ := and2 (show (NS x && xs.all NS) = true from hn)
      obtain ⟨h1, h2⟩ := and2 h
      exact dar_cons n1 ((inf_ok m S X c τ x g).1.rd h1) (infLR_ok ms S X c τ xs g n2 h2)
    · cases h
termination_by m => sizeOf m

theorem infLF_ok : ∀ (ms : List ME) (S : Syn) (X : Cx) (c : FC) (τ : List Slot) (xs : List Expr), GX kR S Φ X c → infLF S τ ms xs = true → DVs X c τ xs (evs Φ ms)
  | [], S, X, c, τ, xs, g, h => by
    unfold infLF at h
    cases xs with
    | nil => exact .nil
    | cons _ _ => cases h
  | m :: ms, S, X, c, τ, xs, g, h => by
    unfold infLF at h
    split at h
    · rename_i x xs
      obtain ⟨h1, h2⟩ := and2 h
      split at h1
      · rename_i t τ' h3
        have e := slsEq_eq h1
        subst e
        exact .cons ((inf_ok m S X c _ x g).1.ow h3).freeze (infLF_ok ms S X c _ xs g h2)
      · cases h1
    · cases h
termination_by m => sizeOf m

theorem infLS_ok : ∀ (ms : List ME) (S : Syn) (X : Cx) (c : FC) (τ : List Slot) (xs : List Expr), GX kR S Φ X c → xs.all NS = true → infLS S τ ms xs = true → DAs X c τ xs (evs Φ ms)
  | [], S, X, c, τ, xs, g, hn, h => by
    unfold infLS at h
    cases xs with
    | nil => exact das_nil
    | cons _ _ => cases h
  | m :: ms, S, X, c, τ, xs, g, hn, h => by
    unfold infLS at h
    split at h
    · rename_i x xs
      obtain ⟨n1, n2⟩ := and2 (show (NS x && xs.all NS) = true from hn)
      obtain ⟨h1, h2⟩ := and2 h
      exact das_cons n1 ((inf_ok m S X c τ x g).1.sh h1) (infLS_ok ms S X c τ xs g n2 h2)
    · cases h
termination_by m => sizeOf m

theorem infLP_ok : ∀ (ms : List ME) (S : Syn) (X : Cx) (c : FC) (ps : List (Option Ty)) (τ : List Slot) (xs : List Expr) (τ' : List Slot), GX kR S Φ X c → xs.all NS = true → infLP S ps τ ms xs = some τ' → DM X c τ τ' xs ps (evs Φ ms)
  | [], S, X, c, ps, τ, xs, τ', g, hn, h => by
    unfold infLP at h
    split at h
    · cases h; exact dm_nil
    · cases h
  | m :: ms, S, X, c, ps, τ, xs, τ', g, hn, h => by
    unfold infLP at h
    split at h
    · rename_i p ps x xs
      obtain ⟨n1, n2⟩ := and2 (show (NS x && xs.all NS) = true from hn)
      split at h
      · split at h
        · rename_i t τ1 h1
          exact dm_fz n1 (DO.freeze ((inf_ok m S X c τ x g).1.ow h1)) (infLP_ok ms S X c ps τ1 xs τ' g n2 h)
        · cases h
      · split at h
        · rename_i t t' h1
          split at h
          · rename_i h2
            have e := tyEq_eq h2
            subst e
            exact dm_bo n1 ((inf_ok m S X c τ x g).1.path h1) (infLP_ok ms S X c ps τ xs τ' g n2 h)
          · cases h
        · cases h
    · cases h
termination_by m => sizeOf m

theorem infB_ok (op : Bool) : ∀ (ms : List ME) (S : Syn) (X : Cx) (c : FC) (τ : List Slot) (xs : List Expr) (pos : Pos), GX kR S Φ X c → infB S τ ms xs = true → DO X c τ τ (.BoolOp (opB op) xs pos) .F (evB Φ op ms)
  | [], S, X, c, τ, xs, pos, g, h => by unfold infB at h; cases h
  | m :: ms, S, X, c, τ, xs, pos, g, h => by
    unfold infB at h
    split at h
    · rename_i x xs
      obtain ⟨h1, h2⟩ := and2 h
      have dx : DO X c τ τ x .F (ev Φ m) := by
        split at h1
        · rename_i t τ1 e1
          have e2 := slsEq_eq h1
          subst e2
          exact DO.freeze ((inf_ok m S X c τ1 x g).1.ow e1)
        · cases h1
      split at h2
      · refine (do_one dx).congr ?_
        funext ρ
        show _ = (ev Φ m ρ).bind fun x => some x
        cases ev Φ m ρ <;> rfl
      · rename_i n1
        have ih := infB_ok op ms S X c τ xs pos g h2
        cases ms with
        | nil => unfold infB at h2; cases h2
        | cons m' ms' =>
          cases xs with
          | nil => unfold infB at h2; cases h2
          | cons y ys =>
            cases op with
            | true =>
              refine (do_and dx ih).congr ?_
              funext ρ
              show _ = (ev Φ m ρ).bind fun x => (truth x).bind fun t => if t == true then evB Φ true (m' :: ms') ρ else some x
              simp only [beq_t]
            | false =>
              refine (do_or dx ih).congr ?_
              funext ρ
              show _ = (ev Φ m ρ).bind fun x => (truth x).bind fun t => if t == false then evB Φ false (m' :: ms') ρ else some x
              congr 1
              funext x
              congr 1
              funext t
              cases t <;> rfl
    · cases h
termination_by m => sizeOf m

theorem infTs_ok (op : Bool) : ∀ (ms : List ME) (S : Syn) (X : Cx) (c : FC) (τ : List Slot) (xs : List Expr) (pos : Pos), GX kR S Φ X c → infTs S τ ms xs = true → DW X c τ (.BoolOp (opB op) xs pos) fun ρ => (evB Φ op ms ρ).bind truth
  | [], S, X, c, τ, xs, pos, g, h => by unfold infTs at h; cases h
  | m :: ms, S, X, c, τ, xs, pos, g, h => by
    unfold infTs at h
    split at h
    · rename_i x xs
      obtain ⟨h1, h2⟩ := and2 h
      have dx := (inf_ok m S X c τ x g).2 h1
      split at h2
      · have e : (fun ρ => (ev Φ m ρ).bind truth) = fun ρ => (evB Φ op [m] ρ).bind truth := by
          funext ρ
          show _ = ((ev Φ m ρ).bind fun x => some x).bind truth
          cases ev Φ m ρ <;> rfl
        rw [← e]
        cases op with
        | true => exact dw_and1 dx
        | false => exact dw_or1 dx
      · have ih := infTs_ok op ms S X c τ xs pos g h2
        cases ms with
        | nil => unfold infTs at h2; cases h2
        | cons m' ms' =>
          cases xs with
          | nil => unfold infTs at h2; cases h2
          | cons y ys =>
            cases op with
            | true =>
              have e : (fun ρ => ((ev Φ m ρ).bind truth).bind fun t => if t then (evB Φ true (m' :: ms') ρ).bind truth else some false) = fun ρ => (evB Φ true (m :: m' :: ms') ρ).bind truth := by
                funext ρ
                exact (tb_and _ _).symm
              rw [← e]
              exact dw_and dx ih
            | false =>
              have e : (fun ρ => ((ev Φ m ρ).bind truth).bind fun t => if t then some true else (evB Φ false (m' :: ms') ρ).bind truth) = fun ρ => (evB Φ false (m :: m' :: ms') ρ).bind truth := by
                funext ρ
                exact (tb_or _ _).symm
              rw [← e]
              exact dw_or dx ih
    · cases h
termination_by m => sizeOf m

theorem infC_ok : ∀ (o : Option ME) (S : Syn) (X : Cx) (c : FC) (τ : List Slot) (xs : List Expr), GX kR S Φ X c → infC S τ o xs = true → DTs X c τ xs (evC Φ o)
  | none, S, X, c, τ, xs, g, h => by
    unfold infC at h
    cases xs with
    | nil => exact dts_nil
    | cons _ _ => cases h
  | some m, S, X, c, τ, xs, g, h => by
    unfold infC at h
    split at h
    · exact dts_one ((inf_ok m S X c τ _ g).2 h)
    · cases h
termination_by m => sizeOf m

theorem inf1_ok : ∀ (ms : List ME) (S : Syn) (X : Cx) (c : FC) (τ : List Slot) (x : Expr), GX kR S Φ X c → Sound X c τ x (fun ρ => (evs Φ ms ρ).bind fun ds => match ds with | [d] => some d | _ => none) (inf1 S τ ms x)
  | [], S, X, c, τ, x, g => by unfold inf1; trivial
  | m :: ms, S, X, c, τ, x, g => by
    unfold inf1
    cases ms with
    | nil =>
      refine ((inf_ok m S X c τ x g).1).congr ?_
      funext ρ
      show _ = (Option.bind ((ev Φ m ρ).bind fun x => (some []).map fun xs => x :: xs) _)
      cases ev Φ m ρ <;> rfl
    | cons _ _ => trivial
termination_by m => sizeOf m

theorem infP_ok : ∀ (o : Option ME) (S : Syn) (X : Cx) (c : FC) (τ : List Slot) (x : Option Expr), GX kR S Φ X c → infP S τ o x = true → DPr X c τ x (evO Φ o)
  | none, S, X, c, τ, x, g, h => by
    unfold infP at h
    cases x with
    | none => exact dpr_none
    | some _ => cases h
  | some m, S, X, c, τ, x, g, h => by
    unfold infP at h
    split at h
    · exact dpr_some ((inf_ok m S X c τ _ g).1.rd h)
    · cases h
termination_by m => sizeOf m

end
end
end My

set_option Elab.async false
set_option linter.all false
set_option maxRecDepth 100000
/-! Less claimed: slots given up or frozen. -/
namespace My
open PySem PySem.Spec PyProof.Rows L2
def leS : Slot → Slot → Bool
  | _, .gone => true
  | .own a, .own b => tyEq b .F || tyEq a b
  | .bor a, .bor b => tyEq a b
  | .exc, .exc => true
  | _, _ => false
def lesB : List Slot → List Slot → Bool
  | [], [] => true
  | x :: xs, y :: ys => leS x y && lesB xs ys
  | _, _ => false
def meetS : Slot → Slot → Slot
  | .own a, .own b => if tyEq a b then .own a else .own .F
  | .bor a, .bor b => if tyEq a b then .bor a else .gone
  | .exc, .exc => .exc
  | _, _ => .gone
def meetL : List Slot → List Slot → List Slot
  | x :: xs, y :: ys => meetS x y :: meetL xs ys
  | _, _ => []
def meetO : Option (List Slot) → Option (List Slot) → Option (List Slot)
  | none, b => b
  | a, none => a
  | some a, some b => some (meetL a b)
def leO : Option (List Slot) → List Slot → Bool
  | none, _ => true
  | some a, b => lesB a b
theorem tyEq_refl : ∀ a : Ty, tyEq a a = true := by
  intro a
  exact Ty.rec (motive_1 := fun a => tyEq a a = true) (motive_2 := fun l => tyEqs l l = true) (motive_3 := fun l => tyEqk l l = true) (motive_4 := fun p => tyEq p.2 p.2 = true)
    rfl (fun t h => h) (fun ts t h1 h2 => by show (tyEqs ts ts && tyEq t t) = true; rw [h1, h2]; rfl) (fun ks t h1 h2 => by show (tyEqk ks ks && tyEq t t) = true; rw [h1, h2]; rfl) rfl
    rfl (fun a l h1 h2 => by show (tyEq a a && tyEqs l l) = true; rw [h1, h2]; rfl)
    rfl (fun p l h1 h2 => by obtain ⟨k, a⟩ := p; show (decide (k = k) && tyEq a a && tyEqk l l) = true; rw [show tyEq a a = true from h1, h2]; simp)
    (fun k a h => h) a
theorem leS_refl (a : Slot) : leS a a = true := by cases a with
  | gone => rfl
  | own t => show (tyEq t .F || tyEq t t) = true; rw [tyEq_refl]; simp
  | bor t => exact tyEq_refl t
  | exc => rfl
theorem lesB_refl : ∀ a : List Slot, lesB a a = true
  | [] => rfl
  | x :: xs => by show (leS x x && lesB xs xs) = true; rw [leS_refl, lesB_refl xs]; rfl
theorem leS_trans {a b d : Slot} (h : leS a b = true) (k : leS b d = true) : leS a d = true := by
  cases d with
  | gone => cases a <;> rfl
  | own t =>
    cases b with
    | own u =>
      cases a with
      | own s =>
        show (tyEq t .F || tyEq s t) = true
        rcases Bool.or_eq_true_iff.mp k with k | k
        · rw [k]; rfl
        · have e := tyEq_eq k
          subst e
          exact h
      | gone => cases h
      | bor _ => cases h
      | exc => cases h
    | gone => cases k
    | bor _ => cases k
    | exc => cases k
  | exc =>
    cases b with
    | exc => exact h
    | _ => cases k
  | bor t =>
    cases b with
    | bor u =>
      have e := tyEq_eq (show tyEq u t = true from k)
      subst e
      exact h
    | gone => cases k
    | own _ => cases k
    | exc => cases k
theorem lesB_trans : ∀ {a b d : List Slot}, lesB a b = true → lesB b d = true → lesB a d = true
  | [], [], [], _, _ => rfl
  | x :: xs, y :: ys, z :: zs, h, k => by
    obtain ⟨h1, h2⟩ := and2 (show (leS x y && lesB xs ys) = true from h)
    obtain ⟨k1, k2⟩ := and2 (show (leS y z && lesB ys zs) = true from k)
    show (leS x z && lesB xs zs) = true
    rw [leS_trans h1 k1, lesB_trans h2 k2]; rfl
  | [], [], _ :: _, _, k => by cases k
  | [], _ :: _, _, h, _ => by cases h
  | _ :: _, [], _, h, _ => by cases h
  | _ :: _, _ :: _, [], _, k => by cases k
section
variable {K : PySem.W.Frag} {c : FC} {hs : List Trip} {σ : L2.St} {H : Hp} {ρ : Env}
theorem set_mid {pre rest : List Slot} {s s' : Slot} : (pre ++ s :: rest).set pre.length s' = pre ++ s' :: rest := by simp
theorem Ok.le : ∀ {rest rest' : List Slot} (pre : List Slot) {G : Hp}, lesB rest rest' = true → Ok K c (pre ++ rest) hs G σ H ρ → ∃ G', Same G G' ∧ Ok K c (pre ++ rest') hs G' σ H ρ
  | [], [], pre, G, _, k => ⟨G, Same.refl _, k⟩
  | [], _ :: _, pre, G, h, k => by cases h
  | _ :: _, [], pre, G, h, k => by cases h
  | s :: rest, s' :: rest', pre, G, h, k => by
    obtain ⟨h1, h2⟩ := and2 (show (leS s s' && lesB rest rest') = true from h)
    have one : ∃ G', Same G G' ∧ Ok K c (pre ++ s' :: rest) hs G' σ H ρ := by
      cases s' with
      | gone => have := k.forget pre.length; rw [set_mid] at this; exact ⟨G, Same.refl _, this⟩
      | own t' =>
        cases s with
        | own t =>
          rcases Bool.or_eq_true_iff.mp h1 with h1 | h1
          · have e := tyEq_eq h1
            subst e
            have e : (pre ++ Slot.own t :: rest)[pre.length]? = some (.own t) := by simp
            obtain ⟨v, hv⟩ := k.has _ _ e
            have hi : pre.length < ρ.length := by rw [k.lr]; simp
            obtain ⟨G', g, _, k'⟩ := k.frzSlot (d := ρ[pre.length]) e hv (List.getElem?_eq_getElem hi)
            rw [set_mid] at k'
            exact ⟨G', g, k'⟩
          · have e := tyEq_eq h1
            subst e
            exact ⟨G, Same.refl _, k⟩
        | gone => cases h1
        | bor _ => cases h1
        | exc => cases h1
      | exc =>
        cases s with
        | exc => exact ⟨G, Same.refl _, k⟩
        | _ => cases h1
      | bor t' =>
        cases s with
        | bor t =>
          have e := tyEq_eq (show tyEq t t' = true from h1)
          subst e
          exact ⟨G, Same.refl _, k⟩
        | gone => cases h1
        | own _ => cases h1
        | exc => cases h1
    obtain ⟨G1, g1, k1⟩ := one
    have k1' : Ok K c ((pre ++ [s']) ++ rest) hs G1 σ H ρ := by simpa using k1
    obtain ⟨G2, g2, k2⟩ := Ok.le (pre ++ [s']) h2 k1'
    exact ⟨G2, g1.trans g2, by simpa using k2⟩
theorem Ok.le0 {τ τ' : List Slot} {G : Hp} (h : lesB τ τ' = true) (k : Ok K c τ hs G σ H ρ) : ∃ G', Same G G' ∧ Ok K c τ' hs G' σ H ρ := Ok.le [] h k
end
/-- what leaves a statement -/
structure Exits where
  nx : Option (List Slot)
  brk : Option (List Slot)
  cnt : Option (List Slot)
  exc : Option (List Slot)
def Fit (o : Exits) (T : Tys) : Prop := leO o.nx T.nx = true ∧ leO o.brk T.brk = true ∧ leO o.cnt T.cnt = true ∧ leO o.exc T.exc = true
section
variable {X : Cx} {c : FC} {τ τ' : List Slot} {T T' : Tys} {W : WX} {st : Stmt} {sts : List Stmt} {g : SF}
theorem Post.le {K : PySem.W.Frag} {mg : Str → Option Value} {hs : List Trip} {G : Hp} {D : Ends} {r : RS} (h1 : lesB T.nx T'.nx = true) (h2 : lesB T.brk T'.brk = true) (h3 : lesB T.cnt T'.cnt = true) (h4 : lesB T.exc T'.exc = true) (h5 : T.ret = T'.ret)
    (h : Post K mg c hs G T' D W r) : Post K mg c hs G T D W r := by
  cases r with
  | nx ρ => exact fun G2 σ H k s2 => let ⟨G3, s3, k3⟩ := Ok.le0 h1 k; h G3 σ H k3 (s2.trans s3)
  | ret d => exact fun G' σ' H' v τ' ρ' k => h G' σ' H' v τ' ρ' (by rw [← h5]; exact k)
  | brk ρ => exact fun G2 σ H k s2 => let ⟨G3, s3, k3⟩ := Ok.le0 h2 k; h G3 σ H k3 (s2.trans s3)
  | cnt ρ => exact fun G2 σ H k s2 => let ⟨G3, s3, k3⟩ := Ok.le0 h3 k; h G3 σ H k3 (s2.trans s3)
  | exc e ρ => exact fun G2 σ H cls d k s2 x => let ⟨G3, s3, k3⟩ := Ok.le0 h4 k; h G3 σ H cls d k3 (s2.trans s3) x
  | no => exact h
theorem DSt.le (h1 : lesB T.nx T'.nx = true) (h2 : lesB T.brk T'.brk = true) (h3 : lesB T.cnt T'.cnt = true) (h4 : lesB T.exc T'.exc = true) (h5 : T.ret = T'.ret) (h : DSt X c τ T W st g) : DSt X c τ T' W st g := by
  obtain ⟨ts, p, o⟩ := h
  exact ⟨ts, p, fun hs G σ H ρ D k q => o hs G σ H ρ D k (Post.le h1 h2 h3 h4 h5 q)⟩
/-- less claimed ahead of it -/
theorem DSt.pre (h1 : lesB τ τ' = true) (h : DSt X c τ' T W st g) : DSt X c τ T W st g := by
  obtain ⟨ts, p, o⟩ := h
  refine ⟨ts, p, fun hs G σ H ρ D k q => ?_⟩
  obtain ⟨G', s, k'⟩ := k.le0 h1
  exact o hs G' σ H ρ D k' (q.mono s)
theorem DSs.pre (h1 : lesB τ τ' = true) (h : DSs X c τ' T W sts g) : DSs X c τ T W sts g := by
  obtain ⟨ts, p, o⟩ := h
  refine ⟨ts, p, fun hs G σ H ρ D k q => ?_⟩
  obtain ⟨G', s, k'⟩ := k.le0 h1
  exact o hs G' σ H ρ D k' (q.mono s)
theorem DI.le {tg e : Expr} {f : Env → Option (List D)} {τ'' : List Slot} (h : lesB τ' τ'' = true) (d : DI X c τ τ' tg e f) : DI X c τ τ'' tg e f := by
  obtain ⟨wi, p, o⟩ := d
  refine ⟨wi, p, fun hs G σ H ρ ds R k e q => o hs G σ H ρ ds R k e fun G' H' J k' s1 s2 it => ?_⟩
  obtain ⟨G2, s3, k2⟩ := k'.le0 h
  exact q G2 H' J k2 (s1.trans s3) s2 fun i τ hs G σ H ρ s k => it i τ hs G σ H ρ (s3.trans s) k
end
end My

set_option Elab.async false
set_option linter.all false
set_option maxRecDepth 100000
set_option maxHeartbeats 1000000
/-! for x in l[1:]: .. r.append(int(x.replace(a, b))): a token is out when the texts are written. -/
namespace My
open PySem PySem.Spec PyProof.Rows L2
section
variable {X : Cx}
theorem tk {α : Type} {t : Sem α} {Q : α → Shared → Prop} {E : Value → Shared → Prop} {M : Model} {A : Around} {s : Shared} {n : Nat} (hn : n ≤ s.toks) (h : wpAny M A t Q E s) : wpAny M A t (fun a s' => n ≤ s'.toks ∧ Q a s') E s :=
  wpAny_mono (PySem.wpAny_toks_of hn h) (fun _ _ q => q) fun _ _ z => z.2
/-- behind it a token is out -/
def PES (X : Cx) (e : Expr) (t : TE) : Prop :=
  ∀ (pins : List (Addr × Obj)) (s : Shared) (σ : L2.St) (H : Hp) (Q : VK), Inv X pins σ H s → t σ H Q → wpAny (model X.prog X.w) X.A (eval e X.env) (fun v s1 => 1 ≤ s1.toks ∧ EP X pins σ Q v s1) X.xe s
theorem pes_slice {r : V → Option Int → Option Int → Hp → VK → Prop} {e : Expr} {te : TE} {j} {cp p2 pos : Pos} (hr : SlR X r) (he : PE X e te) : PES X (.Subscript e (.Slice (some (.Constant (.int 1) j cp)) none none p2) pos) (tSl r te (tPart (tC (.int 1))) tNoPart) := by
  intro pins s σ H Q I h
  refine Subscript_ (thn (he.run pins s σ H _ I h) fun v s1 ⟨x, H1, I1, r1, q1⟩ => ?_)
  obtain ⟨i, ei, q3⟩ := q1
  cases ei
  refine wpAny_Slice ?_
  rw [evalPart_some]
  refine wpAny_Constant_int ?_
  rw [evalPart_none]
  refine wpAny_pure ?_
  refine wpAny_pure ?_
  have I3 : Inv X pins σ H1 { s1 with toks := s1.toks + 1 } := I1.tok _
  have I4 : Inv X pins σ H1 { s1 with heap := s1.heap.push { cls := .type "slice", data := .fields #[.int 1 s1.toks, .none, .none] }, toks := s1.toks + 1 } := I3.kept (t' := s1.toks + 1) fun b ob q => Heap.get?_push_of_some _ q
  obtain ⟨T, id, hT, ht, hg⟩ := hr pins { s1 with heap := s1.heap.push { cls := .type "slice", data := .fields #[.int 1 s1.toks, .none, .none] }, toks := s1.toks + 1 } σ H1 x v (.int 1 s1.toks) .none (some 1) none s1.heap.objs.size Q I4 r1 (Heap.IsSliceOf.new ..) (.int 1 s1.toks) .none q3
  refine tk (n := 1) (Nat.succ_le_succ (Nat.zero_le _)) ?_
  show wpAny (model X.prog X.w) X.A (subscriptTail e (.Slice (some (.Constant (.int 1) j cp)) none none p2) v (.ref s1.heap.objs.size)) (EP X pins σ Q) X.xe _
  exact tail_any (ops := [.ref s1.heap.objs.size, v]) ht hT hg (by with_unfolding_all rfl)
def PIS (X : Cx) (tg iter : Expr) (wi : TI) : Prop :=
  ∀ (pins : List (Addr × Obj)) (s : Shared) (σ : L2.St) (H : Hp) (R : It → Hp → Prop), Inv X pins σ H s → wi σ H R →
    wpAny (model X.prog X.w) X.A (eval iter X.env) (fun v s1 => 1 ≤ s1.toks ∧ wpAny (model X.prog X.w) X.A (pyIter v) (PIE X pins σ tg R) X.xe s1) X.xe s
theorem pis_list {tg l : Expr} {tl : TE} (hl : PES X l tl) : PIS X tg l (iList X.K tl) := by
  intro pins s σ H R I h
  refine thn (hl pins s σ H _ I h) fun v s1 ⟨ht, x, H1, I1, r1, q1⟩ => ⟨ht, ?_⟩
  obtain ⟨a, e, ⟨xs, hq⟩, q⟩ := q1
  subst e
  cases r1
  obtain ⟨its, rv, p, hz⟩ := I1.list hq
  refine wpAny_pyIter_list p.isList ?_
  refine ⟨s1.heap.objs.size, [s1.heap.objs.size], _, _, H1, rfl, I1.kept (t' := s1.toks) fun b o e => Heap.get?_push_of_some _ e, turn_list a _, ⟨_, Heap.get?_push_size _ rfl, rfl, rfl⟩, fun b hb => ?_, q⟩
  have e : b = s1.heap.objs.size := by simpa using hb
  subst e
  exact I1.fpOk (Nat.le_refl _) (I1.hok.fresh (Nat.le_refl _))
/-- for, its body with a token out -/
theorem ps_forT {tg iter : Expr} {body : List Stmt} {wi : TI} {g : TG} {tb : TS} {pos : Pos} (hp : PassesOwn (model X.prog X.w) X.A X.env X.xe) (hc : X.calm = true) (hi : PIS X tg iter wi) (hg : PG X tg g) (hb : PSsT X body tb)
    (hs : ∀ x, foldedSetIterable iter X.env x = pure x := by intro _; rfl) : PS X (.For tg iter body [] pos) (tFor wi g tb) := by
  refine ⟨fun pins s σ H D I h => ?_⟩
  refine wpAny_For (thn (hi pins s σ H _ I h) fun v s1 h1 => thn (tk h1.1 h1.2) fun itv s2 h2 => ?_) hs
  obtain ⟨tk2, it, fp, tn, J, H2, e, I2, T, st2, f2, W, ⟨m0, w0⟩, turn⟩ := h2
  subst e
  have stat : ∀ {H' : Hp}, (∀ b ∈ fp, H' b = none) → ∀ b ∈ fp, FpOk X pins H' b := fun hn b hb => ⟨hn b hb, (f2 b hb).2⟩
  refine codeAny_forLoop_any (fun n s' => 1 ≤ s'.toks ∧ ∃ i σ' H', Inv X pins σ' H' s' ∧ tn i s'.heap ∧ (∀ b ∈ fp, H' b = none) ∧ W i n σ' H') ?_ m0 ⟨tk2, 0, σ, H2, I2, st2, fun b hb => (f2 b hb).1, w0⟩
  rintro n s3 ⟨tk3, i, σ3, H3, I3, st3, fr3, w3⟩
  rcases turn i n σ3 H3 w3 with ⟨stop, qn⟩ | ⟨go, N, hN, step⟩
  · refine wpAny_passesOwn hp (thn (T.done X rfl rfl rfl hc i pins s3 σ3 H3 X.xe I3 (stat fr3) st3 stop) fun r s4 ⟨hr, I4⟩ => ?_)
    subst hr
    exact wpAny_execs_nil ⟨σ3, H3, I4, qn⟩
  · refine wpAny_passesOwn hp (thn (tk tk3 (T.item X rfl rfl rfl hc i pins s3 σ3 H3 X.xe I3 (stat fr3) st3 go)) fun r s4 ⟨tk4, u, hr, h4⟩ => ?_)
    subst hr
    refine wpAny_passesOwn hp (thn (tk tk4 h4) fun _ s5 ⟨tk5, x, H5, I5, r5, y5, st5, fr5⟩ => ?_)
    have I5' := I5.pinned (stat fr5) (T.obj _ _ st5)
    refine wpAny_passesOwn hp (thn (tk tk5 (hg.run _ s5 σ3 H5 x u _ I5' r5 (step x H5 y5))) fun _ s6 ⟨tk6, σ6, H6, I6, q6⟩ => ?_)
    refine wpAny_passesOwn hp (thn (tk tk6 (hb _ s6 σ6 H6 _ tk6 I6 q6)) fun f s7 ⟨tk7, q7⟩ => ?_)
    have again : ∀ {σ7 : L2.St} {H7 : Hp}, Inv X (pins ++ pinsAt fp s5.heap) σ7 H7 s7 → N σ7 H7 → ∃ m, m < n ∧ 1 ≤ s7.toks ∧ ∃ i σ' H', Inv X pins σ' H' s7 ∧ tn i s7.heap ∧ (∀ b ∈ fp, H' b = none) ∧ W i m σ' H' := fun {σ7 H7} I7 n7 => by
      obtain ⟨m', hm, w7⟩ := hN σ7 H7 n7
      refine ⟨m', hm, tk7, i + 1, σ7, H7, I7.unpinned, T.keep _ _ _ st5 fun b hb o e => (I7.pin (b, o) (List.mem_append_right _ (List.mem_append_right _ (mem_pinsAt hb e)))).1, fun b hb => ?_, w7⟩
      obtain ⟨o, e, d⟩ := T.obj _ _ st5 b hb
      exact (I7.pin (b, o) (List.mem_append_right _ (List.mem_append_right _ (mem_pinsAt hb e)))).2.1
    cases f with
    | next => obtain ⟨σ7, H7, I7, n7⟩ := q7; exact again I7 n7
    | cont => obtain ⟨σ7, H7, I7, n7⟩ := q7; exact again I7 n7
    | brk => obtain ⟨σ7, H7, I7, q7⟩ := q7; exact ⟨σ7, H7, I7.unpinned, q7⟩
    | ret v => obtain ⟨x7, σ7, H7, I7, r7, q7⟩ := q7; exact ⟨x7, σ7, H7, I7.unpinned, r7, q7⟩
/-! the statement r.append(int(x.replace(a, b))) -/
theorem pet_callTy {e : Expr} {es : List Expr} {t : TA} {T : String} {x : Str} {r : List V → Hp → VK → Prop} {p pos : Pos} (hc : CallR X (.type T) r) (hg : Gl X x) (hm : X.mg x = none) (hv : bootBuiltins x = some (.type T)) (ha : PAT X (e :: es) t) (hn : x ≠ "__name__" := by decide) (hdb : (x == ("__debug__" : Str)) = false := by decide)
    (he : starEach (e :: es) X.env = (false, eval e X.env) :: starEach es X.env := by rfl) (hpl : (backTo pos (starEach es X.env)).any (·.1) = false := by rfl) : PET X (.Call (.Name x p) (e :: es) [] pos) (tCB r t) := by
  intro pins s σ H Q h0 I h
  refine wpAny_Call_Name_kw (ld_blt I hg hm hv ?_ hn hdb)
  exact PyProof.Rows.callWith_type1 (thn (ha pos pins s σ H _ h0 I h) fun us s1 ⟨vs, H1, I1, r1, q1⟩ => hc pins s1 σ H1 vs us Q I1 r1 q1) he hpl
theorem pet_bm {o e : Expr} {es : List Expr} {to : TE} {t : TA} {name : Str} {apos cpos : Pos} {T id : String} {r : V → List V → Hp → VK → Prop} (pa : PlainAttrs T) (slot : PySem.Slot T name id) (hty : typeOf (.builtin id) = pure (.type "method_descriptor")) (hm : MtR X id r) (ho : PE X o to) (ha : PAT X (e :: es) t)
    (hbase : attributeBase o name X.env (eval o X.env) = eval o X.env := by rfl)
    (hfew : ((backTo cpos (starEach (e :: es) X.env)).all (fun x => !x.1) && (backToKw cpos (keywordEach [] X.env)).all (fun x => x.1.isSome)
      && decide ((e :: es).length + ([] : List Keyword).length + (if ([] : List Keyword).isEmpty then 0 else 1) < 30)) = true := by rfl)
    (hline : (apos.endLine == cpos.line) = true := by rfl) (hs : starEach (e :: es) X.env = (false, eval e X.env) :: starEach es X.env := by rfl) (hplain : (backTo cpos (starEach es X.env)).any (·.1) = false := by rfl) :
    PET X (.Call (.Attribute o name apos) (e :: es) [] cpos) (tBM X.K T r to t) := by
  intro pins s σ H Q h0 I h
  refine wpAny_Call_method_late hbase hfew hline rfl (thn (tk h0 (ho.run pins s σ H _ I h)) fun v s1 ⟨tk1, x, H1, I1, r1, ty, q1⟩ => ?_)
  obtain ⟨h1, h2⟩ := tyV_is I1 r1 ty
  refine ⟨T, id, pa, slot, hty, h1, h2, ?_⟩
  have hA := ha cpos pins s1 σ H1 _ tk1 I1 q1
  rw [hs] at hA ⊢
  refine Calls.callWith_builtin (by show (false || (backTo cpos (starEach es X.env)).any (·.1)) = false; rw [hplain] <;> rfl) (Calls.evalArgs_plain ?_)
  exact thn hA fun us s2 ⟨vs, H2, I2, r2, q2⟩ => hm pins s2 σ H2 x vs v us Q I2 r1 r2 q2
theorem pst_expr {e : Expr} {te : TE} {pos : Pos} (he : PET X e te) (hs : swapsWith e none pos.line X.env = pure false := by rfl) : PST X (.Expr e pos) (tDrop te) := by
  intro pins s σ H D h0 I h
  exact wpAny_Expr_any (thn (he pins s σ H _ h0 I h) fun v s1 ⟨x, H1, I1, r1, q1⟩ => ⟨σ, H1, I1, q1⟩) I.quiet hs
end
/-! the checker's look at them -/
def isLF : Option Slot → Bool
  | some (.own (.L .F)) => true
  | _ => false
theorem isLF_eq {a : Option Slot} (h : isLF a = true) : a = some (.own (.L .F)) := by
  unfold isLF at h
  split at h
  · rfl
  · cases h
def goneF : Option Slot → Bool
  | some .gone => true
  | some (.own .F) => true
  | _ => false
/-- x.replace(a, b), written texts -/
def chkRp (S : Syn) (pt : Nat) (A B : Str) (e : Expr) : Bool := match e with
  | .Call g es kw cpos => match g, es, kw with
    | .Attribute o nm apos, [a, b], [] => match o, a, b with
      | .Name x _, .Constant (.str y) _ _, .Constant (.str z) _ _ => S.nm pt x && decide (nm = ("replace" : Str)) && decide (y = A) && decide (z = B) && !(A == B) && (apos.endLine == cpos.line)
      | _, _, _ => false
    | _, _, _ => false
  | _ => false
def chkRi (S : Syn) (pt : Nat) (A B : Str) (e : Expr) : Bool := match e with
  | .Call g es kw _ => match g, es, kw with
    | .Name f _, [w], [] => S.bn f "int" && chkRp S pt A B w
    | _, _, _ => false
  | _ => false
def chkRa (S : Syn) (r pt : Nat) (A B : Str) (st : Stmt) : Bool := match st with
  | .Expr e _ => match e with
    | .Call g es kw cpos => match g, es, kw with
      | .Attribute o nm apos, [y], [] => match o with
        | .Name x _ => S.nm r x && decide (nm = ("append" : Str)) && (apos.endLine == cpos.line) && chkRi S pt A B y
        | _ => false
      | _, _, _ => false
    | _ => false
  | _ => false
section
variable {kR : Nat} {Φ : Tab} {S : Syn} {X : Cx} {c : FC} {r pt : Nat} {A B : Str}
theorem chkRp_ok (g : GX kR S Φ X c) {e : Expr} (h : chkRp S pt A B e = true) : ∃ x p apos cpos j1 j2 c1 c2, e = .Call (.Attribute (.Name x p) "replace" apos) [.Constant (.str A) j1 c1, .Constant (.str B) j2 c2] [] cpos ∧ PE X (.Name x p) (tVar pt) ∧ (A == B) = false ∧ (apos.endLine == cpos.line) = true := by
  unfold chkRp at h
  split at h
  · split at h
    · split at h
      · obtain ⟨h, h6⟩ := and2 h
        obtain ⟨h, h5⟩ := and2 h
        obtain ⟨h, h4⟩ := and2 h
        obtain ⟨h1, h2, h3⟩ := and3 h
        have h2 := of_decide_eq_true h2
        have h3 := of_decide_eq_true h3
        have h4 := of_decide_eq_true h4
        subst h2 h3 h4
        exact ⟨_, _, _, _, _, _, _, _, rfl, nm_pe g h1, by simpa using h5, h6⟩
      · cases h
    · cases h
  · cases h
theorem chkRi_ok (g : GX kR S Φ X c) {e : Expr} (h : chkRi S pt A B e = true) : ∃ p w pos, e = .Call (.Name "int" p) [w] [] pos ∧ Bn X "int" ∧ chkRp S pt A B w = true := by
  unfold chkRi at h
  split at h
  · split at h
    · obtain ⟨h1, h2⟩ := and2 h
      obtain ⟨rfl, n⟩ := bn_of g h1
      exact ⟨_, _, _, rfl, n, h2⟩
    · cases h
  · cases h
theorem chkRa_ok (g : GX kR S Φ X c) {st : Stmt} (h : chkRa S r pt A B st = true) : ∃ x p apos cpos y pos, st = .Expr (.Call (.Attribute (.Name x p) "append" apos) [y] [] cpos) pos ∧ PE X (.Name x p) (tVar r) ∧ (apos.endLine == cpos.line) = true ∧ chkRi S pt A B y = true := by
  unfold chkRa at h
  split at h
  · split at h
    · split at h
      · split at h
        · obtain ⟨h, h4⟩ := and2 h
          obtain ⟨h1, h2, h3⟩ := and3 h
          have h2 := of_decide_eq_true h2
          subst h2
          exact ⟨_, _, _, _, _, _, rfl, nm_pe g h1, h3, h4⟩
        · cases h
      · cases h
    · cases h
  · cases h
end
/-! over plain data -/
section
variable {X : Cx} {c : FC} {τ τ' : List Slot} {T : Tys} {W : WX} {o : Expr} {fa : EF} {pos p2 : Pos}
theorem fz_lst {K : PySem.W.Frag} {G : Hp} {v : V} {ds : List D} (h : Fz K G v (.lst ds)) : ∃ a vs, v = .ref a ∧ SqK K G a vs ∧ FzL K G vs ds := by
  cases h with
  | flat h => cases h
  | lst h l => exact ⟨_, _, rfl, h, l⟩
theorem cut_it {tg : Expr} {j cp} (ha : DS X c τ o fa) : ∃ wi, PIS X tg (.Subscript o (.Slice (some (.Constant (.int 1) j cp)) none none p2) pos) wi ∧ WkOk X c τ τ wi fun ρ => (fa ρ).bind cutD := by
  obtain ⟨ta, pa, oa⟩ := ha
  refine ⟨_, pis_list (pes_slice sl_list pa), fun hs G σ H ρ ds R k e q => ?_⟩
  obtain ⟨x, e1, e2⟩ := bind1 e
  cases x with
  | lst xs =>
    cases e2
    refine oa hs G σ H ρ _ _ k e1 fun G1 H1 v k1 g1 h1 s1 => ?_
    obtain ⟨a, vs, rfl, r1, f1⟩ := s1.lst' k1.frG
    have hl := f1.length
    have z : FzL X.K G1 (cutV vs (some 1) none) (cut xs (some 1) none) := by
      unfold cutV cut
      rw [← hl]
      exact (f1.drop _).take _
    refine ⟨1, rfl, a, vs, rfl, r1.sq, fun p n => ?_⟩
    obtain ⟨G', g, k'⟩ := k1.newLF n z
    obtain ⟨fp, rr⟩ := k'.top
    have zz := rr.toF
    obtain ⟨a2, vs2, ea, h, l⟩ := fz_lst zz
    cases ea
    exact ⟨p, rfl, ⟨_, (sqK_same k'.frG h).sq⟩, q G' _ _ k'.drop (g1.trans g) (h1.trans (same_upd n)) (isIt_list h l)⟩
  | _ => cases e2
theorem sem_if {tc : TT} {ta tb : TS} {gt : Env → Option Bool} {g g' : SF} (oc : TsOk X c τ tc gt) (oa : StOk X c τ T W ta g) (ob : StOk X c τ T W tb g') :
    StOk X c τ T W (tIfS tc ta tb) fun ρ => match gt ρ with | some true => g ρ | some false => g' ρ | none => .no := by
  intro hs G σ H ρ D k q
  try dsimp only at q
  cases e1 : gt ρ with
  | none => rw [e1] at q; exact q.elim
  | some r =>
    rw [e1] at q
    refine oc hs G σ H ρ r _ k e1 fun G1 H1 k1 g1 h1 => ?_
    cases r with
    | true => exact oa hs G1 σ H1 ρ D k1 (q.mono g1)
    | false => exact ob hs G1 σ H1 ρ D k1 (q.mono g1)
theorem sem_for {tg : Tg} {fsrc : Env → Option (List D)} {fbody : SF} {τ2 : List Slot} {wi : TI} {gg : TG} {tb : TS} (ow : WkOk X c τ T.nx wi fsrc) (og : TgOk X c T.nx τ2 .F gg tg) (ob : StOk X c τ2 { T with brk := T.nx, cnt := T.nx } W tb fbody) :
    StOk X c τ T W (tFor wi gg tb) fun ρ => match fsrc ρ with | some xs => forL (bindT tg) fbody xs ρ | none => .no := by
  intro hs G σ H ρ D k q
  try dsimp only at q
  cases e1 : fsrc ρ with
  | none => rw [e1] at q; exact q.elim
  | some xs =>
    rw [e1] at q
    refine ow hs G σ H ρ xs _ k e1 fun G1 H1 J k1 g1 h1 it => ?_
    refine ⟨fun i m σ' H' => m = xs.length - i ∧ i ≤ xs.length ∧ ∃ G' ρ', Ok X.K c T.nx hs G' σ' H' ρ' ∧ Same G1 G' ∧ Post X.K X.mg c hs G' T D W (forL (bindT tg) fbody (xs.drop i) ρ'),
      ⟨xs.length, rfl, Nat.zero_le _, G1, ρ, k1, Same.refl _, by rw [List.drop_zero]; exact q.mono g1⟩, ?_⟩
    rintro i m σ2 H2 ⟨rfl, hi, G2, ρ2, k2, g2, q2⟩
    obtain ⟨stop, go⟩ := it i T.nx hs G2 σ2 H2 ρ2 g2 k2
    by_cases hlt : i < xs.length
    · have hd : xs.drop i = xs[i] :: xs.drop (i + 1) := List.drop_eq_getElem_cons hlt
      obtain ⟨go1, go2⟩ := go xs[i] (by rw [List.getElem?_eq_getElem hlt])
      refine .inr ⟨go1, fun σ' H' => ∃ G' ρ', Ok X.K c T.nx hs G' σ' H' ρ' ∧ Same G1 G' ∧ Post X.K X.mg c hs G' T D W (forL (bindT tg) fbody (xs.drop (i + 1)) ρ'), fun σ' H' p => ⟨xs.length - (i + 1), by omega, rfl, hlt, p⟩, fun x H3 y => ?_⟩
      obtain ⟨G3, g3, h3, k3⟩ := go2 x H3 y
      rw [hd, forL_step] at q2
      cases eb : bindT tg xs[i] ρ2 with
      | none => rw [eb] at q2; exact q2.elim
      | some ρ3 =>
        rw [eb] at q2
        replace q2 : Post X.K X.mg c hs G2 T D W (contL (fbody ρ3) (forL (bindT tg) fbody (xs.drop (i + 1)))) := q2
        refine og hs G3 σ2 H3 ρ2 x xs[i] ρ3 _ k3 eb fun σ3 k4 al => ?_
        refine ob hs G3 σ3 H3 ρ3 _ k4 ?_
        cases ef : fbody ρ3 with
        | nx ρ4 => rw [ef] at q2; exact fun G' σ' H' k' s => ⟨G', ρ4, k', (g2.trans g3).trans s, q2.mono (g3.trans s)⟩
        | cnt ρ4 => rw [ef] at q2; exact fun G' σ' H' k' s => ⟨G', ρ4, k', (g2.trans g3).trans s, q2.mono (g3.trans s)⟩
        | brk ρ4 => rw [ef] at q2; exact fun G' σ' H' k' s => q2 G' σ' H' k' (g3.trans s)
        | ret d => rw [ef] at q2; exact q2
        | exc e' ρ4 => rw [ef] at q2; exact fun G' σ' H' cls d k' s => q2 G' σ' H' cls d k' (g3.trans s)
        | no => rw [ef] at q2; exact q2.elim
    · have ei : i = xs.length := by omega
      subst ei
      rw [List.drop_length] at q2
      exact .inl ⟨stop rfl, q2 G2 σ2 H2 k2 (Same.refl _)⟩
theorem dstt_appR {r pt : Nat} {xr xp : Str} {A B : Str} {j1 j2} {p p2 p3 c1 c2 apos cpos apos2 cpos2 cposI pI : Pos} (ho : PE X (.Name xr p) (tVar r)) (hx : PE X (.Name xp p2) (tVar pt)) (n : Bn X "int") (hl : (apos.endLine == cpos.line) = true) (hl2 : (apos2.endLine == cpos2.line) = true) (hyz : (A == B) = false)
    (h1 : τ[r]? = some (.own (.L .F))) (h2 : τ[pt]? = some (.own .F)) :
    ∃ ts, PST X (.Expr (.Call (.Attribute (.Name xr p) "append" apos) [.Call (.Name "int" pI) [.Call (.Attribute (.Name xp p2) "replace" apos2) [.Constant (.str A) j1 c1, .Constant (.str B) j2 c2] [] cpos2] [] cposI] [] cpos) p3) ts ∧ StOk X c τ { T with nx := τ } W ts (appRV r pt A B) := by
  refine ⟨_, pst_expr (pet_bm PySem.F.plainAttrs_list PySem.F.slot_list_append PySem.F.type_list_append mt_append ho (pat_cons (pet_callTy call_int_str n.gl n.no (by decide +kernel) (pat_cons (CwR.pet_replC hx hyz rfl rfl hl2) pat_nil)) pat_nil) rfl rfl hl), fun hs G σ H ρ D k q => ?_⟩
  unfold appRV at q
  have hi := (List.getElem?_eq_some_iff.mp h1).1
  have hr : r < ρ.length := by rw [k.lr]; exact hi
  have er : ρ[r]? = some ρ[r] := List.getElem?_eq_getElem hr
  have hp : pt < ρ.length := by rw [k.lr]; exact (List.getElem?_eq_some_iff.mp h2).1
  have ep : ρ[pt]? = some ρ[pt] := List.getElem?_eq_getElem hp
  obtain ⟨v, fp, hv, rr⟩ := k.slot h1 er
  obtain ⟨w, fw, hw, rw_⟩ := k.slot h2 ep
  rw [er, ep] at q
  have q : Post X.K X.mg c hs G { T with nx := τ } D W (ofO ((repV A B ρ[pt]).bind fun v => (mutV .append [v] ρ[r]).map fun l' => ρ.set r l')) := q
  cases ex : ρ[pt] with
  | str x =>
    rw [ex] at q rw_
    have q : Post X.K X.mg c hs G { T with nx := τ } D W (ofO ((if x.length + (x.length + 1) * B.length ≤ mx ∧ (Txt.replace x A B).length ≤ 640 then (PySem.intText? (Txt.replace x A B)).map My.D.int else none).bind fun v => (mutV .append [v] ρ[r]).map fun l' => ρ.set r l')) := q
    split at q
    · rename_i hc
      cases ei : PySem.intText? (Txt.replace x A B) with
      | none => rw [ei] at q; exact q.elim
      | some m =>
        rw [ei] at q
        have q : Post X.K X.mg c hs G { T with nx := τ } D W (ofO ((mutV .append [.int m] ρ[r]).map fun l' => ρ.set r l')) := q
        cases ed : ρ[r] with
        | lst ds =>
          rw [ed] at rr q er
          obtain ⟨a, xs, fq, rfl, ea, _⟩ := rr.lstInv
          have q : Post X.K X.mg c hs G { T with nx := τ } D W (ofO ((if ds.length < mx then some (My.D.lst (ds ++ [.int m])) else none).map fun d' => ρ.set r d')) := q
          split at q
          · rename_i hlt
            have ms := mx_eq
            refine ⟨_, hv, .inl ⟨rfl, _, SqL.of ea⟩, ?_⟩
            have ew := rw_.toF.str
            subst ew
            refine ⟨_, hw, x, rfl, hc.1, ?_⟩
            refine ⟨_, m, rfl, ei, hc.2, ?_⟩
            have k1 := k.pushFlat (d := .int m) .F rfl
            have k2 := k1.move h1 hv er
            obtain ⟨vs, ev, el, k3⟩ := (k2.perm (List.Perm.swap _ _ _)).append
            refine ⟨a, vs, .int m, rfl, rfl, ev, by omega, ?_⟩
            have k4 := k3.put (i := r) (by rw [List.length_set]; exact hi)
            rw [List.set_set] at k4
            have e2 : τ.set r (.own (.L .F)) = τ := by
              obtain ⟨h1, h2⟩ := List.getElem?_eq_some_iff.mp h1
              rw [← h2]; exact List.set_getElem_self h1
            have e3 : σ.set r (some (V.ref a)) = σ := by
              obtain ⟨h1, h2⟩ := List.getElem?_eq_some_iff.mp hv
              rw [← h2]; exact List.set_getElem_self h1
            rw [e2, e3] at k4
            exact q G σ _ k4 (Same.refl _)
          · exact q.elim
        | _ => rw [ed] at q; exact q.elim
    · exact q.elim
  | _ => rw [ex] at q; exact q.elim
/-- x.clear() of a list of one's own -/
theorem dst_clear {i : Nat} {x : Str} {t : Ty} {p apos cpos pos : Pos} (ho : PE X (.Name x p) (tVar i)) (hline : (apos.endLine == cpos.line) = true) (h1 : τ[i]? = some (.own (.L t))) (hn : T.nx = τ) :
    DSt X c τ T W (.Expr (.Call (.Attribute (.Name x p) "clear" apos) [] [] cpos) pos) fun ρ => ofO ((ρ[i]?).bind fun x => (clrV x).map fun y => ρ.set i y) := by
  refine ⟨_, ps_expr (pe_bm0 PySem.F.plainAttrs_list PySem.F.slot_list_clear PySem.F.type_list_clear mt_clear ho rfl hline), fun hs G σ H ρ D k q => ?_⟩
  dsimp only at q
  have hi := (List.getElem?_eq_some_iff.mp h1).1
  have hr : i < ρ.length := by rw [k.lr]; exact hi
  have er : ρ[i]? = some ρ[i] := List.getElem?_eq_getElem hr
  obtain ⟨v, fp, hv, r⟩ := k.slot h1 er
  rw [er] at q
  cases ed : ρ[i] with
  | lst ds =>
    rw [ed] at r q er
    obtain ⟨a, xs, fq, rfl, ea, _⟩ := r.lstInv
    have q : Post X.K X.mg c hs G T D W (.nx (ρ.set i (.lst []))) := q
    refine ⟨_, hv, .inl ⟨rfl, _, SqL.of ea⟩, ?_⟩
    have k2 := k.move h1 hv er
    obtain ⟨inner, e1, e2, e3, ko⟩ := Ok.openL (new := []) k2
    have k3 := ko [] inner (by simp) (fun _ m => nomatch m)
    refine ⟨a, _, rfl, rfl, ea, ?_⟩
    have k4 := (Ok.drops (xs := inner) k3).put (i := i) (by rw [List.length_set]; exact hi)
    rw [List.set_set] at k4
    have e2 : τ.set i (.own (.L t)) = τ := by
      obtain ⟨h1, h2⟩ := List.getElem?_eq_some_iff.mp h1
      rw [← h2]; exact List.set_getElem_self h1
    have e3 : σ.set i (some (V.ref a)) = σ := by
      obtain ⟨h1, h2⟩ := List.getElem?_eq_some_iff.mp hv
      rw [← h2]; exact List.set_getElem_self h1
    rw [e2, e3] at k4
    rw [← hn] at k4
    exact q G σ _ k4 (Same.refl _)
  | _ => rw [ed] at q; exact q.elim
end
end My

set_option Elab.async false
set_option linter.all false
set_option maxRecDepth 100000
/-! Statements while a dict is locked. -/
namespace My
open PySem PySem.Spec PyProof.Rows L2
section
variable {X : Cx} {c : FC} {τ τ' : List Slot} {T : Tys} {W : WX} {t : Ty} {i j : Nat} {te : TE} {f : EF} {st : Stmt}
def tLkS (t : TS) : TS := fun D σ H => t D σ H ∨ tLock t D σ H
theorem ps_lk {ts : TS} (h : PS X st ts) : PS X st (tLkS ts) := ⟨fun pins s σ H D I w => w.elim (h.run pins s σ H D I) ((ps_lock h).run pins s σ H D I)⟩
theorem NoBor.set (nb : NoBor τ) {s : Slot} (hs : ∀ t, s ≠ .bor t) : NoBor (τ.set j s) := fun k t e => by
  rw [List.getElem?_set] at e
  split at e
  · split at e
    · cases e; exact hs t rfl
    · cases e
  · exact nb k t e
/-- name = a comprehension over a dict -/
theorem asg_lk (h : LkOk X τ i t te f) (hi : τ[i]? = some (.own .F)) (nb : NoBor τ) (hf : ∀ ρ d, f ρ = some d → ∃ kds, ρ[i]? = some (.dct kds)) (hj : j < τ.length) (hn : T.nx = τ.set j (.own t)) :
    StOk X c τ T W (tLkS (tAsg te (gName j))) fun ρ => ofO ((f ρ).bind fun d => bindT (.s j) d ρ) := by
  intro hs G σ H ρ D k q
  try dsimp only at q
  cases e : f ρ with
  | none => rw [e] at q; exact q.elim
  | some d =>
    rw [e] at q
    have q : ∀ G' σ' H', Ok X.K c T.nx hs G' σ' H' (ρ.set j d) → Same G G' → D.nx σ' H' := q
    obtain ⟨kds, ek⟩ := hf ρ d e
    rcases k.lockable hi ek with l | ⟨a, kws, ga, ha, l⟩
    · exact .inl (h c hs G σ H ρ k l d _ e fun G' H' v k' s1 s2 => q G' _ H' (by rw [hn]; exact k'.put hj) s1)
    · refine .inr ⟨a, .dK kws, ha, trivial, fun o => h _ hs _ σ _ ρ (k.lock ga nb) (l o) d _ e fun G' H' v k' s1 s2 => ?_⟩
      obtain ⟨h1, h2, h3⟩ := k.unlock ga (k'.put hj) (nb.set fun _ z => nomatch z)
      exact ⟨h1, q _ _ _ (by rw [hn]; exact h3) h2⟩
theorem forgetAll {hs : List Trip} {G H : Hp} {σ : L2.St} {ρ : Env} (k : Ok X.K c τ hs G σ H ρ) : ∃ τ', NoBor τ' ∧ Ok X.K c τ' hs G σ H ρ := by
  refine ⟨goneAll τ (List.range τ.length), fun i t e => ?_, k.forgets _⟩
  have hl : ∀ l : List Nat, (goneAll τ l).length = τ.length := fun l => by
    induction l with
    | nil => rfl
    | cons x r ih => show ((goneAll τ r).set x .gone).length = _; rw [List.length_set, ih]
  have hlt : i < τ.length := by
    have := (List.getElem?_eq_some_iff.mp e).1
    rwa [hl] at this
  have := goneAll_mem (List.mem_range.mpr hlt) e
  cases this
/-- what a loop's turns are, from one state on -/
theorem for_at {tg : Tg} {fbody : SF} {τ2 : List Slot} {gg : TG} {tb : TS} {hs : List Trip} {G H : Hp} {σ : L2.St} {ρ : Env} {xs : List D} {J : It} {D : Ends} (og : TgOk X c T.nx τ2 .F gg tg) (ob : StOk X c τ2 { T with brk := T.nx, cnt := T.nx } W tb fbody)
    (k : Ok X.K c T.nx hs G σ H ρ) (it : IsIt X c J G xs) (q : Post X.K X.mg c hs G T D W (forL (bindT tg) fbody xs ρ)) :
    ∃ W : Nat → Nat → L2.St → Hp → Prop, (∃ m, W 0 m σ H) ∧ ∀ i m σ H, W i m σ H →
      (J.stop i H ∧ D.nx σ H) ∨ (J.go i H ∧ ∃ N : L2.St → Hp → Prop, (∀ σ' H', N σ' H' → ∃ m', m' < m ∧ W (i + 1) m' σ' H') ∧ ∀ x H', J.yld i H x H' → gg x σ H' fun σ2 H2 => tb { D with nx := N, ct := N, bk := D.nx } σ2 H2) := by
  refine ⟨fun i m σ' H' => m = xs.length - i ∧ i ≤ xs.length ∧ ∃ G' ρ', Ok X.K c T.nx hs G' σ' H' ρ' ∧ Same G G' ∧ Post X.K X.mg c hs G' T D W (forL (bindT tg) fbody (xs.drop i) ρ'),
    ⟨xs.length, rfl, Nat.zero_le _, G, ρ, k, Same.refl _, by rw [List.drop_zero]; exact q⟩, ?_⟩
  rintro i m σ2 H2 ⟨rfl, hi, G2, ρ2, k2, g2, q2⟩
  obtain ⟨stop, go⟩ := it i T.nx hs G2 σ2 H2 ρ2 g2 k2
  by_cases hlt : i < xs.length
  · have hd : xs.drop i = xs[i] :: xs.drop (i + 1) := List.drop_eq_getElem_cons hlt
    obtain ⟨go1, go2⟩ := go xs[i] (by rw [List.getElem?_eq_getElem hlt])
    refine .inr ⟨go1, fun σ' H' => ∃ G' ρ', Ok X.K c T.nx hs G' σ' H' ρ' ∧ Same G G' ∧ Post X.K X.mg c hs G' T D W (forL (bindT tg) fbody (xs.drop (i + 1)) ρ'), fun σ' H' p => ⟨xs.length - (i + 1), by omega, rfl, hlt, p⟩, fun x H3 y => ?_⟩
    obtain ⟨G3, g3, h3, k3⟩ := go2 x H3 y
    rw [hd, forL_step] at q2
    cases eb : bindT tg xs[i] ρ2 with
    | none => rw [eb] at q2; exact q2.elim
    | some ρ3 =>
      rw [eb] at q2
      replace q2 : Post X.K X.mg c hs G2 T D W (contL (fbody ρ3) (forL (bindT tg) fbody (xs.drop (i + 1)))) := q2
      refine og hs G3 σ2 H3 ρ2 x xs[i] ρ3 _ k3 eb fun σ3 k4 al => ?_
      refine ob hs G3 σ3 H3 ρ3 _ k4 ?_
      cases ef : fbody ρ3 with
      | nx ρ4 => rw [ef] at q2; exact fun G' σ' H' k' s => ⟨G', ρ4, k', (g2.trans g3).trans s, q2.mono (g3.trans s)⟩
      | cnt ρ4 => rw [ef] at q2; exact fun G' σ' H' k' s => ⟨G', ρ4, k', (g2.trans g3).trans s, q2.mono (g3.trans s)⟩
      | brk ρ4 => rw [ef] at q2; exact fun G' σ' H' k' s => q2 G' σ' H' k' (g3.trans s)
      | ret d => rw [ef] at q2; exact q2
      | exc e' ρ4 => rw [ef] at q2; exact fun G' σ' H' cls d k' s => q2 G' σ' H' cls d k' (g3.trans s)
      | no => rw [ef] at q2; exact q2.elim
  · have ei : i = xs.length := by omega
    subst ei
    rw [List.drop_length] at q2
    exact .inl ⟨stop rfl, q2 G2 σ2 H2 k2 (Same.refl _)⟩
/-- a row of statements, as well as it can be told -/
def tbMax (X : Cx) (sts : List Stmt) : TS := fun D σ H => ∃ ts, PSs X sts ts ∧ ts D σ H
theorem pss_max {sts : List Stmt} : PSs X sts (tbMax X sts) := ⟨fun pins s σ H D I ⟨ts, p, w⟩ => p.run pins s σ H D I w⟩
theorem DSs.max {sts : List Stmt} {g : SF} (h : DSs X c τ T W sts g) : StOk X c τ T W (tbMax X sts) g := fun hs G σ H ρ D k q => let ⟨ts, p, o⟩ := h; ⟨ts, p, o hs G σ H ρ D k q⟩
def ggMax (X : Cx) (e : Expr) : TG := fun v σ H Q => ∃ g, PG X e g ∧ g v σ H Q
theorem pg_max {e : Expr} : PG X e (ggMax X e) := ⟨fun pins s σ H v u Q I r ⟨g, p, w⟩ => p.run pins s σ H v u Q I r w⟩
theorem DG.max {e : Expr} {tg : Tg} (h : DG X c τ τ' e t tg) : TgOk X c τ τ' t (ggMax X e) tg := fun hs G σ H ρ v d ρ' Q k e q => let ⟨g, p, o⟩ := h; ⟨g, p, o hs G σ H ρ v d ρ' Q k e q⟩
/-- for .. in a dict -/
theorem dst_forK {pos : Pos} {tgE iter : Expr} {body : List Stmt} {tg : Tg} {fbody : SF} {τ2 : List Slot} {wi : TI} {src : List (Key × D) → List D} (hp : PassesOwn (model X.prog X.w) X.A X.env X.xe) (hc : X.calm = true)
    (pw : PI X tgE iter wi) (hw : WkK X T.nx i wi src) (hi : T.nx[i]? = some (.own .F)) (nb : NoBor T.nx) (nb2 : NoBor T.nx)
    (hgt : ∀ c, DG X c T.nx τ2 tgE .F tg) (hb : ∀ c, DSs X c τ2 { T with brk := T.nx, cnt := T.nx } (fun _ _ _ _ => False) body fbody) (hs : ∀ x, foldedSetIterable iter X.env x = pure x) :
    DSt X c T.nx T W (.For tgE iter body [] pos) fun ρ => match ρ[i]? with | some (.dct kds) => noX (forL (bindT tg) fbody (src kds) ρ) | _ => .no := by
  refine ⟨tLkS (tFor wi (ggMax X tgE) (tbMax X body)), ps_lk (ps_for hp hc pw pg_max pss_max hs), fun hs G σ H ρ D k q => ?_⟩
  try dsimp only at q
  cases ek : ρ[i]? with
  | none => rw [ek] at q; exact q.elim
  | some d =>
    rw [ek] at q
    cases d with
    | dct kds =>
      replace q : Post X.K X.mg c hs G T D W (noX (forL (bindT tg) fbody (src kds) ρ)) := q
      rcases k.lockable hi ek with ⟨kds', a, o, kws, e1, e2, e3, e4⟩ | ⟨a, kws, ga, ha, l⟩
      · rw [ek] at e1
        cases e1
        refine .inl (hw c hs G σ H ρ kds a o kws k ek e2 e3 e4 _ fun J it => ?_)
        refine for_at (T := T) (W := fun _ _ _ _ => False) (hgt c).max (hb c).max k it ?_
        cases ef : forL (bindT tg) fbody (src kds) ρ with
        | nx ρ' => rw [ef] at q; exact q
        | ret d => rw [ef] at q; exact q
        | _ => rw [ef] at q; exact q.elim
      · refine .inr ⟨a, .dK kws, ha, trivial, fun o => ?_⟩
        obtain ⟨kds', a', o', kws', e1, e2, e3, e4⟩ := l o
        rw [ek] at e1
        cases e1
        have kl := k.lock (o := o) ga nb
        refine hw _ hs _ σ _ ρ kds a' o' kws' kl ek e2 e3 e4 _ fun J it => ?_
        refine for_at (T := T) (W := fun _ _ _ _ => False) (hgt _).max (hb _).max kl it ?_
        cases ef : forL (bindT tg) fbody (src kds) ρ with
        | nx ρ' =>
          rw [ef] at q
          have q : ∀ G' σ' H', Ok X.K c T.nx hs G' σ' H' ρ' → Same G G' → D.nx σ' H' := q
          intro G' σ' H' k' s
          obtain ⟨h1, h2, h3⟩ := k.unlock ga k' nb2
          exact ⟨h1, q _ _ _ h3 h2⟩
        | ret d =>
          rw [ef] at q
          have q : ∀ G' σ' H' v τ' ρ', Ok X.K c τ' ((T.ret, v, d) :: hs) G' σ' H' ρ' → D.rt v H' := q
          intro G' σ' H' v τ' ρ' k'
          obtain ⟨τ'', nb', k''⟩ := forgetAll k'
          obtain ⟨h1, h2, h3⟩ := k.unlock ga k'' nb'
          exact ⟨h1, q _ _ _ _ _ _ h3⟩
        | _ => rw [ef] at q; exact q.elim
    | _ => exact q.elim
end
end My

set_option Elab.async false
set_option linter.all false
set_option maxRecDepth 100000
set_option maxHeartbeats 1000000
/-! The checker over statements, and that it is sound. -/
namespace My
open PySem PySem.Spec PyProof.Rows L2
section
variable {X : Cx} {c : FC} {τ τ' : List Slot} {T : Tys} {W : WX} {e : Expr} {f : EF} {t : Ty} {i : Nat} {x name : Str} {pos apos cpos p : Pos}
/-- x.append(e) of a local list of one's own -/
theorem dst_append (ho : PE X (.Name x p) (tVar i)) (ns : NS e = true) (hline : (apos.endLine == cpos.line) = true) (ha : DO X c τ T.nx e t f) (h1 : τ[i]? = some (.own (.L t))) (h2 : T.nx[i]? = some (.own (.L t))) :
    DSt X c τ T W (.Expr (.Call (.Attribute (.Name x p) "append" apos) [e] [] cpos) pos) fun ρ => ofO (((f ρ).bind fun x => (some []).map fun xs => x :: xs).bind fun ds => (some []).bind fun ps => (ρ[i]?).bind fun d => (atPath (mutV .append ds) ps d).map fun d' => ρ.set i d') := by
  obtain ⟨te, pe, o⟩ := ha
  have few : ((backTo cpos (starEach [e] X.env)).all (fun x => !x.1) && (backToKw cpos (keywordEach [] X.env)).all (fun x => x.1.isSome) && decide ([e].length + ([] : List Keyword).length + (if ([] : List Keyword).isEmpty then 0 else 1) < 30)) = true := by
    rw [star_cons ns]; rfl
  refine ⟨_, ps_expr (pe_bm PySem.F.plainAttrs_list PySem.F.slot_list_append PySem.F.type_list_append mt_append ho (pa_cons pe pa_nil (star_cons ns)) rfl few hline (star_cons ns) (star_any rfl)), fun hs G σ H ρ D k q => ?_⟩
  dsimp only at q
  cases e1 : f ρ with
  | none => rw [e1] at q; exact q.elim
  | some d =>
    rw [e1] at q
    have hi := (List.getElem?_eq_some_iff.mp h1).1
    have hr : i < ρ.length := by rw [k.lr]; exact hi
    have er : ρ[i]? = some ρ[i] := List.getElem?_eq_getElem hr
    obtain ⟨v, fp, hv, r⟩ := k.slot h1 er
    rw [er] at q
    cases ed : ρ[i] with
    | lst ds =>
      rw [ed] at r q er
      obtain ⟨a, xs, fq, rfl, ea, _⟩ := r.lstInv
      refine ⟨_, hv, .inl ⟨rfl, _, SqL.of ea⟩, ?_⟩
      have q : Post X.K X.mg c hs G T D W (ofO ((if ds.length < mx then some (My.D.lst (ds ++ [d])) else none).map fun d' => ρ.set i d')) := q
      split at q
      · rename_i hlt
        have ms := mx_eq
        refine o hs G σ H ρ d _ k e1 fun G1 H1 w k1 g1 h1' => ?_
        have k2 := k1.move h2 hv er
        obtain ⟨vs, ev, el, k3⟩ := (k2.perm (List.Perm.swap _ _ _)).append
        refine ⟨a, vs, w, rfl, rfl, ev, by omega, ?_⟩
        have k4 := k3.put (i := i) (by rw [List.length_set]; exact (List.getElem?_eq_some_iff.mp h2).1)
        rw [List.set_set] at k4
        have e2 : T.nx.set i (.own (.L t)) = T.nx := by
          obtain ⟨h1, h2⟩ := List.getElem?_eq_some_iff.mp h2
          rw [← h2]; exact List.set_getElem_self h1
        have e3 : σ.set i (some (V.ref a)) = σ := by
          obtain ⟨h1, h2⟩ := List.getElem?_eq_some_iff.mp hv
          rw [← h2]; exact List.set_getElem_self h1
        rw [e2, e3] at k4
        exact q G1 σ _ k4 g1
      · exact q.elim
    | _ => rw [ed] at q; exact q.elim
end

def chkApp (S : Syn) (i : Nat) (st : Stmt) : Option Expr := match st with
  | .Expr e _ => match e with
    | .Call g es kw cpos => match g, es, kw with
      | .Attribute r nm apos, [y], [] => match r with
        | .Name x _ => if S.nm i x && decide (nm = ("append" : Str)) && NS y && (apos.endLine == cpos.line) then some y else none
        | _ => none
      | _, _, _ => none
    | _ => none
  | _ => none
/-- x[i].append(e) -/
def chkAppP (S : Syn) (i : Nat) (st : Stmt) : Option (Expr × Expr) := match st with
  | .Expr e _ => match e with
    | .Call g es kw cpos => match g, es, kw with
      | .Attribute r nm apos, [y], [] => match r with
        | .Subscript o ix _ => match o with
          | .Name x _ => if S.nm i x && decide (nm = ("append" : Str)) && NS y && (apos.endLine == cpos.line) && notSlice ix then some (ix, y) else none
          | _ => none
        | _ => none
      | _, _, _ => none
    | _ => none
  | _ => none
/-- x.pop(e) -/
def chkPop (S : Syn) (i : Nat) (e : Expr) : Option Expr := match e with
  | .Call g es kw cpos => match g, es, kw with
    | .Attribute r nm apos, [y], [] => match r with
      | .Name x _ => if S.nm i x && decide (nm = ("pop" : Str)) && NS y && (apos.endLine == cpos.line) then some y else none
      | _ => none
    | _, _, _ => none
  | _ => none
/-- x[e] -/
def chkIx (S : Syn) (i : Nat) (e : Expr) : Option Expr := match e with
  | .Subscript o ix _ => match o with
    | .Name x _ => if S.nm i x && notSlice ix then some ix else none
    | _ => none
  | _ => none
def notTup : Expr → Bool
  | .Tuple .. => false
  | _ => true
def noCompS : Expr → Bool
  | .ListComp .. => false | .SetComp .. => false | .DictComp .. => false
  | _ => true
def chkSet (S : Syn) (i : Nat) (st : Stmt) : Option (Expr × Expr) := match st with
  | .Assign tgs e _ => match tgs with
    | [tgE] => match tgE with
      | .Subscript o ix _ => match o with
        | .Name x _ => if S.nm i x && notSlice ix && noCompS e then some (ix, e) else none
        | _ => none
      | _ => none
    | _ => none
  | _ => none
def noCompE : Expr → Bool
  | .ListComp .. => false | .SetComp .. => false | .DictComp .. => false
  | _ => true
def iterInv (f : List Slot → Option Exits) : Nat → List Slot → List Slot
  | 0, τ => τ
  | n + 1, τ => match f τ with
    | some o => match meetO (some τ) (meetO o.nx (meetO o.cnt o.brk)) with
      | some τ' => if slsEq τ τ' then τ else iterInv f n τ'
      | none => τ
    | none => τ
def leOO : Option (List Slot) → Option (List Slot) → Bool
  | none, _ => true
  | some a, some b => lesB a b
  | some _, none => false
def joinE (o o' : Exits) : Exits := ⟨meetO o.nx o'.nx, meetO o.brk o'.brk, meetO o.cnt o'.cnt, meetO o.exc o'.exc⟩
def leE (o j : Exits) : Bool := leOO o.brk j.brk && leOO o.cnt j.cnt && leOO o.exc j.exc
def ex0 : Exits := ⟨none, none, none, none⟩
/-- a comprehension that is stored under a name on its own line -/
def compAsg (S : Syn) (m : ME) (x : Str) (p : Pos) (e : Expr) : Bool := (match m with | .comp .. => true | _ => false) && match e with
  | .ListComp _ _ scope pos => (p.line == pos.line) && (match S.look x with | some .local => true | _ => false) && !(scope.names.any fun (n, k) => n == x && (k == .local || k == .cell))
  | _ => false
/-- a name that inner blocks read: nothing is swapped -/
def cellAsg (S : Syn) (x : Str) : Bool := match S.look x with | some .cell => true | _ => false
/-- a pair of names and a pair of values: no tuple is made -/
def notPair : Expr → Bool
  | .Tuple .. => false
  | _ => true
def isOwn : Option Rs → Bool
  | some r => r.own
  | none => false
/-- from here on it stands still -/
def fzOf (τ : List Slot) : MS → Option (List Slot)
  | .fz i => match τ[i]? with
    | some (.own _) => some (τ.set i (.own .F))
    | _ => none
  | _ => none
def isLocal : Option NameKind → Bool
  | some .local => true
  | _ => false
theorem isLocal_eq {a : Option NameKind} (h : isLocal a = true) : a = some .local := by
  unfold isLocal at h
  split at h
  · rfl
  · cases h
def isGone : Option Slot → Bool
  | some .gone => true
  | _ => false
theorem isGone_eq {a : Option Slot} (h : isGone a = true) : a = some .gone := by
  unfold isGone at h
  split at h
  · rfl
  · cases h
mutual
def chkS (S : Syn) (ret : Ty) (τ : List Slot) : MS → Stmt → Option Exits
  | .asg tg m, st => match st with
    | .Assign tgs e pos => match tgs with
      | [tgE] => match Rs.ow (inf S τ m e).1 with
        | some (t, τ') => match chkG S tg t τ' tgE with
          | some τ2 => match tgE with
            | .Name x p => if noCompE e || cellAsg S x || (compAsg S m x p e && isOwn (inf S τ m e).1) then some { ex0 with nx := some τ2 } else none
            | .Tuple .. => if noCompE e && notPair e && NS tgE then some { ex0 with nx := some τ2 } else none
            | _ => none
          | none => none
        | none => none
      | _ => none
    | _ => none
  | .exp m, st => match st with
    | .Expr e _ => if noCompE e && Rs.rd τ (inf S τ m e).1 then some { ex0 with nx := some τ } else none
    | _ => none
  | .mut u i path as, st => match u, path, as with
    | .append, [], [m] => match chkApp S i st with
      | some y => match τ[i]? with
        | some (.own (.L t)) => match Rs.owT t m (inf S τ m y).1 with
          | some τ' => match τ'[i]? with
            | some (.own (.L t')) => if tyEq t t' then some { ex0 with nx := some τ' } else none
            | _ => none
          | none => none
        | _ => none
      | none => none
    | .setI, [], [mk, mv] => match chkSet S i st with
      | some (ix, e) => match τ[i]? with
        | some (.own (.L t)) => match Rs.owT t mv (inf S τ mv e).1 with
          | some τ' => match τ'[i]? with
            | some (.own (.L t')) => if tyEq t t' && Rs.rd τ' (inf S τ' mk ix).1 then some { ex0 with nx := some τ' } else none
            | _ => none
          | none => none
        | some (.own (.Dc [] t)) => match Rs.owT t mv (inf S τ mv e).1 with
          | some τ' => match τ'[i]? with
            | some (.own (.Dc [] t')) => if tyEq t t' && Rs.rd τ' (inf S τ' mk ix).1 then some { ex0 with nx := some τ' } else none
            | _ => none
          | none => none
        | _ => none
      | none => none
    | .append, [mk], [m] => match chkAppP S i st with
      | some (ix, y) => match τ[i]? with
        | some (.own t) => match t.elem with
          | .L te => if t.ix && t.own && Rs.rd τ (inf S τ mk ix).1 then (match Rs.owT te m (inf S (τ.set i .gone) m y).1 with
            | some τ' => if decide (i < τ'.length) then some { ex0 with nx := some (τ'.set i (.own t)) } else none
            | none => none) else none
          | _ => none
        | _ => none
      | none => none
    | _, _, _ => none
  | .aug i m, st => match st with
    | .AugAssign tg op e _ => match tg, op with
      | .Name x _, .Add => if S.st i x && Rs.rd τ (inf S τ m e).1 then (match τ[i]? with
        | some (.own .F) => some { ex0 with nx := some τ }
        | _ => none) else none
      | _, _ => none
    | _ => none
  | .popA tg i m, st => match st with
    | .Assign tgs e _ => match tgs with
      | [tgE] => match chkPop S i e with
        | some y => match τ[i]? with
          | some (.own (.L t)) => if Rs.rd τ (inf S τ m y).1 && notTup tgE && NS tgE then (match chkG S tg t τ tgE with
            | some τ2 => some { ex0 with nx := some τ2 }
            | none => none) else none
          | _ => none
        | none => none
      | _ => none
    | _ => none
  | .popApp i j m, st => match chkApp S i st with
    | some z => match chkPop S j z with
      | some y => match τ[i]?, τ[j]? with
        | some (.own (.L t)), some (.own (.L t')) => if tyEq t t' && decide (i ≠ j) && Rs.rd τ (inf S τ m y).1 then some { ex0 with nx := some τ } else none
        | _, _ => none
      | none => none
    | none => none
  | .takeA tg i m, st => match st with
    | .Assign tgs e _ => match tgs with
      | [tgE] => match chkIx S i e with
        | some y => match τ[i]? with
          | some (.own t) => if t.ix && t.own && Rs.rd τ (inf S τ m y).1 && notTup tgE && NS tgE then (match chkG S tg t.elem τ tgE with
            | some τ2 => some { ex0 with nx := some τ2 }
            | none => none) else none
          | _ => none
        | none => none
      | _ => none
    | _ => none
  | .forK tg k i body, st => match st with
    | .For tgE iter sts els _ => match els with
      | [] =>
          let inv := iterInv (fun t => (chkG S tg .F t tgE).bind fun t2 => chkB S ret t2 body sts) 6 τ
          if S.calm && noSet iter && lesB τ inv && noBorB inv then
            match wkD S inv k [.var i] tgE iter with
            | some _ => match chkG S tg .F inv tgE with
              | some τ2 => match chkB S ret τ2 body sts with
                | some o => if leO o.nx inv && leO o.brk inv && leO o.cnt inv then some ⟨some inv, none, none, o.exc⟩ else none
                | none => none
              | none => none
            | none => none
          else none
      | _ => none
    | _ => none
  | .clr i, st => match st with
    | .Expr e _ => match e with
      | .Call g es kw cpos => match g, es, kw with
        | .Attribute o nm apos, [], [] => match o with
          | .Name x _ => if S.nm i x && decide (nm = ("clear" : Str)) && (apos.endLine == cpos.line) then (match τ[i]? with
            | some (.own (.L _)) => some { ex0 with nx := some τ }
            | _ => none) else none
          | _ => none
        | _, _, _ => none
      | _ => none
    | _ => none
  | .forR pt ps d r A B, st => match st with
    | .For tgE iter sts els _ => match sts, els with
      | [ift], [] => match ift with
        | .If x sa sb _ => match sb with
          | [ap] => match tgE, iter with
            | .Name xp _, .Subscript o sl _ => match sl with
              | .Slice (some (.Constant (.int 1) _ _)) none none _ =>
                if S.calm && S.st pt xp && decide (pt < τ.length) && goneF τ[pt]? && Rs.sh (τ.set pt .gone) (inf S (τ.set pt .gone) (.var ps) o).1 && (inf S (τ.set pt (.own .F)) (.cmp .inn (.var pt) (.var d)) x).2 && chkRa S r pt A B ap && isLF (τ.set pt (.own .F))[r]? then
                  (match sa with
                  | [st1] => (match chkApp S r st1 with
                    | some y => match Rs.owT .F (.idx (.var d) (.var pt)) (inf S (τ.set pt (.own .F)) (.idx (.var d) (.var pt)) y).1 with
                      | some τ' => if slsEq τ' (τ.set pt (.own .F)) then some { ex0 with nx := some (τ.set pt .gone) } else none
                      | none => none
                    | none => none)
                  | _ => none)
                else none
              | _ => none
            | _, _ => none
          | _ => none
        | _ => none
      | _, _ => none
    | _ => none
  | .nev, _ => some ex0
  | .rai x, st => match st with
    | .Raise (some e) none _ => match e with
      | .Call f xs kw _ => match f, xs, kw with
        | .Name y _, [z], [] => match z with
          | .Constant (.str _) _ _ => if decide (y = x) && S.calm && S.gl x && okName x && S.excs.contains x then some { ex0 with exc := some τ } else none
          | _ => none
        | _, _, _ => none
      | _ => none
    | _ => none
  | .expX k as, st => match st with
    | .Expr e _ => match e with
      | .Call f xs kw _ => match f, kw with
        | .Name x _, [] => match S.fns[k]? with
          | some F => if decide (F.x = x) && S.calm && S.gl x && okName x && xs.all NS && !xs.isEmpty then (infLP S F.ps τ as xs).map fun τ' => { ex0 with nx := some τ', exc := some τ' } else none
          | none => none
        | _, _ => none
      | _ => none
    | _ => none
  | .tryE i x b s, st => match st with
    | .Try body hds els fin _ => match hds, els, fin with
      | [.ExceptHandler (some hx) (some n) sb _], [], [] => match hx, sb with
        | .Name y _, b0 :: su => if decide (y = x) && S.calm && S.top && S.cats.contains x && S.gl x && okName x && decide (S.N[i]? = some n) && isLocal (S.look n) then
            match chkB S ret τ b body with
            | some ob => match ob.exc with
              | some τe => if noE τe && decide (i < τe.length) then
                  match chkB { S with calm := false } ret (τe.set i .exc) s (b0 :: su) with
                  | some os => match meetO ob.nx os.nx with
                    | some nx => if os.brk.isNone && os.cnt.isNone && os.exc.isNone && leOO ob.nx (some nx) && leOO os.nx (some nx) && isGone nx[i]? && noE nx then some ⟨some nx, ob.brk, ob.cnt, some τe⟩ else none
                    | none => none
                  | none => none
                else none
              | none => none
            | none => none
          else none
        | _, _ => none
      | _, _, _ => none
    | _ => none
  | .ifs cnd a b, st => match st with
    | .If x sa sb _ => if (inf S τ cnd x).2 then
        match chkB S ret τ a sa, chkB S ret τ b sb with
        | some o, some o' => if leE o (joinE o o') && leE o' (joinE o o') && leOO o.nx (joinE o o').nx && leOO o'.nx (joinE o o').nx then some (joinE o o') else none
        | _, _ => none
      else none
    | _ => none
  | .for_ tg k as body, st => match st with
    | .For tgE iter sts els _ => match els with
      | [] => match wk S τ k (inf1 S τ as iter) (infLR S τ as (callArgs iter)) (infLO S τ as (callArgs iter)) tgE iter with
        | some τ1 =>
          let inv := iterInv (fun t => (chkG S tg .F t tgE).bind fun t2 => chkB S ret t2 body sts) 6 τ1
          if S.calm && noSet iter && lesB τ1 inv then
            match chkG S tg .F inv tgE with
            | some τ2 => match chkB S ret τ2 body sts with
              | some o => if leO o.nx inv && leO o.brk inv && leO o.cnt inv then some ⟨some inv, none, none, o.exc⟩ else none
              | none => none
            | none => none
          else none
        | none => none
      | _ => none
    | _ => none
  | .whl _ cnd body, st => match st with
    | .While x sts els _ => match els with
      | [] =>
        let inv := iterInv (fun t => chkB S ret t body sts) 6 τ
        if lesB τ inv && (inf S inv cnd x).2 then
          match chkB S ret inv body sts with
          | some o => if leO o.nx inv && leO o.brk inv && leO o.cnt inv then some ⟨some inv, none, none, o.exc⟩ else none
          | none => none
        else none
      | _ => none
    | _ => none
  | .ret m, st => match st with
    | .Return (some e) _ => match Rs.owT ret m (inf S τ m e).1 with
      | some _ => some ex0
      | none => none
    | _ => none
  | .retN, st => match st with
    | .Return none _ => some ex0
    | _ => none
  | .brk, st => match st with
    | .Break _ => some { ex0 with brk := some τ }
    | _ => none
  | .cnt, st => match st with
    | .Continue _ => some { ex0 with cnt := some τ }
    | _ => none
  | .fz _, _ => none
  | .pss, st => match st with
    | .Pass _ => some { ex0 with nx := some τ }
    | _ => none
def chkB (S : Syn) (ret : Ty) (τ : List Slot) : List MS → List Stmt → Option Exits
  | [], sts => match sts with
    | [] => some { ex0 with nx := some τ }
    | _ => none
  | m :: ms, sts => match fzOf τ m with
    | some τ0 => chkB S ret τ0 ms sts
    | none => match sts with
      | st :: sts => match chkS S ret τ m st with
        | some o => match o.nx with
          | none => match ms, sts with
            | [], [] => some o
            | _, _ => none
          | some τ1 => match chkB S ret τ1 ms sts with
            | some o2 => if leE o (joinE o o2) && leE o2 (joinE o o2) then some { joinE o o2 with nx := o2.nx } else none
            | none => none
        | none => none
      | [] => none
end

section
variable {kR : Nat} {Φ : Tab} {X : Cx} {c : FC} {τ τ' : List Slot} {T : Tys} {W : WX}
theorem swaps_no {e : Expr} {t : Option Expr} {l : Nat} {env : PySem.Env} (h : noCompE e = true) : swapsWith e t l env = pure false := by
  cases e <;> first | rfl | cases h
theorem swaps_cell {e : Expr} {x : Str} {p : Pos} {l : Nat} {env : PySem.Env} (h : env.scope.names.lookup x = some .cell) : swapsWith e (some (.Name x p)) l env = pure false := by
  cases hn : noCompE e with
  | true => exact swaps_no hn
  | false =>
    have hk : (env.kindOf x == some .local) = false := by
      show (env.scope.names.lookup x == some .local) = false
      rw [h]; rfl
    have key : ∀ (q : Pos) (s : Scope), (pure (env.blockKind == .function && env.kindOf x == some .local && p.line == q.line && !(s.names.any fun (n, k) => n == x && (k == .local || k == .cell))) : Sem Bool) = pure false := fun q s => by
      rw [hk, Bool.and_false, Bool.false_and, Bool.false_and]
    cases e with
    | ListComp a b c d => exact key _ c
    | SetComp a b c d => exact key _ c
    | DictComp a b c d f => exact key _ d
    | _ => cases hn
/-- a comprehension is taken only where no error is handled -/
theorem comp_calm {S : Syn} {elt : ME} {tg : Tg} {own : List Nat} {k : SrcK} {as : List ME} {cond : Option ME} {x : Expr} {gens : List Comprehension} {scope : Scope} {pos : Pos} {r : Rs}
    (h : (inf S τ (.comp elt tg own k as cond) (.ListComp x gens scope pos)).1 = some r) : S.calm = true := by
  unfold inf at h
  replace h := show _ = some _ from h
  unfold val at h
  dsimp only at h
  split at h
  · split at h
    · rename_i h0
      obtain ⟨h1, h2, h3⟩ := and3 h0
      exact (and2 h1).1
    · cases h
  · cases h
/-- the parts of a comprehension -/
theorem comp_parts {S : Syn} {elt : ME} {tg : Tg} {own : List Nat} {k : SrcK} {as : List ME} {cond : Option ME} {x : Expr} {gens : List Comprehension} {scope : Scope} {pos : Pos} {t : Ty} (g : GX kR S Φ X c)
    (h : (inf S τ (.comp elt tg own k as cond) (.ListComp x gens scope pos)).1 = some ⟨true, t, τ'⟩) :
    ∃ (tgE iter : Expr) (ifs : List Expr) (wi : TI) (gg : TG) (tt : TT) (te : TE) (ow : List (Str × Nat)), gens = [⟨tgE, iter, ifs, 0⟩] ∧ PI X tgE iter wi ∧ BlkOk X.N X.env.scope scope ow ∧
      (∀ (s : Shared) (H : Hp) (C : Addr) (cl : List (Str × Addr)) (fp : List Addr), PG (X.blk s H scope (compEnvC scope cl C X.env) fp) tgE gg) ∧ (∀ (s : Shared) (H : Hp) (C : Addr) (cl : List (Str × Addr)) (fp : List Addr), PTs (X.blk s H scope (compEnvC scope cl C X.env) fp) ifs tt) ∧
      (∀ (s : Shared) (H : Hp) (C : Addr) (cl : List (Str × Addr)) (fp : List Addr), PE (X.blk s H scope (compEnvC scope cl C X.env) fp) x te) ∧ (∀ x, foldedSetIterable iter X.env x = pure x) ∧
      (OwOk X c τ τ' t (tLc wi gg tt te (ow.map (·.2))) (ev Φ (.comp elt tg own k as cond)) ∨ (τ' = τ ∧ ∃ i, τ[i]? = some (.own .F) ∧ NoBor τ ∧ LkOk X τ i t (tLc wi gg tt te (ow.map (·.2))) (ev Φ (.comp elt tg own k as cond)) ∧ ∀ ρ d, ev Φ (.comp elt tg own k as cond) ρ = some d → ∃ kds, ρ[i]? = some (.dct kds))) := by
  unfold inf at h
  replace h := show _ = some _ from h
  unfold val at h
  dsimp only at h
  split at h
  · rename_i tgE iter ifs isA
    split at h
    · rename_i h0
      obtain ⟨h1, h2, h3⟩ := and3 h0
      obtain ⟨hcm, h1⟩ := and2 h1
      have h1 := of_decide_eq_true h1
      subst h1
      split at h
      · rename_i τ1 hw
        split at h
        · rename_i h4
          obtain ⟨h4, h5⟩ := and2 h4
          split at h
          · rename_i τ2 hg2
            split at h
            · rename_i h6
              obtain ⟨h6, h7⟩ := and2 h6
              split at h
              · rename_i t' τ3 he
                split at h
                · rename_i h8
                  have e8 := slsEq_eq h8
                  subst e8
                  cases h
                  have ix : ((own.map fun i => (S.N.getD i (Str.ofString ""), i)).map (·.2)) = own := by simp [Function.comp_def]
                  have bk : BlkOk X.N X.env.scope scope (own.map fun i => (S.N.getD i (Str.ofString ""), i)) := by rw [g.N, g.sc]; exact blkOk_by h3
                  have src := wkE_ok (tgE := tgE) (c := c) g (inf1_ok as S X c τ iter g) (fun hr xs ex hn => infLR_ok as S X c τ xs g hn (by rw [ex] at hr; exact hr)) (fun {xs ts τ'} ex hn ho => infLO_ok as S X c τ xs ts τ' g hn (by rw [← ex]; exact ho)) hw
                  obtain ⟨gg, pg, og⟩ := DG.uniA (X := X) (fun X' h => blk_K h) fun c' X' b => chkG_ok (c := c') (gx_blk hcm bk.kind (g.any hcm c') b) tg .F τ' τ3 tgE hg2
                  obtain ⟨tt, pt, ot⟩ := DTs.uniA (X := X) (fun X' h => blk_K h) fun c' X' b => infC_ok cond _ X' c' τ3 ifs (gx_blk hcm bk.kind (g.any hcm c') b) h7
                  obtain ⟨te, pe, oe⟩ := DO.uniA (X := X) (fun X' h => blk_K h) fun c' X' b => (inf_ok elt _ X' c' τ3 x (gx_blk hcm bk.kind (g.any hcm c') b)).1.ow he
                  have e : (fun ρ => ((evs Φ as ρ).bind (srcItems k)).bind fun xs => if xs.length ≤ mx then (compL (bindT tg) (evC Φ cond) (ev Φ elt) ρ xs).map .lst else none) = ev Φ (.comp elt tg own k as cond) := by
                    funext ρ
                    show ((evs Φ as ρ).bind (srcItems k)).bind _ = (evs Φ as ρ).bind fun ds => (srcItems k ds).bind _
                    cases evs Φ as ρ <;> rfl
                  have og1 : ∀ i ∈ own, τ'[i]? = some .gone := by intro i hi; have := List.all_eq_true.mp h4 i hi; split at this <;> first | assumption | cases this
                  have og2 : ∀ i ∈ tg.slots, i ∈ own := by intro i hi; simpa using List.all_eq_true.mp h5 i hi
                  rcases src with ⟨wi, pw, ow⟩ | ⟨rfl, wi, i, src, pw, hi, nb, ow, hf⟩
                  · refine ⟨tgE, iter, ifs, wi, gg, tt, te, _, rfl, pw, bk, fun s H C cl fp => pg _ ⟨s, H, C, cl, fp, rfl⟩, fun s H C cl fp => pt _ ⟨s, H, C, cl, fp, rfl⟩, fun s H C cl fp => pe _ ⟨s, H, C, cl, fp, rfl⟩, noSet_of h2, .inl ?_⟩
                    rw [ix, ← e]
                    exact comp_run ow (og c) (ot c) (oe c) (own := own) og1 og2 (slsEq_eq h6) (Nat.le_refl _)
                  · refine ⟨tgE, iter, ifs, wi, gg, tt, te, _, rfl, pw, bk, fun s H C cl fp => pg _ ⟨s, H, C, cl, fp, rfl⟩, fun s H C cl fp => pt _ ⟨s, H, C, cl, fp, rfl⟩, fun s H C cl fp => pe _ ⟨s, H, C, cl, fp, rfl⟩, noSet_of h2, .inr ⟨rfl, i, hi, nb, ?_, ?_⟩⟩
                    · rw [ix, ← e]
                      exact comp_lk ow hf og ot oe (own := own) og1 og2 (slsEq_eq h6)
                    · rw [← e]
                      intro ρ d e
                      obtain ⟨xs, e1, _⟩ := bind1 e
                      obtain ⟨kds, e2, _⟩ := hf ρ xs e1
                      exact ⟨kds, e2⟩
                · cases h
              · cases h
            · cases h
          · cases h
        · cases h
      · cases h
    · cases h
  · cases h
end
end My

set_option Elab.async false
set_option linter.all false
set_option maxRecDepth 100000
set_option maxHeartbeats 1000000
/-! x[i] = v of a local list, a local dict of one's own. -/
namespace My
open PySem PySem.Spec PyProof.Rows L2
theorem perm_set {α : Type} {y : α} : ∀ {xs : List α} {j : Nat} {x : α}, xs[j]? = some x → (xs ++ [y]).Perm (xs.set j y ++ [x])
  | [], j, x, h => by simp at h
  | a :: xs, 0, x, h => by
    simp at h; subst h
    show (a :: (xs ++ [y])).Perm (y :: (xs ++ [a]))
    exact ((List.perm_append_singleton y xs).cons a).trans ((List.Perm.swap y a xs).trans ((List.perm_append_singleton a xs).symm.cons y))
  | a :: xs, j + 1, x, h => (perm_set (xs := xs) (j := j) (by simpa using h)).cons a
def PlainSet (i : Expr) : Prop := ∀ (o : Expr) (pos : Pos) (env : PySem.Env) (v : Value), assign (.Subscript o i pos) env v = (do
      let ov ← holding [v] (eval o env)
      let iv ← holding [v, ov] (eval i env)
      standAt pos
      holding [v, ov, iv] (setItem ov iv v)
      release [v, ov, iv] [])
theorem plainSet_of {i : Expr} (h : notSlice i = true) : PlainSet i := by cases i <;> first | (intro o pos env v; rfl) | cases h
section
variable {X : Cx} {c : FC} {τ τ' : List Slot} {T : Tys} {W : WX} {e ix : Expr} {f fi : EF} {t : Ty} {i : Nat} {x : Str} {pos spos p : Pos}
theorem setL_ok {hs : List Trip} {G H : Hp} {σ : L2.St} {ρ : Env} {v : V} {d : D} {a : Addr} {ds : List D} {j : Nat} {xs : List V} (h : Ok X.K c τ ((t, v, d) :: (.L t, .ref a, .lst ds) :: hs) G σ H ρ) (hx : H a = some (.lst xs)) (hj : j < ds.length) :
    xs.length = ds.length ∧ Ok X.K c τ ((.L t, .ref a, .lst (ds.set j d)) :: hs) G σ (upd H a (.lst (xs.set j v))) ρ := by
  obtain ⟨inner, e1, e2, e3, k⟩ := Ok.openL (new := [(t, v, d)]) h
  rw [hx] at e1
  cases e1
  subst e2
  refine ⟨by simp, ?_⟩
  have hj2 : j < inner.length := by simpa using hj
  have k := k (inner.set j (t, v, d)) [inner[j]] (perm_set (List.getElem?_eq_getElem hj2)) fun y m => by
    rcases List.mem_or_eq_of_mem_set m with m | m
    · exact e3 y m
    · rw [m]
  have k := Ok.drops (xs := [inner[j]]) k
  simpa using k
theorem dst_setL (ho : PE X (.Name x p) (tVar i)) (hsw : noCompE e = true) (hp : PlainSet ix) (ha : DO X c τ T.nx e t f) (hi : DR X c T.nx ix fi) (h2 : T.nx[i]? = some (.own (.L t)))
    (hw : swappedStores [.Subscript (.Name x p) ix spos] e X.env = pure none := by rfl) :
    DSt X c τ T W (.Assign [.Subscript (.Name x p) ix spos] e pos) fun ρ => ofO (((fi ρ).bind fun y => ((f ρ).bind fun x => (some []).map fun xs => x :: xs).map fun xs => y :: xs).bind fun ds => (some []).bind fun ps => (ρ[i]?).bind fun d => (atPath (mutV .setI ds) ps d).map fun d' => ρ.set i d') := by
  obtain ⟨te, pe, o⟩ := ha
  obtain ⟨ti, pi, oi⟩ := hi
  refine ⟨_, ps_asg pe (pg_sub ho pi set_list (hp _ _ _)) (by unfold swapsWithSole; exact swaps_no hsw) hw rfl, fun hs G σ H ρ D k q => ?_⟩
  dsimp only at q
  cases e0 : fi ρ with
  | none => rw [e0] at q; exact q.elim
  | some y =>
    cases e1 : f ρ with
    | none => rw [e0, e1] at q; exact q.elim
    | some d =>
      rw [e0, e1] at q
      refine o hs G σ H ρ d _ k e1 fun G1 H1 w k1 g1 h1' => ?_
      have hr : i < ρ.length := by rw [k1.lr]; exact (List.getElem?_eq_some_iff.mp h2).1
      have er : ρ[i]? = some ρ[i] := List.getElem?_eq_getElem hr
      obtain ⟨v, fp, hv, r⟩ := k1.slot h2 er
      refine ⟨_, hv, ?_⟩
      refine oi _ G1 σ H1 ρ y _ k1 e0 fun G2 H2 vy k2 g2 h2' zy => ?_
      obtain ⟨v2, fp2, hv2, r⟩ := k2.slot h2 er
      rw [hv] at hv2
      cases hv2
      rw [er] at q
      have q : Post X.K X.mg c hs G T D W (ofO ((mutV .setI [y, d] ρ[i]).map fun d' => ρ.set i d')) := q
      cases ed : ρ[i] with
      | lst ds =>
        rw [ed] at r q er
        obtain ⟨a, xs, fq, rfl, ea, _⟩ := r.lstInv
        cases y with
        | int n =>
          have ez := zy.int
          subst ez
          have q : Post X.K X.mg c hs G T D W (ofO (((ixN ds.length n).map fun k => My.D.lst (ds.set k d)).map fun d' => ρ.set i d')) := q
          cases ej : ixN ds.length n with
          | none => rw [ej] at q; exact q.elim
          | some j =>
            rw [ej] at q
            have hj : j < ds.length := (ixN_seq ej).2.1
            have k3 := (k2.move h2 hv er).perm (List.Perm.swap _ _ _)
            obtain ⟨el, k4⟩ := setL_ok k3 ea hj
            refine ⟨a, _, n, j, rfl, rfl, ea, by rw [el]; exact ej, ?_⟩
            have k5 := k4.put (i := i) (by rw [List.length_set]; exact (List.getElem?_eq_some_iff.mp h2).1)
            rw [List.set_set] at k5
            have e2 : T.nx.set i (.own (.L t)) = T.nx := by
              obtain ⟨h1, h2⟩ := List.getElem?_eq_some_iff.mp h2
              rw [← h2]; exact List.set_getElem_self h1
            have e3 : σ.set i (some (V.ref a)) = σ := by
              obtain ⟨h1, h2⟩ := List.getElem?_eq_some_iff.mp hv
              rw [← h2]; exact List.set_getElem_self h1
            rw [e2, e3] at k5
            exact q G2 σ _ k5 (g1.trans g2)
        | _ => exact q.elim
      | dct kvs =>
        rw [ed] at r
        cases r with
        | flat h => cases h
      | _ => rw [ed] at q; cases y <;> exact q.elim
end
theorem noCompS_eq {e : Expr} (h : noCompS e = true) : noCompE e = true := by cases e <;> first | rfl | cases h
theorem chkSet_ok {kR : Nat} {Φ : Tab} {S : Syn} {X : Cx} {c : FC} {i : Nat} {st : Stmt} {ix e : Expr} (g : GX kR S Φ X c) (h : chkSet S i st = some (ix, e)) :
    ∃ x p spos pos, st = .Assign [.Subscript (.Name x p) ix spos] e pos ∧ PE X (.Name x p) (tVar i) ∧ PlainSet ix ∧ noCompE e = true := by
  unfold chkSet at h
  split at h
  · split at h
    · split at h
      · split at h
        · split at h
          · rename_i h0
            obtain ⟨h1, h2, h3⟩ := and3 h0
            cases h
            exact ⟨_, _, _, _, rfl, nm_pe g h1, plainSet_of h2, noCompS_eq h3⟩
          · cases h
        · cases h
      · cases h
    · cases h
  · cases h
end My

set_option Elab.async false
set_option linter.all false
set_option maxRecDepth 100000
set_option maxHeartbeats 1000000
/-! One's own things, one step within: what stands at a place of it, taken apart and put together. -/
namespace My
open PySem PySem.Spec PyProof.Rows L2
theorem atPath1 (f : D → Option D) (y x : D) : atPath f [y] x = (match x, y with
    | .lst xs, .int i => (ixN xs.length i).bind fun k => (xs[k]?).bind fun x => (f x).map fun y => .lst (xs.set k y)
    | .tup xs, .int i => (ixN xs.length i).bind fun k => (xs[k]?).bind fun x => (f x).map fun y => .tup (xs.set k y)
    | .dct kvs, k => (keyOf k).bind fun k => (getK k kvs).bind fun x => (f x).map fun y => .dct (putD k y kvs)
    | _, _ => none) := by
  cases x <;> cases y <;> rfl
theorem atPath1_of {f : D → Option D} {y x r : D} (e : atPath f [y] x = some r) : ∃ z z', dIdx x y = some z ∧ f z = some z' ∧ setD x y z' = some r := by
  rw [atPath1] at e
  split at e
  · obtain ⟨k, e1, e⟩ := bind1 e
    obtain ⟨z, e2, e⟩ := bind1 e
    obtain ⟨z', e3, rfl⟩ := map1 e
    refine ⟨z, z', ?_, e3, ?_⟩
    · show L2.atI _ _ = _
      unfold L2.atI
      rw [e1]; exact e2
    · show ((ixN _ _).bind fun k => if k < _ then some _ else none) = _
      rw [e1]
      exact if_pos (List.getElem?_eq_some_iff.mp e2).1
  · obtain ⟨k, e1, e⟩ := bind1 e
    obtain ⟨z, e2, e⟩ := bind1 e
    obtain ⟨z', e3, rfl⟩ := map1 e
    refine ⟨z, z', ?_, e3, ?_⟩
    · show L2.atI _ _ = _
      unfold L2.atI
      rw [e1]; exact e2
    · show ((ixN _ _).bind fun k => if k < _ then some _ else none) = _
      rw [e1]
      exact if_pos (List.getElem?_eq_some_iff.mp e2).1
  · rename_i k kvs
    obtain ⟨kk, e1, e⟩ := bind1 e
    obtain ⟨z, e2, e⟩ := bind1 e
    obtain ⟨z', e3, rfl⟩ := map1 e
    refine ⟨z, z', ?_, e3, ?_⟩
    · have : dIdx (.dct kvs) y = (keyOf y).bind fun k => getK k kvs := by cases y <;> rfl
      rw [this, e1]; exact e2
    · have : setD (.dct kvs) y z' = (keyOf y).bind fun k => if (getK k kvs).isSome then some (.dct (putD k z' kvs)) else none := by cases y <;> rfl
      rw [this, e1]
      show (if (getK kk kvs).isSome = true then _ else _) = _
      rw [e2]; rfl
  · cases e
section
variable {K : PySem.W.Frag} {G G' H H' : Hp}
theorem RL.focus : ∀ {xs : List Trip} {fp : List Addr} {j : Nat} {x : Trip}, RL K G H xs fp → xs[j]? = some x → ∃ f1 f2, R K G H x.1 x.2.1 x.2.2 f1 ∧ fp.Perm (f1 ++ f2) ∧
    ∀ (G' H' : Hp) (z : D) (f1' : List Addr), Same G G' → (∀ b ∈ f2, H' b = H b) → R K G' H' x.1 x.2.1 z f1' → ∃ fp', RL K G' H' (xs.set j (x.1, x.2.1, z)) fp' ∧ fp'.Perm (f1' ++ f2)
  | _, _, _, _, .nil, e => by simp at e
  | _ :: xs, _, 0, x, .cons (fp := fa) (fps := fb) h l, e => by
    simp at e; subst e
    exact ⟨fa, fb, h, .refl _, fun G' H' z f1' s k r => ⟨_, .cons r (l.mono s k), .refl _⟩⟩
  | y :: xs, _, j + 1, x, .cons (fp := fa) (fps := fb) h l, e => by
    obtain ⟨f1, f2, r, p, k⟩ := RL.focus (j := j) l (by simpa using e)
    refine ⟨f1, fa ++ f2, r, ?_, fun G' H' z f1' s hk r' => ?_⟩
    · exact (p.append_left fa).trans (List.perm_append_comm_assoc _ _ _)
    · obtain ⟨fp', r2, p2⟩ := k G' H' z f1' s (fun b m => hk b (List.mem_append_right _ m)) r'
      refine ⟨fa ++ fp', ?_, (p2.append_left fa).trans (List.perm_append_comm_assoc _ _ _)⟩
      exact .cons (h.mono s fun b m => hk b (List.mem_append_left _ m)) r2
/-- where a thing leads by an index: what the heap says -/
inductive Look (G H : Hp) : V → D → V → Prop
  | lst {a : Addr} {vs : List V} {i : Int} {w : V} : H a = some (.lst vs) → L2.atI vs i = some w → Look G H (.ref a) (.int i) w
  | tup {a : Addr} {vs : List V} {i : Int} {w : V} : Rd G a (.tup vs) → L2.atI vs i = some w → Look G H (.ref a) (.int i) w
  | dct {a : Addr} {kws : List (Key × V)} {y : D} {k : Key} {w : V} : H a = some (.dK kws) → keyOf y = some k → getK k kws = some w → Look G H (.ref a) y w
theorem Look.same {v : V} {y : D} {w : V} (e : Same G G') (e' : Same H H') (h : Look G H v y w) : Look G' H' v y w := by
  cases h with
  | lst h i => exact .lst (e' _ _ h) i
  | tup h i => exact .tup (rd_same e h) i
  | dct h k g => exact .dct (e' _ _ h) k g
theorem rd_obj {a : Addr} {u : HO} (h : Rd G a u) : ∃ o, G a = some o ∧ ((o = u) ∨ ∃ p, o = .frz p u) := by
  rcases h with h | ⟨o, h⟩
  · exact ⟨_, h, .inl rfl⟩
  · exact ⟨_, h, .inr ⟨o, rfl⟩⟩
theorem rd_inj {a : Addr} {us vs : List V} (h : Rd G a (.tup us)) (h' : Rd G a (.tup vs)) : us = vs := by
  rcases h with h | ⟨o, h⟩ <;> rcases h' with h' | ⟨o', h'⟩ <;> rw [h] at h' <;> cases h' <;> rfl
theorem rd_no {a : Addr} {us : List V} {u : HO} (g : Same G H) (h : Rd G a (.tup us)) (h' : H a = some u) : u = .tup us ∨ ∃ o, u = .frz o (.tup us) := by
  rcases h with h | ⟨o, h⟩
  · rw [g _ _ h] at h'; cases h'; exact .inl rfl
  · rw [g _ _ h] at h'; cases h'; exact .inr ⟨o, rfl⟩
theorem Look.one {v : V} {y : D} {w w' : V} (g : Same G H) (h : Look G H v y w) (h' : Look G H v y w') : w = w' := by
  cases h with
  | lst h i =>
    cases h' with
    | lst h' i' => rw [h] at h'; cases h'; rw [i] at i'; exact Option.some.inj i'
    | tup h' i' => rcases rd_no g h' h with e | ⟨o, e⟩ <;> cases e
    | dct h' k' g' => rw [h] at h'; cases h'
  | tup h i =>
    cases h' with
    | lst h' i' => rcases rd_no g h h' with e | ⟨o, e⟩ <;> cases e
    | tup h' i' => have e := rd_inj h h'; subst e; rw [i] at i'; exact Option.some.inj i'
    | dct h' k' g' => rcases rd_no g h h' with e | ⟨o, e⟩ <;> cases e
  | dct h k g1 =>
    cases h' with
    | lst h' i' => rw [h] at h'; cases h'
    | tup h' i' => rcases rd_no g h' h with e | ⟨o, e⟩ <;> cases e
    | dct h' k' g' => rw [h] at h'; cases h'; rw [k] at k'; cases k'; rw [g1] at g'; exact Option.some.inj g'
theorem look_do {v w w' : V} {y : D} {Q : VK} (g : Same G H) (h : Look G H v y w) (hy : Fz K H w' y) (q : Q w H) : rIx K v w' H Q ∨ rIxDc v w' H Q := by
  cases h with
  | lst h i => exact .inl (.inl ⟨_, _, _, _, rfl, hy.int, SqL.of h, i, q⟩)
  | tup h i => exact .inl (.inr (.inl ⟨_, _, _, _, rfl, hy.int, .inl (rd_same g h), i, q⟩))
  | dct h k g1 => exact .inr ⟨_, _, _, _, rfl, keyOf_kV hy k, Rd.of h, g1, q⟩
theorem set_map {α β : Type} (g : α → β) (xs : List α) (j : Nat) (x : α) : (xs.set j x).map g = (xs.map g).set j (g x) := by rw [List.map_set]
theorem set_self_map {α β : Type} {g : α → β} {xs : List α} {j : Nat} {x y : α} (h : xs[j]? = some x) (e : g y = g x) : (xs.set j y).map g = xs.map g := by
  rw [List.map_set, e]
  refine List.ext_getElem? fun n => ?_
  by_cases hn : j = n
  · subst hn
    have hl := (List.getElem?_eq_some_iff.mp h).1
    rw [List.getElem?_set_self (by simpa using hl), List.getElem?_map, h]; rfl
  · rw [List.getElem?_set_ne hn]
theorem putD_map {α β : Type} (g : α → β) (k : Key) (v : α) : ∀ l : List (Key × α), (putD k v l).map (fun p => (p.1, g p.2)) = putD k (g v) (l.map fun p => (p.1, g p.2))
  | [] => rfl
  | (k', u) :: r => by
    unfold putD
    simp only [List.map_cons]
    by_cases h : k' = k
    · rw [if_pos h, if_pos h]; rfl
    · rw [if_neg h, if_neg h]
      show _ :: _ = _ :: _
      rw [putD_map g k v r]
theorem getK_set {α : Type} {k : Key} {u : α} : ∀ {l : List (Key × α)}, getK k l = some u → (l.map (·.1)).Nodup → ∃ j : Nat, l[j]? = some (k, u) ∧ ∀ v, putD k v l = l.set j (k, v)
  | [], h, _ => by cases h
  | (k', w) :: r, h, n => by
    unfold getK at h
    by_cases e : k' = k
    · rw [if_pos e] at h; cases h
      subst e
      exact ⟨0, rfl, fun v => by unfold putD; rw [if_pos rfl]; rfl⟩
    · rw [if_neg e] at h
      obtain ⟨j, h1, h2⟩ := getK_set (l := r) h (by
        rw [List.map_cons] at n; exact (List.nodup_cons.mp n).2)
      refine ⟨j + 1, by simpa using h1, fun v => ?_⟩
      unfold putD
      rw [if_neg e, h2 v]; rfl
/-- what stands at a place -/
theorem R.focus1 {t : Ty} {v : V} {x y z : D} {fp : List Addr} (s : t.ix = true) (o : t.own = true) (fl : ∀ z', ∃ r, setD x y z' = some r) (h : R K G H t v x fp) (e : dIdx x y = some z) :
    ∃ w, Look G H v y w ∧ ∃ f1 f2, R K G H t.elem w z f1 ∧ fp.Perm (f1 ++ f2) ∧ (∀ b, f1 = [] ∨ b ∈ f2 → True) ∧
      ∀ (G' H' : Hp) (z' r : D) (f1' : List Addr), Same G G' → (∀ b ∈ f2, H' b = H b) → R K G' H' t.elem w z' f1' → setD x y z' = some r → ∃ fp', R K G' H' t v r fp' ∧ fp'.Perm (f1' ++ f2) := by
  cases h with
  | flat h =>
    obtain ⟨r, hr⟩ := fl .non
    cases x <;> first | (cases y <;> cases hr; done) | cases h
  | F h => cases o
  | hole => cases e
  | N _ _ _ => cases s
  | @L t a xs fq h i l =>
    obtain ⟨n, rfl, e1⟩ := dIdx_lst e
    obtain ⟨j, p, e3, e2, rfl⟩ := atI_map e1
    obtain ⟨f1, f2, r, pp, k⟩ := l.focus e2
    have ip := i p (List.mem_of_getElem? e2)
    rw [ip] at r
    refine ⟨p.2.1, .lst h (atI_mapI e3 e2), f1, a :: f2, r, ?_, fun _ _ => trivial, fun G' H' z' rr f1' gs hk r' er => ?_⟩
    · exact (pp.cons a).trans (List.perm_middle.symm)
    · rw [← ip] at r'
      obtain ⟨fp', rl, p2⟩ := k G' H' z' f1' gs (fun b m => hk b (List.mem_cons_of_mem _ m)) r'
      have hj : j < xs.length := (List.getElem?_eq_some_iff.mp e2).1
      have er : ((ixN (xs.map (·.2.2)).length n).bind fun k => if k < (xs.map (·.2.2)).length then some (D.lst ((xs.map (·.2.2)).set k z')) else none) = some rr := er
      rw [List.length_map, e3] at er
      have er : (if j < xs.length then some (D.lst ((xs.map (·.2.2)).set j z')) else none) = some rr := er
      rw [if_pos hj] at er
      cases er
      rw [show (xs.map (·.2.2)).set j z' = (xs.set j (p.1, p.2.1, z')).map (·.2.2) by rw [List.map_set]]
      refine ⟨a :: fp', .L ?_ (fun y m => ?_) rl, (p2.cons a).trans List.perm_middle.symm⟩
      · rw [hk a List.mem_cons_self, h, set_self_map (g := fun x : Trip => x.2.1) (y := (p.1, p.2.1, z')) e2 rfl]
      · rcases List.mem_or_eq_of_mem_set m with m | m
        · exact i y m
        · rw [m]; exact ip
  | @T ts t a xs fq h i l =>
    obtain ⟨n, rfl, e1⟩ := dIdx_tup e
    obtain ⟨j, p, e3, e2, rfl⟩ := atI_map e1
    obtain ⟨f1, f2, r, pp, k⟩ := l.focus e2
    cases ts with
    | cons _ _ => cases s
    | nil =>
      have ip := i j p e2
      rw [ip] at r
      refine ⟨p.2.1, .tup h (atI_mapI e3 e2), f1, f2, r, pp, fun _ _ => trivial, fun G' H' z' rr f1' gs hk r' er => ?_⟩
      have r' : R K G' H' (Ty.atI [] t j) p.2.1 z' f1' := r'
      rw [← ip] at r'
      obtain ⟨fp', rl, p2⟩ := k G' H' z' f1' gs hk r'
      have hj : j < xs.length := (List.getElem?_eq_some_iff.mp e2).1
      have er : ((ixN (xs.map (·.2.2)).length n).bind fun k => if k < (xs.map (·.2.2)).length then some (D.tup ((xs.map (·.2.2)).set k z')) else none) = some rr := er
      rw [List.length_map, e3] at er
      have er : (if j < xs.length then some (D.tup ((xs.map (·.2.2)).set j z')) else none) = some rr := er
      rw [if_pos hj] at er
      cases er
      rw [show (xs.map (·.2.2)).set j z' = (xs.set j (p.1, p.2.1, z')).map (·.2.2) by rw [List.map_set]]
      refine ⟨fp', .T ?_ (fun m y hy => ?_) rl, p2⟩
      · rw [set_self_map (g := fun x : Trip => x.2.1) (y := (p.1, p.2.1, z')) e2 rfl]; exact rd_same gs h
      · by_cases hm : j = m
        · subst hm
          rw [List.getElem?_set_self hj] at hy
          cases hy; exact ip
        · rw [List.getElem?_set_ne hm] at hy; exact i m y hy
  | @Dc ks t a kxs fq h n i l =>
    obtain ⟨kk, e1, e2⟩ := dIdx_dct e
    cases ks with
    | cons _ _ => cases s
    | nil =>
      obtain ⟨p, m, _, e3, rfl⟩ := getK_trip e2
      have gk : getK kk (kxs.map fun p => (p.1, p.2)) = some p.2 := by
        have : ∀ {l : List (Key × Trip)}, (l.map (·.1)).Nodup → p ∈ l → p.1 = kk → getK kk (l.map fun p => (p.1, p.2)) = some p.2 := by
          intro l
          induction l with
          | nil => intro _ m; cases m
          | cons q r ih =>
            intro nd m pk
            rw [List.map_cons] at nd ⊢
            obtain ⟨n1, n2⟩ := List.nodup_cons.mp nd
            unfold getK
            rcases List.mem_cons.mp m with e | m
            · subst e; rw [if_pos pk]
            · rw [if_neg fun e => n1 (List.mem_map.mpr ⟨p, m, by rw [pk, e]⟩)]
              exact ih n2 m pk
        exact this n m ‹_›
      have em : (kxs.map fun p => (p.1, p.2)) = kxs := by simp
      rw [em] at gk
      obtain ⟨j, e4, e5⟩ := getK_set gk n
      have e6 : (kxs.map (·.2))[j]? = some p.2 := by rw [List.getElem?_map, e4]; rfl
      obtain ⟨f1, f2, r, pp, k⟩ := l.focus e6
      have ip : p.2.1 = t := i p m
      rw [ip] at r
      refine ⟨p.2.2.1, .dct h e1 e3, f1, a :: f2, r, ?_, fun _ _ => trivial, fun G' H' z' rr f1' gs hk r' er => ?_⟩
      · exact (pp.cons a).trans (List.perm_middle.symm)
      · have r' : R K G' H' t p.2.2.1 z' f1' := r'
        rw [← ip] at r'
        obtain ⟨fp', rl, p2⟩ := k G' H' z' f1' gs (fun b m => hk b (List.mem_cons_of_mem _ m)) r'
        have er : ((keyOf y).bind fun k => if (getK k (kxs.map fun p => (p.1, p.2.2.2))).isSome then some (D.dct (putD k z' (kxs.map fun p => (p.1, p.2.2.2)))) else none) = some rr := by
          rw [← er]; cases y <;> rfl
        rw [e1] at er
        have er : (if (getK kk (kxs.map fun p => (p.1, p.2.2.2))).isSome then some (D.dct (putD kk z' (kxs.map fun p => (p.1, p.2.2.2)))) else none) = some rr := er
        rw [e2] at er
        replace er := Option.some.inj er
        subst er
        have hs : putD kk z' (kxs.map fun p => (p.1, p.2.2.2)) = (kxs.set j (kk, p.2.1, p.2.2.1, z')).map fun p => (p.1, p.2.2.2) := by
          rw [← e5 (p.2.1, p.2.2.1, z')]
          exact (putD_map (fun q : Trip => q.2.2) kk (p.2.1, p.2.2.1, z') kxs).symm
        rw [hs]
        refine ⟨a :: fp', .Dc ?_ ?_ (fun q m => ?_) ?_, (p2.cons a).trans List.perm_middle.symm⟩
        · rw [hk a List.mem_cons_self, h]
          congr 2
          exact (set_self_map (g := fun p : Key × Trip => (p.1, p.2.2.1)) (y := (kk, p.2.1, p.2.2.1, z')) e4 rfl).symm
        · rw [set_self_map (g := fun p : Key × Trip => p.1) (y := (kk, p.2.1, p.2.2.1, z')) e4 rfl]; exact n
        · rcases List.mem_or_eq_of_mem_set m with m | m
          · exact i q m
          · rw [m]; exact ip
        · rw [List.map_set]; exact rl
variable {c : FC} {τ : List Slot} {hs : List Trip} {σ : L2.St} {ρ : Env}
/-- a held thing, the new ones ahead of it, apart from all else -/
theorem Ok.deep {new : List Trip} {t : Ty} {v : V} {x : D} (h : Ok K c τ (new ++ (t, v, x) :: hs) G σ H ρ) : ∃ f0 fn, R K G H t v x f0 ∧ RL K G H new fn ∧ (f0 ++ fn).Nodup ∧ (∀ b ∈ f0 ++ fn, G b = none) ∧
    ∀ (H' : Hp) (out : List Trip) (x' : D) (f' fo : List Addr), (∀ b, b ∉ f0 → H' b = H b) → R K G H' t v x' f' → RL K G H' out fo → (f' ++ fo).Nodup → (∀ b ∈ f' ++ fo, b ∈ f0 ++ fn) → Ok K c τ (out ++ (t, v, x') :: hs) G σ H' ρ := by
  obtain ⟨fp, r, nd, z⟩ := h.own
  obtain ⟨fq, r', q⟩ := r.perm (ys := (t, v, x) :: (new ++ (envT τ σ ρ ++ hs))) (by
    refine List.Perm.trans ?_ ((List.perm_append_comm_assoc (envT τ σ ρ) new hs).cons _)
    rw [← List.append_assoc, ← List.append_assoc]
    exact List.perm_middle)
  have nd' := q.nodup_iff.mp nd
  have z' : ∀ b ∈ fq, G b = none ∧ c.B b = none := fun b m => z b (q.mem_iff.mpr m)
  clear r nd z q
  cases r' with
  | @cons _ _ _ f0 _ f2 h0 l =>
    obtain ⟨fn, fr, rfl, ln, lr⟩ := l.split
    rw [← List.append_assoc] at nd' z'
    obtain ⟨n1, n2, n3⟩ := List.nodup_append.mp nd'
    refine ⟨f0, fn, h0, ln, n1, fun b m => (z' b (List.mem_append_left _ m)).1, fun H' out x' f' fo hk r ro nd2 sub => ?_⟩
    have lr2 := lr.mono (H' := H') (Same.refl G) fun b m => hk b fun m' => n3 b (List.mem_append_left _ m') b m rfl
    obtain ⟨fw, rw', q⟩ := (RL.cons r (ro.append lr2)).perm (ys := envT τ σ ρ ++ (out ++ (t, v, x') :: hs)) (by
      refine List.Perm.trans ((List.perm_append_comm_assoc out (envT τ σ ρ) hs).cons _) ?_
      rw [← List.append_assoc, ← List.append_assoc]
      exact List.perm_middle.symm)
    rw [← List.append_assoc] at q
    have mem : ∀ b, b ∈ (f' ++ fo) ++ fr → G b = none ∧ c.B b = none := fun b m => by
      rcases List.mem_append.mp m with m | m
      · exact z' b (List.mem_append_left _ (sub b m))
      · exact z' b (List.mem_append_right _ m)
    refine { h with own := ⟨fw, rw', q.nodup_iff.mp (List.nodup_append.mpr ⟨nd2, n2, fun a m1 b m2 e => n3 a (sub a m1) b m2 e⟩), fun b m => mem b (q.mem_iff.mpr m)⟩, frG := fun b u e => ?_, base := fun b u e => ?_ }
    · rw [hk b fun m => by rw [(z' b (List.mem_append_left _ (List.mem_append_left _ m))).1] at e; cases e]; exact h.frG b u e
    · rw [hk b fun m => by rw [(z' b (List.mem_append_left _ (List.mem_append_left _ m))).2] at e; cases e]; exact h.base b u e
end
end My

set_option Elab.async false
set_option linter.all false
set_option maxRecDepth 100000
set_option maxHeartbeats 1000000
/-! Statements: x[i].append(e); y = x[i] that takes it out; what is never reached; x += e. -/
namespace My
open PySem PySem.Spec PyProof.Rows L2
section
variable {X : Cx} {c : FC} {τ τ' : List Slot} {T : Tys} {W : WX} {e ix : Expr} {f fi : EF} {t te : Ty} {i : Nat} {x : Str} {pos apos cpos p p3 : Pos}
theorem perm_nodup4 {a : Addr} {f f2 fn f0 f' : List Addr} (p : f0.Perm ((a :: f) ++ f2)) (q : f'.Perm ((a :: (f ++ fn)) ++ f2)) : (f' ++ []).Perm (f0 ++ fn) := by
  rw [List.append_nil]
  refine q.trans (List.Perm.trans ?_ (p.append_right fn).symm)
  show (a :: ((f ++ fn) ++ f2)).Perm (a :: ((f ++ f2) ++ fn))
  refine List.Perm.cons a ?_
  rw [List.append_assoc, List.append_assoc]
  exact List.perm_append_comm.append_left f
theorem setD_any {x y : D} {z r : D} (h : setD x y z = some r) (z' : D) : ∃ r', setD x y z' = some r' := by
  unfold setD at h ⊢
  split at h
  · obtain ⟨k, e1, e2⟩ := bind1 h
    split at e2
    · rename_i h2
      exact ⟨_, by rw [e1]; exact if_pos h2⟩
    · cases e2
  · obtain ⟨k, e1, e2⟩ := bind1 h
    split at e2
    · rename_i h2
      exact ⟨_, by rw [e1]; exact if_pos h2⟩
    · cases e2
  · rename_i kvs k
    obtain ⟨kk, e1, e2⟩ := bind1 h
    split at e2
    · rename_i h2
      exact ⟨.dct (putD kk z' _), by
        show ((keyOf y).bind fun k => _) = _
        rw [e1]; exact if_pos h2⟩
    · cases e2
  · cases h
theorem dst_appendP (hu : X.A.units + 1 < cLine) (ho : PE X (.Name x p) (tVar i)) (ns : NS e = true) (hline : (apos.endLine == cpos.line) = true) (hpi : PlainIx ix) (hi : DR X c τ ix fi) (ha : DO X c (τ.set i .gone) τ' e te f) (h1 : τ[i]? = some (.own t)) (s : t.ix = true) (o : t.own = true) (et : t.elem = .L te) (hn : T.nx = τ'.set i (.own t)) (hlt : i < τ'.length) :
    DSt X c τ T W (.Expr (.Call (.Attribute (.Subscript (.Name x p) ix p3) "append" apos) [e] [] cpos) pos) fun ρ => ofO (((f ρ).bind fun x => (some []).map fun xs => x :: xs).bind fun ds => ((fi ρ).bind fun y => (some []).map fun ys => y :: ys).bind fun ps => (ρ[i]?).bind fun d => (atPath (mutV .append ds) ps d).map fun d' => ρ.set i d') := by
  obtain ⟨ta, pe, oa⟩ := ha
  obtain ⟨ti, pi, oi⟩ := hi
  have few : ((backTo cpos (starEach [e] X.env)).all (fun x => !x.1) && (backToKw cpos (keywordEach [] X.env)).all (fun x => x.1.isSome) && decide ([e].length + ([] : List Keyword).length + (if ([] : List Keyword).isEmpty then 0 else 1) < 30)) = true := by
    rw [star_cons ns]; rfl
  refine ⟨_, ps_expr (pe_bm PySem.F.plainAttrs_list PySem.F.slot_list_append PySem.F.type_list_append mt_append (pe_ix (ix_any hu) ho pi hpi) (pa_cons pe pa_nil (star_cons ns)) rfl few hline (star_cons ns) (star_any rfl)), fun hs G σ H ρ D k q => ?_⟩
  dsimp only at q
  cases e1 : f ρ with
  | none => rw [e1] at q; exact q.elim
  | some d =>
    cases e2 : fi ρ with
    | none => rw [e1, e2] at q; exact q.elim
    | some y =>
      rw [e1, e2] at q
      have hi := (List.getElem?_eq_some_iff.mp h1).1
      have hr : i < ρ.length := by rw [k.lr]; exact hi
      have er : ρ[i]? = some ρ[i] := List.getElem?_eq_getElem hr
      have q : Post X.K X.mg c hs G T D W (ofO ((ρ[i]?).bind fun dd => (atPath (mutV .append [d]) [y] dd).map fun d' => ρ.set i d')) := q
      rw [er] at q
      cases e3 : atPath (mutV .append [d]) [y] ρ[i] with
      | none =>
        have q : Post X.K X.mg c hs G T D W (ofO ((atPath (mutV .append [d]) [y] ρ[i]).map fun d' => ρ.set i d')) := q
        rw [e3] at q; exact q.elim
      | some r =>
        have q : Post X.K X.mg c hs G T D W (ofO ((atPath (mutV .append [d]) [y] ρ[i]).map fun d' => ρ.set i d')) := q
        rw [e3] at q
        obtain ⟨z, z', g1, g2, g3⟩ := atPath1_of e3
        obtain ⟨v, _, hv, _⟩ := k.slot h1 er
        refine ⟨v, hv, ?_⟩
        refine oi hs G σ H ρ y _ k e2 fun G1 H1 wy k1 s1 s1' zy => ?_
        obtain ⟨v', fp, hv', r1⟩ := k1.slot h1 er
        rw [hv] at hv'
        cases hv'
        obtain ⟨w, lk, _⟩ := R.focus1 s o (setD_any g3) r1 g1
        refine look_do k1.frG lk zy ?_
        cases z with
        | lst ds =>
          have k1m := k1.move h1 hv er
          obtain ⟨f0, fn, R0, _, _, _, _⟩ := Ok.deep (new := []) k1m
          obtain ⟨w', lk', f1, f2, R1, _, _⟩ := R.focus1 s o (setD_any g3) R0 g1
          have ew := Look.one k1.frG lk lk'
          subst ew
          rw [et] at R1
          obtain ⟨a, xs, fq, rfl, ea, _⟩ := R1.lstInv
          refine ⟨.inl ⟨rfl, _, SqL.of ea⟩, ?_⟩
          refine oa _ G1 σ H1 ρ d _ k1m e1 fun G2 H2 wd k2 s2 s2' => ?_
          obtain ⟨f0, fn, R0, Rn, nd, _, fin⟩ := Ok.deep (new := [(te, wd, d)]) k2
          obtain ⟨w', lk', f1, f2, R1, pp, _, back⟩ := R.focus1 s o (setD_any g3) R0 g1
          have ew := Look.one k2.frG (lk.same s2 s2') lk'
          subst ew
          rw [et] at R1
          obtain ⟨a', xs', fq, ea', ea2, it, rl, ed, ef⟩ := R1.lstInv
          cases ea'
          have g2 : (if ds.length < mx then some (My.D.lst (ds ++ [d])) else none) = some z' := g2
          split at g2
          · rename_i hlt2
            cases g2
            subst ed ef
            have ms := mx_eq
            refine ⟨a, _, wd, rfl, rfl, ea2, by
              rw [List.length_map]
              rw [List.length_map] at hlt2
              omega, ?_⟩
            have pn := perm_nodup4 (fn := fn) (f' := (a :: (fq ++ fn)) ++ f2) pp (.refl _)
            have nd2 : ((a :: (fq ++ fn)) ++ f2).Nodup := by
              have := pn.nodup_iff.mpr nd
              rwa [List.append_nil] at this
            have na : a ∉ (fq ++ fn) ++ f2 := (List.nodup_cons.mp nd2).1
            have af0 : a ∈ f0 := pp.mem_iff.mpr (List.mem_append_left _ List.mem_cons_self)
            have hag : ∀ b, b ≠ a → (upd H2 a (.lst (xs'.map (·.2.1) ++ [wd]))) b = H2 b := fun b hb => upd_ne hb
            obtain ⟨fp', Rf, pf⟩ := back G2 (upd H2 a (.lst (xs'.map (·.2.1) ++ [wd]))) (.lst (xs'.map (·.2.2) ++ [d])) r (a :: (fq ++ fn)) (Same.refl _) (fun b m => hag b fun e => na (e ▸ List.mem_append_right _ m)) (by
              rw [et]
              have := R.L (K := X.K) (G := G2) (H := upd H2 a (.lst (xs'.map (·.2.1) ++ [wd]))) (t := te) (a := a) (xs := xs' ++ [(te, wd, d)]) (fp := fq ++ fn) (by simp [upd_same]) (fun x m => by
                rcases List.mem_append.mp m with m | m
                · exact it x m
                · rw [List.mem_singleton.mp m]) ((rl.append Rn).mono (Same.refl _) fun b m => hag b fun e => na (e ▸ List.mem_append_left _ m))
              simpa using this) g3
            have kf := fin (upd H2 a (.lst (xs'.map (·.2.1) ++ [wd]))) [] r fp' [] (fun b hb => hag b fun e => hb (e ▸ af0)) Rf .nil (by
              rw [List.append_nil]
              exact pf.nodup_iff.mpr nd2) fun b m => by
                rw [List.append_nil] at m
                have := pf.mem_iff.mp m
                exact pn.mem_iff.mp (List.mem_append_left _ this)
            have kp := Ok.put (i := i) kf hlt
            have e3 : σ.set i (some v) = σ := by
              obtain ⟨h1, h2⟩ := List.getElem?_eq_some_iff.mp hv
              rw [← h2]; exact List.set_getElem_self h1
            rw [e3, ← hn] at kp
            exact q G2 σ _ kp (s1.trans s2)
          · cases g2
        | _ => cases g2
/-- y = x[i], taken out of it -/
theorem dst_take (hu : X.A.units + 1 < cLine) {tgE : Expr} {tg : Tg} (ho : PE X (.Name x p) (tVar i)) (hpi : PlainIx ix) (hi : DR X c τ ix fi) (h1 : τ[i]? = some (.own t)) (s : t.ix = true) (o : t.own = true) (nsT : NS tgE = true) (hg : DG X c τ T.nx tgE t.elem tg)
    (hw : swappedStores [tgE] (.Subscript (.Name x p) ix p3) X.env = pure none) :
    DSt X c τ T W (.Assign [tgE] (.Subscript (.Name x p) ix p3) pos) fun ρ => ofO ((fi ρ).bind fun y => (ρ[i]?).bind fun dl => (dIdx dl y).bind fun z => (setD dl y .hole).bind fun dl' => bindT tg z (ρ.set i dl')) := by
  obtain ⟨ti, pi, oi⟩ := hi
  obtain ⟨gg, pg, og⟩ := hg
  refine ⟨_, ps_asg (pe_ix (ix_any hu) ho pi hpi) pg (by unfold swapsWithSole; rfl) hw (by rw [assign_cons nsT]; rfl), fun hs G σ H ρ D k q => ?_⟩
  dsimp only at q
  cases e2 : fi ρ with
  | none => rw [e2] at q; exact q.elim
  | some y =>
    rw [e2] at q
    have hi := (List.getElem?_eq_some_iff.mp h1).1
    have hr : i < ρ.length := by rw [k.lr]; exact hi
    have er : ρ[i]? = some ρ[i] := List.getElem?_eq_getElem hr
    have q : Post X.K X.mg c hs G T D W (ofO ((ρ[i]?).bind fun dl => (dIdx dl y).bind fun z => (setD dl y .hole).bind fun dl' => bindT tg z (ρ.set i dl'))) := q
    rw [er] at q
    have q : Post X.K X.mg c hs G T D W (ofO ((dIdx ρ[i] y).bind fun z => (setD ρ[i] y .hole).bind fun dl' => bindT tg z (ρ.set i dl'))) := q
    cases e3 : dIdx ρ[i] y with
    | none => rw [e3] at q; exact q.elim
    | some z =>
      rw [e3] at q
      cases e4 : setD ρ[i] y .hole with
      | none =>
        have q : Post X.K X.mg c hs G T D W (ofO ((setD ρ[i] y .hole).bind fun dl' => bindT tg z (ρ.set i dl'))) := q
        rw [e4] at q; exact q.elim
      | some dl =>
        have q : Post X.K X.mg c hs G T D W (ofO ((setD ρ[i] y .hole).bind fun dl' => bindT tg z (ρ.set i dl'))) := q
        rw [e4] at q
        have q : Post X.K X.mg c hs G T D W (ofO (bindT tg z (ρ.set i dl))) := q
        obtain ⟨v, _, hv, _⟩ := k.slot h1 er
        refine ⟨v, hv, ?_⟩
        refine oi hs G σ H ρ y _ k e2 fun G1 H1 wy k1 s1 s1' zy => ?_
        have k1m := k1.move h1 hv er
        obtain ⟨f0, fn, R0, Rn, nd, _, fin⟩ := Ok.deep (new := []) k1m
        cases Rn
        obtain ⟨w, lk, f1, f2, R1, pp, _, back⟩ := R.focus1 s o (setD_any e4) R0 e3
        refine look_do k1.frG lk zy ?_
        obtain ⟨fp', Rf, pf⟩ := back G1 H1 .hole dl [] (Same.refl _) (fun _ _ => rfl) .hole e4
        have pq : (fp' ++ f1).Perm (f0 ++ []) := by
          rw [List.append_nil]
          exact (pf.append_right f1).trans (by simpa using List.perm_append_comm.trans pp.symm)
        have kf := fin H1 [(t.elem, w, z)] dl fp' (f1 ++ []) (fun _ _ => rfl) Rf (.cons R1 .nil) (by
          rw [List.append_nil]; exact pq.nodup_iff.mpr nd) fun b m => by
            rw [List.append_nil] at m; exact pq.mem_iff.mp m
        have kp := Ok.put (i := i) (kf.perm (List.Perm.swap _ _ _)) (by rw [List.length_set]; exact hi)
        rw [List.set_set] at kp
        have e5 : τ.set i (.own t) = τ := by
          obtain ⟨h1, h2⟩ := List.getElem?_eq_some_iff.mp h1
          rw [← h2]; exact List.set_getElem_self h1
        have e6 : σ.set i (some v) = σ := by
          obtain ⟨h1, h2⟩ := List.getElem?_eq_some_iff.mp hv
          rw [← h2]; exact List.set_getElem_self h1
        rw [e5, e6] at kp
        cases eb : bindT tg z (ρ.set i dl) with
        | none => rw [eb] at q; exact q.elim
        | some ρ' =>
          rw [eb] at q
          exact og hs G1 σ H1 (ρ.set i dl) w z ρ' _ kp eb fun σ' k4 al => q G1 σ' H1 k4 s1
theorem dst_nev {st : Stmt} : DSt X c τ T W st fun _ => .no := ⟨_, ps_never, fun hs G σ H ρ D k q => q⟩
theorem dst_aug (hN : X.N.Nodup) (hi : X.N[i]? = some x) (hx : Loc X.env.scope x) (ha : DR X c τ e f) (h1 : τ[i]? = some (.own .F)) (hn : T.nx = τ) (hf : X.fn x = true ∨ X.env.scope.names.lookup x = some .local) :
    DSt X c τ T W (.AugAssign (.Name x p) .Add e pos) fun ρ => ofO ((ρ[i]?).bind fun a => (f ρ).bind fun b => (augV a b).map fun z => ρ.set i z) := by
  obtain ⟨te, pe, o⟩ := ha
  refine ⟨_, ps_aug hN hi hx pe ip_add hf, fun hs G σ H ρ D k q => ?_⟩
  dsimp only at q
  have hl := (List.getElem?_eq_some_iff.mp h1).1
  have hr : i < ρ.length := by rw [k.lr]; exact hl
  have er : ρ[i]? = some ρ[i] := List.getElem?_eq_getElem hr
  rw [er] at q
  cases e1 : f ρ with
  | none => rw [e1] at q; exact q.elim
  | some b =>
    rw [e1] at q
    have q : Post X.K X.mg c hs G T D W (ofO ((augV ρ[i] b).map fun z => ρ.set i z)) := q
    cases ez : augV ρ[i] b with
    | none => rw [ez] at q; exact q.elim
    | some z =>
      rw [ez] at q
      unfold augV at ez
      split at ez
      · rename_i m n em
        cases ez
        obtain ⟨v, fp, hv, r⟩ := k.slot h1 er
        rw [em] at r
        have ev := r.toF.int
        subst ev
        refine ⟨_, hv, ?_⟩
        refine o hs G σ H ρ _ _ k e1 fun G1 H1 w k1 s1 s1' zr => ?_
        refine ⟨_, _, rfl, zr.int, ?_⟩
        have k2 := (k1.pushFlat (d := .int (m + n)) .F rfl).put (i := i) hl
        have e5 : τ.set i (.own .F) = τ := by
          obtain ⟨h1, h2⟩ := List.getElem?_eq_some_iff.mp h1
          rw [← h2]; exact List.set_getElem_self h1
        rw [e5, ← hn] at k2
        exact q G1 _ _ k2 s1
      · cases ez
end
end My

set_option Elab.async false
set_option linter.all false
set_option maxRecDepth 100000
set_option maxHeartbeats 1000000
/-! x[k] = v of a local dict of one's own. -/
namespace My
open PySem PySem.Spec PyProof.Rows L2
theorem putD_none {α : Type} {k : Key} {v : α} : ∀ {l : List (Key × α)}, getK k l = none → putD k v l = l ++ [(k, v)]
  | [], _ => rfl
  | (k', u) :: r, h => by
    unfold getK at h
    unfold putD
    by_cases e : k' = k
    · rw [if_pos e] at h; cases h
    · rw [if_neg e] at h
      rw [if_neg e, putD_none h]; rfl
theorem putD_len {α : Type} {k : Key} {v : α} : ∀ {l : List (Key × α)}, (putD k v l).length = if (getK k l).isSome = true then l.length else l.length + 1
  | [] => rfl
  | (k', u) :: r => by
    unfold putD getK
    by_cases e : k' = k
    · rw [if_pos e, if_pos e]; rfl
    · rw [if_neg e, if_neg e, List.length_cons, putD_len (l := r)]
      split <;> rfl
section
variable {X : Cx} {c : FC} {τ τ' : List Slot} {T : Tys} {W : WX} {e ix : Expr} {f fi : EF} {t : Ty} {i : Nat} {x : Str} {pos spos p : Pos}
theorem setD_ok {hs : List Trip} {G H : Hp} {σ : L2.St} {ρ : Env} {v : V} {d : D} {a : Addr} {kds : List (Key × D)} {k : Key} {kws : List (Key × V)} (h : Ok X.K c τ ((t, v, d) :: (.Dc [] t, .ref a, .dct kds) :: hs) G σ H ρ) (hx : H a = some (.dK kws)) :
    kws.length = kds.length ∧ Ok X.K c τ ((.Dc [] t, .ref a, .dct (putD k d kds)) :: hs) G σ (upd H a (.dK (putK kws k v))) ρ := by
  obtain ⟨inner, e1, e2, e3, e4, ko⟩ := Ok.openD (new := [(t, v, d)]) h
  rw [hx] at e1
  cases e1
  subst e2
  refine ⟨by simp, ?_⟩
  rw [putK_putD (by simpa [Function.comp_def] using e3)]
  have m1 : (putD k (t, v, d) inner).map (fun p => (p.1, p.2.2.1)) = putD k v (inner.map fun p => (p.1, p.2.2.1)) := putD_map (fun q : Trip => q.2.1) k (t, v, d) inner
  have m2 : (putD k (t, v, d) inner).map (fun p => (p.1, p.2.2.2)) = putD k d (inner.map fun p => (p.1, p.2.2.2)) := putD_map (fun q : Trip => q.2.2) k (t, v, d) inner
  rw [← m1, ← m2]
  cases hg : getK k inner with
  | none =>
    have k2 := ko (putD k (t, v, d) inner) [] (by rw [putD_none hg]; simp) (putD_nodup e3) fun q m => by
      rw [putD_none hg] at m
      rcases List.mem_append.mp m with m | m
      · exact e4 q m
      · rw [List.mem_singleton.mp m]; rfl
    simpa using k2
  | some u =>
    obtain ⟨j, hj, hput⟩ := getK_set hg e3
    have hp := hput (t, v, d)
    have k2 := ko (putD k (t, v, d) inner) [u] (by
      rw [hp, List.map_set]
      exact perm_set (by rw [List.getElem?_map, hj]; rfl)) (putD_nodup e3) fun q m => by
      rw [hp] at m
      rcases List.mem_or_eq_of_mem_set m with m | m
      · exact e4 q m
      · rw [m]; rfl
    exact Ok.drops (xs := [u]) k2
theorem dst_setD (hu : X.A.units + 1 < cLine) (ho : PE X (.Name x p) (tVar i)) (hsw : noCompE e = true) (ha : DO X c τ T.nx e t f) (hi : DR X c T.nx ix fi) (h2 : T.nx[i]? = some (.own (.Dc [] t))) :
    DSt X c τ T W (.Assign [.Subscript (.Name x p) ix spos] e pos) fun ρ => ofO (((fi ρ).bind fun y => ((f ρ).bind fun x => (some []).map fun xs => x :: xs).map fun xs => y :: xs).bind fun ds => (some []).bind fun ps => (ρ[i]?).bind fun d => (atPath (mutV .setI ds) ps d).map fun d' => ρ.set i d') := by
  obtain ⟨te, pe, o⟩ := ha
  obtain ⟨ti, pi, oi⟩ := hi
  refine ⟨_, ps_dput hu ho pi pe (swaps_no hsw), fun hs G σ H ρ D k q => ?_⟩
  dsimp only at q
  cases e0 : fi ρ with
  | none => rw [e0] at q; exact q.elim
  | some y =>
    cases e1 : f ρ with
    | none => rw [e0, e1] at q; exact q.elim
    | some d =>
      rw [e0, e1] at q
      refine o hs G σ H ρ d _ k e1 fun G1 H1 w k1 g1 h1' => ?_
      have hr : i < ρ.length := by rw [k1.lr]; exact (List.getElem?_eq_some_iff.mp h2).1
      have er : ρ[i]? = some ρ[i] := List.getElem?_eq_getElem hr
      obtain ⟨v, fp, hv, r⟩ := k1.slot h2 er
      refine ⟨_, hv, ?_⟩
      refine oi _ G1 σ H1 ρ y _ k1 e0 fun G2 H2 vy k2 g2 h2' zy => ?_
      obtain ⟨v2, fp2, hv2, r⟩ := k2.slot h2 er
      rw [hv] at hv2
      cases hv2
      rw [er] at q
      have q : Post X.K X.mg c hs G T D W (ofO ((mutV .setI [y, d] ρ[i]).map fun d' => ρ.set i d')) := q
      cases ed : ρ[i] with
      | dct kds =>
        rw [ed] at r q er
        obtain ⟨a, kxs, fq, rfl, ea, _⟩ := r.dctInv
        have em : mutV .setI [y, d] (.dct kds) = if kds.length < mx then (keyOf y).map fun k => My.D.dct (putD k d kds) else none := by cases y <;> rfl
        rw [em] at q
        split at q
        · rename_i hlt
          cases ej : keyOf y with
          | none => rw [ej] at q; exact q.elim
          | some kk =>
            rw [ej] at q
            have ek := keyOf_kV zy ej
            subst ek
            have k3 := (k2.move h2 hv er).perm (List.Perm.swap _ _ _)
            obtain ⟨el, k4⟩ := setD_ok (k := kk) k3 ea
            have ms := mx_eq
            refine ⟨a, _, rfl, .inl ⟨_, kk, ea, rfl, by omega, rfl⟩, ?_⟩
            have k5 := k4.put (i := i) (by rw [List.length_set]; exact (List.getElem?_eq_some_iff.mp h2).1)
            rw [List.set_set] at k5
            have e2 : T.nx.set i (.own (.Dc [] t)) = T.nx := by
              obtain ⟨h1, h2⟩ := List.getElem?_eq_some_iff.mp h2
              rw [← h2]; exact List.set_getElem_self h1
            have e3 : σ.set i (some (V.ref a)) = σ := by
              obtain ⟨h1, h2⟩ := List.getElem?_eq_some_iff.mp hv
              rw [← h2]; exact List.set_getElem_self h1
            rw [e2, e3] at k5
            exact q G2 σ _ k5 (g1.trans g2)
        · exact q.elim
      | lst ds =>
        rw [ed] at r
        cases r with
        | flat h => cases h
      | _ => rw [ed] at q; cases y <;> exact q.elim
end
end My

set_option Elab.async false
set_option linter.all false
set_option maxRecDepth 100000
set_option maxHeartbeats 1000000
/-! target = x.pop(i) of a local list of one's own. -/
namespace My
open PySem PySem.Spec PyProof.Rows L2
theorem perm_erase {α : Type} : ∀ {xs : List α} {j : Nat} {x : α}, xs[j]? = some x → xs.Perm (xs.eraseIdx j ++ [x])
  | [], j, x, h => by simp at h
  | a :: xs, 0, x, h => by
    simp at h; subst h
    exact (List.perm_append_singleton a xs).symm
  | a :: xs, j + 1, x, h => (perm_erase (xs := xs) (j := j) (by simpa using h)).cons a
theorem erase_map {α β : Type} (g : α → β) : ∀ (xs : List α) (j : Nat), (xs.eraseIdx j).map g = (xs.map g).eraseIdx j
  | [], j => by simp
  | a :: xs, 0 => rfl
  | a :: xs, j + 1 => congrArg (g a :: ·) (erase_map g xs j)
section
variable {X : Cx} {c : FC} {τ τ' : List Slot} {T : Tys} {W : WX} {e tgE : Expr} {f : EF} {t : Ty} {i : Nat} {x : Str} {apos cpos pos p : Pos} {tg : Tg}
theorem pop_ok {hs : List Trip} {G H : Hp} {σ : L2.St} {ρ : Env} {a : Addr} {ds : List D} {j : Nat} {d : D} (h : Ok X.K c τ ((.L t, .ref a, .lst ds) :: hs) G σ H ρ) (hj : ds[j]? = some d) :
    ∃ xs v, H a = some (.lst xs) ∧ xs.length = ds.length ∧ xs[j]? = some v ∧ Ok X.K c τ ((.L t, .ref a, .lst (ds.eraseIdx j)) :: (t, v, d) :: hs) G σ (upd H a (.lst (xs.eraseIdx j))) ρ := by
  obtain ⟨inner, e1, e2, e3, k⟩ := Ok.openL (new := []) h
  subst e2
  have hj2 : j < inner.length := by
    have := (List.getElem?_eq_some_iff.mp hj).1
    simpa using this
  obtain ⟨y, hy⟩ : ∃ y, inner[j]? = some y := ⟨_, List.getElem?_eq_getElem hj2⟩
  obtain ⟨ty, v, d'⟩ := y
  have et : ty = t := e3 _ (List.mem_of_getElem? hy)
  subst et
  have ed : d' = d := by
    rw [List.getElem?_map, hy] at hj
    exact Option.some.inj hj
  subst ed
  refine ⟨_, v, e1, by simp, by rw [List.getElem?_map, hy]; rfl, ?_⟩
  have k := k (inner.eraseIdx j) [(ty, v, d')] (by rw [List.append_nil]; exact perm_erase hy) fun y m => e3 y (List.mem_of_mem_eraseIdx m)
  have k := k.perm (List.Perm.swap _ _ _)
  rw [erase_map, erase_map] at k
  exact k
theorem dst_pop {fe : EF} (ho : PE X (.Name x p) (tVar i)) (ns : NS e = true) (hline : (apos.endLine == cpos.line) = true) (he : DR X c τ e fe) (h1 : τ[i]? = some (.own (.L t))) (hg : DG X c τ T.nx tgE t tg) (nsT : NS tgE = true)
    (hw : swappedStores [tgE] (.Call (.Attribute (.Name x p) "pop" apos) [e] [] cpos) X.env = pure none) :
    DSt X c τ T W (.Assign [tgE] (.Call (.Attribute (.Name x p) "pop" apos) [e] [] cpos) pos) fun ρ => ofO ((fe ρ).bind fun y => (ρ[i]?).bind fun dl => (popV y dl).bind fun q => bindT tg q.1 (ρ.set i q.2)) := by
  obtain ⟨te, pe, oe⟩ := he
  obtain ⟨gg, pg, og⟩ := hg
  have few : ((backTo cpos (starEach [e] X.env)).all (fun x => !x.1) && (backToKw cpos (keywordEach [] X.env)).all (fun x => x.1.isSome) && decide ([e].length + ([] : List Keyword).length + (if ([] : List Keyword).isEmpty then 0 else 1) < 30)) = true := by
    rw [star_cons ns]; rfl
  refine ⟨_, ps_asg (pe_bm PySem.F.plainAttrs_list PySem.F.slot_list_pop PySem.F.type_list_pop mt_popAt ho (pa_cons pe pa_nil (star_cons ns)) rfl few hline (star_cons ns) (star_any rfl)) pg (by unfold swapsWithSole; rfl) hw (by rw [assign_cons nsT]; rfl), fun hs G σ H ρ D k q => ?_⟩
  dsimp only at q
  cases e1 : fe ρ with
  | none => rw [e1] at q; exact q.elim
  | some y =>
    rw [e1] at q
    have hi := (List.getElem?_eq_some_iff.mp h1).1
    have hr : i < ρ.length := by rw [k.lr]; exact hi
    have er : ρ[i]? = some ρ[i] := List.getElem?_eq_getElem hr
    obtain ⟨v, fp, hv, r⟩ := k.slot h1 er
    have q : Post X.K X.mg c hs G T D W (ofO (((ρ[i]?).bind fun dl => (popV y dl).bind fun q => bindT tg q.1 (ρ.set i q.2)))) := q
    rw [er] at q
    cases ed : ρ[i] with
    | lst ds =>
      rw [ed] at r q er
      obtain ⟨a, xs, fq, rfl, ea, _⟩ := r.lstInv
      refine ⟨_, hv, .inl ⟨rfl, _, SqL.of ea⟩, ?_⟩
      refine oe hs G σ H ρ y _ k e1 fun G1 H1 vy k1 g1 h1' zy => ?_
      cases y with
      | int n =>
        have ez := zy.int
        subst ez
        have q : Post X.K X.mg c hs G T D W (ofO ((if inR n then (ixN ds.length n).bind fun k => (ds[k]?).map fun x => (x, My.D.lst (ds.eraseIdx k)) else none).bind fun q => bindT tg q.1 (ρ.set i q.2))) := q
        by_cases hn : inR n
        · rw [if_pos hn] at q
          cases ej : ixN ds.length n with
          | none => rw [ej] at q; exact q.elim
          | some j =>
            rw [ej] at q
            obtain ⟨s1, s2, s3, s4⟩ := ixN_seq ej
            obtain ⟨d, hd⟩ : ∃ d, ds[j]? = some d := ⟨_, List.getElem?_eq_getElem s2⟩
            have q : Post X.K X.mg c hs G T D W (ofO (((ds[j]?).map fun x => (x, My.D.lst (ds.eraseIdx j))).bind fun q => bindT tg q.1 (ρ.set i q.2))) := q
            rw [hd] at q
            have q : Post X.K X.mg c hs G T D W (ofO (bindT tg d (ρ.set i (My.D.lst (ds.eraseIdx j))))) := q
            obtain ⟨zs, w, ez, lz, hw, k2⟩ := pop_ok (k1.move h1 hv er) hd
            refine ⟨a, zs, n, j, w, rfl, rfl, ez, by have := hn.1; omega, by have := hn.2; omega, by rw [lz]; exact s1, hw, ?_⟩
            have k3 := k2.put (i := i) (by rw [List.length_set]; exact hi)
            rw [List.set_set] at k3
            have e2 : τ.set i (.own (.L t)) = τ := by
              obtain ⟨h1, h2⟩ := List.getElem?_eq_some_iff.mp h1
              rw [← h2]; exact List.set_getElem_self h1
            have e3 : σ.set i (some (V.ref a)) = σ := by
              obtain ⟨h1, h2⟩ := List.getElem?_eq_some_iff.mp hv
              rw [← h2]; exact List.set_getElem_self h1
            rw [e2, e3] at k3
            cases eb : bindT tg d (ρ.set i (My.D.lst (ds.eraseIdx j))) with
            | none => rw [eb] at q; exact q.elim
            | some ρ' =>
              rw [eb] at q
              exact og hs G1 σ _ _ w d ρ' _ k3 eb fun σ' k4 al => q G1 σ' _ k4 g1
        · rw [if_neg hn] at q; exact q.elim
      | _ => exact q.elim
    | _ => rw [ed] at q; cases y <;> exact q.elim
/-- x.append(y.pop(e)) of two lists of one's own -/
theorem dst_appPop {fe : EF} {j : Nat} {y : Str} {p2 apos2 cpos2 : Pos} (hij : i ≠ j) (ho : PE X (.Name x p) (tVar i)) (ho2 : PE X (.Name y p2) (tVar j)) (ns : NS e = true) (hline : (apos.endLine == cpos.line) = true) (hline2 : (apos2.endLine == cpos2.line) = true) (he : DR X c T.nx e fe)
    (h1 : T.nx[i]? = some (.own (.L t))) (h2 : T.nx[j]? = some (.own (.L t))) :
    DSt X c T.nx T W (.Expr (.Call (.Attribute (.Name x p) "append" apos) [.Call (.Attribute (.Name y p2) "pop" apos2) [e] [] cpos2] [] cpos) pos) fun ρ => ofO ((fe ρ).bind fun y => (ρ[j]?).bind fun dl => (popV y dl).bind fun q => (ρ[i]?).bind fun d => (mutV .append [q.1] d).map fun d' => (ρ.set j q.2).set i d') := by
  obtain ⟨te, pe, oe⟩ := he
  have few : ((backTo cpos2 (starEach [e] X.env)).all (fun x => !x.1) && (backToKw cpos2 (keywordEach [] X.env)).all (fun x => x.1.isSome) && decide ([e].length + ([] : List Keyword).length + (if ([] : List Keyword).isEmpty then 0 else 1) < 30)) = true := by
    rw [star_cons ns]; rfl
  refine ⟨_, ps_expr (pe_bm PySem.F.plainAttrs_list PySem.F.slot_list_append PySem.F.type_list_append mt_append ho (pa_cons (pe_bm PySem.F.plainAttrs_list PySem.F.slot_list_pop PySem.F.type_list_pop mt_popAt ho2 (pa_cons pe pa_nil (star_cons ns)) rfl few hline2 (star_cons ns) (star_any rfl)) pa_nil (star_cons rfl)) rfl rfl hline (star_cons rfl) (star_any rfl)), fun hs G σ H ρ D k q => ?_⟩
  dsimp only at q
  cases e1 : fe ρ with
  | none => rw [e1] at q; exact q.elim
  | some yy =>
    rw [e1] at q
    have hi := (List.getElem?_eq_some_iff.mp h1).1
    have hj := (List.getElem?_eq_some_iff.mp h2).1
    have hri : i < ρ.length := by rw [k.lr]; exact hi
    have hrj : j < ρ.length := by rw [k.lr]; exact hj
    have eri : ρ[i]? = some ρ[i] := List.getElem?_eq_getElem hri
    have erj : ρ[j]? = some ρ[j] := List.getElem?_eq_getElem hrj
    obtain ⟨vi, fi, hvi, ri⟩ := k.slot h1 eri
    obtain ⟨vj, fj, hvj, rj⟩ := k.slot h2 erj
    have q : Post X.K X.mg c hs G T D W (ofO (((ρ[j]?).bind fun dl => (popV yy dl).bind fun q => (ρ[i]?).bind fun d => (mutV .append [q.1] d).map fun d' => (ρ.set j q.2).set i d'))) := q
    rw [erj] at q
    cases ej : ρ[j] with
    | lst ds =>
      rw [ej] at rj q erj
      cases yy with
      | int n =>
        have q : Post X.K X.mg c hs G T D W (ofO ((if inR n then (ixN ds.length n).bind fun k => (ds[k]?).map fun x => (x, My.D.lst (ds.eraseIdx k)) else none).bind fun q => (ρ[i]?).bind fun d => (mutV .append [q.1] d).map fun d' => (ρ.set j q.2).set i d')) := q
        by_cases hn : inR n
        · rw [if_pos hn] at q
          cases ek : ixN ds.length n with
          | none => rw [ek] at q; exact q.elim
          | some m =>
            rw [ek] at q
            obtain ⟨s1, s2, s3, s4⟩ := ixN_seq ek
            obtain ⟨d, hd⟩ : ∃ d, ds[m]? = some d := ⟨_, List.getElem?_eq_getElem s2⟩
            have q : Post X.K X.mg c hs G T D W (ofO (((ds[m]?).map fun x => (x, My.D.lst (ds.eraseIdx m))).bind fun q => (ρ[i]?).bind fun d => (mutV .append [q.1] d).map fun d' => (ρ.set j q.2).set i d')) := q
            rw [hd] at q
            have q : Post X.K X.mg c hs G T D W (ofO ((ρ[i]?).bind fun dd => (mutV .append [d] dd).map fun d' => (ρ.set j (My.D.lst (ds.eraseIdx m))).set i d')) := q
            rw [eri] at q
            cases eii : ρ[i] with
            | lst es =>
              rw [eii] at ri q eri
              have q : Post X.K X.mg c hs G T D W (ofO ((if es.length < mx then some (My.D.lst (es ++ [d])) else none).map fun d' => (ρ.set j (My.D.lst (ds.eraseIdx m))).set i d')) := q
              split at q
              · rename_i hlt
                obtain ⟨ai, xs, fq, rfl, ea, _⟩ := ri.lstInv
                obtain ⟨aj, ys, fr, rfl, eb, _⟩ := rj.lstInv
                refine ⟨_, hvi, .inl ⟨rfl, _, SqL.of ea⟩, ?_⟩
                refine ⟨_, hvj, .inl ⟨rfl, _, SqL.of eb⟩, ?_⟩
                refine oe hs G σ H ρ _ _ k e1 fun G1 H1 vy k1 g1 h1' zy => ?_
                have ez := zy.int
                subst ez
                obtain ⟨zs, w, ez, lz, hw, k2⟩ := pop_ok (k1.move h2 hvj erj) hd
                refine ⟨aj, zs, n, m, w, rfl, rfl, ez, by have := hn.1; omega, by have := hn.2; omega, by rw [lz]; exact s1, hw, ?_⟩
                have k3 := k2.put (i := j) (by rw [List.length_set]; exact hj)
                rw [List.set_set] at k3
                have e2 : T.nx.set j (.own (.L t)) = T.nx := by
                  obtain ⟨h1, h2⟩ := List.getElem?_eq_some_iff.mp h2
                  rw [← h2]; exact List.set_getElem_self h1
                have e3 : σ.set j (some (V.ref aj)) = σ := by
                  obtain ⟨h1, h2⟩ := List.getElem?_eq_some_iff.mp hvj
                  rw [← h2]; exact List.set_getElem_self h1
                rw [e2, e3] at k3
                have er2 : (ρ.set j (My.D.lst (ds.eraseIdx m)))[i]? = some (.lst es) := by rw [List.getElem?_set_ne (Ne.symm hij)]; exact eri
                obtain ⟨vs, ev, el, k4⟩ := ((k3.move h1 hvi er2).perm (List.Perm.swap _ _ _)).append
                have ms := mx_eq
                refine ⟨ai, vs, w, rfl, rfl, ev, by omega, ?_⟩
                have k5 := k4.put (i := i) (by rw [List.length_set]; exact hi)
                rw [List.set_set] at k5
                have e4 : T.nx.set i (.own (.L t)) = T.nx := by
                  obtain ⟨h1, h2⟩ := List.getElem?_eq_some_iff.mp h1
                  rw [← h2]; exact List.set_getElem_self h1
                have e5 : σ.set i (some (V.ref ai)) = σ := by
                  obtain ⟨h1, h2⟩ := List.getElem?_eq_some_iff.mp hvi
                  rw [← h2]; exact List.set_getElem_self h1
                rw [e4, e5] at k5
                exact q G1 σ _ k5 g1
              · exact q.elim
            | _ => rw [eii] at q; exact q.elim
        · rw [if_neg hn] at q; exact q.elim
      | _ => exact q.elim
    | _ => rw [ej] at q; cases yy <;> exact q.elim
end
end My

set_option Elab.async false
set_option linter.all false
set_option maxRecDepth 100000
set_option maxHeartbeats 1000000
/-! The checker over statements is sound. -/
namespace My
open PySem PySem.Spec PyProof.Rows L2
section
variable {kR : Nat} {Φ : Tab}
theorem leOO_t {a b : Option (List Slot)} {d : List Slot} (h : leOO a b = true) (k : leO b d = true) : leO a d = true := by
  cases a with
  | none => rfl
  | some x => cases b with
    | none => cases h
    | some y => exact lesB_trans h k
theorem leE_fit {o j : Exits} {T : Tys} (h : leE o j = true) (hn : leO o.nx T.nx = true) (k : leO j.brk T.brk = true ∧ leO j.cnt T.cnt = true ∧ leO j.exc T.exc = true) : Fit o T := by
  obtain ⟨h1, h2, h3⟩ := and3 h
  exact ⟨hn, leOO_t h1 k.1, leOO_t h2 k.2.1, leOO_t h3 k.2.2⟩
/-- what is said of a statement's term -/
def StIn (kR : Nat) (Φ : Tab) (m : MS) : Prop := ∀ S X c (W : WX) ret τ st o, GX kR S Φ X c → (S.calm = true → Takes X W) → chkS S ret τ m st = some o → (∀ T : Tys, T.ret = ret → Fit o T → DSt X c τ T W st (ex Φ m))
def BlIn (kR : Nat) (Φ : Tab) (ms : List MS) : Prop := ∀ S X c (W : WX) ret τ sts o, GX kR S Φ X c → (S.calm = true → Takes X W) → chkB S ret τ ms sts = some o → (∀ T : Tys, T.ret = ret → Fit o T → DSs X c τ T W sts (exs Φ ms))
theorem fit_nx {τ : List Slot} {T : Tys} (h : Fit { ex0 with nx := some τ } T) : lesB τ T.nx = true := h.1
theorem DSt.toNx {X : Cx} {c : FC} {W : WX} {τ τ' : List Slot} {T : Tys} {st : Stmt} {g : SF} (h : lesB τ' T.nx = true) (d : DSt X c τ { T with nx := τ' } W st g) : DSt X c τ T W st g :=
  DSt.le (T := { T with nx := τ' }) h (lesB_refl _) (lesB_refl _) (lesB_refl _) rfl d
theorem chkApp_ok {S : Syn} {X : Cx} {c : FC} {i : Nat} {st : Stmt} {y : Expr} (g : GX kR S Φ X c) (h : chkApp S i st = some y) :
    ∃ x p apos cpos pos, st = .Expr (.Call (.Attribute (.Name x p) "append" apos) [y] [] cpos) pos ∧ PE X (.Name x p) (tVar i) ∧ NS y = true ∧ (apos.endLine == cpos.line) = true := by
  unfold chkApp at h
  split at h
  · split at h
    · split at h
      · split at h
        · split at h
          · rename_i h0
            obtain ⟨h10, h2⟩ := and2 h0
            obtain ⟨h1, h3, h4⟩ := and3 h10
            clear h0 h10
            cases h
            have h3 := of_decide_eq_true h3
            subst h3
            exact ⟨_, _, _, _, _, rfl, nm_pe g h1, h4, h2⟩
          · cases h
        · cases h
      · cases h
    · cases h
  · cases h
theorem chkAppP_ok {S : Syn} {X : Cx} {c : FC} {i : Nat} {st : Stmt} {ix y : Expr} (g : GX kR S Φ X c) (h : chkAppP S i st = some (ix, y)) :
    ∃ x p p3 apos cpos pos, st = .Expr (.Call (.Attribute (.Subscript (.Name x p) ix p3) "append" apos) [y] [] cpos) pos ∧ PE X (.Name x p) (tVar i) ∧ NS y = true ∧ (apos.endLine == cpos.line) = true ∧ PlainIx ix := by
  unfold chkAppP at h
  split at h
  · split at h
    · split at h
      · split at h
        · split at h
          · split at h
            · rename_i h0
              obtain ⟨h0, h5⟩ := and2 h0
              obtain ⟨h10, h2⟩ := and2 h0
              obtain ⟨h1, h3, h4⟩ := and3 h10
              clear h0 h10
              cases h
              have h3 := of_decide_eq_true h3
              subst h3
              exact ⟨_, _, _, _, _, _, rfl, nm_pe g h1, h4, h2, plainIx_of h5⟩
            · cases h
          · cases h
        · cases h
      · cases h
    · cases h
  · cases h
theorem chkPop_ok {S : Syn} {X : Cx} {c : FC} {i : Nat} {e y : Expr} (g : GX kR S Φ X c) (h : chkPop S i e = some y) :
    ∃ x p apos cpos, e = .Call (.Attribute (.Name x p) "pop" apos) [y] [] cpos ∧ PE X (.Name x p) (tVar i) ∧ NS y = true ∧ (apos.endLine == cpos.line) = true := by
  unfold chkPop at h
  split at h
  · split at h
    · split at h
      · split at h
        · rename_i h0
          obtain ⟨h10, h2⟩ := and2 h0
          obtain ⟨h1, h3, h4⟩ := and3 h10
          clear h0 h10
          cases h
          have h3 := of_decide_eq_true h3
          subst h3
          exact ⟨_, _, _, _, rfl, nm_pe g h1, h4, h2⟩
        · cases h
      · cases h
    · cases h
  · cases h
theorem chkIx_ok {S : Syn} {X : Cx} {c : FC} {i : Nat} {e y : Expr} (g : GX kR S Φ X c) (h : chkIx S i e = some y) :
    ∃ x p p3, e = .Subscript (.Name x p) y p3 ∧ PE X (.Name x p) (tVar i) ∧ PlainIx y := by
  unfold chkIx at h
  split at h
  · split at h
    · split at h
      · rename_i h0
        obtain ⟨h1, h2⟩ := and2 h0
        cases h
        exact ⟨_, _, _, rfl, nm_pe g h1, plainIx_of h2⟩
      · cases h
    · cases h
  · cases h
theorem seqR_eq {f : SF} {r : RS} : seqR f r = match r with | .nx ρ' => f ρ' | r => r := rfl
theorem exs_cons (s : MS) (ss : List MS) : exs Φ (s :: ss) = fun ρ => seqR (exs Φ ss) (ex Φ s ρ) := by
  funext ρ
  show (match ex Φ s ρ with | .nx ρ' => exs Φ ss ρ' | r => r) = _
  cases ex Φ s ρ <;> rfl
theorem DSs.congr {X : Cx} {c : FC} {τ : List Slot} {T : Tys} {W : WX} {sts : List Stmt} {f f' : SF} (h : DSs X c τ T W sts f) (q : f = f') : DSs X c τ T W sts f' := by subst q; exact h
theorem DSt.congr {X : Cx} {c : FC} {τ : List Slot} {T : Tys} {W : WX} {st : Stmt} {f f' : SF} (h : DSt X c τ T W st f) (q : f = f') : DSt X c τ T W st f' := by subst q; exact h
theorem gx_tr {S : Syn} {X : Cx} {c : FC} (g : GX kR S Φ X c) (hcm : S.calm = true) (pn : List (Addr × Obj)) (xe : Value → Shared → Prop) (pa : PassesOwn (model X.prog X.w) X.A X.env xe) : GX kR S Φ (X.tr pn xe) c :=
  { N := g.N, sc := g.sc, nd := g.nd, kind := g.kind, calm := g.calm, pas := pa, fn := g.fn, units := g.units, room := g.room, fns := g.fns, gls := g.gls, bns := g.bns, tups := g.tups, tabs := g.tabs, exi := (fun h => absurd h (by rw [hcm]; decide)), excs := g.excs, subs := g.subs, cats := g.cats, stk := g.stk }
theorem gx_suite {S : Syn} {X : Cx} {c : FC} (g : GX kR S Φ X c) (a : Addr) (z : Str) (oe : Obj) (D : Addr) (pn : List (Addr × Obj)) (hm : X.mg z = some (.ref D)) (hz : Zc (.ref D) none oe) (hd : ∃ vs, oe.data = .fields vs) (hC : ExcC X.K D) : GX kR { S with calm := false } Φ (X.suite a ((a, oe) :: pn)) { c with ea := a, ec := z } :=
  { N := g.N, sc := g.sc, nd := g.nd, kind := g.kind, calm := (fun h => by cases h), pas := PassesOwn.never, fn := g.fn, units := g.units, room := (fun h => by cases h), fns := g.fns, gls := g.gls, bns := g.bns, tups := g.tups, tabs := g.tabs,
    exi := (fun _ => ⟨D, call_isE hC hz hd, call_isET hC hz hd, fun x b hb => by
      obtain ⟨D', v, cv, h1, h2, h3, h4, h5, h6⟩ := g.subs z x b hb
      rw [hm] at h1
      cases h1
      exact ⟨v, cv, ⟨h3, h4, h5⟩, h6⟩⟩), excs := g.excs, subs := g.subs, cats := g.cats, stk := g.stk }
theorem les_gone : ∀ {a b : List Slot} {i : Nat}, lesB a b = true → a[i]? = some .gone → b[i]? = some .gone
  | [], [], i, _, h => by simp at h
  | [], _ :: _, _, h, _ => by cases h
  | _ :: _, [], _, h, _ => by cases h
  | x :: xs, y :: ys, 0, h, e => by
    simp at e; subst e
    obtain ⟨h1, _⟩ := and2 (show (leS .gone y && lesB xs ys) = true from h)
    cases y <;> first | rfl | cases h1
  | x :: xs, y :: ys, i + 1, h, e => by
    obtain ⟨_, h2⟩ := and2 (show (leS x y && lesB xs ys) = true from h)
    have := les_gone h2 (i := i) (by simpa using e)
    simpa using this
theorem les_noE : ∀ {a b : List Slot}, lesB a b = true → noE a = true → noE b = true
  | [], [], _, _ => rfl
  | [], _ :: _, h, _ => by cases h
  | _ :: _, [], h, _ => by cases h
  | x :: xs, y :: ys, h, e => by
    obtain ⟨h1, h2⟩ := and2 (show (leS x y && lesB xs ys) = true from h)
    obtain ⟨e1, e2⟩ := and2 (show ((!isE x) && noE xs) = true from e)
    show ((!isE y) && noE ys) = true
    rw [les_noE h2 e2, Bool.and_true]
    cases y with
    | exc => cases x <;> first | exact absurd e1 (by decide) | cases h1
    | _ => rfl
theorem consOf {xs : List Expr} (h : (!xs.isEmpty) = true) : ∃ a es, xs = a :: es := by
  cases xs with
  | nil => cases h
  | cons a es => exact ⟨a, es, rfl⟩
theorem set_self : ∀ {τ : List Slot} {i : Nat} {s : Slot}, τ[i]? = some s → τ.set i s = τ
  | [], _, _, h => by simp at h
  | x :: xs, 0, s, h => by simp at h; subst h; rfl
  | x :: xs, i + 1, s, h => by simp at h; simp [set_self h]
mutual
theorem chkS_ok : ∀ m : MS, StIn kR Φ m
  | .asg tg m => fun S X c W ret τ st o g tk h T hT hF => by
    unfold chkS at h
    split at h
    · split at h
      · rename_i e pos _ tgE
        split at h
        · rename_i t τ' hi
          split at h
          · rename_i τ2 hg
            have dm := (inf_ok m S X c τ e g).1.ow hi
            have dg := chkG_ok (c := c) g tg t τ' τ2 tgE hg
            split at h
            · rename_i x p
              split at h
              · rename_i hb
                cases h
                refine DSt.toNx (fit_nx hF) ?_
                rcases Bool.or_eq_true_iff.mp hb with hb | hb
                · rcases Bool.or_eq_true_iff.mp hb with hb | hb
                  · exact dst_asg (by unfold swapsWithSole; exact swaps_no hb) rfl rfl dm dg
                  · refine dst_asg (by
                      unfold swapsWithSole
                      refine swaps_cell ?_
                      rw [g.sc]
                      unfold cellAsg Syn.look at hb
                      split at hb
                      · assumption
                      · cases hb) ?_ rfl dm dg
                    first | rfl | (cases e <;> rfl)
                · obtain ⟨hb, hb5⟩ := and2 hb
                  obtain ⟨hb1, hb2⟩ := and2 hb
                  cases m with
                  | comp elt tg' own k as cond =>
                    cases e with
                    | ListComp xe gens scope pos' =>
                      obtain ⟨hb2, hb3⟩ := and2 hb2
                      obtain ⟨hl1, hb4⟩ := and2 hb2
                      have hin : (inf S τ (.comp elt tg' own k as cond) (.ListComp xe gens scope pos')).1 = some ⟨true, t, τ'⟩ := by
                        cases hr : (inf S τ (.comp elt tg' own k as cond) (.ListComp xe gens scope pos')).1 with
                        | none => rw [hr] at hi; cases hi
                        | some r =>
                          rw [hr] at hi hb5
                          obtain ⟨b, t', τ''⟩ := r
                          cases b with
                          | false => cases hb5
                          | true => cases hi; rfl
                      obtain ⟨tgE', iter, ifs, wi, gg, tt, te, ow, rfl, pw, bk, pg, pt, pe, hs, o⟩ := comp_parts g hin
                      cases tg with
                      | s i =>
                        unfold chkG at hg
                        dsimp only at hg
                        split at hg
                        · rename_i hst
                          obtain ⟨hst, hlt⟩ := and2 hst
                          cases hg
                          have hy : X.N[i]? = some x := by rw [g.N]; exact of_decide_eq_true (and2 hst).1
                          have hl : X.env.scope.names.lookup x = some .local := by
                            rw [g.sc]
                            unfold Syn.look at hb4
                            split at hb4
                            · assumption
                            · cases hb4
                          rcases o with o | ⟨rfl, i0, hi0, nb, ol, hf⟩
                          · refine ⟨_, ps_setLc (g.calm (comp_calm hin)) g.nd hy hl (sw_true g.kind hl hl1 (by simpa using hb3)) pw bk pg pt pe hs, asg_run o fun hs G σ H ρ v d ρ' Q k e q => ?_⟩
                            cases e
                            exact q _ (k.put (of_decide_eq_true hlt)) (.set i _ σ)
                          · exact ⟨_, ps_lk (ps_setLc (g.calm (comp_calm hin)) g.nd hy hl (sw_true g.kind hl hl1 (by simpa using hb3)) pw bk pg pt pe hs), asg_lk ol hi0 nb hf (of_decide_eq_true hlt) rfl⟩
                        · cases hg
                      | t l => unfold chkG at hg; cases hg
                    | _ => cases hb2
                  | _ => cases hb1
              · cases h
            · split at h
              · rename_i hb
                obtain ⟨h1, h2, h3⟩ := and3 hb
                cases h
                refine DSt.toNx (fit_nx hF) ?_
                refine dst_asg (by unfold swapsWithSole; exact swaps_no h1) ?_ h3 dm dg
                cases e <;> first | rfl | cases h2
              · cases h
            · cases h
          · cases h
        · cases h
      · cases h
    · cases h
  | .exp m => fun S X c W ret τ st o g tk h T hT hF => by
    unfold chkS at h
    split at h
    · split at h
      · rename_i e pos hb
        obtain ⟨h1, h2⟩ := and2 hb
        cases h
        refine DSt.toNx (fit_nx hF) ?_
        exact dst_exp (T := { T with nx := τ }) (swaps_no h1) ((inf_ok m S X c τ e g).1.rd h2)
      · cases h
    · cases h
  | .mut u i path as => fun S X c W ret τ st o g tk h T hT hF => by
    unfold chkS at h
    split at h
    · rename_i m
      split at h
      · rename_i y hy
        split at h
        · rename_i t h1
          split at h
          · rename_i τ' h2
            split at h
            · rename_i t' h3
              split at h
              · rename_i h4
                cases h
                have e := tyEq_eq h4
                subst e
                obtain ⟨x, p, apos, cpos, pos, rfl, pe, ns, hl⟩ := chkApp_ok g hy
                refine DSt.toNx (fit_nx hF) ?_
                exact dst_append (T := { T with nx := τ' }) pe ns hl (owT_ok (inf_ok m S X c τ y g).1 h2) h1 h3
              · cases h
            · cases h
          · cases h
        · cases h
      · cases h
    · rename_i mk mv
      split at h
      · rename_i ix y hy
        split at h
        · rename_i t h1
          split at h
          · rename_i τ' h2
            split at h
            · rename_i t' h3
              split at h
              · rename_i h4
                obtain ⟨h4, h5⟩ := and2 h4
                cases h
                have e := tyEq_eq h4
                subst e
                obtain ⟨x, p, spos, pos, rfl, pe, pi, nc⟩ := chkSet_ok g hy
                refine DSt.toNx (fit_nx hF) ?_
                exact dst_setL (T := { T with nx := τ' }) pe nc pi (owT_ok (inf_ok mv S X c τ y g).1 h2) ((inf_ok mk S X c τ' ix g).1.rd h5) h3
              · cases h
            · cases h
          · cases h
        · rename_i t h1
          split at h
          · rename_i τ' h2
            split at h
            · rename_i t' h3
              split at h
              · rename_i h4
                obtain ⟨h4, h5⟩ := and2 h4
                cases h
                have e := tyEq_eq h4
                subst e
                obtain ⟨x, p, spos, pos, rfl, pe, pi, nc⟩ := chkSet_ok g hy
                refine DSt.toNx (fit_nx hF) ?_
                exact dst_setD (T := { T with nx := τ' }) (Nat.lt_of_le_of_lt (by omega) g.units) pe nc (owT_ok (inf_ok mv S X c τ y g).1 h2) ((inf_ok mk S X c τ' ix g).1.rd h5) h3
              · cases h
            · cases h
          · cases h
        · cases h
      · cases h
    · rename_i mk m
      split at h
      · rename_i ix y hy
        split at h
        · rename_i t h1
          split at h
          · rename_i te ht
            split at h
            · rename_i h2
              obtain ⟨h2, h3, h4⟩ := and3 h2
              split at h
              · rename_i τ' h5
                split at h
                · rename_i h6
                  cases h
                  obtain ⟨x, p, p3, apos, cpos, pos, rfl, pe, ns, hl, hpi⟩ := chkAppP_ok g hy
                  refine DSt.toNx (fit_nx hF) ?_
                  exact dst_appendP (T := { T with nx := τ'.set i (.own t) }) (Nat.lt_of_le_of_lt (by omega) g.units) pe ns hl hpi ((inf_ok mk S X c τ ix g).1.rd h4) (owT_ok (inf_ok m S X c _ y g).1 h5) h1 h2 h3 ht rfl (of_decide_eq_true h6)
                · cases h
              · cases h
            · cases h
          · cases h
        · cases h
      · cases h
    · cases h
  | .aug i m => fun S X c W ret τ st o g tk h T hT hF => by
    unfold chkS at h
    split at h
    · split at h
      · rename_i x p
        split at h
        · rename_i h1
          obtain ⟨h1, h2⟩ := and2 h1
          split at h
          · rename_i h3
            cases h
            refine DSt.toNx (fit_nx hF) ?_
            obtain ⟨hN, hx, hf⟩ := st_of g h1
            exact dst_aug (T := { T with nx := τ }) g.nd hN hx ((inf_ok m S X c τ _ g).1.rd h2) h3 rfl hf
          · cases h
        · cases h
      · cases h
    · cases h
  | .popA tg i m => fun S X c W ret τ st o g tk h T hT hF => by
    unfold chkS at h
    split at h
    · split at h
      · rename_i tgE
        split at h
        · rename_i y hy
          split at h
          · rename_i t h1
            split at h
            · rename_i h2
              obtain ⟨h2, h3, h4⟩ := and3 h2
              split at h
              · rename_i τ2 hg
                cases h
                obtain ⟨x, p, apos, cpos, rfl, pe, ns, hl⟩ := chkPop_ok g hy
                refine DSt.toNx (fit_nx hF) ?_
                exact dst_pop (T := { T with nx := τ2 }) pe ns hl ((inf_ok m S X c τ _ g).1.rd h2) h1 (chkG_ok g tg t τ τ2 _ hg) h4 (by cases tgE <;> first | rfl | cases h3)
              · cases h
            · cases h
          · cases h
        · cases h
      · cases h
    · cases h
  | .popApp i j m => fun S X c W ret τ st o g tk h T hT hF => by
    unfold chkS at h
    split at h
    · rename_i z hz
      split at h
      · rename_i y hy
        split at h
        · rename_i t t' h1 h2
          split at h
          · rename_i h3
            obtain ⟨h3, h4, h5⟩ := and3 h3
            cases h
            have e := tyEq_eq h3
            subst e
            obtain ⟨x, p, apos, cpos, pos, rfl, pe, ns, hl⟩ := chkApp_ok g hz
            obtain ⟨x2, p2, apos2, cpos2, rfl, pe2, ns2, hl2⟩ := chkPop_ok g hy
            refine DSt.toNx (fit_nx hF) ?_
            exact dst_appPop (T := { T with nx := τ }) (of_decide_eq_true h4) pe pe2 ns2 hl hl2 ((inf_ok m S X c τ _ g).1.rd h5) h1 h2
          · cases h
        · cases h
      · cases h
    · cases h
  | .takeA tg i m => fun S X c W ret τ st o g tk h T hT hF => by
    unfold chkS at h
    split at h
    · split at h
      · rename_i tgE
        split at h
        · rename_i y hy
          split at h
          · rename_i t h1
            split at h
            · rename_i h2
              obtain ⟨h2, h6⟩ := and2 h2
              obtain ⟨h2, h5⟩ := and2 h2
              obtain ⟨h2, h3, h4⟩ := and3 h2
              split at h
              · rename_i τ2 hg
                cases h
                obtain ⟨x, p, p3, rfl, pe, hpi⟩ := chkIx_ok g hy
                refine DSt.toNx (fit_nx hF) ?_
                exact dst_take (T := { T with nx := τ2 }) (Nat.lt_of_le_of_lt (by omega) g.units) pe hpi ((inf_ok m S X c τ _ g).1.rd h4) h1 h2 h3 h6 (chkG_ok g tg t.elem τ τ2 _ hg) (by cases tgE <;> first | rfl | cases h5)
              · cases h
            · cases h
          · cases h
        · cases h
      · cases h
    · cases h
  | .nev => fun S X c W ret τ st o g tk h T hT hF => by
    exact dst_nev
  | .rai x => fun S X c W ret τ st o g tk h T hT hF => by
    unfold chkS at h
    split at h
    · split at h
      · split at h
        · split at h
          · split at h
            · rename_i hb
              obtain ⟨hb, h5⟩ := and2 hb
              obtain ⟨hb, h4⟩ := and2 hb
              obtain ⟨h1, h2, h3⟩ := and3 hb
              have h1 := of_decide_eq_true h1
              subst h1
              cases h
              obtain ⟨q1, q2, q3⟩ := and3 h4
              obtain ⟨D, F⟩ := g.excs _ (by simpa using h5)
              obtain ⟨f1, f2, f3, f4⟩ := hF
              exact DSt.le (T := { T with exc := τ }) (lesB_refl _) (lesB_refl _) (lesB_refl _) f4 rfl (dst_rai (T := { T with exc := τ }) (g.calm h2) (tk h2) F (gl_of g h3) (by simpa using q1))
            · cases h
          · cases h
        · cases h
      · cases h
    · cases h
  | .expX k as => fun S X c W ret τ st o g tk h T hT hF => by
    unfold chkS at h
    split at h
    · split at h
      · split at h
        · split at h
          · rename_i F hFn
            split at h
            · rename_i hb
              obtain ⟨hb, h6⟩ := and2 hb
              obtain ⟨hb, h5⟩ := and2 hb
              obtain ⟨hb, h4⟩ := and2 hb
              obtain ⟨h1, h2, h3⟩ := and3 hb
              have h1 := of_decide_eq_true h1
              obtain ⟨q1, q2, q3⟩ := and3 h4
              obtain ⟨τ', h7, rfl⟩ := map1 h
              obtain ⟨f1, f2, f3, f4⟩ := hF
              have C := g.fns k F hFn
              rw [h1] at C
              obtain ⟨a, es, rfl⟩ := consOf h6
              · exact DSt.le (T := { T with nx := τ', exc := τ' }) f1 (lesB_refl _) (lesB_refl _) f4 rfl (dst_callX (T := { T with nx := τ', exc := τ' }) (tk h2) C (g.room h2) (gl_of g h3) (by simpa using q1) h5 (infLP_ok as S X c F.ps τ _ τ' g h5 h7) rfl)
            · cases h
          · cases h
        · cases h
      · cases h
    · cases h
  | .tryE i x b s => fun S X c W ret τ st o g tk h T hT hF => by
    unfold chkS at h
    split at h
    · rename_i body hds els fin pos
      split at h
      · rename_i hx n sb pos'
        split at h
        · rename_i y np b0 su
          split at h
          · rename_i hb
            obtain ⟨hb, h8⟩ := and2 hb
            obtain ⟨hb, h7⟩ := and2 hb
            obtain ⟨hb, h6⟩ := and2 hb
            obtain ⟨hb, h5⟩ := and2 hb
            obtain ⟨hb, h4⟩ := and2 hb
            obtain ⟨h1, h2, h3⟩ := and3 hb
            have h1 := of_decide_eq_true h1
            subst h1
            have h7 := of_decide_eq_true h7
            have h8 := isLocal_eq h8
            obtain ⟨q1, q2, q3⟩ := and3 h6
            split at h
            · rename_i ob hob
              split at h
              · rename_i τe he
                split at h
                · rename_i hn
                  obtain ⟨n1, n2⟩ := and2 hn
                  have n2 := of_decide_eq_true n2
                  split at h
                  · rename_i os hos
                    split at h
                    · rename_i nx hnx
                      split at h
                      · rename_i hc
                        obtain ⟨hc, m7⟩ := and2 hc
                        obtain ⟨hc, m6⟩ := and2 hc
                        obtain ⟨hc, m5⟩ := and2 hc
                        obtain ⟨hc, m4⟩ := and2 hc
                        obtain ⟨m1, m2, m3⟩ := and3 hc
                        have m6 := isGone_eq m6
                        cases h
                        obtain ⟨f1, f2, f3, f4⟩ := hF
                        obtain ⟨cv, hcv, hsb⟩ := g.cats y (by simpa using h4)
                        obtain ⟨k1, k2⟩ := g.stk h3
                        have f1 : lesB nx T.nx = true := f1
                        have f4 : lesB τe T.exc = true := f4
                        have tn := les_gone f1 m6
                        have te := les_noE f1 m7
                        have hN : X.N[i]? = some n := by rw [g.N]; exact h7
                        have hl : X.env.kindOf n = some .local := by
                          show X.env.scope.names.lookup n = some .local
                          rw [g.sc]; exact h8
                        have ob1 : leO ob.nx T.nx = true := leOO_t m4 f1
                        have os1 : leO os.nx T.nx = true := leOO_t m5 f1
                        refine DSt.le (T := { T with exc := τe }) (lesB_refl _) (lesB_refl _) (lesB_refl _) f4 rfl ?_
                        refine dst_try (T := { T with exc := τe }) (Tb := { T with exc := τe }) (Ts := T) k1 k2 g.nd hN hl ⟨gl_of g h5, by simpa using q1, .inl hcv⟩ (tk h2) hsb (fun W' pn xe tk' pa => ?_) (fun a z oe D pn hm hz1 hz hd => ?_) rfl rfl rfl rfl rfl rfl (set_self tn) n1 te n2
                        · exact chkB_ok b S (X.tr pn xe) c W' ret τ body ob (gx_tr g h2 pn xe pa) (fun _ => tk') hob { T with exc := τe } hT ⟨ob1, f2, f3, by rw [he]; exact lesB_refl _⟩
                        · obtain ⟨D', v, cv', g1, g2, g3, g4, g5, g6⟩ := g.subs z y true hz1
                          rw [hm] at g1
                          cases g1
                          exact chkB_ok s _ (X.suite a ((a, oe) :: pn)) _ _ ret (τe.set i .exc) (b0 :: su) os (gx_suite g a z oe D pn hm hz hd g2) (fun h => by cases h) hos T hT ⟨os1, by cases hh : os.brk with | none => rfl | some _ => (rw [hh] at m1; cases m1), by cases hh : os.cnt with | none => rfl | some _ => (rw [hh] at m2; cases m2), by cases hh : os.exc with | none => rfl | some _ => (rw [hh] at m3; cases m3)⟩
                      · cases h
                    · cases h
                  · cases h
                · cases h
              · cases h
            · cases h
          · cases h
        · cases h
      · cases h
    · cases h
  | .forK tg k i body => fun S X c W ret τ st o g tk h T hT hF => by
    unfold chkS at h
    split at h
    · split at h
      · rename_i tgE iter sts els pos
        dsimp only at h
        generalize iterInv (fun t => (chkG S tg .F t tgE).bind fun t2 => chkB S ret t2 body sts) 6 τ = inv at h
        split at h
        · rename_i hb
          obtain ⟨hb, h3⟩ := and2 hb
          obtain ⟨hcm, h1, h2⟩ := and3 hb
          split at h
          · rename_i i' hw
            split at h
            · rename_i τ2 hg
              split at h
              · rename_i o2 hbo
                split at h
                · rename_i hl
                  obtain ⟨l1, l2, l3⟩ := and3 hl
                  cases h
                  obtain ⟨f1, f2, f3, f4⟩ := hF
                  refine DSt.toNx (τ' := inv) f1 (DSt.pre h2 ?_)
                  obtain ⟨_, ei, hi, nb, wi, pw, ow, _⟩ := wkD_ok (τ := inv) g hw
                  cases ei
                  have key := dst_forK (pos := els) (T := { T with nx := inv }) (W := W) (c := c) (fbody := exs Φ body) (tg := tg) g.pas (g.calm hcm) pw ow hi nb nb (fun c' => chkG_ok (g.any hcm c') tg .F inv τ2 tgE hg) (fun c' => chkB_ok body S X c' _ ret τ2 sts o2 (g.any hcm c') (fun hh => (tk hh).imp fun _ _ _ _ z => z.elim) hbo { T with nx := inv, brk := inv, cnt := inv } hT ⟨l1, l2, l3, f4⟩) (noSet_of h1)
                  exact key
                · cases h
              · cases h
            · cases h
          · cases h
        · cases h
      · cases h
    · cases h
  | .clr i => fun S X c W ret τ st o g tk h T hT hF => by
    unfold chkS at h
    split at h
    · split at h
      · split at h
        · split at h
          · split at h
            · rename_i h0
              obtain ⟨h1, h2, h3⟩ := and3 h0
              have h2 := of_decide_eq_true h2
              subst h2
              split at h
              · rename_i t he
                cases h
                refine DSt.toNx (fit_nx hF) ?_
                exact dst_clear (T := { T with nx := τ }) (nm_pe g h1) h3 he rfl
              · cases h
            · cases h
          · cases h
        · cases h
      · cases h
    · cases h
  | .forR pt ps d r A B => fun S X c W ret τ st o g tk h T hT hF => by
    unfold chkS at h
    split at h
    · split at h
      · split at h
        · split at h
          · split at h
            · split at h
              · rename_i x sa _ _ ap _ _ xp px oe _ _ _ _ _
                split at h
                · rename_i h0
                  obtain ⟨h0, h8⟩ := and2 h0
                  obtain ⟨h0, h7⟩ := and2 h0
                  obtain ⟨h0, h6⟩ := and2 h0
                  obtain ⟨h0, h5⟩ := and2 h0
                  obtain ⟨h0, h4⟩ := and2 h0
                  obtain ⟨h1, h2, h3⟩ := and3 h0
                  have h3 := of_decide_eq_true h3
                  split at h
                  · split at h
                    · rename_i y hy
                      split at h
                      · rename_i τ' ho
                        split at h
                        · rename_i hs
                          have hs := slsEq_eq hs
                          subst hs
                          cases h
                          refine DSt.toNx (fit_nx hF) ?_
                          have hlen : pt < (τ.set pt .gone).length := by rw [List.length_set]; exact h3
                          have dsh := (inf_ok (.var ps) S X c (τ.set pt .gone) oe g).1.sh h5
                          obtain ⟨wi, pw, ow⟩ := cut_it dsh
                          have dg : DG X c (τ.set pt .gone) (τ.set pt (.own .F)) (.Name xp px) .F (.s pt) := by
                            refine chkG_ok g (.s pt) .F (τ.set pt .gone) (τ.set pt (.own .F)) (.Name xp px) ?_
                            show (if S.st pt xp && decide (pt < (τ.set pt .gone).length) then some ((τ.set pt .gone).set pt (.own .F)) else none) = _
                            rw [h2, decide_eq_true hlen, List.set_set]; rfl
                          obtain ⟨gg, pg, og⟩ := dg
                          obtain ⟨tc, pc, oc⟩ := (inf_ok (.cmp .inn (.var pt) (.var d)) S X c (τ.set pt (.own .F)) x g).2 h6
                          obtain ⟨ax, p1, ap1, cp1, ps1, rfl, pe1, ns1, hl1⟩ := chkApp_ok g hy
                          have hlf := isLF_eq h8
                          obtain ⟨ta, pa, oa⟩ := dst_append (T := { T with nx := τ.set pt (.own .F), brk := τ.set pt .gone, cnt := τ.set pt .gone }) (W := W) (pos := ps1) pe1 ns1 hl1 (owT_ok (inf_ok (.idx (.var d) (.var pt)) S X c (τ.set pt (.own .F)) y g).1 ho) hlf hlf
                          obtain ⟨bx, p2, ap2, cp2, y2, ps2, rfl, pe2, hl2, hri⟩ := chkRa_ok g h7
                          obtain ⟨pI, w, cpI, rfl, nI, hrp⟩ := chkRi_ok g hri
                          obtain ⟨cx, p3, ap3, cp3, j1, j2, c1, c2, rfl, pe3, hyz, hl3⟩ := chkRp_ok g hrp
                          have hpt : (τ.set pt (.own .F))[pt]? = some (.own .F) := by rw [List.getElem?_set_self h3]
                          obtain ⟨tb, pb, ob⟩ := dstt_appR (T := { T with nx := τ.set pt (.own .F), brk := τ.set pt .gone, cnt := τ.set pt .gone }) (W := W) (p3 := ps2) pe2 pe3 nI hl2 hl3 hyz hlf hpt
                          have sem := sem_if (T := { T with nx := τ.set pt (.own .F), brk := τ.set pt .gone, cnt := τ.set pt .gone }) (W := W) oc oa ob
                          have drop : ∀ {f : SF}, StOk X c (τ.set pt (.own .F)) { T with nx := τ.set pt (.own .F), brk := τ.set pt .gone, cnt := τ.set pt .gone } W (tIfS tc ta tb) f → StOk X c (τ.set pt (.own .F)) { T with nx := τ.set pt .gone, brk := τ.set pt .gone, cnt := τ.set pt .gone } W (tIfS tc ta tb) f := by
                            intro f hf hs G σ H ρ D k q
                            refine hf hs G σ H ρ D k ?_
                            cases e : f ρ with
                            | nx ρ1 =>
                              rw [e] at q
                              exact fun G' σ' H' k' s => q G' σ' H' (by have := k'.forget pt; rwa [List.set_set] at this) s
                            | ret d => rw [e] at q; exact q
                            | brk ρ1 => rw [e] at q; exact q
                            | cnt ρ1 => rw [e] at q; exact q
                            | exc e2 ρ1 => rw [e] at q; exact q
                            | no => rw [e] at q; exact q
                          have sf := sem_for (T := { T with nx := τ.set pt .gone }) (W := W) ow og (drop sem)
                          refine ⟨_, ps_forT g.pas (g.calm h1) pw pg (CwR.psst_one (CwR.pst_if pc (PSsT.of (pss_one pa)) (CwR.psst_one pb))) (fun x => rfl), fun hs G σ H ρ Dn k q => ?_⟩
                          refine sf hs G σ H ρ Dn (k.forget pt) ?_
                          have e : ex Φ (.forR pt ps d r A B) ρ = (match (ev Φ (.var ps) ρ).bind cutD with
                            | some xs => forL (bindT (.s pt)) (fun ρ => match (ev Φ (.cmp .inn (.var pt) (.var d)) ρ).bind truth with
                              | some true => ofO (((ev Φ (.idx (.var d) (.var pt)) ρ).bind fun x => (some []).map fun xs => x :: xs).bind fun ds => (some []).bind fun ps => (ρ[r]?).bind fun d => (atPath (mutV .append ds) ps d).map fun d' => ρ.set r d')
                              | some false => appRV r pt A B ρ
                              | none => .no) xs ρ
                            | none => .no) := by
                            show (match (ρ[ps]?).bind cutD with | some xs => forL (bindT (.s pt)) (repB pt d r A B) xs ρ | none => .no) = _
                            have eb : repB pt d r A B = (fun ρ => match (ev Φ (.cmp .inn (.var pt) (.var d)) ρ).bind truth with
                              | some true => ofO (((ev Φ (.idx (.var d) (.var pt)) ρ).bind fun x => (some []).map fun xs => x :: xs).bind fun ds => (some []).bind fun ps => (ρ[r]?).bind fun d => (atPath (mutV .append ds) ps d).map fun d' => ρ.set r d')
                              | some false => appRV r pt A B ρ
                              | none => .no) := by
                              funext ρ
                              show (match (ρ[pt]?).bind fun x => (ρ[d]?).bind fun y => dCmp .inn x y with | some true => appDV r pt d ρ | some false => appRV r pt A B ρ | none => .no) = match (((ρ[pt]?).bind fun x => (ρ[d]?).bind fun y => (dCmp .inn x y).map .bl).bind truth) with | some true => _ | some false => appRV r pt A B ρ | none => .no
                              have e1 : (((ρ[pt]?).bind fun x => (ρ[d]?).bind fun y => (dCmp .inn x y).map D.bl).bind truth) = ((ρ[pt]?).bind fun x => (ρ[d]?).bind fun y => dCmp .inn x y) := by
                                cases ρ[pt]? with
                                | none => rfl
                                | some a => cases ρ[d]? with
                                  | none => rfl
                                  | some b =>
                                    show ((dCmp .inn a b).map D.bl).bind truth = dCmp .inn a b
                                    cases dCmp .inn a b <;> rfl
                              rw [e1]
                              cases ((ρ[pt]?).bind fun x => (ρ[d]?).bind fun y => dCmp .inn x y) with
                              | none => rfl
                              | some b =>
                                cases b with
                                | false => rfl
                                | true =>
                                  show appDV r pt d ρ = _
                                  unfold appDV
                                  show _ = ofO ((((ρ[d]?).bind fun x => (ρ[pt]?).bind fun y => dIdx x y).bind fun x => (some []).map fun xs => x :: xs).bind fun ds => (some []).bind fun ps => (ρ[r]?).bind fun d => (atPath (mutV .append ds) ps d).map fun d' => ρ.set r d')
                                  cases ((ρ[d]?).bind fun x => (ρ[pt]?).bind fun y => dIdx x y) <;> rfl
                            rw [eb]; rfl
                          rw [e] at q
                          exact q
                        · cases h
                      · cases h
                    · cases h
                  · cases h
                · cases h
              · cases h
            · cases h
          · cases h
        · cases h
      · cases h
    · cases h
  | .ifs cnd a b => fun S X c W ret τ st o g tk h T hT hF => by
    unfold chkS at h
    split at h
    · rename_i x sa sb pos
      split at h
      · rename_i hc
        split at h
        · rename_i o1 o2 h1 h2
          split at h
          · rename_i hl
            obtain ⟨hl, l4⟩ := and2 hl
            obtain ⟨l1, l2, l3⟩ := and3 hl
            cases h
            obtain ⟨f1, f2⟩ := hF
            refine (dst_if ((inf_ok cnd S X c τ x g).2 hc) (chkB_ok a S X c W ret τ sa o1 g tk h1 T hT (leE_fit l1 (leOO_t l3 f1) f2)) (chkB_ok b S X c W ret τ sb o2 g tk h2 T hT (leE_fit l2 (leOO_t l4 f1) f2))).congr ?_
            funext ρ
            show _ = match (ev Φ cnd ρ).bind truth with | some true => exs Φ a ρ | some false => exs Φ b ρ | none => .no
            cases (ev Φ cnd ρ).bind truth with
            | none => rfl
            | some r => cases r <;> rfl
          · cases h
        · cases h
      · cases h
    · cases h
  | .for_ tg k as body => fun S X c W ret τ st o g tk h T hT hF => by
    unfold chkS at h
    split at h
    · split at h
      · rename_i tgE iter sts els pos
        split at h
        · rename_i τ1 hw
          dsimp only at h
          generalize iterInv (fun t => (chkG S tg .F t tgE).bind fun t2 => chkB S ret t2 body sts) 6 τ1 = inv at h
          split at h
          · rename_i hb
            obtain ⟨h1, h2⟩ := and2 hb
            obtain ⟨hcm, h1⟩ := and2 h1
            split at h
            · rename_i τ2 hg
              split at h
              · rename_i o2 hbo
                split at h
                · rename_i hl
                  obtain ⟨l1, l2, l3⟩ := and3 hl
                  cases h
                  obtain ⟨f1, f2, f3, f4⟩ := hF
                  refine DSt.toNx (τ' := inv) f1 ?_
                  have dw := (wk_ok (tgE := tgE) (c := c) g (inf1_ok as S X c τ iter g) (fun hr xs ex hn => infLR_ok as S X c τ xs g hn (by rw [ex] at hr; exact hr)) (fun {xs ts τ'} ex hn ho => infLO_ok as S X c τ xs ts τ' g hn (by rw [← ex]; exact ho)) hw).le h2
                  have db := chkB_ok body S X c W ret τ2 sts o2 g tk hbo { T with nx := inv, brk := inv, cnt := inv } hT ⟨l1, l2, l3, f4⟩
                  obtain ⟨ts, p, oo⟩ := dst_for (T := { T with nx := inv }) g.pas (g.calm hcm) dw (chkG_ok g tg .F inv τ2 tgE hg) db (noSet_of h1)
                  exact ⟨ts, p, oo⟩
                · cases h
              · cases h
            · cases h
          · cases h
        · cases h
      · cases h
    · cases h
  | .whl n cnd body => fun S X c W ret τ st o g tk h T hT hF => by
    unfold chkS at h
    split at h
    · rename_i x sts els pos
      split at h
      · dsimp only at h
        generalize iterInv (fun t => chkB S ret t body sts) 6 τ = inv at h
        split at h
        · rename_i hb
          obtain ⟨h1, h2⟩ := and2 hb
          split at h
          · rename_i o2 hbo
            split at h
            · rename_i hl
              obtain ⟨l1, l2, l3⟩ := and3 hl
              cases h
              obtain ⟨f1, f2, f3, f4⟩ := hF
              refine DSt.toNx (τ' := inv) f1 (DSt.pre h1 ?_)
              exact dst_while (T := { T with nx := inv }) g.pas ((inf_ok cnd S X c inv x g).2 h2) (chkB_ok body S X c W ret inv sts o2 g tk hbo { T with nx := inv, brk := inv, cnt := inv } hT ⟨l1, l2, l3, f4⟩)
            · cases h
          · cases h
        · cases h
      · cases h
    · cases h
  | .ret m => fun S X c W ret τ st o g tk h T hT hF => by
    unfold chkS at h
    split at h
    · rename_i e pos
      split at h
      · rename_i τ' h1
        cases h
        subst hT
        exact dst_ret (owT_ok (inf_ok m S X c τ e g).1 h1)
      · cases h
    · cases h
  | .retN => fun S X c W ret τ st o g tk h T hT hF => by
    unfold chkS at h
    split at h
    · exact dst_retN
    · cases h
  | .brk => fun S X c W ret τ st o g tk h T hT hF => by
    unfold chkS at h
    split at h
    · cases h
      exact DSt.pre hF.2.1 dst_brk
    · cases h
  | .cnt => fun S X c W ret τ st o g tk h T hT hF => by
    unfold chkS at h
    split at h
    · cases h
      exact DSt.pre hF.2.2.1 dst_cnt
    · cases h
  | .fz _ => fun S X c W ret τ st o g tk h T hT hF => by unfold chkS at h; cases h
  | .pss => fun S X c W ret τ st o g tk h T hT hF => by
    unfold chkS at h
    split at h
    · cases h
      exact DSt.toNx (fit_nx hF) (dst_pass (T := { T with nx := τ }))
    · cases h
termination_by m => sizeOf m
theorem chkB_ok : ∀ ms : List MS, BlIn kR Φ ms
  | [] => fun S X c W ret τ sts o g tk h T hT hF => by
    unfold chkB at h
    split at h
    · cases h
      exact DSs.pre (fit_nx hF) dss_nil
    · cases h
  | m :: ms => fun S X c W ret τ sts o g tk h T hT hF => by
    unfold chkB at h
    split at h
    · rename_i τ0 hz
      cases m with
      | fz i =>
        unfold fzOf at hz
        dsimp only at hz
        split at hz
        · rename_i t ht
          cases hz
          exact dss_fz ht (chkB_ok ms S X c W ret _ sts o g tk h T hT hF)
        · cases hz
      | _ => cases hz
    · split at h
      · rename_i st sts
        split at h
        · rename_i o1 h1
          split at h
          · rename_i hn
            split at h
            · cases h
              rw [exs_cons]
              refine (dss_one (chkS_ok m S X c W ret τ st o g tk h1 T hT hF)).congr ?_
              funext ρ
              show ex Φ m ρ = seqR (exs Φ []) (ex Φ m ρ)
              cases ex Φ m ρ <;> rfl
            · cases h
          · rename_i τ1 hn
            split at h
            · rename_i o2 h2
              split at h
              · rename_i hl
                obtain ⟨l1, l2⟩ := and2 hl
                cases h
                obtain ⟨f1, f2⟩ := hF
                rw [exs_cons]
                exact dss_cons (τ' := τ1) (chkS_ok m S X c W ret τ st o1 g tk h1 { T with nx := τ1 } hT (leE_fit l1 (by rw [hn]; exact lesB_refl _) f2)) (chkB_ok ms S X c W ret τ1 sts o2 g tk h2 T hT (leE_fit l2 f1 f2))
              · cases h
            · cases h
        · cases h
      · cases h
termination_by ms => sizeOf ms
end
end
end My

set_option Elab.async false
set_option linter.all false
set_option maxRecDepth 100000
/-! From the checked text to the law. -/
namespace My
open PySem PySem.Spec PyProof.Rows L2
theorem leO_getD (a : Option (List Slot)) : leO a (a.getD []) = true := by
  cases a with
  | none => rfl
  | some x => exact lesB_refl x
theorem Callee.mono {P : Program} {w : World} {K : PySem.W.Frag} {mg : Str → Option Value} {base : Heap} {j k : Nat} {x : Str} {ps : List (Option Ty)} {t : Ty} {m : List D → RF} (C : Callee P w K mg base j x ps t m) (h : j ≤ k) : Callee P w K mg base k x ps t m := by
  obtain ⟨CX, f, fd, pn, F, r⟩ := C.ex
  exact ⟨CX, f, fd, pn, F.mono h, r⟩
section
variable {P : Program} {w : World} {K : PySem.W.Frag} {mg : Str → Option Value} {base : Heap}
/-- what is given of a def: its object, its parameters -/
structure DefIn (K : PySem.W.Frag) (mg : Str → Option Value) (x qual : Str) (st : Stmt) (f : Addr) (N pn : List Str) : Prop where
  F : ∃ fd, Fun K x qual st f fd ∧ Binds K fd pn []
  S : FnScope N pn (defScope st)
  mg : mg x = some (.ref f)
/-- a def whose text is checked -/
theorem callee_mk {S : Syn} {Φ : Tab} {ms : List MS} {o : Exits} {x qual : Str} {st : Stmt} {f : Addr} {N pn : List Str} {k : Nat} {ps : List (Option Ty)} {t : Ty} (D : DefIn K mg x qual st f N pn) (hl : ps.length = pn.length) (hN : pn.length ≤ N.length) (eN : S.N = N) (eS : S.sc = defScope st) (eC : S.calm = true)
    (fns : ∀ j g, S.fns[j]? = some g → Callee P w K mg base k g.x g.ps g.t (Φ.fn j)) (gls : ∀ j y, S.gls[j]? = some y → ∃ v u, mg y = some u ∧ RelV v u ∧ ∀ G, Fz K G v (Φ.gl j)) (bns : ∀ y ∈ S.bns, mg y = none) (tups : ∀ p ∈ S.tups, KTup K mg p.1 p.2) (tabs : ∀ p ∈ S.tabs, KTab K w mg p.1 p.2) (excs : ∀ y ∈ S.excs, ∃ D, ExcF K mg y D) (subs : SubF K mg Φ.sub) (cats : ∀ y ∈ S.cats, CatF K mg Φ.sub y)
    (chk : chkB S t (slots0 N.length ps) ms (defBody st) = some o) : Callee P w K mg base (k + 1) x ps t (runR N.length fun ρ => exs Φ ms ρ) := by
  obtain ⟨fd, F, hb⟩ := D.F
  refine callee_of (τn := o.nx.getD []) (τb := o.brk.getD []) (τc := o.cnt.getD []) (τe := o.exc.getD []) F D.S D.mg hb hl hN fun c cdv A outer s H E hr => ?_
  refine chkB_ok (kR := k) (Φ := Φ) ms S _ c _ t _ _ o ?_ (fun _ => takes_of rfl rfl rfl rfl) chk _ rfl ⟨leO_getD _, leO_getD _, leO_getD _, leO_getD _⟩
  exact { N := eN.symm, sc := eS.symm, nd := D.S.nd, kind := D.S.kind, calm := fun _ => rfl, pas := passes_of rfl, fn := fun _ _ => rfl, units := hr.units, room := fun _ => hr, fns := fns, gls := gls, bns := bns, tups := tups, tabs := tabs, exi := (fun h => absurd h (by rw [eC]; decide)), excs := excs, subs := subs, cats := cats, stk := fun _ => ⟨rfl, rfl⟩ }
theorem fn_mk {S : Syn} {Φ : Tab} {ms : List MS} {o : Exits} {x qual : Str} {st : Stmt} {f : Addr} {N pn : List Str} {k : Nat} {ps : List (Option Ty)} {t : Ty} {fd : FuncData} (F : Fun K x qual st f fd) (hb : Binds K fd pn []) (SF : FnScope N pn (defScope st)) (hm : mg x = some (.ref f)) (hl : ps.length = pn.length) (hN : pn.length ≤ N.length) (eN : S.N = N) (eS : S.sc = defScope st) (eC : S.calm = true)
    (fns : ∀ j g, S.fns[j]? = some g → Callee P w K mg base k g.x g.ps g.t (Φ.fn j)) (gls : ∀ j y, S.gls[j]? = some y → ∃ v u, mg y = some u ∧ RelV v u ∧ ∀ G, Fz K G v (Φ.gl j)) (bns : ∀ y ∈ S.bns, mg y = none) (tups : ∀ p ∈ S.tups, KTup K mg p.1 p.2) (tabs : ∀ p ∈ S.tabs, KTab K w mg p.1 p.2) (excs : ∀ y ∈ S.excs, ∃ D, ExcF K mg y D) (subs : SubF K mg Φ.sub) (cats : ∀ y ∈ S.cats, CatF K mg Φ.sub y)
    (chk : chkB S t (slots0 N.length ps) ms (defBody st) = some o) : FnOk P w K mg base (L2.CX P w) (k + 1) f fd pn (spD K mg ps t (runR N.length fun ρ => exs Φ ms ρ)) := by
  refine fnok_of (τn := o.nx.getD []) (τb := o.brk.getD []) (τc := o.cnt.getD []) (τe := o.exc.getD []) F SF hm hb hl hN fun c cdv A outer s H E hr => ?_
  refine chkB_ok (kR := k) (Φ := Φ) ms S _ c _ t _ _ o ?_ (fun _ => takes_of rfl rfl rfl rfl) chk _ rfl ⟨leO_getD _, leO_getD _, leO_getD _, leO_getD _⟩
  exact { N := eN.symm, sc := eS.symm, nd := SF.nd, kind := SF.kind, calm := fun _ => rfl, pas := passes_of rfl, fn := fun _ _ => rfl, units := hr.units, room := fun _ => hr, fns := fns, gls := gls, bns := bns, tups := tups, tabs := tabs, exi := (fun h => absurd h (by rw [eC]; decide)), excs := excs, subs := subs, cats := cats, stk := fun _ => ⟨rfl, rfl⟩ }
end
/-- what the law's def is asked: a frozen list of whole numbers -/
theorem fzL_ints {K : PySem.W.Frag} {G : Hp} : ∀ ns : List Int, FzL K G (ns.map V.int) (ns.map D.int)
  | [] => .nil
  | n :: ns => .cons (.flat (d := .int n) rfl) (fzL_ints ns)
theorem R.bl {K : PySem.W.Frag} {G H : Hp} {t : Ty} {v : V} {b : Bool} {fp : List Addr} (h : R K G H t v (.bl b) fp) : v = .bl b := by
  cases h with
  | flat h => rfl
  | F h => cases h with | flat h => rfl
theorem my_walk {l : PySem.W.OpenLaw} {n k : Nat} {q : Program} {loose : List Str} {XP : (Str → Option Value) → Heap → Prop} {YP : World → Heap → Prop} {d : DefRec} {K : Params → PySem.W.Frag} {x : Str} {t : Ty} {m : List D → RF}
    (hn : l.most = some n) (hn2 : n ≤ sizeLine) (hdf : d.params.defaults = []) (hr : Room k callerA) (hY : ∀ (w : World) (h : Heap), YP w h → (K w.params).In h)
    (F : ∀ (w : World) (mg : Str → Option Value) (fa : Addr) (h : Heap), (K w.params).In h → h.Ns mainGlobals mg → mg d.name = some (.ref fa) →
      ∃ fd : FuncData, (∀ (s : Shared) (u : Value), BindsTo s fd ⟨[u], []⟩ [(x, u)]) ∧ ∀ base : Heap, (K w.params).In base → base.Ns mainGlobals mg → FnOk l.prog w (K w.params) mg base (L2.CX l.prog w) k fa fd [x] (spD (K w.params) mg [none] t m))
    (law : ∀ ns : List Int, ns.length ≤ n → (∀ i ∈ ns, Builtin.Int.intBits i ≤ 1048576) → m [.lst (ns.map D.int)] = .ret (.bl true)) :
    PySem.W.WalkO q loose XP YP l.row.toRowW d [] (fun f vs => PySem.call f vs) := by
  refine Att.attach_callB hn hdf fun w s₀ s₁ mg mb fa o pm cd doc a vs ns G Y ho hd hcd hmg hobj hints hlen hbits hg => ?_
  have KX := hY w _ Y
  obtain ⟨fd, hb, hF⟩ := F w mg fa _ KX G.T.g hmg
  refine law_call KX G.T.g G.T.b G.T.builtins G.T.nolimit hg hobj hints (Nat.le_trans hlen hn2) hr hF hb (fun H hO hS => ?_) fun H e s' h => ?_
  · have sk : SqK (K w.params) H a (ns.map V.int) := by
      rcases hS with h | ⟨ob, its, nn, e, _, _, ed, z, r⟩
      · exact .inl h
      · have e2 := KX a ob e
        rw [hobj] at e2
        cases e2
        have ed : Data.seq vs.toArray = Data.seq its nn := ed
        cases ed
        exact .inr ⟨_, _, e, z, r⟩
    refine ⟨H, [.lst (ns.map D.int)], Same.refl _, .fz (.lst sk (fzL_ints ns)) .nil, ?_⟩
    rw [law ns hlen hbits]
    exact fun G' H' v fp _ r _ _ => r.bl
  · obtain ⟨_, _, _, _, _, _, _, _, _, _, _, _, z⟩ := h
    exact z
end My

set_option Elab.async false
set_option linter.all false
set_option maxRecDepth 100000
/-! Laws of the plain side. -/
namespace My
open PySem L2
/-- a loop keeps what each of its turns keeps -/
theorem forL_inv {bind : D → List D → Option (List D)} {body : List D → RS} (I : List D → Prop) : ∀ {xs : List D}, (∀ x ∈ xs, ∀ ρ, I ρ → ∃ ρ1 ρ2, bind x ρ = some ρ1 ∧ (body ρ1 = .nx ρ2 ∨ body ρ1 = .cnt ρ2) ∧ I ρ2) → ∀ {ρ}, I ρ → ∃ ρ', forL bind body xs ρ = .nx ρ' ∧ I ρ'
  | [], _, ρ, i => ⟨ρ, rfl, i⟩
  | x :: xs, h, ρ, i => by
    obtain ⟨ρ1, ρ2, e1, e2, i2⟩ := h x List.mem_cons_self ρ i
    obtain ⟨ρ3, e3, i3⟩ := forL_inv I (xs := xs) (fun y m => h y (List.mem_cons_of_mem _ m)) i2
    refine ⟨ρ3, ?_, i3⟩
    unfold forL
    rw [e1]
    show contL (body ρ1) (forL bind body xs) = _
    rcases e2 with e2 | e2 <;> rw [e2] <;> exact e3
/-- .. with the number of turns done -/
theorem forL_ix {bind : D → List D → Option (List D)} {body : List D → RS} (I : Nat → List D → Prop) {ys : List D} : ∀ {xs : List D} {n : Nat}, ys.drop n = xs → (∀ i x, ys[i]? = some x → ∀ ρ, I i ρ → ∃ ρ1 ρ2, bind x ρ = some ρ1 ∧ (body ρ1 = .nx ρ2 ∨ body ρ1 = .cnt ρ2) ∧ I (i + 1) ρ2) → ∀ {ρ}, I n ρ → ∃ ρ', forL bind body xs ρ = .nx ρ' ∧ I (n + xs.length) ρ'
  | [], n, _, _, ρ, i => ⟨ρ, rfl, i⟩
  | x :: xs, n, e, h, ρ, i => by
    have ex : ys[n]? = some x := by
      have := congrArg (·[0]?) e
      simpa using this
    obtain ⟨ρ1, ρ2, e1, e2, i2⟩ := h n x ex ρ i
    obtain ⟨ρ3, e3, i3⟩ := forL_ix I (xs := xs) (n := n + 1) (by
      have := congrArg List.tail e
      simpa using this) h i2
    refine ⟨ρ3, ?_, by rw [List.length_cons, show n + (xs.length + 1) = n + 1 + xs.length by omega]; exact i3⟩
    unfold forL
    rw [e1]
    show contL (body ρ1) (forL bind body xs) = _
    rcases e2 with e2 | e2 <;> rw [e2] <;> exact e3
theorem cut_mem {α : Type} {xs : List α} {lo hi : Option Int} {x : α} (h : x ∈ cut xs lo hi) : x ∈ xs := List.mem_of_mem_drop (List.mem_of_mem_take h)
theorem cut_len {α : Type} (xs : List α) (lo hi : Option Int) : (cut xs lo hi).length ≤ xs.length := by
  unfold cut
  rw [List.length_take, List.length_drop]
  omega
theorem cut_map {α β : Type} (f : α → β) (xs : List α) (lo hi : Option Int) : cut (xs.map f) lo hi = (cut xs lo hi).map f := by
  unfold cut
  rw [List.length_map, List.map_take, List.map_drop]
/-- what is left of a statement's answer for the def -/
def endR : RS → RF
  | .nx _ => .ret .non
  | .ret d => .ret d
  | .exc e _ => .exc e
  | _ => .no
theorem runR_eq (n : Nat) (fb : SF) (args : List D) : runR n fb args = endR (fb (args ++ List.replicate (n - args.length) .non)) := by
  unfold runR endR
  cases fb (args ++ List.replicate (n - args.length) .non) <;> rfl
theorem exs_nil (Φ : Tab) (ρ : Env) : exs Φ [] ρ = .nx ρ := rfl
theorem exs_cons' (Φ : Tab) (s : MS) (ss : List MS) (ρ : Env) : exs Φ (s :: ss) ρ = seqR (exs Φ ss) (ex Φ s ρ) := by rw [exs_cons]
@[simp] theorem seqR_nx (f : SF) (ρ : Env) : seqR f (.nx ρ) = f ρ := rfl
@[simp] theorem seqR_ret (f : SF) (d : D) : seqR f (.ret d) = .ret d := rfl
@[simp] theorem seqR_brk (f : SF) (ρ : Env) : seqR f (.brk ρ) = .brk ρ := rfl
@[simp] theorem seqR_cnt (f : SF) (ρ : Env) : seqR f (.cnt ρ) = .cnt ρ := rfl
section
variable {Φ : Tab} {ρ : Env} {a b c e : ME} {es : List ME} {o o' : BOp} {i j : Int}
@[simp] theorem ev_cst {d : D} : ev Φ (.cst d) ρ = some d := rfl
@[simp] theorem ev_var {i : Nat} : ev Φ (.var i) ρ = ρ[i]? := rfl
@[simp] theorem ev_mov {i : Nat} : ev Φ (.mov i) ρ = ρ[i]? := rfl
@[simp] theorem ev_frz {i : Nat} : ev Φ (.frz i) ρ = ρ[i]? := rfl
@[simp] theorem ev_frzE : ev Φ (.frzE a) ρ = ev Φ a ρ := rfl
@[simp] theorem ev_glob {i : Nat} : ev Φ (.glob i) ρ = some (Φ.gl i) := rfl
@[simp] theorem ev_bin : ev Φ (.bin o a b) ρ = (ev Φ a ρ).bind fun x => (ev Φ b ρ).bind fun y => dBin o x y := rfl
def dNeg : D → Option D
  | .int i => some (.int (-i))
  | _ => none
@[simp] theorem ev_neg : ev Φ (.neg a) ρ = (ev Φ a ρ).bind dNeg := rfl
@[simp] theorem dNeg_int : dNeg (.int i) = some (.int (-i)) := rfl
@[simp] theorem ev_cmp {o : COp} : ev Φ (.cmp o a b) ρ = (ev Φ a ρ).bind fun x => (ev Φ b ρ).bind fun y => (dCmp o x y).map .bl := rfl
@[simp] theorem ev_chain {o o' : COp} : ev Φ (.chain o o' a b c) ρ = (ev Φ a ρ).bind fun x => (ev Φ b ρ).bind fun y => (dCmp o x y).bind fun r => if r then (ev Φ c ρ).bind fun z => (dCmp o' y z).map .bl else some (.bl false) := rfl
@[simp] theorem ev_not : ev Φ (.notE a) ρ = ((ev Φ a ρ).bind truth).map fun b => .bl (!b) := rfl
@[simp] theorem ev_boolE {op : Bool} : ev Φ (.boolE op es) ρ = evB Φ op es ρ := rfl
@[simp] theorem ev_ife : ev Φ (.ife c a b) ρ = ((ev Φ c ρ).bind truth).bind fun t => if t then ev Φ a ρ else ev Φ b ρ := rfl
@[simp] theorem ev_idx : ev Φ (.idx a b) ρ = (ev Φ a ρ).bind fun x => (ev Φ b ρ).bind fun y => dIdx x y := rfl
@[simp] theorem ev_slc {lo hi : Option ME} : ev Φ (.slc a lo hi) ρ = (ev Φ a ρ).bind fun x => (evO Φ lo ρ).bind fun l => (evO Φ hi ρ).bind fun h => dSlc x l h := rfl
@[simp] theorem ev_tupE : ev Φ (.tupE es) ρ = (evs Φ es ρ).map .tup := rfl
@[simp] theorem ev_lstE {t : Ty} : ev Φ (.lstE t es) ρ = (evs Φ es ρ).map .lst := rfl
@[simp] theorem ev_dctE {kt : List (Key × Ty)} {t : Ty} {ks vs : List ME} : ev Φ (.dctE kt t ks vs) ρ = (evs Φ ks ρ).bind fun k => (evs Φ vs ρ).bind fun v => (mkDct k v).map fun r => .dct (mergeD [] r) := rfl
@[simp] theorem ev_bi {f : BI} : ev Φ (.bi f es) ρ = (evs Φ es ρ).bind (biV f) := rfl
@[simp] theorem ev_call {k : Nat} : ev Φ (.call k es) ρ = (evs Φ es ρ).bind fun ds => retOf (Φ.fn k ds) := rfl
/-- a comprehension's items -/
def compR (Φ : Tab) (elt : ME) (tg : Tg) (cond : Option ME) (ρ : Env) (xs : List D) : Option (List D) := compL (bindT tg) (fun ρ => evC Φ cond ρ) (fun ρ => ev Φ elt ρ) ρ xs
@[simp] theorem ev_comp {elt : ME} {tg : Tg} {own : List Nat} {k : SrcK} {cond : Option ME} : ev Φ (.comp elt tg own k es cond) ρ = (evs Φ es ρ).bind fun ds => (srcItems k ds).bind fun xs => if xs.length ≤ mx then (compR Φ elt tg cond ρ xs).map .lst else none := rfl
theorem compR_nil {elt : ME} {tg : Tg} {cond : Option ME} : compR Φ elt tg cond ρ [] = some [] := rfl
theorem compR_yes {elt : ME} {tg : Tg} {cond : Option ME} {x y : D} {xs : List D} {ρ1 : Env} (h1 : bindT tg x ρ = some ρ1) (h2 : evC Φ cond ρ1 = some true) (h3 : ev Φ elt ρ1 = some y) : compR Φ elt tg cond ρ (x :: xs) = (compR Φ elt tg cond ρ xs).map (y :: ·) := by
  show (bindT tg x ρ).bind (fun ρ1 => (evC Φ cond ρ1).bind fun b => if b then (ev Φ elt ρ1).bind fun y => (compR Φ elt tg cond ρ xs).map (y :: ·) else compR Φ elt tg cond ρ xs) = _
  rw [h1]
  show (evC Φ cond ρ1).bind _ = _
  rw [h2]
  show (ev Φ elt ρ1).bind _ = _
  rw [h3]; rfl
theorem compR_no {elt : ME} {tg : Tg} {cond : Option ME} {x : D} {xs : List D} {ρ1 : Env} (h1 : bindT tg x ρ = some ρ1) (h2 : evC Φ cond ρ1 = some false) : compR Φ elt tg cond ρ (x :: xs) = compR Φ elt tg cond ρ xs := by
  show (bindT tg x ρ).bind (fun ρ1 => (evC Φ cond ρ1).bind fun b => if b then (ev Φ elt ρ1).bind fun y => (compR Φ elt tg cond ρ xs).map (y :: ·) else compR Φ elt tg cond ρ xs) = _
  rw [h1]
  show (evC Φ cond ρ1).bind _ = _
  rw [h2]; rfl
theorem compR_map {elt : ME} {tg : Tg} {cond : Option ME} (g : D → D) : ∀ {xs : List D}, (∀ x ∈ xs, ∃ ρ1, bindT tg x ρ = some ρ1 ∧ evC Φ cond ρ1 = some true ∧ ev Φ elt ρ1 = some (g x)) → compR Φ elt tg cond ρ xs = some (xs.map g)
  | [], _ => rfl
  | x :: xs, h => by
    obtain ⟨ρ1, h1, h2, h3⟩ := h x List.mem_cons_self
    rw [compR_yes h1 h2 h3, compR_map g fun y m => h y (List.mem_cons_of_mem _ m)]; rfl
/-- some of them, told by a plain list's items -/
theorem compR_flt {α : Type} {elt : ME} {tg : Tg} {cond : Option ME} (f : α → D) (p : α → Bool) (g : α → D) : ∀ {xs : List α}, (∀ x ∈ xs, ∃ ρ1, bindT tg (f x) ρ = some ρ1 ∧ evC Φ cond ρ1 = some (p x) ∧ (p x = true → ev Φ elt ρ1 = some (g x))) → compR Φ elt tg cond ρ (xs.map f) = some ((xs.filter p).map g)
  | [], _ => rfl
  | x :: xs, h => by
    obtain ⟨ρ1, h1, h2, h3⟩ := h x List.mem_cons_self
    have ih := compR_flt f p g (xs := xs) fun y m => h y (List.mem_cons_of_mem _ m)
    rw [List.map_cons]
    cases hp : p x with
    | true => rw [compR_yes h1 (h2.trans (by rw [hp])) (h3 hp), ih, List.filter_cons_of_pos hp]; rfl
    | false => rw [compR_no h1 (h2.trans (by rw [hp])), ih, List.filter_cons_of_neg (by rw [hp]; decide)]
/-- each of them, told by a plain list's items -/
theorem compR_all {α : Type} {elt : ME} {tg : Tg} {cond : Option ME} (f : α → D) (g : α → D) {xs : List α} (h : ∀ x ∈ xs, ∃ ρ1, bindT tg (f x) ρ = some ρ1 ∧ evC Φ cond ρ1 = some true ∧ ev Φ elt ρ1 = some (g x)) : compR Φ elt tg cond ρ (xs.map f) = some (xs.map g) := by
  have := compR_flt (Φ := Φ) (ρ := ρ) (elt := elt) (tg := tg) (cond := cond) f (fun _ => true) g (xs := xs) fun x m => let ⟨ρ1, h1, h2, h3⟩ := h x m; ⟨ρ1, h1, h2, fun _ => h3⟩
  rwa [List.filter_eq_self.mpr fun _ _ => rfl] at this
@[simp] theorem evs_nil : evs Φ [] ρ = some [] := rfl
@[simp] theorem evs_cons : evs Φ (e :: es) ρ = (ev Φ e ρ).bind fun x => (evs Φ es ρ).map fun xs => x :: xs := rfl
@[simp] theorem evB_one {op : Bool} : evB Φ op [e] ρ = ev Φ e ρ := by
  show (ev Φ e ρ).bind (fun x => some x) = _
  cases ev Φ e ρ <;> rfl
@[simp] theorem evB_cons {op : Bool} {e' : ME} : evB Φ op (e :: e' :: es) ρ = (ev Φ e ρ).bind fun x => (truth x).bind fun t => if t == op then evB Φ op (e' :: es) ρ else some x := rfl
@[simp] theorem evO_none : evO Φ none ρ = some none := rfl
@[simp] theorem evO_some : evO Φ (some e) ρ = (ev Φ e ρ).map some := rfl
@[simp] theorem evC_none : evC Φ none ρ = some true := rfl
@[simp] theorem evC_some : evC Φ (some e) ρ = (ev Φ e ρ).bind truth := rfl
@[simp] theorem retOf_ret {d : D} : retOf (.ret d) = some d := rfl
@[simp] theorem truth_non : truth .non = some false := rfl
@[simp] theorem truth_blS {b : Bool} : truth (.bl b) = some b := rfl
@[simp] theorem truth_int : truth (.int i) = some (i != 0) := rfl
@[simp] theorem truth_lst {xs : List D} : truth (.lst xs) = some (!xs.isEmpty) := rfl
@[simp] theorem truth_tup {xs : List D} : truth (.tup xs) = some (!xs.isEmpty) := rfl
@[simp] theorem dBin_add : dBin .add (.int i) (.int j) = some (.int (i + j)) := rfl
@[simp] theorem dBin_sub : dBin .sub (.int i) (.int j) = some (.int (i - j)) := rfl
@[simp] theorem dBin_mul : dBin .mul (.int i) (.int j) = if mulOk i j then some (.int (i * j)) else none := rfl
@[simp] theorem dBin_div : dBin .div (.int i) (.int j) = if divOk j then some (.int (i / j)) else none := rfl
@[simp] theorem dBin_mod : dBin .mod (.int i) (.int j) = if 0 < j then some (.int (i % j)) else none := rfl
@[simp] theorem dBin_pow : dBin .pow (.int i) (.int j) = if powOk i j then some (.int (i ^ j.toNat)) else none := rfl
@[simp] theorem dBin_addS {x y : Str} : dBin .add (.str x) (.str y) = if x.length + y.length ≤ mx then some (.str (x ++ y)) else none := rfl
@[simp] theorem dBin_addL {x y : List D} : dBin .add (.lst x) (.lst y) = if x.length + y.length ≤ mx then some (.lst (x ++ y)) else none := rfl
@[simp] theorem dBin_addT {x y : List D} : dBin .add (.tup x) (.tup y) = if x.length + y.length ≤ mx then some (.tup (x ++ y)) else none := rfl
@[simp] theorem dBin_mulL {x : List D} : dBin .mul (.lst x) (.int i) = if -(2 ^ 62) ≤ i ∧ i < 2 ^ 62 ∧ x.length * i.toNat ≤ mx then some (.lst (reps x i.toNat)) else none := rfl
@[simp] theorem dBin_mulT {x : List D} : dBin .mul (.tup x) (.int i) = if x ≠ [] ∧ 0 ≤ i ∧ i ≤ 1000 ∧ x.length ≤ 1000 then some (.tup (reps x i.toNat)) else none := rfl
@[simp] theorem dCmp_eqI : dCmp .eq (.int i) (.int j) = some (decide (i = j)) := rfl
@[simp] theorem dCmp_neI : dCmp .ne (.int i) (.int j) = some (!decide (i = j)) := rfl
@[simp] theorem dCmp_eqS {x y : Str} : dCmp .eq (.str x) (.str y) = some (decide (x = y)) := rfl
@[simp] theorem dCmp_neS {x y : Str} : dCmp .ne (.str x) (.str y) = some (!decide (x = y)) := rfl
@[simp] theorem dCmp_eqB {x y : Bool} : dCmp .eq (.bl x) (.bl y) = some (x == y) := rfl
@[simp] theorem dCmp_neB {x y : Bool} : dCmp .ne (.bl x) (.bl y) = some (!(x == y)) := rfl
theorem dCmp_eq {x y : D} : dCmp .eq x y = if eqOk x y = true then some (deq x y) else if eqX x y = true then some (deq x y) else none := rfl
theorem dCmp_ne {x y : D} : dCmp .ne x y = if eqOk x y = true then some (!deq x y) else none := rfl
@[simp] theorem dCmp_lt : dCmp .lt (.int i) (.int j) = some (decide (i < j)) := rfl
@[simp] theorem dCmp_le : dCmp .le (.int i) (.int j) = some (decide (i ≤ j)) := rfl
@[simp] theorem dCmp_gt : dCmp .gt (.int i) (.int j) = some (decide (j < i)) := rfl
@[simp] theorem dCmp_ge : dCmp .ge (.int i) (.int j) = some (decide (j ≤ i)) := rfl
@[simp] theorem dCmp_is {x y : D} : dCmp .is x y = dIs x y := rfl
@[simp] theorem dCmp_isn {x y : D} : dCmp .isn x y = (dIs x y).map (!·) := rfl
@[simp] theorem dCmp_in {x y : D} : dCmp .inn x y = dIn x y := rfl
@[simp] theorem dCmp_nin {x y : D} : dCmp .nin x y = (dIn x y).map (!·) := rfl
@[simp] theorem dIs_nonI {i : Int} : dIs (.int i) .non = some false := rfl
@[simp] theorem dIs_nonB {i : Bool} : dIs (.bl i) .non = some false := rfl
@[simp] theorem dIs_nonS {i : Str} : dIs (.str i) .non = some false := rfl
@[simp] theorem dIs_nonN : dIs .non .non = some true := rfl
@[simp] theorem dIs_nonL {i : List D} : dIs (.lst i) .non = some false := rfl
@[simp] theorem dIs_nonT {i : List D} : dIs (.tup i) .non = some false := rfl
@[simp] theorem dIs_nonD {i : List (Key × D)} : dIs (.dct i) .non = some false := rfl
@[simp] theorem dIs_bl {x y : Bool} : dIs (.bl x) (.bl y) = some (x == y) := rfl
@[simp] theorem dIdx_lst' {xs : List D} : dIdx (.lst xs) (.int i) = atI xs i := rfl
@[simp] theorem dIdx_tup' {xs : List D} : dIdx (.tup xs) (.int i) = atI xs i := rfl
@[simp] theorem dSlc_n0 {x : D} : dSlc x none none = slcV x none none := rfl
@[simp] theorem dSlc_n1 {x : D} : dSlc x none (some (.int i)) = slcV x none (some i) := rfl
@[simp] theorem dSlc_n2 {x : D} : dSlc x (some (.int i)) none = slcV x (some i) none := rfl
@[simp] theorem dSlc_n3 {x : D} : dSlc x (some (.int i)) (some (.int j)) = slcV x (some i) (some j) := rfl
@[simp] theorem slcV_lst {xs : List D} {l h : Option Int} : slcV (.lst xs) l h = some (.lst (cut xs l h)) := rfl
@[simp] theorem slcV_tup {xs : List D} {l h : Option Int} : slcV (.tup xs) l h = some (.tup (cut xs l h)) := rfl
@[simp] theorem src_lst {xs : List D} : srcItems .seq [.lst xs] = some xs := rfl
@[simp] theorem src_tup {xs : List D} : srcItems .seq [.tup xs] = some xs := rfl
@[simp] theorem src_str {x : Str} : srcItems .seq [.str x] = some (x.cps.toList.map fun c => .str ⟨#[c]⟩) := rfl
@[simp] theorem src_r1 : srcItems .rng1 [.int i] = if inR i then some (ups 0 i.toNat) else none := rfl
@[simp] theorem src_r2 : srcItems .rng2 [.int i, .int j] = if inR i ∧ inR j then some (ups i (j - i).toNat) else none := rfl
@[simp] theorem src_enum {x : D} : srcItems .enum [x] = (seqOf x).map (enumFrom 0) := rfl
@[simp] theorem src_zip {x : Str} {y : D} : srcItems .zip [.str x, y] = (seqOf y).map fun ys => zipD (x.cps.toList.map fun c => .str ⟨#[c]⟩) ys := rfl
@[simp] theorem seqOf_lst {xs : List D} : seqOf (.lst xs) = some xs := rfl
@[simp] theorem seqOf_tup {xs : List D} : seqOf (.tup xs) = some xs := rfl
theorem bi_isi {T : TyN} {d : D} : biV (.isi [T]) [d] = if isHole d then none else some (.bl (isiV T d)) := by
  show (if isHole d then none else some (D.bl (isiV T d || false))) = _; rw [Bool.or_false]
@[simp] theorem bi_isiI {T : TyN} {i : Int} : biV (.isi [T]) [.int i] = some (.bl (isiV T (.int i))) := bi_isi
@[simp] theorem bi_isiB {T : TyN} {i : Bool} : biV (.isi [T]) [.bl i] = some (.bl (isiV T (.bl i))) := bi_isi
@[simp] theorem bi_isiS {T : TyN} {i : Str} : biV (.isi [T]) [.str i] = some (.bl (isiV T (.str i))) := bi_isi
@[simp] theorem bi_isiN {T : TyN} : biV (.isi [T]) [.non] = some (.bl (isiV T .non)) := bi_isi
@[simp] theorem bi_isiL {T : TyN} {i : List D} : biV (.isi [T]) [.lst i] = some (.bl (isiV T (.lst i))) := bi_isi
@[simp] theorem bi_isiT {T : TyN} {i : List D} : biV (.isi [T]) [.tup i] = some (.bl (isiV T (.tup i))) := bi_isi
@[simp] theorem bi_isiD {T : TyN} {i : List (Key × D)} : biV (.isi [T]) [.dct i] = some (.bl (isiV T (.dct i))) := bi_isi
@[simp] theorem isi_bb {b : Bool} : isiV .bool (.bl b) = true := rfl
@[simp] theorem isi_ii : isiV .int (.int i) = true := rfl
@[simp] theorem isi_bi : isiV .bool (.int i) = false := rfl
@[simp] theorem isi_ib {b : Bool} : isiV .int (.bl b) = true := rfl
@[simp] theorem isi_ss {x : Str} : isiV .str (.str x) = true := rfl
@[simp] theorem isi_tt {x : List D} : isiV .tuple (.tup x) = true := rfl
@[simp] theorem isi_ll {x : List D} : isiV .list (.lst x) = true := rfl
@[simp] theorem bi_lenL {xs : List D} : biV .len [.lst xs] = some (.int xs.length) := rfl
@[simp] theorem bi_lenT {xs : List D} : biV .len [.tup xs] = some (.int xs.length) := rfl
@[simp] theorem bi_lenS {x : Str} : biV .len [.str x] = if x.length ≤ mx then some (.int x.length) else none := rfl
@[simp] theorem bi_list1 {xs : List D} : biV .list [.lst xs] = some (.lst xs) := rfl
@[simp] theorem bi_list2 {xs : List D} : biV .list [.tup xs] = some (.lst xs) := rfl
@[simp] theorem bi_tup1 {xs : List D} : biV .tuple [.lst xs] = some (.tup xs) := rfl
@[simp] theorem bi_tup2 {xs : List D} : biV .tuple [.tup xs] = some (.tup xs) := rfl
@[simp] theorem bi_intI : biV .int [.int i] = some (.int i) := rfl
@[simp] theorem bi_intB {b : Bool} : biV .int [.bl b] = some (.int (if b then 1 else 0)) := rfl
@[simp] theorem bi_strI : biV .str [.int i] = if i.natAbs.log2 < 1920 then some (.str (toString i)) else none := rfl
@[simp] theorem bi_min : biV .min2 [.int i, .int j] = some (.int (if j < i then j else i)) := rfl
@[simp] theorem bi_max : biV .max2 [.int i, .int j] = some (.int (if j > i then j else i)) := rfl
@[simp] theorem bi_abs : biV .abs [.int i] = some (.int (if i < 0 then -i else i)) := rfl
@[simp] theorem bindT_s {i : Nat} {d : D} : bindT (.s i) d ρ = some (ρ.set i d) := rfl
@[simp] theorem bindT_t {l : List Tg} {xs : List D} : bindT (.t l) (.tup xs) ρ = bindTs l xs ρ := rfl
@[simp] theorem bindT_l {l : List Tg} {xs : List D} : bindT (.t l) (.lst xs) ρ = bindTs l xs ρ := rfl
@[simp] theorem bindTs_nil : bindTs [] [] ρ = some ρ := rfl
@[simp] theorem bindTs_cons {t : Tg} {ts : List Tg} {x : D} {xs : List D} : bindTs (t :: ts) (x :: xs) ρ = (bindT t x ρ).bind fun ρ' => bindTs ts xs ρ' := rfl
@[simp] theorem exs_nil' : exs Φ [] ρ = .nx ρ := rfl
@[simp] theorem exs_consS {s : MS} {ss : List MS} : exs Φ (s :: ss) ρ = seqR (exs Φ ss) (ex Φ s ρ) := exs_cons' Φ s ss ρ
@[simp] theorem ofO_some : ofO (some ρ) = .nx ρ := rfl
@[simp] theorem ex_asg {t : Tg} : ex Φ (.asg t e) ρ = ofO ((ev Φ e ρ).bind fun d => bindT t d ρ) := rfl
@[simp] theorem ex_exp : ex Φ (.exp e) ρ = ofO ((ev Φ e ρ).map fun _ => ρ) := rfl
@[simp] theorem ex_app {i : Nat} : ex Φ (.mut .append i [] [e]) ρ = ofO ((ev Φ e ρ).bind fun x => (ρ[i]?).bind fun d => (mutV .append [x] d).map fun d' => ρ.set i d') := by
  show ofO (((ev Φ e ρ).bind fun x => (some []).map fun xs => x :: xs).bind fun ds => (some []).bind fun ps => (ρ[i]?).bind fun d => (atPath (mutV .append ds) ps d).map fun d' => ρ.set i d') = _
  cases ev Φ e ρ <;> rfl
@[simp] theorem mut_app {x : D} {xs : List D} : mutV .append [x] (.lst xs) = if xs.length < mx then some (.lst (xs ++ [x])) else none := rfl
def ifR (t : Option Bool) (a b : RS) : RS := match t with
  | some true => a
  | some false => b
  | none => .no
@[simp] theorem ifR_t {a b : RS} : ifR (some true) a b = a := rfl
@[simp] theorem ifR_f {a b : RS} : ifR (some false) a b = b := rfl
theorem ifR_b {t : Bool} {a b : RS} : ifR (some t) a b = if t then a else b := by cases t <;> rfl
@[simp] theorem ex_ifs {c : ME} {a b : List MS} : ex Φ (.ifs c a b) ρ = ifR ((ev Φ c ρ).bind truth) (exs Φ a ρ) (exs Φ b ρ) := by
  show (match (ev Φ c ρ).bind truth with | some true => exs Φ a ρ | some false => exs Φ b ρ | none => .no) = _
  cases (ev Φ c ρ).bind truth with
  | none => rfl
  | some r => cases r <;> rfl
def forR (bind : D → List D → Option (List D)) (body : List D → RS) (ρ : Env) : Option (List D) → RS
  | some xs => forL bind body xs ρ
  | none => .no
@[simp] theorem forR_some {bind : D → List D → Option (List D)} {body : List D → RS} {xs : List D} : forR bind body ρ (some xs) = forL bind body xs ρ := rfl
@[simp] theorem ex_for {t : Tg} {k : SrcK} {body : List MS} : ex Φ (.for_ t k es body) ρ = forR (bindT t) (exs Φ body) ρ ((evs Φ es ρ).bind (srcItems k)) := by
  show (match (evs Φ es ρ).bind (srcItems k) with | some xs => forL (bindT t) (fun ρ => exs Φ body ρ) xs ρ | none => .no) = _
  cases (evs Φ es ρ).bind (srcItems k) <;> rfl
@[simp] theorem ex_whl {n : Nat} {c : ME} {body : List MS} : ex Φ (.whl n c body) ρ = whlL (fun ρ => (ev Φ c ρ).bind truth) (exs Φ body) n ρ := rfl
@[simp] theorem ex_ret : ex Φ (.ret e) ρ = (match ev Φ e ρ with | some d => .ret d | none => .no) := rfl
@[simp] theorem ex_retN : ex Φ .retN ρ = .ret .non := rfl
@[simp] theorem ex_brk : ex Φ .brk ρ = .brk ρ := rfl
@[simp] theorem ex_cnt : ex Φ .cnt ρ = .cnt ρ := rfl
@[simp] theorem ex_nev : ex Φ .nev ρ = .no := rfl
@[simp] theorem ex_rai {x : Str} : ex Φ (.rai x) ρ = .exc ⟨x, []⟩ ρ := rfl
@[simp] theorem ex_expX {k : Nat} : ex Φ (.expX k es) ρ = callR (Φ.fn k) ρ (evs Φ es ρ) := rfl
@[simp] theorem ex_tryE {i : Nat} {x : Str} {b s : List MS} : ex Φ (.tryE i x b s) ρ = tryR Φ.sub x i (exs Φ s) (exs Φ b ρ) := by
  unfold ex; rfl
theorem callR_ret {m : List D → RF} {ds : List D} {d : D} (h : m ds = .ret d) : callR m ρ (some ds) = .nx ρ := by unfold callR; dsimp only; rw [h]
theorem callR_exc {m : List D → RF} {ds : List D} {e : Exc} (h : m ds = .exc e) : callR m ρ (some ds) = .exc e ρ := by unfold callR; dsimp only; rw [h]
@[simp] theorem tryR_nx {sub : Str → Str → Option Bool} {x : Str} {i : Nat} {f : List D → RS} : tryR sub x i f (.nx ρ) = .nx ρ := rfl
theorem tryR_exc {sub : Str → Str → Option Bool} {x z : Str} {i : Nat} {f : List D → RS} (h : sub z x = some true) : tryR sub x i f (.exc ⟨z, []⟩ ρ) = (match f (ρ.set i (.str z)) with | .nx ρ2 => .nx (ρ2.set i .non) | .ret d => .ret d | _ => .no) := by
  unfold tryR
  dsimp only
  rw [h] <;> rfl
@[simp] theorem seqR_exc (f : SF) (e : Exc) (ρ : Env) : seqR f (.exc e ρ) = .exc e ρ := rfl
@[simp] theorem endR_exc {e : Exc} : endR (.exc e ρ) = .exc e := rfl
@[simp] theorem ex_aug {i : Nat} : ex Φ (.aug i e) ρ = ofO ((ρ[i]?).bind fun x => (ev Φ e ρ).bind fun y => (augV x y).map fun z => ρ.set i z) := rfl
@[simp] theorem augV_int : augV (.int i) (.int j) = some (.int (i + j)) := rfl
@[simp] theorem ex_popA {t : Tg} {i : Nat} : ex Φ (.popA t i e) ρ = ofO ((ev Φ e ρ).bind fun y => (ρ[i]?).bind fun dl => (popV y dl).bind fun q => bindT t q.1 (ρ.set i q.2)) := rfl
@[simp] theorem ex_popApp {i j : Nat} : ex Φ (.popApp i j e) ρ = ofO ((ev Φ e ρ).bind fun y => (ρ[j]?).bind fun dl => (popV y dl).bind fun q => (ρ[i]?).bind fun d => (mutV .append [q.1] d).map fun d' => (ρ.set j q.2).set i d') := rfl
@[simp] theorem ex_takeA {t : Tg} {i : Nat} : ex Φ (.takeA t i e) ρ = ofO ((ev Φ e ρ).bind fun y => (ρ[i]?).bind fun dl => (dIdx dl y).bind fun z => (setD dl y .hole).bind fun dl' => bindT t z (ρ.set i dl')) := rfl
@[simp] theorem ex_appP {i : Nat} {p m : ME} : ex Φ (.mut .append i [p] [m]) ρ = ofO ((ev Φ m ρ).bind fun x => (ev Φ p ρ).bind fun y => (ρ[i]?).bind fun d => (atPath (mutV .append [x]) [y] d).map fun d' => ρ.set i d') := by
  show ofO (((ev Φ m ρ).bind fun x => (some []).map fun xs => x :: xs).bind fun ds => ((ev Φ p ρ).bind fun y => (some []).map fun ys => y :: ys).bind fun ps => (ρ[i]?).bind fun d => (atPath (mutV .append ds) ps d).map fun d' => ρ.set i d') = _
  cases ev Φ m ρ with
  | none => rfl
  | some x => cases ev Φ p ρ <;> rfl
@[simp] theorem ev_lenset : ev Φ (.lenset e) ρ = (ev Φ e ρ).bind lenSetV := rfl
@[simp] theorem ev_tupO : ev Φ (.tupO e) ρ = (ev Φ e ρ).bind tupOf := rfl
@[simp] theorem tupOf_l {xs : List D} : tupOf (.lst xs) = some (.tup xs) := rfl
@[simp] theorem ev_join {x : Str} : ev Φ (.join x e) ρ = (ev Φ e ρ).bind (joinV x) := rfl
@[simp] theorem ev_splt {x : Str} : ev Φ (.splt e x) ρ = (ev Φ e ρ).bind (spltV x) := rfl
@[simp] theorem ev_isx {i : Nat} {x : Str} : ev Φ (.isx i x) ρ = (ρ[i]?).bind (isxV Φ.sub x) := rfl
@[simp] theorem ev_keysL : ev Φ (.keysL a) ρ = (ev Φ a ρ).bind keysV := rfl
@[simp] theorem ev_ixL {a b : ME} : ev Φ (.ixL a b) ρ = (ev Φ a ρ).bind fun x => (ev Φ b ρ).bind fun y => ixlV x y := rfl
@[simp] theorem ev_getD {a b d : ME} : ev Φ (.getD a b d) ρ = (ev Φ a ρ).bind fun x => (ev Φ b ρ).bind fun y => (ev Φ d ρ).bind fun z => getV x y z := rfl
@[simp] theorem ev_srt : ev Φ (.srt a) ρ = (ev Φ a ρ).bind srtV := rfl
@[simp] theorem keysV_dct {kvs : List (Key × D)} : keysV (.dct kvs) = some (.lst (kvs.map fun p => keyD p.1)) := rfl
@[simp] theorem ev_catL : ev Φ (.catL a b) ρ = (ev Φ a ρ).bind fun x => (ev Φ b ρ).bind fun y => catV x y := rfl
@[simp] theorem ev_mulL : ev Φ (.mulL a b) ρ = (ev Φ a ρ).bind fun x => (ev Φ b ρ).bind fun y => mulV x y := rfl
@[simp] theorem catV_lst {xs ys : List D} : catV (.lst xs) (.lst ys) = if xs.length + ys.length ≤ mx then some (.lst (xs ++ ys)) else none := rfl
@[simp] theorem mulV_lst {xs : List D} {n : Int} : mulV (.lst xs) (.int n) = if -(2 ^ 62) ≤ n ∧ n < 2 ^ 62 ∧ xs.length * n.toNat ≤ mx then some (.lst (reps xs n.toNat)) else none := rfl
@[simp] theorem ev_varN {i : Nat} : ev Φ (.varN i) ρ = ρ[i]? := rfl
@[simp] theorem ev_slcN {lo hi : Option ME} : ev Φ (.slcN a lo hi) ρ = (ev Φ a ρ).bind fun x => (evO Φ lo ρ).bind fun l => (evO Φ hi ρ).bind fun h => slcNV x l h := rfl
@[simp] theorem ev_cntN {i : Nat} {b : ME} : ev Φ (.cntN i b) ρ = (ρ[i]?).bind fun x => (ev Φ b ρ).bind fun y => cntV x y := rfl
@[simp] theorem ev_isxs {i : Nat} {xs : List Str} : ev Φ (.isxs i xs) ρ = (ρ[i]?).bind (isxsV Φ.sub xs) := rfl
@[simp] theorem isxsV_str {sub : Str → Str → Option Bool} {xs : List Str} {z : Str} : isxsV sub xs (.str z) = (anySub sub z xs).map .bl := rfl
@[simp] theorem anySub_nil {sub : Str → Str → Option Bool} {z : Str} : anySub sub z [] = some false := rfl
@[simp] theorem anySub_cons {sub : Str → Str → Option Bool} {z x : Str} {xs : List Str} : anySub sub z (x :: xs) = (sub z x).bind fun b => (anySub sub z xs).map fun r => b || r := rfl
@[simp] theorem isxV_str {sub : Str → Str → Option Bool} {x z : Str} : isxV sub x (.str z) = (sub z x).map .bl := rfl
@[simp] theorem ev_gidx {tab : List (Str × Key)} : ev Φ (.gidx tab e) ρ = (ev Φ e ρ).bind (tabV tab) := rfl
@[simp] theorem ev_gin {neg : Bool} {tab : List (Str × Key)} : ev Φ (.gin neg tab e) ρ = ((ev Φ e ρ).bind (ginV neg tab)).map .bl := rfl
@[simp] theorem tabV_str {tab : List (Str × Key)} {z : Str} : tabV tab (.str z) = (tab.lookup z).map keyD := rfl
@[simp] theorem ginV_str {neg : Bool} {tab : List (Str × Key)} {z : Str} : ginV neg tab (.str z) = some (if neg then !(tab.lookup z).isSome else (tab.lookup z).isSome) := rfl
@[simp] theorem keyD_int {i : Int} : keyD (.inl i) = .int i := rfl
@[simp] theorem keyD_str {z : Str} : keyD (.inr z) = .str z := rfl
@[simp] theorem ev_tidx {ys : List Str} : ev Φ (.tidx ys e) ρ = (ev Φ e ρ).bind (tidxV ys) := rfl
@[simp] theorem ev_lrng : ev Φ (.lrng e b) ρ = (ev Φ e ρ).bind fun x => (ev Φ b ρ).bind fun y => rngV x y := rfl
@[simp] theorem bi_sumL {xs : List D} : biV .sum [.lst xs] = (allInts xs).map fun ns => .int ns.sum := rfl
@[simp] theorem bi_sumT {xs : List D} : biV .sum [.tup xs] = (allInts xs).map fun ns => .int ns.sum := rfl
theorem allInts_map : ∀ ns : List Int, allInts (ns.map D.int) = some ns
  | [] => rfl
  | n :: ns => by show (allInts (ns.map D.int)).map (n :: ·) = _; rw [allInts_map ns]; rfl
@[simp] theorem ex_fz {i : Nat} : ex Φ (.fz i) ρ = .nx ρ := rfl
@[simp] theorem ex_forR {pt ps d r : Nat} {A B : Str} : ex Φ (.forR pt ps d r A B) ρ = forR (bindT (.s pt)) (repB pt d r A B) ρ ((ρ[ps]?).bind cutD) := by
  show (match (ρ[ps]?).bind cutD with | some xs => forL (bindT (.s pt)) (repB pt d r A B) xs ρ | none => .no) = _
  cases (ρ[ps]?).bind cutD <;> rfl
/-- over a dict -/
def forD (bind : D → List D → Option (List D)) (body : List D → RS) (k : SrcK) (ρ : Env) : Option D → RS
  | some (.dct kds) => noX (forL bind body (srcK k kds) ρ)
  | _ => .no
@[simp] theorem forD_some {bind : D → List D → Option (List D)} {body : List D → RS} {k : SrcK} {kds : List (Key × D)} : forD bind body k ρ (some (.dct kds)) = noX (forL bind body (srcK k kds) ρ) := rfl
@[simp] theorem ex_forK {t : Tg} {k : SrcK} {i : Nat} {body : List MS} : ex Φ (.forK t k i body) ρ = forD (bindT t) (exs Φ body) k ρ (ρ[i]?) := rfl
@[simp] theorem noX_nx : noX (.nx ρ) = .nx ρ := rfl
@[simp] theorem noX_ret {d : D} : noX (.ret d) = .ret d := rfl
@[simp] theorem ex_clr {i : Nat} : ex Φ (.clr i) ρ = ofO ((ρ[i]?).bind fun x => (clrV x).map fun y => ρ.set i y) := rfl
@[simp] theorem cutD_lst {xs : List D} : cutD (.lst xs) = some (cut xs (some 1) none) := rfl
@[simp] theorem clrV_lst {xs : List D} : clrV (.lst xs) = some (.lst []) := rfl
@[simp] theorem ex_pss : ex Φ .pss ρ = .nx ρ := rfl
@[simp] theorem endR_nx : endR (.nx ρ) = .ret .non := rfl
@[simp] theorem endR_ret {d : D} : endR (.ret d) = .ret d := rfl
end
section
open PySem.W
variable {K : Frag} {a c : Addr} {b : Bool}
theorem kitCls_own (hi : isClsIn K c = true) (ht : typeIn K (.ref c) = some (.type "type")) (hs : subIn K (.ref a) (.ref c) = some b) : kitCls K (.ref a) (.ref c) = some b := by
  have hi : (clsIn K c).isSome = true := hi
  show (if ((clsIn K c).isSome && typeIn K (.ref c) == some (.type "type")) = true then subIn K (.ref a) (.ref c) else none) = some b
  rw [if_pos (by rw [hi, ht]; rfl), hs]
theorem kit_own (hi : isClsIn K c = true) (ht : typeIn K (.ref c) = some (.type "type")) (hs : subIn K (.ref a) (.ref c) = some b) (hn : b = true ∨ (a == c) = false) : kitOne K (.ref a) (.ref c) = some b := by
  unfold kitOne
  by_cases h : (Value.ref a == Value.ref c) = true
  · rw [if_pos h]
    rcases hn with rfl | hn
    · rfl
    · have : a = c := Value.ref.inj (eq_of_beq h)
      subst this
      simp at hn
  · rw [if_neg h]
    exact kitCls_own hi ht hs
theorem kit_bt {T : String} (hm : kitMeta T = true) (hs : subIn K (.ref a) (.type T) = some b) : kitOne K (.ref a) (.type T) = some b := by
  unfold kitOne
  have h : (Value.ref a == Value.type T) = false := rfl
  rw [h, if_neg (by decide)]
  show (if kitMeta T = true then subIn K (.ref a) (.type T) else none) = some b
  rw [if_pos hm, hs]
theorem exm_own (hb : subIn K (.ref c) (.type "BaseException") = some true) (hi : isClsIn K c = true) (ht : typeIn K (.ref c) = some (.type "type")) (hs : subIn K (.ref a) (.ref c) = some b) : exmOne K (.ref a) (.ref c) = some b := by
  unfold exmOne
  rw [if_pos (by rw [hb]; rfl)]
  exact kitCls_own hi ht hs
end
theorem ifS {p : Prop} [Decidable p] {a b : Bool} {r : Option Bool} (h : (if p then some a else r) = some b) : (p ∧ a = b) ∨ r = some b := by
  by_cases hp : p
  · rw [if_pos hp] at h; exact .inl ⟨hp, Option.some.inj h⟩
  · rw [if_neg hp] at h; exact .inr h
/-! ### numbers -/
theorem log2_lt {n k : Nat} (h : n < 2 ^ k) (hk : 0 < k) : n.log2 < k := by
  by_cases h0 : n = 0
  · subst h0; simpa using hk
  · exact (Nat.log2_lt h0).mpr h
theorem divOk_of {j : Int} (h : 0 < j) (h2 : j < 18446744073709551616) : divOk j := ⟨h, Nat.lt_trans (log2_lt (k := 64) (by omega) (by decide)) (by decide)⟩
theorem mulOk_l {i j : Int} (h : -18446744073709551616 < i) (h2 : i < 18446744073709551616) : mulOk i j := .inl ⟨h, h2⟩
theorem mulOk_r {i j : Int} (h : -18446744073709551616 < j) (h2 : j < 18446744073709551616) : mulOk i j := .inr (.inl ⟨h, h2⟩)
theorem atI_of {α : Type} {xs : List α} {i : Int} (h : 0 ≤ i) (h2 : i < xs.length) : atI xs i = xs[i.toNat]? := by
  unfold atI ixN
  rw [if_pos h, if_pos h2]; rfl
theorem atI_int {ws : List Int} {i : Int} (h : 0 ≤ i) (h2 : i < ws.length) : atI (ws.map D.int) i = some (.int (ws.getD i.toNat 0)) := by
  rw [atI_of h (by simpa using h2), List.getElem?_map, List.getD_eq_getElem?_getD]
  have h3 : i.toNat < ws.length := by omega
  rw [List.getElem?_eq_getElem h3]; rfl
theorem getD_mem {ws : List Int} {n : Nat} (h : n < ws.length) : ws.getD n 0 ∈ ws := by
  rw [List.getD_eq_getElem?_getD, List.getElem?_eq_getElem h]
  exact List.getElem_mem h
theorem atI_two {α : Type} {a b : α} {i : Int} : atI [a, b] (i % 2) = some (if i % 2 = 0 then a else b) := by
  have h : i % 2 = 0 ∨ i % 2 = 1 := by omega
  rcases h with h | h <;> rw [h] <;> rfl
@[simp] theorem atI_0 {α : Type} {a : α} {xs : List α} : atI (a :: xs) 0 = some a := by
  rw [atI_of (by decide) (by simp)]; rfl
@[simp] theorem atI_1 {α : Type} {a b : α} {xs : List α} : atI (a :: b :: xs) 1 = some b := by
  rw [atI_of (by decide) (by simp; omega)]; rfl
@[simp] theorem atI_2 {α : Type} {a b c : α} {xs : List α} : atI (a :: b :: c :: xs) 2 = some c := by
  rw [atI_of (by decide) (by simp; omega)]; rfl
@[simp] theorem atI_3 {α : Type} {a b c d : α} {xs : List α} : atI (a :: b :: c :: d :: xs) 3 = some d := by
  rw [atI_of (by decide) (by simp; omega)]; rfl
theorem atI_b2 {α : Type} {a b : α} {p : Bool} : atI [a, b] (if p = true then 1 else 0) = some (if p = true then b else a) := by cases p <;> rfl
@[simp] theorem upsL {lo : Int} {n : Nat} : (ups lo n).length = n := by
  induction n generalizing lo with
  | zero => rfl
  | succ n ih => exact congrArg (· + 1) ih
theorem upsG : ∀ {lo : Int} {n i : Nat} {x : D}, (ups lo n)[i]? = some x → x = .int (lo + i) ∧ i < n
  | lo, 0, i, x, h => by simp [ups] at h
  | lo, n + 1, 0, x, h => by
    simp [ups] at h
    exact ⟨by rw [← h]; simp, by omega⟩
  | lo, n + 1, i + 1, x, h => by
    obtain ⟨e, l⟩ := upsG (lo := lo + 1) (n := n) (i := i) (x := x) (by simpa [ups] using h)
    exact ⟨by rw [e]; congr 1; omega, by omega⟩
/-- a loop over a range -/
theorem forL_ups {i : Nat} {lo : Int} {body : List D → RS} {n : Nat} {ρ : List D} (I : Nat → List D → Prop) (h : ∀ k, k < n → ∀ ρ, I k ρ → ∃ ρ2, (body (ρ.set i (.int (lo + k))) = .nx ρ2 ∨ body (ρ.set i (.int (lo + k))) = .cnt ρ2) ∧ I (k + 1) ρ2) (h0 : I 0 ρ) :
    ∃ ρ', forL (bindT (.s i)) body (ups lo n) ρ = .nx ρ' ∧ I n ρ' := by
  obtain ⟨ρ', e, i'⟩ := forL_ix (bind := bindT (.s i)) (body := body) (fun k ρ => I k ρ) (ys := ups lo n) (xs := ups lo n) (n := 0) rfl (fun k x hx ρ hI => by
    obtain ⟨rfl, hk⟩ := upsG hx
    obtain ⟨ρ2, e2, i2⟩ := h k hk ρ hI
    exact ⟨_, ρ2, rfl, e2, i2⟩) h0
  exact ⟨ρ', e, by simpa using i'⟩
@[simp] theorem ups0_len {lo : Int} : ups lo 0 = [] := rfl
theorem forL_one {bind : D → List D → Option (List D)} {body : List D → RS} {x : D} {xs : List D} {ρ ρ1 ρ2 : List D} (hb : bind x ρ = some ρ1) (e : body ρ1 = .nx ρ2) : forL bind body (x :: xs) ρ = forL bind body xs ρ2 := by
  unfold forL
  rw [hb]
  show contL (body ρ1) _ = _
  rw [e]
  show forL bind body xs ρ2 = _
  cases xs <;> rfl
@[simp] theorem forL_nil {bind : D → List D → Option (List D)} {body : List D → RS} {ρ : List D} : forL bind body [] ρ = .nx ρ := rfl
/-! ### lists of whole numbers, compared -/
theorem ndpL_ints : ∀ (n : Nat) (xs : List Int), ndpL n (xs.map D.int) = true
  | n, [] => by cases n <;> rfl
  | n, x :: xs => by
    show (ndp n (.int x) && ndpL n (xs.map D.int)) = true
    rw [ndpL_ints n xs]
    cases n <;> rfl
theorem ndp_ints (n : Nat) (xs : List Int) : ndp (n + 1) (.lst (xs.map D.int)) = true := ndpL_ints n xs
theorem deqL_ints : ∀ (xs ys : List Int), deqL (xs.map D.int) (ys.map D.int) = decide (xs = ys)
  | [], [] => rfl
  | [], _ :: _ => rfl
  | _ :: _, [] => rfl
  | x :: xs, y :: ys => by
    show (deq (.int x) (.int y) && deqL (xs.map D.int) (ys.map D.int)) = _
    rw [deqL_ints xs ys]
    show (decide (x = y) && decide (xs = ys)) = _
    by_cases h : x = y <;> by_cases h2 : xs = ys <;> simp [h, h2]
theorem dCmp_neL (xs ys : List Int) : dCmp .ne (.lst (xs.map D.int)) (.lst (ys.map D.int)) = some (!decide (xs = ys)) := by
  rw [dCmp_ne]
  have h : eqOk (.lst (xs.map D.int)) (.lst (ys.map D.int)) = true := by
    show (ndp 60 _ && ndp 60 _) = true
    rw [ndp_ints 59 xs, ndp_ints 59 ys]; rfl
  rw [if_pos h]
  exact congrArg (fun b => some (!b)) (deqL_ints xs ys)
theorem atI_intE {ws : List Int} {i : Int} (h : 0 ≤ i) (h2 : i < ws.length) : ∃ x, x ∈ ws ∧ atI (ws.map D.int) i = some (.int x) := ⟨_, My.getD_mem (n := i.toNat) (by omega), atI_int h h2⟩
theorem ev_powc {Φ : Tab} {ρ : Env} {x : ME} {a b : Int} {n : Nat} (h : ev Φ x ρ = some (.int a)) (p : powOk a b) (e : b.toNat = n) : ev Φ (.bin .pow x (.cst (.int b))) ρ = some (.int (a ^ n)) := by
  rw [ev_bin, h, ev_cst]
  show dBin .pow (.int a) (.int b) = _
  rw [dBin_pow, if_pos p, e]
theorem mulOk_log {i j : Int} (h : i.natAbs.log2 < 60000000) (h2 : j.natAbs.log2 < 60000000) : mulOk i j := .inr (.inr (by omega))
theorem log2_le {m n : Nat} (h : m ≤ n) : m.log2 ≤ n.log2 := by
  by_cases h0 : m = 0
  · subst h0; simp
  · refine (Nat.le_log2 (by omega)).mpr (Nat.le_trans ?_ h)
    exact (Nat.le_log2 h0).mp (Nat.le_refl _)
theorem forL_ret {bind : D → List D → Option (List D)} {body : List D → RS} {x r : D} {xs : List D} {ρ ρ1 : List D} (hb : bind x ρ = some ρ1) (e : body ρ1 = .ret r) : forL bind body (x :: xs) ρ = .ret r := by
  unfold forL
  rw [hb]
  show contL (body ρ1) _ = _
  rw [e]; rfl
theorem cut_to {α : Type} {xs : List α} {i : Int} (h : 0 ≤ i) (h2 : i ≤ xs.length) : cut xs none (some i) = xs.take i.toNat := by
  unfold cut HT.sIx
  dsimp only
  rw [if_neg (by omega), List.drop_zero, Nat.min_eq_left (by omega), Nat.sub_zero]
theorem cut_from {α : Type} {xs : List α} {i : Int} (h : 0 ≤ i) (h2 : i ≤ xs.length) : cut xs (some i) none = xs.drop i.toNat := by
  unfold cut HT.sIx
  dsimp only
  rw [if_neg (by omega), Nat.min_eq_left (by omega), List.take_of_length_le (by rw [List.length_drop]; omega)]
theorem ixN_of {n : Nat} {i : Int} (h : 0 ≤ i) (h2 : i < n) : ixN n i = some i.toNat := by
  unfold ixN
  rw [if_pos h, if_pos h2]
@[simp] theorem ex_set {Φ : Tab} {ρ : Env} {i : Nat} {a b : ME} : ex Φ (.mut .setI i [] [a, b]) ρ = ofO ((ev Φ a ρ).bind fun x => (ev Φ b ρ).bind fun y => (ρ[i]?).bind fun d => (mutV .setI [x, y] d).map fun d' => ρ.set i d') := by
  show ofO (((ev Φ a ρ).bind fun x => ((ev Φ b ρ).bind fun y => (some []).map fun xs => y :: xs).map fun xs => x :: xs).bind fun ds => (some []).bind fun ps => (ρ[i]?).bind fun d => (atPath (mutV .setI ds) ps d).map fun d' => ρ.set i d') = _
  cases ev Φ a ρ with
  | none => rfl
  | some x => cases ev Φ b ρ <;> rfl
@[simp] theorem mut_setL {i : Int} {x : D} {xs : List D} : mutV .setI [.int i, x] (.lst xs) = (ixN xs.length i).map fun k => .lst (xs.set k x) := rfl
theorem reps_length (xs : List D) : ∀ n : Nat, (reps xs n).length = n * xs.length
  | 0 => by simp [reps]
  | n + 1 => by
    show (xs ++ reps xs n).length = _
    rw [List.length_append, reps_length xs n, Nat.succ_mul]; omega
mutual
theorem deq_refl : ∀ (d : D) (n : Nat), ndp n d = true → deq d d = true
  | .non, _, _ => rfl
  | .bl b, _, _ => by show (b == b) = true; simp
  | .int i, _, _ => by show (i == i) = true; simp
  | .str x, _, _ => by show decide (x = x) = true; simp
  | .lst xs, 0, h => by cases h
  | .tup xs, 0, h => by cases h
  | .lst xs, n + 1, h => deqL_refl xs n h
  | .tup xs, n + 1, h => deqL_refl xs n h
  | .dct _, n, h => by cases n <;> cases h
theorem deqL_refl : ∀ (xs : List D) (n : Nat), ndpL n xs = true → deqL xs xs = true
  | [], _, _ => rfl
  | x :: xs, n, h => by
    have h : (ndp n x && ndpL n xs) = true := by cases n <;> exact h
    obtain ⟨h1, h2⟩ := Bool.and_eq_true_iff.mp h
    show (deq x x && deqL xs xs) = true
    rw [deq_refl x n h1, deqL_refl xs n h2]; rfl
end
theorem eq_selfL {xs : List D} (h : ndp 60 (.lst xs) = true) : dCmp .eq (.lst xs) (.lst xs) = some true := by
  rw [dCmp_eq, if_pos (show eqOk (.lst xs) (.lst xs) = true by show (ndp 60 _ && ndp 60 _) = true; rw [h]; rfl), deq_refl _ _ h]
theorem ne_selfL {xs : List D} (h : ndp 60 (.lst xs) = true) : dCmp .ne (.lst xs) (.lst xs) = some false := by
  rw [dCmp_ne, if_pos (show eqOk (.lst xs) (.lst xs) = true by show (ndp 60 _ && ndp 60 _) = true; rw [h]; rfl), deq_refl _ _ h]; rfl
theorem ndpL_all {n : Nat} : ∀ {xs : List D}, (∀ x ∈ xs, ndp n x = true) → ndpL n xs = true
  | [], _ => by cases n <;> rfl
  | x :: xs, h => by
    have : (ndp n x && ndpL n xs) = true := by rw [h x List.mem_cons_self, ndpL_all fun y m => h y (List.mem_cons_of_mem _ m)]; rfl
    cases n <;> exact this
end My

set_option Elab.async false
set_option linter.all false
set_option maxRecDepth 100000
namespace K11
open PySem PySem.Spec PyProof.Rows L2 My
def tops (i : Nat) : Stmt := PySem.Challenge.pw_underfloor_k11_whole_names_for_numbers.main.body.getD i (.Pass ⟨0, 0, 0, 0⟩)
def tb_FORMS : List (Str × Key) := [("put", .inr "an"), ("high", .inr "an"), ("copy", .inr "ab"), ("add", .inr "abc"), ("less", .inr "abc"), ("times", .inr "abc"), ("cut", .inr "abc"), ("rest", .inr "abc"), ("under", .inr "abc"), ("same", .inr "abc"), ("load", .inr "abn"), ("store", .inr "abn"), ("jump", .inr "n"), ("if", .inr "an"), ("call", .inr "")]
def tb_BOUNDS : List (Str × Key) := [("a", .inl 8), ("b", .inl 8), ("c", .inl 8), ("n", .inl 65536)]
def tb_WORTHS : List (Str × Key) := [("a", .inl 4194304), ("b", .inl 524288), ("c", .inl 65536), ("n", .inl 1)]
def g_LONGEST : D := (.int 8)
def g_LETTERS : D := (.str "abcdefghijklmnopqrstuvwxyz")
def g_MOST_FIGURES : D := (.int 10)
def g_FIGURES : D := (.str "0123456789")
def g_ROUND : D := (.int 4294967296)
def g_REGISTERS : D := (.str "01234567")
def g_NAMING : D := (.tup [(.str "put"), (.str "jump"), (.str "if")])
def g_OVER : D := (.int 33554432)
def g_MOST_WORDS : D := (.int 256)
/-! _law_forms -/
def t__law_forms : Tab := { fn := fun k => match k with  | _ => fun _ => .no, gl := fun k => match k with  | _ => .non }
def b__law_forms : List MS :=
  [.asg (.s 0) (.frzE (.lstE .F [(.cst (.str "add")), (.cst (.str "less")), (.cst (.str "times")), (.cst (.str "cut")), (.cst (.str "rest")), (.cst (.str "under")), (.cst (.str "same"))])),
  .asg (.s 1) (.bin .add (.lstE .F [(.tupE [(.cst (.str "put")), (.cst (.str "an"))]), (.tupE [(.cst (.str "high")), (.cst (.str "an"))]), (.tupE [(.cst (.str "copy")), (.cst (.str "ab"))])]) (.comp (.frzE (.tupE [(.var 2), (.cst (.str "abc"))])) (.s 2) [2] .seq [(.var 0)] none)),
  .ret (.bin .add (.var 1) (.lstE .F [(.tupE [(.cst (.str "load")), (.cst (.str "abn"))]), (.tupE [(.cst (.str "store")), (.cst (.str "abn"))]), (.tupE [(.cst (.str "jump")), (.cst (.str "n"))]), (.tupE [(.cst (.str "if")), (.cst (.str "an"))]), (.tupE [(.cst (.str "call")), (.cst (.str ""))])]))]
def m__law_forms : List D → RF := runR 3 fun ρ => exs t__law_forms b__law_forms ρ
/-! _law_place_names -/
def t__law_place_names : Tab := { fn := fun k => match k with | 0 => m__law_forms | _ => fun _ => .no, gl := fun k => match k with  | _ => .non }
@[simp] theorem t__law_place_names_f0 : t__law_place_names.fn 0 = m__law_forms := rfl
def B__law_place_names_1 : List MS :=
  [.ifs (.boolE true [(.var 1), (.cmp .ge (.var 3) (.cst (.int 26)))]) 
    [.mut .append 7 [] [(.bin .mod (.var 3) (.cst (.int 26)))],
    .asg (.s 3) (.bin .div (.var 3) (.cst (.int 26)))] 
    [.mut .append 7 [] [(.bin .mod (.bin .div (.var 6) (.bin .add (.var 8) (.cst (.int 3)))) (.cst (.int 26)))]]]
def B__law_place_names_2 : List MS :=
  [.asg (.s 11) (.comp (.idx (.var 2) (.bin .mod (.bin .add (.idx (.var 7) (.var 8)) (.bin .mul (.var 10) (.bi .int [(.cmp .eq (.var 8) (.var 5))]))) (.cst (.int 26)))) (.s 8) [8] .rng1 [(.var 4)] none),
  .asg (.s 12) (.join "" (.var 11)),
  .ifs (.boolE true [(.cmp .ne (.var 12) (.cst (.str "word"))), (.cmp .nin (.var 12) (.comp (.idx (.var 13) (.cst (.int 0))) (.s 13) [13] .seq [(.call 0 [])] none))]) 
    [.mut .append 9 [] [(.var 12)]] []]
def b__law_place_names : List MS :=
  [.asg (.s 2) (.cst (.str "abcdefghijklmnopqrstuvwxyz")),
  .asg (.s 3) (.bin .div (.var 0) (.cst (.int 2))),
  .asg (.s 4) (.bin .add (.cst (.int 1)) (.bin .mod (.var 3) (.cst (.int 8)))),
  .asg (.s 5) (.bin .mod (.bin .div (.var 3) (.cst (.int 8))) (.var 4)),
  .asg (.s 3) (.bin .div (.var 3) (.cst (.int 64))),
  .asg (.s 6) (.bin .mul (.bin .add (.bin .mod (.var 0) (.cst (.int 1000003))) (.cst (.int 17))) (.cst (.int 48271))),
  .asg (.s 7) (.lstE .F []),
  .for_ (.s 8) .rng1 [(.var 4)] B__law_place_names_1,
  .asg (.s 9) (.lstE .F []),
  .for_ (.s 10) .rng1 [(.cst (.int 24))] B__law_place_names_2,
  .ret (.frz 9)]
def m__law_place_names : List D → RF := runR 14 fun ρ => exs t__law_place_names b__law_place_names ρ
/-! _law_cell_at -/
def t__law_cell_at : Tab := { fn := fun k => match k with  | _ => fun _ => .no, gl := fun k => match k with  | _ => .non }
def b__law_cell_at : List MS :=
  [.ifs (.cmp .lt (.var 1) (.bi .len [(.var 0)])) 
    [.ret (.idx (.var 0) (.var 1))] [],
  .ret (.cst (.int 0))]
def m__law_cell_at : List D → RF := runR 2 fun ρ => exs t__law_cell_at b__law_cell_at ρ
/-! _law_draws -/
def t__law_draws : Tab := { fn := fun k => match k with  | _ => fun _ => .no, gl := fun k => match k with  | _ => .non }
def B__law_draws_1 : List MS :=
  [.ifs (.boolE true [(.var 2), (.cmp .ge (.var 0) (.bin .pow (.cst (.int 10)) (.cst (.int 18)))), (.cmp .ge (.var 4) (.cst (.int 4294967296)))]) 
    [.mut .append 3 [] [(.bin .mod (.var 4) (.cst (.int 4294967296)))],
    .asg (.s 4) (.bin .div (.var 4) (.cst (.int 4294967296)))] 
    [.asg (.s 5) (.bin .mod (.bin .mul (.bin .add (.bin .add (.var 5) (.bin .mul (.var 6) (.var 6))) (.cst (.int 1))) (.cst (.int 69621))) (.cst (.int 2147483647))),
    .mut .append 3 [] [(.idx (.lstE .F [(.var 5), (.bin .mod (.bin .mul (.var 5) (.var 5)) (.cst (.int 4294967296)))]) (.bin .mod (.var 5) (.cst (.int 2))))]]]
def b__law_draws : List MS :=
  [.asg (.s 3) (.lstE .F []),
  .asg (.s 4) (.bin .div (.var 0) (.cst (.int 16))),
  .asg (.s 5) (.bin .mod (.bin .mul (.bin .add (.bin .mod (.bin .div (.var 0) (.cst (.int 16))) (.bin .pow (.cst (.int 10)) (.cst (.int 30)))) (.cst (.int 1))) (.bin .add (.cst (.int 48271)) (.bin .mul (.bin .mul (.cst (.int 7919)) (.var 1)) (.var 1)))) (.cst (.int 2147483629))),
  .for_ (.s 6) .rng1 [(.cst (.int 6))] B__law_draws_1,
  .ret (.frz 3)]
def m__law_draws : List D → RF := runR 7 fun ρ => exs t__law_draws b__law_draws ρ
/-! _law_coded -/
def t__law_coded : Tab := { fn := fun k => match k with | 0 => m__law_forms | _ => fun _ => .no, gl := fun k => match k with  | _ => .non }
@[simp] theorem t__law_coded_f0 : t__law_coded.fn 0 = m__law_forms := rfl
def B__law_coded_1 : List MS :=
  [.asg (.s 4) (.bin .add (.var 4) (.bin .mul (.idx (.var 0) (.bin .add (.var 5) (.cst (.int 1)))) (.idx (.dctE [] .F [(.cst (.str "a")), (.cst (.str "b")), (.cst (.str "c")), (.cst (.str "n"))] [(.cst (.int 4194304)), (.cst (.int 524288)), (.cst (.int 65536)), (.cst (.int 1))]) (.idx (.var 3) (.var 5)))))]
def B__law_coded_2 : List MS :=
  [.asg (.t [(.s 2), (.s 3)]) (.idx (.call 0 []) (.var 1)),
  .ifs (.cmp .eq (.idx (.var 0) (.cst (.int 0))) (.var 2)) 
    [.asg (.s 4) (.bin .mul (.var 1) (.cst (.int 33554432))),
    .for_ (.s 5) .rng1 [(.bi .len [(.var 3)])] B__law_coded_1,
    .ret (.var 4)] []]
def b__law_coded : List MS :=
  [.for_ (.s 1) .rng1 [(.cst (.int 15))] B__law_coded_2,
  .ret (.cst .non)]
def m__law_coded : List D → RF := runR 6 fun ρ => exs t__law_coded b__law_coded ρ
/-! _law_row -/
def t__law_row : Tab := { fn := fun k => match k with | 0 => m__law_forms | _ => fun _ => .no, gl := fun k => match k with  | _ => .non }
@[simp] theorem t__law_row_f0 : t__law_row.fn 0 = m__law_forms := rfl
def B__law_row_1 : List MS :=
  [.asg (.s 6) (.idx (.lstE .F [(.cst (.int 8)), (.cst (.int 65536))]) (.bi .int [(.cmp .eq (.idx (.var 5) (.var 3)) (.cst (.str "n")))])),
  .asg (.s 7) (.bin .mod (.idx (.var 1) (.var 3)) (.var 6)),
  .ifs (.boolE true [(.cmp .eq (.bin .mod (.idx (.var 1) (.cst (.int 4))) (.cst (.int 5))) (.cst (.int 1))), (.cmp .eq (.var 3) (.bin .mod (.idx (.var 1) (.cst (.int 5))) (.cst (.int 3))))]) 
    [.asg (.s 7) (.idx (.lstE .F [(.cst (.int 0)), (.bin .sub (.var 6) (.cst (.int 1)))]) (.bin .mod (.bin .div (.idx (.var 1) (.cst (.int 4))) (.cst (.int 5))) (.cst (.int 2))))] [],
  .mut .append 2 [] [(.var 7)]]
def b__law_row : List MS :=
  [.asg (.t [(.s 4), (.s 5)]) (.idx (.call 0 []) (.var 0)),
  .asg (.s 2) (.lstE .F []),
  .for_ (.s 3) .rng1 [(.bi .len [(.var 5)])] B__law_row_1,
  .ret (.bi .tuple [(.bin .add (.lstE .F [(.var 4)]) (.var 2))])]
def m__law_row : List D → RF := runR 8 fun ρ => exs t__law_row b__law_row ρ
/-! _law_decoded -/
def t__law_decoded : Tab := { fn := fun k => match k with | 0 => m__law_forms | 1 => m__law_coded | _ => fun _ => .no, gl := fun k => match k with  | _ => .non }
@[simp] theorem t__law_decoded_f0 : t__law_decoded.fn 0 = m__law_forms := rfl
@[simp] theorem t__law_decoded_f1 : t__law_decoded.fn 1 = m__law_coded := rfl
def B__law_decoded_1 : List MS :=
  [.asg (.s 7) (.idx (.dctE [] .F [(.cst (.str "a")), (.cst (.str "b")), (.cst (.str "c")), (.cst (.str "n"))] [(.cst (.int 4194304)), (.cst (.int 524288)), (.cst (.int 65536)), (.cst (.int 1))]) (.var 3)),
  .mut .append 2 [] [(.bin .mod (.bin .div (.var 0) (.var 7)) (.idx (.lstE .F [(.cst (.int 8)), (.cst (.int 65536))]) (.bi .int [(.cmp .eq (.var 3) (.cst (.str "n")))])))]]
def b__law_decoded : List MS :=
  [.asg (.s 1) (.bin .div (.var 0) (.cst (.int 33554432))),
  .ifs (.cmp .gt (.var 1) (.cst (.int 14))) 
    [.ret (.cst .non)] [],
  .asg (.t [(.s 5), (.s 6)]) (.idx (.call 0 []) (.var 1)),
  .asg (.s 2) (.lstE .F []),
  .for_ (.s 3) .seq [(.var 6)] B__law_decoded_1,
  .asg (.s 4) (.bi .tuple [(.bin .add (.lstE .F [(.var 5)]) (.var 2))]),
  .ifs (.cmp .ne (.call 1 [(.var 4)]) (.var 0)) 
    [.ret (.cst .non)] [],
  .ret (.var 4)]
def m__law_decoded : List D → RF := runR 8 fun ρ => exs t__law_decoded b__law_decoded ρ
/-! _law_line -/
def t__law_line : Tab := { fn := fun k => match k with | 0 => m__law_decoded | 1 => m__law_forms | _ => fun _ => .no, gl := fun k => match k with  | _ => .non }
@[simp] theorem t__law_line_f0 : t__law_line.fn 0 = m__law_decoded := rfl
@[simp] theorem t__law_line_f1 : t__law_line.fn 1 = m__law_forms := rfl
def B__law_line_1 : List MS :=
  [.mut .append 2 [] [(.bin .add (.idx (.lstE .F [(.cst (.str "r")), (.cst (.str ""))]) (.bi .int [(.cmp .eq (.idx (.var 5) (.var 3)) (.cst (.str "n")))])) (.bi .str [(.idx (.var 1) (.bin .add (.var 3) (.cst (.int 1))))]))]]
def b__law_line : List MS :=
  [.asg (.s 1) (.call 0 [(.var 0)]),
  .ifs (.cmp .is (.var 1) (.cst .non)) 
    [.ret (.bin .add (.cst (.str "word ")) (.bi .str [(.var 0)]))] [],
  .asg (.t [(.s 4), (.s 5)]) (.idx (.call 1 []) (.bin .div (.var 0) (.cst (.int 33554432)))),
  .asg (.s 2) (.lstE .F [(.var 4)]),
  .for_ (.s 3) .rng1 [(.bi .len [(.var 5)])] B__law_line_1,
  .ret (.join " " (.var 2))]
def m__law_line : List D → RF := runR 6 fun ρ => exs t__law_line b__law_line ρ
/-! _law_program -/
def t__law_program : Tab := { fn := fun k => match k with | 0 => m__law_place_names | 1 => m__law_cell_at | 2 => m__law_draws | 3 => m__law_coded | 4 => m__law_row | 5 => m__law_line | _ => fun _ => .no, gl := fun k => match k with  | _ => .non }
@[simp] theorem t__law_program_f0 : t__law_program.fn 0 = m__law_place_names := rfl
@[simp] theorem t__law_program_f1 : t__law_program.fn 1 = m__law_cell_at := rfl
@[simp] theorem t__law_program_f2 : t__law_program.fn 2 = m__law_draws := rfl
@[simp] theorem t__law_program_f3 : t__law_program.fn 3 = m__law_coded := rfl
@[simp] theorem t__law_program_f4 : t__law_program.fn 4 = m__law_row := rfl
@[simp] theorem t__law_program_f5 : t__law_program.fn 5 = m__law_line := rfl
def B__law_program_1 : List MS :=
  [.asg (.s 7) (.call 2 [(.idx (.var 0) (.var 6)), (.var 6), (.var 1)]),
  .ifs (.boolE true [(.cmp .eq (.bin .mod (.bin .div (.idx (.var 7) (.cst (.int 5))) (.cst (.int 8))) (.cst (.int 4))) (.cst (.int 2))), (.cmp .lt (.bi .len [(.var 5)]) (.cst (.int 12)))]) 
    [.asg (.s 8) (.idx (.var 2) (.bi .len [(.var 5)])),
    .mut .setI 5 [] [(.var 8), (.bi .len [(.var 4)])],
    .mut .append 3 [] [(.tupE [(.bin .add (.var 8) (.cst (.str ":"))), (.cst .non)])]] 
    [.asg (.s 9) (.call 3 [(.call 4 [(.bin .mod (.bin .mod (.idx (.var 0) (.var 6)) (.cst (.int 16))) (.cst (.int 15))), (.var 7)])]),
    .ifs (.cmp .eq (.bin .mod (.bin .div (.idx (.var 7) (.cst (.int 5))) (.cst (.int 8))) (.cst (.int 4))) (.cst (.int 1))) 
      [.asg (.s 9) (.idx (.var 7) (.cst (.int 0)))] [],
    .mut .append 4 [] [(.var 9)],
    .mut .append 3 [] [(.tupE [(.call 5 [(.var 9)]), (.idx (.var 7) (.cst (.int 3)))])]]]
def b__law_program : List MS :=
  [.asg (.s 2) (.call 0 [(.call 1 [(.var 0), (.cst (.int 0))]), (.var 1)]),
  .asg (.s 3) (.lstE .F []),
  .asg (.s 4) (.lstE .F []),
  .asg (.s 5) (.dctE [] .F [] []),
  .for_ (.s 6) .rng2 [(.cst (.int 1)), (.bi .min2 [(.bi .len [(.var 0)]), (.cst (.int 61))])] B__law_program_1,
  .ret (.tupE [(.var 2), (.frz 3), (.frz 4), (.frz 5)])]
def m__law_program : List D → RF := runR 10 fun ρ => exs t__law_program b__law_program ρ
/-! _law_named -/
def t__law_named : Tab := { fn := fun k => match k with  | _ => fun _ => .no, gl := fun k => match k with  | _ => .non }
def B__law_named_1 : List MS :=
  [.asg (.s 6) (.splt (.var 4) " "),
  .ifs (.boolE true [(.cmp .isn (.var 5) (.cst .non)), (.cmp .ne (.var 3) (.lstE .F [])), (.cmp .inn (.idx (.var 6) (.cst (.int 0))) (.tupE [(.cst (.str "put")), (.cst (.str "jump")), (.cst (.str "if"))])), (.cmp .gt (.bin .mod (.var 5) (.cst (.int 3))) (.cst (.int 0)))]) 
    [.mut .setI 6 [] [(.neg (.cst (.int 1))), (.idx (.var 3) (.bin .mod (.bin .div (.var 5) (.cst (.int 3))) (.bi .len [(.var 3)])))]] [],
  .mut .append 2 [] [(.join " " (.var 6))]]
def b__law_named : List MS :=
  [.asg (.s 2) (.lstE .F []),
  .asg (.s 3) (.frzE (.srt (.keysL (.var 1)))),
  .for_ (.t [(.s 4), (.s 5)]) .seq [(.var 0)] B__law_named_1,
  .ret (.frz 2)]
def m__law_named : List D → RF := runR 7 fun ρ => exs t__law_named b__law_named ρ
/-! is_place_name -/
def t_is_place_name : Tab := { fn := fun k => match k with  | _ => fun _ => .no, gl := fun k => match k with | 0 => g_LONGEST | 1 => g_LETTERS | _ => .non }
@[simp] theorem t_is_place_name_g0 : t_is_place_name.gl 0 = g_LONGEST := rfl
@[simp] theorem t_is_place_name_g1 : t_is_place_name.gl 1 = g_LETTERS := rfl
def B_is_place_name_1 : List MS :=
  [.ifs (.cmp .nin (.var 1) (.glob 1)) 
    [.ret (.cst (.bl false))] []]
def b_is_place_name : List MS :=
  [.ifs (.boolE false [(.notE (.chain .le .le (.cst (.int 1)) (.bi .len [(.var 0)]) (.glob 0))), (.gin false tb_FORMS (.var 0)), (.cmp .eq (.var 0) (.cst (.str "word")))]) 
    [.ret (.cst (.bl false))] [],
  .for_ (.s 1) .seq [(.var 0)] B_is_place_name_1,
  .ret (.cst (.bl true))]
def m_is_place_name : List D → RF := runR 2 fun ρ => exs t_is_place_name b_is_place_name ρ
/-! number_in -/
def t_number_in : Tab := { fn := fun k => match k with  | _ => fun _ => .no, gl := fun k => match k with | 0 => g_MOST_FIGURES | 1 => g_FIGURES | _ => .non }
@[simp] theorem t_number_in_g0 : t_number_in.gl 0 = g_MOST_FIGURES := rfl
@[simp] theorem t_number_in_g1 : t_number_in.gl 1 = g_FIGURES := rfl
def B_number_in_1 : List MS :=
  [.ifs (.cmp .nin (.var 1) (.glob 1)) 
    [.ret (.cst .non)] []]
def b_number_in : List MS :=
  [.ifs (.boolE false [(.notE (.chain .le .le (.cst (.int 1)) (.bi .len [(.var 0)]) (.glob 0))), (.boolE true [(.cmp .eq (.idx (.var 0) (.cst (.int 0))) (.cst (.str "0"))), (.cmp .gt (.bi .len [(.var 0)]) (.cst (.int 1)))])]) 
    [.ret (.cst .non)] [],
  .for_ (.s 1) .seq [(.var 0)] B_number_in_1,
  .ret (.bi .int [(.var 0)])]
def m_number_in : List D → RF := runR 2 fun ρ => exs t_number_in b_number_in ρ
/-! is_whole -/
def t_is_whole : Tab := { fn := fun k => match k with  | _ => fun _ => .no, gl := fun k => match k with  | _ => .non }
def b_is_whole : List MS :=
  [.ret (.boolE true [(.bi (.isi [.int]) [(.var 0)]), (.notE (.bi (.isi [.bool]) [(.var 0)]))])]
def m_is_whole : List D → RF := runR 1 fun ρ => exs t_is_whole b_is_whole ρ
/-! is_word -/
def t_is_word : Tab := { fn := fun k => match k with | 0 => m_is_whole | _ => fun _ => .no, gl := fun k => match k with | 0 => g_ROUND | _ => .non }
@[simp] theorem t_is_word_f0 : t_is_word.fn 0 = m_is_whole := rfl
@[simp] theorem t_is_word_g0 : t_is_word.gl 0 = g_ROUND := rfl
def b_is_word : List MS :=
  [.ret (.boolE true [(.call 0 [(.var 0)]), (.chain .le .lt (.cst (.int 0)) (.var 0) (.glob 0))])]
def m_is_word : List D → RF := runR 1 fun ρ => exs t_is_word b_is_word ρ
/-! register_in -/
def t_register_in : Tab := { fn := fun k => match k with  | _ => fun _ => .no, gl := fun k => match k with | 0 => g_REGISTERS | _ => .non }
@[simp] theorem t_register_in_g0 : t_register_in.gl 0 = g_REGISTERS := rfl
def b_register_in : List MS :=
  [.ifs (.boolE true [(.cmp .eq (.bi .len [(.var 0)]) (.cst (.int 2))), (.cmp .eq (.idx (.var 0) (.cst (.int 0))) (.cst (.str "r"))), (.cmp .inn (.idx (.var 0) (.cst (.int 1))) (.glob 0))]) 
    [.ret (.bi .int [(.idx (.var 0) (.cst (.int 1)))])] [],
  .ret (.cst .non)]
def m_register_in : List D → RF := runR 1 fun ρ => exs t_register_in b_register_in ρ
/-! part_in -/
def t_part_in : Tab := { fn := fun k => match k with | 0 => m_register_in | 1 => m_is_place_name | 2 => m_number_in | _ => fun _ => .no, gl := fun k => match k with | 0 => g_NAMING | _ => .non }
@[simp] theorem t_part_in_f0 : t_part_in.fn 0 = m_register_in := rfl
@[simp] theorem t_part_in_f1 : t_part_in.fn 1 = m_is_place_name := rfl
@[simp] theorem t_part_in_f2 : t_part_in.fn 2 = m_number_in := rfl
@[simp] theorem t_part_in_g0 : t_part_in.gl 0 = g_NAMING := rfl
def b_part_in : List MS :=
  [.ifs (.cmp .ne (.var 1) (.cst (.str "n"))) 
    [.ret (.call 0 [(.var 2)])] [],
  .ifs (.boolE true [(.cmp .inn (.var 0) (.glob 0)), (.call 1 [(.var 2)])]) 
    [.ret (.var 2)] [],
  .asg (.s 3) (.call 2 [(.var 2)]),
  .ifs (.boolE false [(.cmp .is (.var 3) (.cst .non)), (.cmp .ge (.var 3) (.gidx tb_BOUNDS (.var 1)))]) 
    [.ret (.cst .non)] [],
  .ret (.var 3)]
def m_part_in : List D → RF := runR 4 fun ρ => exs t_part_in b_part_in ρ
/-! item_in -/
def t_item_in : Tab := { fn := fun k => match k with | 0 => m_number_in | 1 => m_is_word | 2 => m_part_in | _ => fun _ => .no, gl := fun k => match k with  | _ => .non }
@[simp] theorem t_item_in_f0 : t_item_in.fn 0 = m_number_in := rfl
@[simp] theorem t_item_in_f1 : t_item_in.fn 1 = m_is_word := rfl
@[simp] theorem t_item_in_f2 : t_item_in.fn 2 = m_part_in := rfl
def b_item_in : List MS :=
  [.ifs (.boolE true [(.cmp .eq (.idx (.var 0) (.cst (.int 0))) (.cst (.str "word"))), (.cmp .eq (.bi .len [(.var 0)]) (.cst (.int 2)))]) 
    [.asg (.s 2) (.call 0 [(.idx (.var 0) (.cst (.int 1)))]),
    .ret (.ife (.call 1 [(.var 2)]) (.var 2) (.cst .non))] [],
  .ifs (.boolE false [(.gin true tb_FORMS (.idx (.var 0) (.cst (.int 0)))), (.cmp .ne (.bi .len [(.var 0)]) (.bin .add (.cst (.int 1)) (.bi .len [(.gidx tb_FORMS (.idx (.var 0) (.cst (.int 0))))])))]) 
    [.ret (.cst .non)] [],
  .asg (.s 1) (.comp (.call 2 [(.idx (.var 0) (.cst (.int 0))), (.var 3), (.var 4)]) (.t [(.s 3), (.s 4)]) [3, 4] .zip [(.gidx tb_FORMS (.idx (.var 0) (.cst (.int 0)))), (.slc (.var 0) (some (.cst (.int 1))) none)] none),
  .ifs (.cmp .inn (.cst .non) (.var 1)) 
    [.ret (.cst .non)] [],
  .ret (.bi .tuple [(.bin .add (.lstE .F [(.idx (.var 0) (.cst (.int 0)))]) (.var 1))])]
def m_item_in : List D → RF := runR 5 fun ρ => exs t_item_in b_item_in ρ
/-! items_in -/
def t_items_in : Tab := { fn := fun k => match k with | 0 => m_is_place_name | 1 => m_item_in | _ => fun _ => .no, gl := fun k => match k with  | _ => .non }
@[simp] theorem t_items_in_f0 : t_items_in.fn 0 = m_is_place_name := rfl
@[simp] theorem t_items_in_f1 : t_items_in.fn 1 = m_item_in := rfl
def B_items_in_1 : List MS :=
  [.asg (.s 5) (.slc (.var 4) none (some (.neg (.cst (.int 1))))),
  .ifs (.boolE true [(.cmp .eq (.slc (.var 4) (some (.neg (.cst (.int 1)))) none) (.cst (.str ":"))), (.call 0 [(.var 5)]), (.cmp .nin (.var 5) (.var 2))]) 
    [.mut .setI 2 [] [(.var 5), (.bi .len [(.var 1)])]] 
    [.asg (.s 6) (.call 1 [(.splt (.var 4) " ")]),
    .ifs (.cmp .is (.var 6) (.cst .non)) 
      [.nev] [],
    .mut .append 1 [] [(.tupE [(.var 3), (.var 6)])]]]
def b_items_in : List MS :=
  [.asg (.s 1) (.lstE .F []),
  .asg (.s 2) (.dctE [] .F [] []),
  .for_ (.t [(.s 3), (.s 4)]) .enum [(.var 0)] B_items_in_1,
  .ret (.tupE [(.frz 1), (.frz 2)])]
def m_items_in : List D → RF := runR 7 fun ρ => exs t_items_in b_items_in ρ
/-! name_in -/
def t_name_in : Tab := { fn := fun k => match k with  | _ => fun _ => .no, gl := fun k => match k with  | _ => .non }
def b_name_in : List MS :=
  [.ifs (.boolE false [(.bi (.isi [.int]) [(.var 0)]), (.cmp .eq (.bi .len [(.var 0)]) (.cst (.int 1))), (.notE (.bi (.isi [.str]) [(.idx (.var 0) (.neg (.cst (.int 1))))]))]) 
    [.ret (.cst .non)] [],
  .ret (.idx (.var 0) (.neg (.cst (.int 1))))]
def m_name_in : List D → RF := runR 1 fun ρ => exs t_name_in b_name_in ρ
/-! is_row -/
def t_is_row : Tab := { fn := fun k => match k with | 0 => m_is_whole | _ => fun _ => .no, gl := fun k => match k with  | _ => .non }
@[simp] theorem t_is_row_f0 : t_is_row.fn 0 = m_is_whole := rfl
def B_is_row_1 : List MS :=
  [.ifs (.boolE false [(.notE (.call 0 [(.var 3)])), (.notE (.chain .le .lt (.cst (.int 0)) (.var 3) (.gidx tb_BOUNDS (.var 2))))]) 
    [.ret (.cst (.bl false))] []]
def b_is_row : List MS :=
  [.ifs (.boolE false [(.notE (.bi (.isi [.tuple]) [(.var 0)])), (.cmp .eq (.var 0) (.tupE [])), (.notE (.bi (.isi [.str]) [(.idx (.var 0) (.cst (.int 0)))])), (.gin true tb_FORMS (.idx (.var 0) (.cst (.int 0))))]) 
    [.ret (.cst (.bl false))] [],
  .asg (.s 1) (.gidx tb_FORMS (.idx (.var 0) (.cst (.int 0)))),
  .ifs (.cmp .ne (.bi .len [(.var 0)]) (.bin .add (.cst (.int 1)) (.bi .len [(.var 1)]))) 
    [.ret (.cst (.bl false))] [],
  .for_ (.t [(.s 2), (.s 3)]) .zip [(.var 1), (.slc (.var 0) (some (.cst (.int 1))) none)] B_is_row_1,
  .ret (.cst (.bl true))]
def m_is_row : List D → RF := runR 4 fun ρ => exs t_is_row b_is_row ρ
/-! coded -/
def t_coded : Tab := { fn := fun k => match k with | 0 => m_is_row | _ => fun _ => .no, gl := fun k => match k with | 0 => g_OVER | _ => .non }
@[simp] theorem t_coded_f0 : t_coded.fn 0 = m_is_row := rfl
@[simp] theorem t_coded_g0 : t_coded.gl 0 = g_OVER := rfl
def B_coded_1 : List MS :=
  [.aug 1 (.bin .mul (.var 3) (.gidx tb_WORTHS (.var 2)))]
def b_coded : List MS :=
  [.ifs (.notE (.call 0 [(.var 0)])) 
    [.nev] [],
  .asg (.s 1) (.bin .mul (.tidx ["put", "high", "copy", "add", "less", "times", "cut", "rest", "under", "same", "load", "store", "jump", "if", "call"] (.idx (.var 0) (.cst (.int 0)))) (.glob 0)),
  .for_ (.t [(.s 2), (.s 3)]) .zip [(.gidx tb_FORMS (.idx (.var 0) (.cst (.int 0)))), (.slc (.var 0) (some (.cst (.int 1))) none)] B_coded_1,
  .ret (.var 1)]
def m_coded : List D → RF := runR 4 fun ρ => exs t_coded b_coded ρ
/-! word_of -/
def t_word_of : Tab := { fn := fun k => match k with | 0 => m_name_in | 1 => m_coded | _ => fun _ => .no, gl := fun k => match k with  | _ => .non }
@[simp] theorem t_word_of_f0 : t_word_of.fn 0 = m_name_in := rfl
@[simp] theorem t_word_of_f1 : t_word_of.fn 1 = m_coded := rfl
def b_word_of : List MS :=
  [.ifs (.bi (.isi [.int]) [(.var 0)]) 
    [.ret (.var 0)] [],
  .ifs (.cmp .isn (.call 0 [(.var 0)]) (.cst .non)) 
    [.asg (.s 0) (.bin .add (.slc (.var 0) none (some (.neg (.cst (.int 1))))) (.tupE [(.idx (.var 1) (.idx (.var 0) (.neg (.cst (.int 1)))))]))] [],
  .ret (.call 1 [(.var 0)])]
def m_word_of : List D → RF := runR 2 fun ρ => exs t_word_of b_word_of ρ
/-! read_code -/
def t_read_code : Tab := { fn := fun k => match k with | 0 => m_items_in | 1 => m_name_in | 2 => m_word_of | _ => fun _ => .no, gl := fun k => match k with | 0 => g_MOST_WORDS | _ => .non }
@[simp] theorem t_read_code_f0 : t_read_code.fn 0 = m_items_in := rfl
@[simp] theorem t_read_code_f1 : t_read_code.fn 1 = m_name_in := rfl
@[simp] theorem t_read_code_f2 : t_read_code.fn 2 = m_word_of := rfl
@[simp] theorem t_read_code_g0 : t_read_code.gl 0 = g_MOST_WORDS := rfl
def B_read_code_1 : List MS :=
  [.asg (.s 5) (.call 1 [(.var 4)]),
  .ifs (.boolE true [(.cmp .isn (.var 5) (.cst .non)), (.cmp .nin (.var 5) (.var 2))]) 
    [.nev] []]
def b_read_code : List MS :=
  [.ifs (.notE (.bi (.isi [.str]) [(.var 0)])) 
    [.nev] [],
  .ifs (.cmp .eq (.var 0) (.cst (.str ""))) 
    [.ret (.lstE .F [])] [],
  .asg (.t [(.s 1), (.s 2)]) (.call 0 [(.splt (.var 0) "\n")]),
  .for_ (.t [(.s 3), (.s 4)]) .seq [(.var 1)] B_read_code_1,
  .ifs (.cmp .gt (.bi .len [(.var 1)]) (.glob 0)) 
    [.nev] [],
  .ret (.comp (.call 2 [(.var 4), (.var 2)]) (.t [(.s 3), (.s 4)]) [3, 4] .seq [(.var 1)] none)]
def m_read_code : List D → RF := runR 6 fun ρ => exs t_read_code b_read_code ρ
/-! _law_numbered -/
def t__law_numbered : Tab := { fn := fun k => match k with  | _ => fun _ => .no, gl := fun k => match k with  | _ => .non }
def B__law_numbered_1 : List MS :=
  [.ifs (.cmp .ne (.idx (.var 4) (.neg (.cst (.int 1)))) (.cst (.str ":"))) 
    [.asg (.s 5) (.splt (.var 4) " "),
    .asg (.s 6) (.comp (.ife (.cmp .inn (.var 7) (.var 1)) (.bi .str [(.bin .add (.idx (.var 1) (.var 7)) (.var 2))]) (.var 7)) (.s 7) [7] .seq [(.slc (.var 5) (some (.cst (.int 1))) none)] none),
    .mut .append 3 [] [(.join " " (.bin .add (.slc (.var 5) none (some (.cst (.int 1)))) (.var 6)))]] []]
def b__law_numbered : List MS :=
  [.asg (.s 3) (.lstE .F []),
  .for_ (.s 4) .seq [(.var 0)] B__law_numbered_1,
  .ret (.frz 3)]
def m__law_numbered : List D → RF := runR 8 fun ρ => exs t__law_numbered b__law_numbered ρ
/-! _law_turned -/
def t__law_turned : Tab := { fn := fun k => match k with  | _ => fun _ => .no, gl := fun k => match k with  | _ => .non }
def B__law_turned_1 : List MS :=
  [.mut .setI 4 [] [(.var 5), (.bin .add (.cst (.str "zy")) (.idx (.cst (.str "abcdefghijkl")) (.ixL (.srt (.keysL (.var 2))) (.var 5))))]]
def B__law_turned_2 : List MS :=
  [.asg (.s 7) (.splt (.var 6) " "),
  .asg (.s 7) (.bin .add (.slc (.var 7) none (some (.cst (.int 1)))) (.comp (.getD (.var 4) (.var 8) (.var 8)) (.s 8) [8] .seq [(.slc (.var 7) (some (.cst (.int 1))) none)] none)),
  .ifs (.cmp .eq (.idx (.var 6) (.neg (.cst (.int 1)))) (.cst (.str ":"))) 
    [.asg (.s 7) (.frzE (.lstE .F [(.bin .add (.idx (.var 4) (.slc (.var 6) none (some (.neg (.cst (.int 1)))))) (.cst (.str ":")))]))] [],
  .mut .append 3 [] [(.join " " (.var 7))]]
def b__law_turned : List MS :=
  [.asg (.s 3) (.lstE .F []),
  .asg (.s 4) (.dctE [] .F [] []),
  .forK (.s 5) .keys 2 B__law_turned_1,
  .for_ (.s 6) .seq [(.var 0)] B__law_turned_2,
  .ret (.frz 3)]
def m__law_turned : List D → RF := runR 9 fun ρ => exs t__law_turned b__law_turned ρ
/-! law -/
def t_law : Tab := { fn := fun k => match k with | 0 => m__law_program | 1 => m__law_named | 2 => m_read_code | 3 => m__law_numbered | 4 => m__law_turned | _ => fun _ => .no, gl := fun k => match k with  | _ => .non }
@[simp] theorem t_law_f0 : t_law.fn 0 = m__law_program := rfl
@[simp] theorem t_law_f1 : t_law.fn 1 = m__law_named := rfl
@[simp] theorem t_law_f2 : t_law.fn 2 = m_read_code := rfl
@[simp] theorem t_law_f3 : t_law.fn 3 = m__law_numbered := rfl
@[simp] theorem t_law_f4 : t_law.fn 4 = m__law_turned := rfl
def b_law : List MS :=
  [.asg (.t [(.s 6), (.s 7), (.s 8), (.s 9)]) (.call 0 [(.var 0), (.cst (.bl true))]),
  .asg (.s 1) (.call 1 [(.var 7), (.var 9)]),
  .asg (.s 2) (.call 2 [(.join "\n" (.var 1))]),
  .ifs (.cmp .ne (.call 2 [(.join "\n" (.call 3 [(.var 1), (.var 9), (.cst (.int 0))]))]) (.var 2)) 
    [.ret (.cst (.bl false))] [],
  .ifs (.cmp .ne (.call 2 [(.join "\n" (.call 4 [(.var 1), (.var 6), (.var 9)]))]) (.var 2)) 
    [.ret (.cst (.bl false))] [],
  .asg (.s 3) (.call 2 [(.join "\n" (.bin .add (.lstE .F [(.cst (.str "call"))]) (.var 1)))]),
  .ifs (.cmp .ne (.var 3) (.call 2 [(.join "\n" (.bin .add (.lstE .F [(.cst (.str "call"))]) (.call 3 [(.var 1), (.var 9), (.cst (.int 1))])))])) 
    [.ret (.cst (.bl false))] [],
  .asg (.s 4) (.comp (.var 10) (.s 10) [10] .keys [(.var 9)] (some (.cmp .eq (.idx (.var 9) (.var 10)) (.bi .len [(.var 8)])))),
  .asg (.s 5) (.comp (.var 11) (.s 11) [11] .seq [(.var 1)] (some (.boolE false [(.cmp .ne (.idx (.var 11) (.neg (.cst (.int 1)))) (.cst (.str ":"))), (.cmp .nin (.slc (.var 11) none (some (.neg (.cst (.int 1))))) (.var 4))]))),
  .asg (.s 5) (.bin .add (.var 5) (.comp (.bin .add (.var 10) (.cst (.str ":"))) (.s 10) [10] .rev [(.srt (.var 4))] none)),
  .ret (.boolE true [(.cmp .eq (.bi .len [(.var 3)]) (.bin .add (.bi .len [(.var 2)]) (.cst (.int 1)))), (.cmp .eq (.call 2 [(.join "\n" (.var 5))]) (.var 2))])]
def m_law : List D → RF := runR 12 fun ρ => exs t_law b_law ρ
/-! the text by places -/
abbrev s__law_forms : Stmt := tops 37
def y__law_forms : Syn := { N := ["_law_three", "_law_forms_here", "_law_name"], sc := defScope s__law_forms, top := true, fns := [], gls := [], bns := [], tups := [], tabs := [], excs := [], cats := [] }
theorem c__law_forms : (chkB y__law_forms .F (slots0 3 []) b__law_forms (defBody s__law_forms)).isSome = true := by decide +kernel
theorem f__law_forms : FnScope ["_law_three", "_law_forms_here", "_law_name"] [] (defScope s__law_forms) := ⟨rfl, rfl, rfl, by decide +kernel, rfl, by decide +kernel, by decide +kernel⟩
abbrev s__law_place_names : Stmt := tops 42
def y__law_place_names : Syn := { N := ["_law_cell", "_law_free", "_law_letters", "_law_digits", "_law_size", "_law_at", "_law_drawn", "_law_base", "_law_j", "_law_names", "_law_k", "_law_signs", "_law_name", "_law_form"], sc := defScope s__law_place_names, top := true, fns := [⟨"_law_forms", [], .F⟩], gls := [], bns := ["range", "int"], tups := [], tabs := [], excs := [], cats := [] }
theorem c__law_place_names : (chkB y__law_place_names .F (slots0 14 [none, none]) b__law_place_names (defBody s__law_place_names)).isSome = true := by decide +kernel
theorem f__law_place_names : FnScope ["_law_cell", "_law_free", "_law_letters", "_law_digits", "_law_size", "_law_at", "_law_drawn", "_law_base", "_law_j", "_law_names", "_law_k", "_law_signs", "_law_name", "_law_form"] ["_law_cell", "_law_free"] (defScope s__law_place_names) := ⟨rfl, rfl, rfl, by decide +kernel, rfl, by decide +kernel, by decide +kernel⟩
abbrev s__law_cell_at : Stmt := tops 34
def y__law_cell_at : Syn := { N := ["_law_script", "_law_k"], sc := defScope s__law_cell_at, top := true, fns := [], gls := [], bns := ["len"], tups := [], tabs := [], excs := [], cats := [] }
theorem c__law_cell_at : (chkB y__law_cell_at .F (slots0 2 [none, none]) b__law_cell_at (defBody s__law_cell_at)).isSome = true := by decide +kernel
theorem f__law_cell_at : FnScope ["_law_script", "_law_k"] ["_law_script", "_law_k"] (defScope s__law_cell_at) := ⟨rfl, rfl, rfl, by decide +kernel, rfl, by decide +kernel, by decide +kernel⟩
abbrev s__law_draws : Stmt := tops 36
def y__law_draws : Syn := { N := ["_law_cell", "_law_k", "_law_free", "_law_found", "_law_digits", "_law_drawn", "_law_j"], sc := defScope s__law_draws, top := true, fns := [], gls := [], bns := ["range"], tups := [], tabs := [], excs := [], cats := [] }
theorem c__law_draws : (chkB y__law_draws .F (slots0 7 [none, none, none]) b__law_draws (defBody s__law_draws)).isSome = true := by decide +kernel
theorem f__law_draws : FnScope ["_law_cell", "_law_k", "_law_free", "_law_found", "_law_digits", "_law_drawn", "_law_j"] ["_law_cell", "_law_k", "_law_free"] (defScope s__law_draws) := ⟨rfl, rfl, rfl, by decide +kernel, rfl, by decide +kernel, by decide +kernel⟩
abbrev s__law_coded : Stmt := tops 39
def y__law_coded : Syn := { N := ["_law_row_here", "_law_place", "_law_name", "_law_form", "_law_word", "_law_k"], sc := defScope s__law_coded, top := true, fns := [⟨"_law_forms", [], .F⟩], gls := [], bns := ["range", "len"], tups := [], tabs := [], excs := [], cats := [] }
theorem c__law_coded : (chkB y__law_coded .F (slots0 6 [none]) b__law_coded (defBody s__law_coded)).isSome = true := by decide +kernel
theorem f__law_coded : FnScope ["_law_row_here", "_law_place", "_law_name", "_law_form", "_law_word", "_law_k"] ["_law_row_here"] (defScope s__law_coded) := ⟨rfl, rfl, rfl, by decide +kernel, rfl, by decide +kernel, by decide +kernel⟩
abbrev s__law_row : Stmt := tops 38
def y__law_row : Syn := { N := ["_law_way", "_law_draws_here", "_law_parts", "_law_k", "_law_name", "_law_form", "_law_most", "_law_part"], sc := defScope s__law_row, top := true, fns := [⟨"_law_forms", [], .F⟩], gls := [], bns := ["range", "len", "int", "tuple"], tups := [], tabs := [], excs := [], cats := [] }
theorem c__law_row : (chkB y__law_row .F (slots0 8 [none, none]) b__law_row (defBody s__law_row)).isSome = true := by decide +kernel
theorem f__law_row : FnScope ["_law_way", "_law_draws_here", "_law_parts", "_law_k", "_law_name", "_law_form", "_law_most", "_law_part"] ["_law_way", "_law_draws_here"] (defScope s__law_row) := ⟨rfl, rfl, rfl, by decide +kernel, rfl, by decide +kernel, by decide +kernel⟩
abbrev s__law_decoded : Stmt := tops 40
def y__law_decoded : Syn := { N := ["_law_word", "_law_place", "_law_parts", "_law_letter", "_law_row_here", "_law_name", "_law_form", "_law_worth"], sc := defScope s__law_decoded, top := true, fns := [⟨"_law_forms", [], .F⟩, ⟨"_law_coded", [none], .F⟩], gls := [], bns := ["int", "tuple"], tups := [], tabs := [], excs := [], cats := [] }
theorem c__law_decoded : (chkB y__law_decoded .F (slots0 8 [none]) b__law_decoded (defBody s__law_decoded)).isSome = true := by decide +kernel
theorem f__law_decoded : FnScope ["_law_word", "_law_place", "_law_parts", "_law_letter", "_law_row_here", "_law_name", "_law_form", "_law_worth"] ["_law_word"] (defScope s__law_decoded) := ⟨rfl, rfl, rfl, by decide +kernel, rfl, by decide +kernel, by decide +kernel⟩
abbrev s__law_line : Stmt := tops 41
def y__law_line : Syn := { N := ["_law_word", "_law_row_here", "_law_words", "_law_k", "_law_name", "_law_form"], sc := defScope s__law_line, top := true, fns := [⟨"_law_decoded", [none], .F⟩, ⟨"_law_forms", [], .F⟩], gls := [], bns := ["str", "range", "len", "int"], tups := [], tabs := [], excs := [], cats := [] }
theorem c__law_line : (chkB y__law_line .F (slots0 6 [none]) b__law_line (defBody s__law_line)).isSome = true := by decide +kernel
theorem f__law_line : FnScope ["_law_word", "_law_row_here", "_law_words", "_law_k", "_law_name", "_law_form"] ["_law_word"] (defScope s__law_line) := ⟨rfl, rfl, rfl, by decide +kernel, rfl, by decide +kernel, by decide +kernel⟩
abbrev s__law_program : Stmt := tops 43
def y__law_program : Syn := { N := ["_law_script", "_law_free", "_law_names", "_law_lines", "_law_words", "_law_places", "_law_k", "_law_draws_here", "_law_name", "_law_word"], sc := defScope s__law_program, top := true, fns := [⟨"_law_place_names", [none, none], .F⟩, ⟨"_law_cell_at", [none, none], .F⟩, ⟨"_law_draws", [none, none, none], .F⟩, ⟨"_law_coded", [none], .F⟩, ⟨"_law_row", [none, none], .F⟩, ⟨"_law_line", [none], .F⟩], gls := [], bns := ["range", "min", "len"], tups := [], tabs := [], excs := [], cats := [] }
theorem c__law_program : (chkB y__law_program .F (slots0 10 [none, none]) b__law_program (defBody s__law_program)).isSome = true := by decide +kernel
theorem f__law_program : FnScope ["_law_script", "_law_free", "_law_names", "_law_lines", "_law_words", "_law_places", "_law_k", "_law_draws_here", "_law_name", "_law_word"] ["_law_script", "_law_free"] (defScope s__law_program) := ⟨rfl, rfl, rfl, by decide +kernel, rfl, by decide +kernel, by decide +kernel⟩
abbrev s__law_named : Stmt := tops 44
def y__law_named : Syn := { N := ["_law_lines", "_law_places", "_law_told", "_law_known", "_law_line_here", "_law_drawn", "_law_parts"], sc := defScope s__law_named, top := true, fns := [], gls := [], bns := ["sorted", "list", "len"], tups := [], tabs := [], excs := [], cats := [] }
theorem c__law_named : (chkB y__law_named .F (slots0 7 [none, none]) b__law_named (defBody s__law_named)).isSome = true := by decide +kernel
theorem f__law_named : FnScope ["_law_lines", "_law_places", "_law_told", "_law_known", "_law_line_here", "_law_drawn", "_law_parts"] ["_law_lines", "_law_places"] (defScope s__law_named) := ⟨rfl, rfl, rfl, by decide +kernel, rfl, by decide +kernel, by decide +kernel⟩
abbrev s_is_place_name : Stmt := tops 25
def y_is_place_name : Syn := { N := ["word", "sign"], sc := defScope s_is_place_name, top := true, fns := [], gls := ["LONGEST", "LETTERS"], bns := ["len"], tups := [], tabs := [("FORMS", tb_FORMS)], excs := [], cats := [] }
theorem c_is_place_name : (chkB y_is_place_name .F (slots0 2 [none]) b_is_place_name (defBody s_is_place_name)).isSome = true := by decide +kernel
theorem f_is_place_name : FnScope ["word", "sign"] ["word"] (defScope s_is_place_name) := ⟨rfl, rfl, rfl, by decide +kernel, rfl, by decide +kernel, by decide +kernel⟩
abbrev s_number_in : Stmt := tops 24
def y_number_in : Syn := { N := ["word", "sign"], sc := defScope s_number_in, top := true, fns := [], gls := ["MOST_FIGURES", "FIGURES"], bns := ["len", "int"], tups := [], tabs := [], excs := [], cats := [] }
theorem c_number_in : (chkB y_number_in .F (slots0 2 [none]) b_number_in (defBody s_number_in)).isSome = true := by decide +kernel
theorem f_number_in : FnScope ["word", "sign"] ["word"] (defScope s_number_in) := ⟨rfl, rfl, rfl, by decide +kernel, rfl, by decide +kernel, by decide +kernel⟩
abbrev s_is_whole : Stmt := tops 6
def y_is_whole : Syn := { N := ["thing"], sc := defScope s_is_whole, top := true, fns := [], gls := [], bns := ["isinstance", "int", "bool"], tups := [], tabs := [], excs := [], cats := [] }
theorem c_is_whole : (chkB y_is_whole .F (slots0 1 [none]) b_is_whole (defBody s_is_whole)).isSome = true := by decide +kernel
theorem f_is_whole : FnScope ["thing"] ["thing"] (defScope s_is_whole) := ⟨rfl, rfl, rfl, by decide +kernel, rfl, by decide +kernel, by decide +kernel⟩
abbrev s_is_word : Stmt := tops 7
def y_is_word : Syn := { N := ["thing"], sc := defScope s_is_word, top := true, fns := [⟨"is_whole", [none], .F⟩], gls := ["ROUND"], bns := [], tups := [], tabs := [], excs := [], cats := [] }
theorem c_is_word : (chkB y_is_word .F (slots0 1 [none]) b_is_word (defBody s_is_word)).isSome = true := by decide +kernel
theorem f_is_word : FnScope ["thing"] ["thing"] (defScope s_is_word) := ⟨rfl, rfl, rfl, by decide +kernel, rfl, by decide +kernel, by decide +kernel⟩
abbrev s_register_in : Stmt := tops 26
def y_register_in : Syn := { N := ["word"], sc := defScope s_register_in, top := true, fns := [], gls := ["REGISTERS"], bns := ["len", "int"], tups := [], tabs := [], excs := [], cats := [] }
theorem c_register_in : (chkB y_register_in .F (slots0 1 [none]) b_register_in (defBody s_register_in)).isSome = true := by decide +kernel
theorem f_register_in : FnScope ["word"] ["word"] (defScope s_register_in) := ⟨rfl, rfl, rfl, by decide +kernel, rfl, by decide +kernel, by decide +kernel⟩
abbrev s_part_in : Stmt := tops 27
def y_part_in : Syn := { N := ["name", "letter", "word", "number"], sc := defScope s_part_in, top := true, fns := [⟨"register_in", [none], .F⟩, ⟨"is_place_name", [none], .F⟩, ⟨"number_in", [none], .F⟩], gls := ["NAMING"], bns := [], tups := [], tabs := [("BOUNDS", tb_BOUNDS)], excs := [], cats := [] }
theorem c_part_in : (chkB y_part_in .F (slots0 4 [none, none, none]) b_part_in (defBody s_part_in)).isSome = true := by decide +kernel
theorem f_part_in : FnScope ["name", "letter", "word", "number"] ["name", "letter", "word"] (defScope s_part_in) := ⟨rfl, rfl, rfl, by decide +kernel, rfl, by decide +kernel, by decide +kernel⟩
abbrev s_item_in : Stmt := tops 28
def y_item_in : Syn := { N := ["words", "parts", "number", "letter", "word"], sc := defScope s_item_in, top := true, fns := [⟨"number_in", [none], .F⟩, ⟨"is_word", [none], .F⟩, ⟨"part_in", [none, none, none], .F⟩], gls := [], bns := ["len", "zip", "tuple"], tups := [], tabs := [("FORMS", tb_FORMS)], excs := [], cats := [] }
theorem c_item_in : (chkB y_item_in .F (slots0 5 [none]) b_item_in (defBody s_item_in)).isSome = true := by decide +kernel
theorem f_item_in : FnScope ["words", "parts", "number", "letter", "word"] ["words"] (defScope s_item_in) := ⟨rfl, rfl, rfl, by decide +kernel, rfl, by decide +kernel, by decide +kernel⟩
abbrev s_items_in : Stmt := tops 29
def y_items_in : Syn := { N := ["lines", "items", "places", "at", "line", "name", "item"], sc := defScope s_items_in, top := true, fns := [⟨"is_place_name", [none], .F⟩, ⟨"item_in", [none], .F⟩], gls := [], bns := ["enumerate", "len"], tups := [], tabs := [], excs := [], cats := [] }
theorem c_items_in : (chkB y_items_in .F (slots0 7 [none]) b_items_in (defBody s_items_in)).isSome = true := by decide +kernel
theorem f_items_in : FnScope ["lines", "items", "places", "at", "line", "name", "item"] ["lines"] (defScope s_items_in) := ⟨rfl, rfl, rfl, by decide +kernel, rfl, by decide +kernel, by decide +kernel⟩
abbrev s_name_in : Stmt := tops 30
def y_name_in : Syn := { N := ["item"], sc := defScope s_name_in, top := true, fns := [], gls := [], bns := ["isinstance", "int", "len", "str"], tups := [], tabs := [], excs := [], cats := [] }
theorem c_name_in : (chkB y_name_in .F (slots0 1 [none]) b_name_in (defBody s_name_in)).isSome = true := by decide +kernel
theorem f_name_in : FnScope ["item"] ["item"] (defScope s_name_in) := ⟨rfl, rfl, rfl, by decide +kernel, rfl, by decide +kernel, by decide +kernel⟩
abbrev s_is_row : Stmt := tops 14
def y_is_row : Syn := { N := ["thing", "form", "letter", "part"], sc := defScope s_is_row, top := true, fns := [⟨"is_whole", [none], .F⟩], gls := [], bns := ["isinstance", "tuple", "str", "len", "zip"], tups := [], tabs := [("FORMS", tb_FORMS), ("BOUNDS", tb_BOUNDS)], excs := [], cats := [] }
theorem c_is_row : (chkB y_is_row .F (slots0 4 [none]) b_is_row (defBody s_is_row)).isSome = true := by decide +kernel
theorem f_is_row : FnScope ["thing", "form", "letter", "part"] ["thing"] (defScope s_is_row) := ⟨rfl, rfl, rfl, by decide +kernel, rfl, by decide +kernel, by decide +kernel⟩
abbrev s_coded : Stmt := tops 15
def y_coded : Syn := { N := ["row", "word", "letter", "part"], sc := defScope s_coded, top := true, fns := [⟨"is_row", [none], .F⟩], gls := ["OVER"], bns := ["zip"], tups := [("ROW_WORDS", ["put", "high", "copy", "add", "less", "times", "cut", "rest", "under", "same", "load", "store", "jump", "if", "call"])], tabs := [("FORMS", tb_FORMS), ("WORTHS", tb_WORTHS)], excs := [], cats := [] }
theorem c_coded : (chkB y_coded .F (slots0 4 [none]) b_coded (defBody s_coded)).isSome = true := by decide +kernel
theorem f_coded : FnScope ["row", "word", "letter", "part"] ["row"] (defScope s_coded) := ⟨rfl, rfl, rfl, by decide +kernel, rfl, by decide +kernel, by decide +kernel⟩
abbrev s_word_of : Stmt := tops 31
def y_word_of : Syn := { N := ["item", "places"], sc := defScope s_word_of, top := true, fns := [⟨"name_in", [none], .F⟩, ⟨"coded", [none], .F⟩], gls := [], bns := ["isinstance", "int"], tups := [], tabs := [], excs := [], cats := [] }
theorem c_word_of : (chkB y_word_of .F (slots0 2 [none, none]) b_word_of (defBody s_word_of)).isSome = true := by decide +kernel
theorem f_word_of : FnScope ["item", "places"] ["item", "places"] (defScope s_word_of) := ⟨rfl, rfl, rfl, by decide +kernel, rfl, by decide +kernel, by decide +kernel⟩
abbrev s_read_code : Stmt := tops 32
def y_read_code : Syn := { N := ["text", "items", "places", "at", "item", "name"], sc := defScope s_read_code, top := true, fns := [⟨"items_in", [none], .F⟩, ⟨"name_in", [none], .F⟩, ⟨"word_of", [none, none], .F⟩], gls := ["MOST_WORDS"], bns := ["isinstance", "str", "len"], tups := [], tabs := [], excs := [], cats := [] }
theorem c_read_code : (chkB y_read_code (.L .F) (slots0 6 [none]) b_read_code (defBody s_read_code)).isSome = true := by decide +kernel
theorem f_read_code : FnScope ["text", "items", "places", "at", "item", "name"] ["text"] (defScope s_read_code) := ⟨rfl, rfl, rfl, by decide +kernel, rfl, by decide +kernel, by decide +kernel⟩
abbrev s__law_numbered : Stmt := tops 47
def y__law_numbered : Syn := { N := ["_law_told", "_law_places", "_law_more", "_law_found", "_law_line_here", "_law_parts", "_law_rest", "_law_part"], sc := defScope s__law_numbered, top := true, fns := [], gls := [], bns := ["str"], tups := [], tabs := [], excs := [], cats := [] }
theorem c__law_numbered : (chkB y__law_numbered .F (slots0 8 [none, none, none]) b__law_numbered (defBody s__law_numbered)).isSome = true := by decide +kernel
theorem f__law_numbered : FnScope ["_law_told", "_law_places", "_law_more", "_law_found", "_law_line_here", "_law_parts", "_law_rest", "_law_part"] ["_law_told", "_law_places", "_law_more"] (defScope s__law_numbered) := ⟨rfl, rfl, rfl, by decide +kernel, rfl, by decide +kernel, by decide +kernel⟩
abbrev s__law_turned : Stmt := tops 46
def y__law_turned : Syn := { N := ["_law_told", "_law_names", "_law_places", "_law_found", "_law_other", "_law_name", "_law_line_here", "_law_parts", "_law_part"], sc := defScope s__law_turned, top := true, fns := [], gls := [], bns := ["sorted", "list"], tups := [], tabs := [], excs := [], cats := [] }
theorem c__law_turned : (chkB y__law_turned .F (slots0 9 [none, none, none]) b__law_turned (defBody s__law_turned)).isSome = true := by decide +kernel
theorem f__law_turned : FnScope ["_law_told", "_law_names", "_law_places", "_law_found", "_law_other", "_law_name", "_law_line_here", "_law_parts", "_law_part"] ["_law_told", "_law_names", "_law_places"] (defScope s__law_turned) := ⟨rfl, rfl, rfl, by decide +kernel, rfl, by decide +kernel, by decide +kernel⟩
abbrev s_law : Stmt := tops 48
def y_law : Syn := { N := ["_law_script", "_law_told", "_law_found", "_law_more", "_law_last", "_law_moved", "_law_names", "_law_lines", "_law_words", "_law_places", "_law_name", "_law_line_here"], sc := defScope s_law, top := true, fns := [⟨"_law_program", [none, none], .F⟩, ⟨"_law_named", [none, none], .F⟩, ⟨"read_code", [none], (.L .F)⟩, ⟨"_law_numbered", [none, none, none], .F⟩, ⟨"_law_turned", [none, none, none], .F⟩], gls := [], bns := ["len", "reversed", "sorted"], tups := [], tabs := [], excs := [], cats := [] }
theorem c_law : (chkB y_law .F (slots0 12 [none]) b_law (defBody s_law)).isSome = true := by decide +kernel
theorem f_law : FnScope ["_law_script", "_law_told", "_law_found", "_law_more", "_law_last", "_law_moved", "_law_names", "_law_lines", "_law_words", "_law_places", "_law_name", "_law_line_here"] ["_law_script"] (defScope s_law) := ⟨rfl, rfl, rfl, by decide +kernel, rfl, by decide +kernel, by decide +kernel⟩
structure Txt (w : World) (K : PySem.W.Frag) (mg : Str → Option Value) : Prop where
  d__law_forms : ∃ f, DefIn K mg "_law_forms" "_law_forms" s__law_forms f ["_law_three", "_law_forms_here", "_law_name"] []
  d__law_place_names : ∃ f, DefIn K mg "_law_place_names" "_law_place_names" s__law_place_names f ["_law_cell", "_law_free", "_law_letters", "_law_digits", "_law_size", "_law_at", "_law_drawn", "_law_base", "_law_j", "_law_names", "_law_k", "_law_signs", "_law_name", "_law_form"] ["_law_cell", "_law_free"]
  d__law_cell_at : ∃ f, DefIn K mg "_law_cell_at" "_law_cell_at" s__law_cell_at f ["_law_script", "_law_k"] ["_law_script", "_law_k"]
  d__law_draws : ∃ f, DefIn K mg "_law_draws" "_law_draws" s__law_draws f ["_law_cell", "_law_k", "_law_free", "_law_found", "_law_digits", "_law_drawn", "_law_j"] ["_law_cell", "_law_k", "_law_free"]
  d__law_coded : ∃ f, DefIn K mg "_law_coded" "_law_coded" s__law_coded f ["_law_row_here", "_law_place", "_law_name", "_law_form", "_law_word", "_law_k"] ["_law_row_here"]
  d__law_row : ∃ f, DefIn K mg "_law_row" "_law_row" s__law_row f ["_law_way", "_law_draws_here", "_law_parts", "_law_k", "_law_name", "_law_form", "_law_most", "_law_part"] ["_law_way", "_law_draws_here"]
  d__law_decoded : ∃ f, DefIn K mg "_law_decoded" "_law_decoded" s__law_decoded f ["_law_word", "_law_place", "_law_parts", "_law_letter", "_law_row_here", "_law_name", "_law_form", "_law_worth"] ["_law_word"]
  d__law_line : ∃ f, DefIn K mg "_law_line" "_law_line" s__law_line f ["_law_word", "_law_row_here", "_law_words", "_law_k", "_law_name", "_law_form"] ["_law_word"]
  d__law_program : ∃ f, DefIn K mg "_law_program" "_law_program" s__law_program f ["_law_script", "_law_free", "_law_names", "_law_lines", "_law_words", "_law_places", "_law_k", "_law_draws_here", "_law_name", "_law_word"] ["_law_script", "_law_free"]
  d__law_named : ∃ f, DefIn K mg "_law_named" "_law_named" s__law_named f ["_law_lines", "_law_places", "_law_told", "_law_known", "_law_line_here", "_law_drawn", "_law_parts"] ["_law_lines", "_law_places"]
  d_is_place_name : ∃ f, DefIn K mg "is_place_name" "is_place_name" s_is_place_name f ["word", "sign"] ["word"]
  d_number_in : ∃ f, DefIn K mg "number_in" "number_in" s_number_in f ["word", "sign"] ["word"]
  d_is_whole : ∃ f, DefIn K mg "is_whole" "is_whole" s_is_whole f ["thing"] ["thing"]
  d_is_word : ∃ f, DefIn K mg "is_word" "is_word" s_is_word f ["thing"] ["thing"]
  d_register_in : ∃ f, DefIn K mg "register_in" "register_in" s_register_in f ["word"] ["word"]
  d_part_in : ∃ f, DefIn K mg "part_in" "part_in" s_part_in f ["name", "letter", "word", "number"] ["name", "letter", "word"]
  d_item_in : ∃ f, DefIn K mg "item_in" "item_in" s_item_in f ["words", "parts", "number", "letter", "word"] ["words"]
  d_items_in : ∃ f, DefIn K mg "items_in" "items_in" s_items_in f ["lines", "items", "places", "at", "line", "name", "item"] ["lines"]
  d_name_in : ∃ f, DefIn K mg "name_in" "name_in" s_name_in f ["item"] ["item"]
  d_is_row : ∃ f, DefIn K mg "is_row" "is_row" s_is_row f ["thing", "form", "letter", "part"] ["thing"]
  d_coded : ∃ f, DefIn K mg "coded" "coded" s_coded f ["row", "word", "letter", "part"] ["row"]
  d_word_of : ∃ f, DefIn K mg "word_of" "word_of" s_word_of f ["item", "places"] ["item", "places"]
  d_read_code : ∃ f, DefIn K mg "read_code" "read_code" s_read_code f ["text", "items", "places", "at", "item", "name"] ["text"]
  d__law_numbered : ∃ f, DefIn K mg "_law_numbered" "_law_numbered" s__law_numbered f ["_law_told", "_law_places", "_law_more", "_law_found", "_law_line_here", "_law_parts", "_law_rest", "_law_part"] ["_law_told", "_law_places", "_law_more"]
  d__law_turned : ∃ f, DefIn K mg "_law_turned" "_law_turned" s__law_turned f ["_law_told", "_law_names", "_law_places", "_law_found", "_law_other", "_law_name", "_law_line_here", "_law_parts", "_law_part"] ["_law_told", "_law_names", "_law_places"]
  g_LONGEST : ∃ v u, mg "LONGEST" = some u ∧ RelV v u ∧ ∀ G, Fz K G v g_LONGEST
  g_LETTERS : ∃ v u, mg "LETTERS" = some u ∧ RelV v u ∧ ∀ G, Fz K G v g_LETTERS
  g_MOST_FIGURES : ∃ v u, mg "MOST_FIGURES" = some u ∧ RelV v u ∧ ∀ G, Fz K G v g_MOST_FIGURES
  g_FIGURES : ∃ v u, mg "FIGURES" = some u ∧ RelV v u ∧ ∀ G, Fz K G v g_FIGURES
  g_ROUND : ∃ v u, mg "ROUND" = some u ∧ RelV v u ∧ ∀ G, Fz K G v g_ROUND
  g_REGISTERS : ∃ v u, mg "REGISTERS" = some u ∧ RelV v u ∧ ∀ G, Fz K G v g_REGISTERS
  g_NAMING : ∃ v u, mg "NAMING" = some u ∧ RelV v u ∧ ∀ G, Fz K G v g_NAMING
  g_OVER : ∃ v u, mg "OVER" = some u ∧ RelV v u ∧ ∀ G, Fz K G v g_OVER
  g_MOST_WORDS : ∃ v u, mg "MOST_WORDS" = some u ∧ RelV v u ∧ ∀ G, Fz K G v g_MOST_WORDS
  b_range : mg "range" = none
  b_int : mg "int" = none
  b_len : mg "len" = none
  b_tuple : mg "tuple" = none
  b_str : mg "str" = none
  b_min : mg "min" = none
  b_sorted : mg "sorted" = none
  b_list : mg "list" = none
  b_isinstance : mg "isinstance" = none
  b_bool : mg "bool" = none
  b_zip : mg "zip" = none
  b_enumerate : mg "enumerate" = none
  b_reversed : mg "reversed" = none
  k_ROW_WORDS : KTup K mg "ROW_WORDS" ["put", "high", "copy", "add", "less", "times", "cut", "rest", "under", "same", "load", "store", "jump", "if", "call"]
  h_FORMS : KTab K w mg "FORMS" tb_FORMS
  h_BOUNDS : KTab K w mg "BOUNDS" tb_BOUNDS
  h_WORTHS : KTab K w mg "WORTHS" tb_WORTHS
section
variable {P : Program} {w : World} {K : PySem.W.Frag} {mg : Str → Option Value} {base : Heap}
theorem C__law_forms (T : Txt w K mg) : Callee P w K mg base 1 "_law_forms" [] .F m__law_forms := by
  obtain ⟨f, d⟩ := T.d__law_forms
  obtain ⟨o, h⟩ := Option.isSome_iff_exists.mp c__law_forms
  refine callee_mk (S := y__law_forms) (Φ := t__law_forms) (ms := b__law_forms) (N := ["_law_three", "_law_forms_here", "_law_name"]) (ps := []) (t := .F) (st := s__law_forms) (o := o) d rfl (by decide) rfl rfl rfl (fun j g h => ?_) (fun j y h => ?_) (fun y h => ?_) (fun p h => ?_) (fun p h => ?_) (fun y h => ?_) (fun z x b h => nomatch (show (none : Option Bool) = some b from h)) (fun y h => ?_) h
  · match j, h with
    | n, h => cases h
  · match j, h with
    | n, h => cases h
  · cases h
  · cases h
  · cases h
  · cases h
  · cases h
theorem C__law_place_names (T : Txt w K mg) : Callee P w K mg base 2 "_law_place_names" [none, none] .F m__law_place_names := by
  obtain ⟨f, d⟩ := T.d__law_place_names
  obtain ⟨o, h⟩ := Option.isSome_iff_exists.mp c__law_place_names
  refine callee_mk (S := y__law_place_names) (Φ := t__law_place_names) (ms := b__law_place_names) (N := ["_law_cell", "_law_free", "_law_letters", "_law_digits", "_law_size", "_law_at", "_law_drawn", "_law_base", "_law_j", "_law_names", "_law_k", "_law_signs", "_law_name", "_law_form"]) (ps := [none, none]) (t := .F) (st := s__law_place_names) (o := o) d rfl (by decide) rfl rfl rfl (fun j g h => ?_) (fun j y h => ?_) (fun y h => ?_) (fun p h => ?_) (fun p h => ?_) (fun y h => ?_) (fun z x b h => nomatch (show (none : Option Bool) = some b from h)) (fun y h => ?_) h
  · match j, h with
    | 0, h => cases h; exact (C__law_forms T).mono (by decide)
    | n + 1, h => cases h
  · match j, h with
    | n, h => cases h
  · have h : y ∈ (["range", "int"] : List Str) := h
    simp only [List.mem_cons, List.not_mem_nil, or_false] at h
    rcases h with rfl | rfl
    · exact T.b_range
    · exact T.b_int
  · cases h
  · cases h
  · cases h
  · cases h
theorem C__law_cell_at (T : Txt w K mg) : Callee P w K mg base 1 "_law_cell_at" [none, none] .F m__law_cell_at := by
  obtain ⟨f, d⟩ := T.d__law_cell_at
  obtain ⟨o, h⟩ := Option.isSome_iff_exists.mp c__law_cell_at
  refine callee_mk (S := y__law_cell_at) (Φ := t__law_cell_at) (ms := b__law_cell_at) (N := ["_law_script", "_law_k"]) (ps := [none, none]) (t := .F) (st := s__law_cell_at) (o := o) d rfl (by decide) rfl rfl rfl (fun j g h => ?_) (fun j y h => ?_) (fun y h => ?_) (fun p h => ?_) (fun p h => ?_) (fun y h => ?_) (fun z x b h => nomatch (show (none : Option Bool) = some b from h)) (fun y h => ?_) h
  · match j, h with
    | n, h => cases h
  · match j, h with
    | n, h => cases h
  · have h : y ∈ (["len"] : List Str) := h
    simp only [List.mem_cons, List.not_mem_nil, or_false] at h
    rcases h with rfl
    · exact T.b_len
  · cases h
  · cases h
  · cases h
  · cases h
theorem C__law_draws (T : Txt w K mg) : Callee P w K mg base 1 "_law_draws" [none, none, none] .F m__law_draws := by
  obtain ⟨f, d⟩ := T.d__law_draws
  obtain ⟨o, h⟩ := Option.isSome_iff_exists.mp c__law_draws
  refine callee_mk (S := y__law_draws) (Φ := t__law_draws) (ms := b__law_draws) (N := ["_law_cell", "_law_k", "_law_free", "_law_found", "_law_digits", "_law_drawn", "_law_j"]) (ps := [none, none, none]) (t := .F) (st := s__law_draws) (o := o) d rfl (by decide) rfl rfl rfl (fun j g h => ?_) (fun j y h => ?_) (fun y h => ?_) (fun p h => ?_) (fun p h => ?_) (fun y h => ?_) (fun z x b h => nomatch (show (none : Option Bool) = some b from h)) (fun y h => ?_) h
  · match j, h with
    | n, h => cases h
  · match j, h with
    | n, h => cases h
  · have h : y ∈ (["range"] : List Str) := h
    simp only [List.mem_cons, List.not_mem_nil, or_false] at h
    rcases h with rfl
    · exact T.b_range
  · cases h
  · cases h
  · cases h
  · cases h
theorem C__law_coded (T : Txt w K mg) : Callee P w K mg base 2 "_law_coded" [none] .F m__law_coded := by
  obtain ⟨f, d⟩ := T.d__law_coded
  obtain ⟨o, h⟩ := Option.isSome_iff_exists.mp c__law_coded
  refine callee_mk (S := y__law_coded) (Φ := t__law_coded) (ms := b__law_coded) (N := ["_law_row_here", "_law_place", "_law_name", "_law_form", "_law_word", "_law_k"]) (ps := [none]) (t := .F) (st := s__law_coded) (o := o) d rfl (by decide) rfl rfl rfl (fun j g h => ?_) (fun j y h => ?_) (fun y h => ?_) (fun p h => ?_) (fun p h => ?_) (fun y h => ?_) (fun z x b h => nomatch (show (none : Option Bool) = some b from h)) (fun y h => ?_) h
  · match j, h with
    | 0, h => cases h; exact (C__law_forms T).mono (by decide)
    | n + 1, h => cases h
  · match j, h with
    | n, h => cases h
  · have h : y ∈ (["range", "len"] : List Str) := h
    simp only [List.mem_cons, List.not_mem_nil, or_false] at h
    rcases h with rfl | rfl
    · exact T.b_range
    · exact T.b_len
  · cases h
  · cases h
  · cases h
  · cases h
theorem C__law_row (T : Txt w K mg) : Callee P w K mg base 2 "_law_row" [none, none] .F m__law_row := by
  obtain ⟨f, d⟩ := T.d__law_row
  obtain ⟨o, h⟩ := Option.isSome_iff_exists.mp c__law_row
  refine callee_mk (S := y__law_row) (Φ := t__law_row) (ms := b__law_row) (N := ["_law_way", "_law_draws_here", "_law_parts", "_law_k", "_law_name", "_law_form", "_law_most", "_law_part"]) (ps := [none, none]) (t := .F) (st := s__law_row) (o := o) d rfl (by decide) rfl rfl rfl (fun j g h => ?_) (fun j y h => ?_) (fun y h => ?_) (fun p h => ?_) (fun p h => ?_) (fun y h => ?_) (fun z x b h => nomatch (show (none : Option Bool) = some b from h)) (fun y h => ?_) h
  · match j, h with
    | 0, h => cases h; exact (C__law_forms T).mono (by decide)
    | n + 1, h => cases h
  · match j, h with
    | n, h => cases h
  · have h : y ∈ (["range", "len", "int", "tuple"] : List Str) := h
    simp only [List.mem_cons, List.not_mem_nil, or_false] at h
    rcases h with rfl | rfl | rfl | rfl
    · exact T.b_range
    · exact T.b_len
    · exact T.b_int
    · exact T.b_tuple
  · cases h
  · cases h
  · cases h
  · cases h
theorem C__law_decoded (T : Txt w K mg) : Callee P w K mg base 3 "_law_decoded" [none] .F m__law_decoded := by
  obtain ⟨f, d⟩ := T.d__law_decoded
  obtain ⟨o, h⟩ := Option.isSome_iff_exists.mp c__law_decoded
  refine callee_mk (S := y__law_decoded) (Φ := t__law_decoded) (ms := b__law_decoded) (N := ["_law_word", "_law_place", "_law_parts", "_law_letter", "_law_row_here", "_law_name", "_law_form", "_law_worth"]) (ps := [none]) (t := .F) (st := s__law_decoded) (o := o) d rfl (by decide) rfl rfl rfl (fun j g h => ?_) (fun j y h => ?_) (fun y h => ?_) (fun p h => ?_) (fun p h => ?_) (fun y h => ?_) (fun z x b h => nomatch (show (none : Option Bool) = some b from h)) (fun y h => ?_) h
  · match j, h with
    | 0, h => cases h; exact (C__law_forms T).mono (by decide)
    | 1, h => cases h; exact (C__law_coded T).mono (by decide)
    | n + 2, h => cases h
  · match j, h with
    | n, h => cases h
  · have h : y ∈ (["int", "tuple"] : List Str) := h
    simp only [List.mem_cons, List.not_mem_nil, or_false] at h
    rcases h with rfl | rfl
    · exact T.b_int
    · exact T.b_tuple
  · cases h
  · cases h
  · cases h
  · cases h
theorem C__law_line (T : Txt w K mg) : Callee P w K mg base 4 "_law_line" [none] .F m__law_line := by
  obtain ⟨f, d⟩ := T.d__law_line
  obtain ⟨o, h⟩ := Option.isSome_iff_exists.mp c__law_line
  refine callee_mk (S := y__law_line) (Φ := t__law_line) (ms := b__law_line) (N := ["_law_word", "_law_row_here", "_law_words", "_law_k", "_law_name", "_law_form"]) (ps := [none]) (t := .F) (st := s__law_line) (o := o) d rfl (by decide) rfl rfl rfl (fun j g h => ?_) (fun j y h => ?_) (fun y h => ?_) (fun p h => ?_) (fun p h => ?_) (fun y h => ?_) (fun z x b h => nomatch (show (none : Option Bool) = some b from h)) (fun y h => ?_) h
  · match j, h with
    | 0, h => cases h; exact (C__law_decoded T).mono (by decide)
    | 1, h => cases h; exact (C__law_forms T).mono (by decide)
    | n + 2, h => cases h
  · match j, h with
    | n, h => cases h
  · have h : y ∈ (["str", "range", "len", "int"] : List Str) := h
    simp only [List.mem_cons, List.not_mem_nil, or_false] at h
    rcases h with rfl | rfl | rfl | rfl
    · exact T.b_str
    · exact T.b_range
    · exact T.b_len
    · exact T.b_int
  · cases h
  · cases h
  · cases h
  · cases h
theorem C__law_program (T : Txt w K mg) : Callee P w K mg base 5 "_law_program" [none, none] .F m__law_program := by
  obtain ⟨f, d⟩ := T.d__law_program
  obtain ⟨o, h⟩ := Option.isSome_iff_exists.mp c__law_program
  refine callee_mk (S := y__law_program) (Φ := t__law_program) (ms := b__law_program) (N := ["_law_script", "_law_free", "_law_names", "_law_lines", "_law_words", "_law_places", "_law_k", "_law_draws_here", "_law_name", "_law_word"]) (ps := [none, none]) (t := .F) (st := s__law_program) (o := o) d rfl (by decide) rfl rfl rfl (fun j g h => ?_) (fun j y h => ?_) (fun y h => ?_) (fun p h => ?_) (fun p h => ?_) (fun y h => ?_) (fun z x b h => nomatch (show (none : Option Bool) = some b from h)) (fun y h => ?_) h
  · match j, h with
    | 0, h => cases h; exact (C__law_place_names T).mono (by decide)
    | 1, h => cases h; exact (C__law_cell_at T).mono (by decide)
    | 2, h => cases h; exact (C__law_draws T).mono (by decide)
    | 3, h => cases h; exact (C__law_coded T).mono (by decide)
    | 4, h => cases h; exact (C__law_row T).mono (by decide)
    | 5, h => cases h; exact (C__law_line T).mono (by decide)
    | n + 6, h => cases h
  · match j, h with
    | n, h => cases h
  · have h : y ∈ (["range", "min", "len"] : List Str) := h
    simp only [List.mem_cons, List.not_mem_nil, or_false] at h
    rcases h with rfl | rfl | rfl
    · exact T.b_range
    · exact T.b_min
    · exact T.b_len
  · cases h
  · cases h
  · cases h
  · cases h
theorem C__law_named (T : Txt w K mg) : Callee P w K mg base 1 "_law_named" [none, none] .F m__law_named := by
  obtain ⟨f, d⟩ := T.d__law_named
  obtain ⟨o, h⟩ := Option.isSome_iff_exists.mp c__law_named
  refine callee_mk (S := y__law_named) (Φ := t__law_named) (ms := b__law_named) (N := ["_law_lines", "_law_places", "_law_told", "_law_known", "_law_line_here", "_law_drawn", "_law_parts"]) (ps := [none, none]) (t := .F) (st := s__law_named) (o := o) d rfl (by decide) rfl rfl rfl (fun j g h => ?_) (fun j y h => ?_) (fun y h => ?_) (fun p h => ?_) (fun p h => ?_) (fun y h => ?_) (fun z x b h => nomatch (show (none : Option Bool) = some b from h)) (fun y h => ?_) h
  · match j, h with
    | n, h => cases h
  · match j, h with
    | n, h => cases h
  · have h : y ∈ (["sorted", "list", "len"] : List Str) := h
    simp only [List.mem_cons, List.not_mem_nil, or_false] at h
    rcases h with rfl | rfl | rfl
    · exact T.b_sorted
    · exact T.b_list
    · exact T.b_len
  · cases h
  · cases h
  · cases h
  · cases h
theorem C_is_place_name (T : Txt w K mg) : Callee P w K mg base 1 "is_place_name" [none] .F m_is_place_name := by
  obtain ⟨f, d⟩ := T.d_is_place_name
  obtain ⟨o, h⟩ := Option.isSome_iff_exists.mp c_is_place_name
  refine callee_mk (S := y_is_place_name) (Φ := t_is_place_name) (ms := b_is_place_name) (N := ["word", "sign"]) (ps := [none]) (t := .F) (st := s_is_place_name) (o := o) d rfl (by decide) rfl rfl rfl (fun j g h => ?_) (fun j y h => ?_) (fun y h => ?_) (fun p h => ?_) (fun p h => ?_) (fun y h => ?_) (fun z x b h => nomatch (show (none : Option Bool) = some b from h)) (fun y h => ?_) h
  · match j, h with
    | n, h => cases h
  · match j, h with
    | 0, h => cases h; exact T.g_LONGEST
    | 1, h => cases h; exact T.g_LETTERS
    | n + 2, h => cases h
  · have h : y ∈ (["len"] : List Str) := h
    simp only [List.mem_cons, List.not_mem_nil, or_false] at h
    rcases h with rfl
    · exact T.b_len
  · cases h
  · have h : p ∈ (y_is_place_name).tabs := h
    simp only [y_is_place_name, List.mem_cons, List.not_mem_nil, or_false] at h
    rcases h with rfl
    · exact T.h_FORMS
  · cases h
  · cases h
theorem C_number_in (T : Txt w K mg) : Callee P w K mg base 1 "number_in" [none] .F m_number_in := by
  obtain ⟨f, d⟩ := T.d_number_in
  obtain ⟨o, h⟩ := Option.isSome_iff_exists.mp c_number_in
  refine callee_mk (S := y_number_in) (Φ := t_number_in) (ms := b_number_in) (N := ["word", "sign"]) (ps := [none]) (t := .F) (st := s_number_in) (o := o) d rfl (by decide) rfl rfl rfl (fun j g h => ?_) (fun j y h => ?_) (fun y h => ?_) (fun p h => ?_) (fun p h => ?_) (fun y h => ?_) (fun z x b h => nomatch (show (none : Option Bool) = some b from h)) (fun y h => ?_) h
  · match j, h with
    | n, h => cases h
  · match j, h with
    | 0, h => cases h; exact T.g_MOST_FIGURES
    | 1, h => cases h; exact T.g_FIGURES
    | n + 2, h => cases h
  · have h : y ∈ (["len", "int"] : List Str) := h
    simp only [List.mem_cons, List.not_mem_nil, or_false] at h
    rcases h with rfl | rfl
    · exact T.b_len
    · exact T.b_int
  · cases h
  · cases h
  · cases h
  · cases h
theorem C_is_whole (T : Txt w K mg) : Callee P w K mg base 1 "is_whole" [none] .F m_is_whole := by
  obtain ⟨f, d⟩ := T.d_is_whole
  obtain ⟨o, h⟩ := Option.isSome_iff_exists.mp c_is_whole
  refine callee_mk (S := y_is_whole) (Φ := t_is_whole) (ms := b_is_whole) (N := ["thing"]) (ps := [none]) (t := .F) (st := s_is_whole) (o := o) d rfl (by decide) rfl rfl rfl (fun j g h => ?_) (fun j y h => ?_) (fun y h => ?_) (fun p h => ?_) (fun p h => ?_) (fun y h => ?_) (fun z x b h => nomatch (show (none : Option Bool) = some b from h)) (fun y h => ?_) h
  · match j, h with
    | n, h => cases h
  · match j, h with
    | n, h => cases h
  · have h : y ∈ (["isinstance", "int", "bool"] : List Str) := h
    simp only [List.mem_cons, List.not_mem_nil, or_false] at h
    rcases h with rfl | rfl | rfl
    · exact T.b_isinstance
    · exact T.b_int
    · exact T.b_bool
  · cases h
  · cases h
  · cases h
  · cases h
theorem C_is_word (T : Txt w K mg) : Callee P w K mg base 2 "is_word" [none] .F m_is_word := by
  obtain ⟨f, d⟩ := T.d_is_word
  obtain ⟨o, h⟩ := Option.isSome_iff_exists.mp c_is_word
  refine callee_mk (S := y_is_word) (Φ := t_is_word) (ms := b_is_word) (N := ["thing"]) (ps := [none]) (t := .F) (st := s_is_word) (o := o) d rfl (by decide) rfl rfl rfl (fun j g h => ?_) (fun j y h => ?_) (fun y h => ?_) (fun p h => ?_) (fun p h => ?_) (fun y h => ?_) (fun z x b h => nomatch (show (none : Option Bool) = some b from h)) (fun y h => ?_) h
  · match j, h with
    | 0, h => cases h; exact (C_is_whole T).mono (by decide)
    | n + 1, h => cases h
  · match j, h with
    | 0, h => cases h; exact T.g_ROUND
    | n + 1, h => cases h
  · cases h
  · cases h
  · cases h
  · cases h
  · cases h
theorem C_register_in (T : Txt w K mg) : Callee P w K mg base 1 "register_in" [none] .F m_register_in := by
  obtain ⟨f, d⟩ := T.d_register_in
  obtain ⟨o, h⟩ := Option.isSome_iff_exists.mp c_register_in
  refine callee_mk (S := y_register_in) (Φ := t_register_in) (ms := b_register_in) (N := ["word"]) (ps := [none]) (t := .F) (st := s_register_in) (o := o) d rfl (by decide) rfl rfl rfl (fun j g h => ?_) (fun j y h => ?_) (fun y h => ?_) (fun p h => ?_) (fun p h => ?_) (fun y h => ?_) (fun z x b h => nomatch (show (none : Option Bool) = some b from h)) (fun y h => ?_) h
  · match j, h with
    | n, h => cases h
  · match j, h with
    | 0, h => cases h; exact T.g_REGISTERS
    | n + 1, h => cases h
  · have h : y ∈ (["len", "int"] : List Str) := h
    simp only [List.mem_cons, List.not_mem_nil, or_false] at h
    rcases h with rfl | rfl
    · exact T.b_len
    · exact T.b_int
  · cases h
  · cases h
  · cases h
  · cases h
theorem C_part_in (T : Txt w K mg) : Callee P w K mg base 2 "part_in" [none, none, none] .F m_part_in := by
  obtain ⟨f, d⟩ := T.d_part_in
  obtain ⟨o, h⟩ := Option.isSome_iff_exists.mp c_part_in
  refine callee_mk (S := y_part_in) (Φ := t_part_in) (ms := b_part_in) (N := ["name", "letter", "word", "number"]) (ps := [none, none, none]) (t := .F) (st := s_part_in) (o := o) d rfl (by decide) rfl rfl rfl (fun j g h => ?_) (fun j y h => ?_) (fun y h => ?_) (fun p h => ?_) (fun p h => ?_) (fun y h => ?_) (fun z x b h => nomatch (show (none : Option Bool) = some b from h)) (fun y h => ?_) h
  · match j, h with
    | 0, h => cases h; exact (C_register_in T).mono (by decide)
    | 1, h => cases h; exact (C_is_place_name T).mono (by decide)
    | 2, h => cases h; exact (C_number_in T).mono (by decide)
    | n + 3, h => cases h
  · match j, h with
    | 0, h => cases h; exact T.g_NAMING
    | n + 1, h => cases h
  · cases h
  · cases h
  · have h : p ∈ (y_part_in).tabs := h
    simp only [y_part_in, List.mem_cons, List.not_mem_nil, or_false] at h
    rcases h with rfl
    · exact T.h_BOUNDS
  · cases h
  · cases h
theorem C_item_in (T : Txt w K mg) : Callee P w K mg base 3 "item_in" [none] .F m_item_in := by
  obtain ⟨f, d⟩ := T.d_item_in
  obtain ⟨o, h⟩ := Option.isSome_iff_exists.mp c_item_in
  refine callee_mk (S := y_item_in) (Φ := t_item_in) (ms := b_item_in) (N := ["words", "parts", "number", "letter", "word"]) (ps := [none]) (t := .F) (st := s_item_in) (o := o) d rfl (by decide) rfl rfl rfl (fun j g h => ?_) (fun j y h => ?_) (fun y h => ?_) (fun p h => ?_) (fun p h => ?_) (fun y h => ?_) (fun z x b h => nomatch (show (none : Option Bool) = some b from h)) (fun y h => ?_) h
  · match j, h with
    | 0, h => cases h; exact (C_number_in T).mono (by decide)
    | 1, h => cases h; exact (C_is_word T).mono (by decide)
    | 2, h => cases h; exact (C_part_in T).mono (by decide)
    | n + 3, h => cases h
  · match j, h with
    | n, h => cases h
  · have h : y ∈ (["len", "zip", "tuple"] : List Str) := h
    simp only [List.mem_cons, List.not_mem_nil, or_false] at h
    rcases h with rfl | rfl | rfl
    · exact T.b_len
    · exact T.b_zip
    · exact T.b_tuple
  · cases h
  · have h : p ∈ (y_item_in).tabs := h
    simp only [y_item_in, List.mem_cons, List.not_mem_nil, or_false] at h
    rcases h with rfl
    · exact T.h_FORMS
  · cases h
  · cases h
theorem C_items_in (T : Txt w K mg) : Callee P w K mg base 4 "items_in" [none] .F m_items_in := by
  obtain ⟨f, d⟩ := T.d_items_in
  obtain ⟨o, h⟩ := Option.isSome_iff_exists.mp c_items_in
  refine callee_mk (S := y_items_in) (Φ := t_items_in) (ms := b_items_in) (N := ["lines", "items", "places", "at", "line", "name", "item"]) (ps := [none]) (t := .F) (st := s_items_in) (o := o) d rfl (by decide) rfl rfl rfl (fun j g h => ?_) (fun j y h => ?_) (fun y h => ?_) (fun p h => ?_) (fun p h => ?_) (fun y h => ?_) (fun z x b h => nomatch (show (none : Option Bool) = some b from h)) (fun y h => ?_) h
  · match j, h with
    | 0, h => cases h; exact (C_is_place_name T).mono (by decide)
    | 1, h => cases h; exact (C_item_in T).mono (by decide)
    | n + 2, h => cases h
  · match j, h with
    | n, h => cases h
  · have h : y ∈ (["enumerate", "len"] : List Str) := h
    simp only [List.mem_cons, List.not_mem_nil, or_false] at h
    rcases h with rfl | rfl
    · exact T.b_enumerate
    · exact T.b_len
  · cases h
  · cases h
  · cases h
  · cases h
theorem C_name_in (T : Txt w K mg) : Callee P w K mg base 1 "name_in" [none] .F m_name_in := by
  obtain ⟨f, d⟩ := T.d_name_in
  obtain ⟨o, h⟩ := Option.isSome_iff_exists.mp c_name_in
  refine callee_mk (S := y_name_in) (Φ := t_name_in) (ms := b_name_in) (N := ["item"]) (ps := [none]) (t := .F) (st := s_name_in) (o := o) d rfl (by decide) rfl rfl rfl (fun j g h => ?_) (fun j y h => ?_) (fun y h => ?_) (fun p h => ?_) (fun p h => ?_) (fun y h => ?_) (fun z x b h => nomatch (show (none : Option Bool) = some b from h)) (fun y h => ?_) h
  · match j, h with
    | n, h => cases h
  · match j, h with
    | n, h => cases h
  · have h : y ∈ (["isinstance", "int", "len", "str"] : List Str) := h
    simp only [List.mem_cons, List.not_mem_nil, or_false] at h
    rcases h with rfl | rfl | rfl | rfl
    · exact T.b_isinstance
    · exact T.b_int
    · exact T.b_len
    · exact T.b_str
  · cases h
  · cases h
  · cases h
  · cases h
theorem C_is_row (T : Txt w K mg) : Callee P w K mg base 2 "is_row" [none] .F m_is_row := by
  obtain ⟨f, d⟩ := T.d_is_row
  obtain ⟨o, h⟩ := Option.isSome_iff_exists.mp c_is_row
  refine callee_mk (S := y_is_row) (Φ := t_is_row) (ms := b_is_row) (N := ["thing", "form", "letter", "part"]) (ps := [none]) (t := .F) (st := s_is_row) (o := o) d rfl (by decide) rfl rfl rfl (fun j g h => ?_) (fun j y h => ?_) (fun y h => ?_) (fun p h => ?_) (fun p h => ?_) (fun y h => ?_) (fun z x b h => nomatch (show (none : Option Bool) = some b from h)) (fun y h => ?_) h
  · match j, h with
    | 0, h => cases h; exact (C_is_whole T).mono (by decide)
    | n + 1, h => cases h
  · match j, h with
    | n, h => cases h
  · have h : y ∈ (["isinstance", "tuple", "str", "len", "zip"] : List Str) := h
    simp only [List.mem_cons, List.not_mem_nil, or_false] at h
    rcases h with rfl | rfl | rfl | rfl | rfl
    · exact T.b_isinstance
    · exact T.b_tuple
    · exact T.b_str
    · exact T.b_len
    · exact T.b_zip
  · cases h
  · have h : p ∈ (y_is_row).tabs := h
    simp only [y_is_row, List.mem_cons, List.not_mem_nil, or_false] at h
    rcases h with rfl | rfl
    · exact T.h_FORMS
    · exact T.h_BOUNDS
  · cases h
  · cases h
theorem C_coded (T : Txt w K mg) : Callee P w K mg base 3 "coded" [none] .F m_coded := by
  obtain ⟨f, d⟩ := T.d_coded
  obtain ⟨o, h⟩ := Option.isSome_iff_exists.mp c_coded
  refine callee_mk (S := y_coded) (Φ := t_coded) (ms := b_coded) (N := ["row", "word", "letter", "part"]) (ps := [none]) (t := .F) (st := s_coded) (o := o) d rfl (by decide) rfl rfl rfl (fun j g h => ?_) (fun j y h => ?_) (fun y h => ?_) (fun p h => ?_) (fun p h => ?_) (fun y h => ?_) (fun z x b h => nomatch (show (none : Option Bool) = some b from h)) (fun y h => ?_) h
  · match j, h with
    | 0, h => cases h; exact (C_is_row T).mono (by decide)
    | n + 1, h => cases h
  · match j, h with
    | 0, h => cases h; exact T.g_OVER
    | n + 1, h => cases h
  · have h : y ∈ (["zip"] : List Str) := h
    simp only [List.mem_cons, List.not_mem_nil, or_false] at h
    rcases h with rfl
    · exact T.b_zip
  · have h : p ∈ (y_coded).tups := h
    simp only [y_coded, List.mem_cons, List.not_mem_nil, or_false] at h
    rcases h with rfl
    · exact T.k_ROW_WORDS
  · have h : p ∈ (y_coded).tabs := h
    simp only [y_coded, List.mem_cons, List.not_mem_nil, or_false] at h
    rcases h with rfl | rfl
    · exact T.h_FORMS
    · exact T.h_WORTHS
  · cases h
  · cases h
theorem C_word_of (T : Txt w K mg) : Callee P w K mg base 4 "word_of" [none, none] .F m_word_of := by
  obtain ⟨f, d⟩ := T.d_word_of
  obtain ⟨o, h⟩ := Option.isSome_iff_exists.mp c_word_of
  refine callee_mk (S := y_word_of) (Φ := t_word_of) (ms := b_word_of) (N := ["item", "places"]) (ps := [none, none]) (t := .F) (st := s_word_of) (o := o) d rfl (by decide) rfl rfl rfl (fun j g h => ?_) (fun j y h => ?_) (fun y h => ?_) (fun p h => ?_) (fun p h => ?_) (fun y h => ?_) (fun z x b h => nomatch (show (none : Option Bool) = some b from h)) (fun y h => ?_) h
  · match j, h with
    | 0, h => cases h; exact (C_name_in T).mono (by decide)
    | 1, h => cases h; exact (C_coded T).mono (by decide)
    | n + 2, h => cases h
  · match j, h with
    | n, h => cases h
  · have h : y ∈ (["isinstance", "int"] : List Str) := h
    simp only [List.mem_cons, List.not_mem_nil, or_false] at h
    rcases h with rfl | rfl
    · exact T.b_isinstance
    · exact T.b_int
  · cases h
  · cases h
  · cases h
  · cases h
theorem C_read_code (T : Txt w K mg) : Callee P w K mg base 5 "read_code" [none] (.L .F) m_read_code := by
  obtain ⟨f, d⟩ := T.d_read_code
  obtain ⟨o, h⟩ := Option.isSome_iff_exists.mp c_read_code
  refine callee_mk (S := y_read_code) (Φ := t_read_code) (ms := b_read_code) (N := ["text", "items", "places", "at", "item", "name"]) (ps := [none]) (t := (.L .F)) (st := s_read_code) (o := o) d rfl (by decide) rfl rfl rfl (fun j g h => ?_) (fun j y h => ?_) (fun y h => ?_) (fun p h => ?_) (fun p h => ?_) (fun y h => ?_) (fun z x b h => nomatch (show (none : Option Bool) = some b from h)) (fun y h => ?_) h
  · match j, h with
    | 0, h => cases h; exact (C_items_in T).mono (by decide)
    | 1, h => cases h; exact (C_name_in T).mono (by decide)
    | 2, h => cases h; exact (C_word_of T).mono (by decide)
    | n + 3, h => cases h
  · match j, h with
    | 0, h => cases h; exact T.g_MOST_WORDS
    | n + 1, h => cases h
  · have h : y ∈ (["isinstance", "str", "len"] : List Str) := h
    simp only [List.mem_cons, List.not_mem_nil, or_false] at h
    rcases h with rfl | rfl | rfl
    · exact T.b_isinstance
    · exact T.b_str
    · exact T.b_len
  · cases h
  · cases h
  · cases h
  · cases h
theorem C__law_numbered (T : Txt w K mg) : Callee P w K mg base 1 "_law_numbered" [none, none, none] .F m__law_numbered := by
  obtain ⟨f, d⟩ := T.d__law_numbered
  obtain ⟨o, h⟩ := Option.isSome_iff_exists.mp c__law_numbered
  refine callee_mk (S := y__law_numbered) (Φ := t__law_numbered) (ms := b__law_numbered) (N := ["_law_told", "_law_places", "_law_more", "_law_found", "_law_line_here", "_law_parts", "_law_rest", "_law_part"]) (ps := [none, none, none]) (t := .F) (st := s__law_numbered) (o := o) d rfl (by decide) rfl rfl rfl (fun j g h => ?_) (fun j y h => ?_) (fun y h => ?_) (fun p h => ?_) (fun p h => ?_) (fun y h => ?_) (fun z x b h => nomatch (show (none : Option Bool) = some b from h)) (fun y h => ?_) h
  · match j, h with
    | n, h => cases h
  · match j, h with
    | n, h => cases h
  · have h : y ∈ (["str"] : List Str) := h
    simp only [List.mem_cons, List.not_mem_nil, or_false] at h
    rcases h with rfl
    · exact T.b_str
  · cases h
  · cases h
  · cases h
  · cases h
theorem C__law_turned (T : Txt w K mg) : Callee P w K mg base 1 "_law_turned" [none, none, none] .F m__law_turned := by
  obtain ⟨f, d⟩ := T.d__law_turned
  obtain ⟨o, h⟩ := Option.isSome_iff_exists.mp c__law_turned
  refine callee_mk (S := y__law_turned) (Φ := t__law_turned) (ms := b__law_turned) (N := ["_law_told", "_law_names", "_law_places", "_law_found", "_law_other", "_law_name", "_law_line_here", "_law_parts", "_law_part"]) (ps := [none, none, none]) (t := .F) (st := s__law_turned) (o := o) d rfl (by decide) rfl rfl rfl (fun j g h => ?_) (fun j y h => ?_) (fun y h => ?_) (fun p h => ?_) (fun p h => ?_) (fun y h => ?_) (fun z x b h => nomatch (show (none : Option Bool) = some b from h)) (fun y h => ?_) h
  · match j, h with
    | n, h => cases h
  · match j, h with
    | n, h => cases h
  · have h : y ∈ (["sorted", "list"] : List Str) := h
    simp only [List.mem_cons, List.not_mem_nil, or_false] at h
    rcases h with rfl | rfl
    · exact T.b_sorted
    · exact T.b_list
  · cases h
  · cases h
  · cases h
  · cases h
theorem C_law (T : Txt w K mg) {f : Addr} {fd : FuncData} (F : Fun K "law" "law" s_law f fd) (hb : Binds K fd ["_law_script"] []) (hm : mg "law" = some (.ref f)) : FnOk P w K mg base (L2.CX P w) 6 f fd ["_law_script"] (spD K mg [none] .F m_law) := by
  obtain ⟨o, h⟩ := Option.isSome_iff_exists.mp c_law
  refine fn_mk (S := y_law) (Φ := t_law) (ms := b_law) (N := ["_law_script", "_law_told", "_law_found", "_law_more", "_law_last", "_law_moved", "_law_names", "_law_lines", "_law_words", "_law_places", "_law_name", "_law_line_here"]) (ps := [none]) (t := .F) (st := s_law) (o := o) F hb f_law hm rfl (by decide) rfl rfl rfl (fun j g h => ?_) (fun j y h => ?_) (fun y h => ?_) (fun p h => ?_) (fun p h => ?_) (fun y h => ?_) (fun z x b h => nomatch (show (none : Option Bool) = some b from h)) (fun y h => ?_) h
  · match j, h with
    | 0, h => cases h; exact (C__law_program T).mono (by decide)
    | 1, h => cases h; exact (C__law_named T).mono (by decide)
    | 2, h => cases h; exact (C_read_code T).mono (by decide)
    | 3, h => cases h; exact (C__law_numbered T).mono (by decide)
    | 4, h => cases h; exact (C__law_turned T).mono (by decide)
    | n + 5, h => cases h
  · match j, h with
    | n, h => cases h
  · have h : y ∈ (["len", "reversed", "sorted"] : List Str) := h
    simp only [List.mem_cons, List.not_mem_nil, or_false] at h
    rcases h with rfl | rfl | rfl
    · exact T.b_len
    · exact T.b_reversed
    · exact T.b_sorted
  · cases h
  · cases h
  · cases h
  · cases h
end
theorem all_mk {P : Program} {w : World} {K : PySem.W.Frag} {h : Heap} {mg : Str → Option Value} {fa f0 f1 f2 f3 f4 f5 f6 f7 f8 f9 f10 f11 f12 f13 f14 f15 f16 f17 f18 f19 f20 f21 f22 f23 f24 f25 : Addr} (X : K.In h) (G : h.Ns mainGlobals mg) (hfa : mg "law" = some (.ref fa))
    {od0 an0 od1 an1 od2 an2 od3 an3 od4 an4 od5 an5 od6 an6 od7 an7 od8 an8 od9 an9 od10 an10 od11 an11 od12 an12 od13 an13 od14 an14 od15 an15 od16 an16 od17 an17 od18 an18 od19 an19 od20 an20 od21 an21 od22 an22 od23 an23 od24 an24 od25 an25 : Option Addr} {sl0 sl1 sl2 sl3 sl4 sl5 sl6 sl7 sl8 sl9 sl10 sl11 sl12 sl13 sl14 sl15 sl16 sl17 sl18 sl19 sl20 sl21 sl22 sl23 sl24 sl25 : Array (Option Value)} {oc0 kV0 dc0 pm0 cd0 ct0 oc1 kV1 dc1 pm1 cd1 ct1 oc2 kV2 dc2 pm2 cd2 ct2 oc3 kV3 dc3 pm3 cd3 ct3 oc4 kV4 dc4 pm4 cd4 ct4 oc5 kV5 dc5 pm5 cd5 ct5 oc6 kV6 dc6 pm6 cd6 ct6 oc7 kV7 dc7 pm7 cd7 ct7 oc8 kV8 dc8 pm8 cd8 ct8 oc9 kV9 dc9 pm9 cd9 ct9 oc10 kV10 dc10 pm10 cd10 ct10 oc11 kV11 dc11 pm11 cd11 ct11 oc12 kV12 dc12 pm12 cd12 ct12 oc13 kV13 dc13 pm13 cd13 ct13 oc14 kV14 dc14 pm14 cd14 ct14 oc15 kV15 dc15 pm15 cd15 ct15 oc16 kV16 dc16 pm16 cd16 ct16 oc17 kV17 dc17 pm17 cd17 ct17 oc18 kV18 dc18 pm18 cd18 ct18 oc19 kV19 dc19 pm19 cd19 ct19 oc20 kV20 dc20 pm20 cd20 ct20 oc21 kV21 dc21 pm21 cd21 ct21 oc22 kV22 dc22 pm22 cd22 ct22 oc23 kV23 dc23 pm23 cd23 ct23 oc24 kV24 dc24 pm24 cd24 ct24 oc25 kV25 dc25 pm25 cd25 ct25 : Value}
    {tk0 tk1 tk2 tk3 tk4 tk5 tk7 tk8 tk6_0 tk6_1 tk6_2 tk9_0 tk9_1 tk9_2 tk9_3 tk9_4 tk9_5 tk9_6 tk9_7 tk9_8 tk9_9 tk9_10 tk9_11 tk9_12 tk9_13 tk9_14 th0_0 tv0_0 th0_1 tv0_1 th0_2 tv0_2 th0_3 tv0_3 th0_4 tv0_4 th0_5 tv0_5 th0_6 tv0_6 th0_7 tv0_7 th0_8 tv0_8 th0_9 tv0_9 th0_10 tv0_10 th0_11 tv0_11 th0_12 tv0_12 th0_13 tv0_13 th0_14 tv0_14 th1_0 tv1_0 th1_1 tv1_1 th1_2 tv1_2 th1_3 tv1_3 th2_0 tv2_0 th2_1 tv2_1 th2_2 tv2_2 th2_3 tv2_3 : Tok}
    {ga6 : Addr} {gn6 : Nat} {gs6 : Array (Option Value)}
    {ga9 : Addr} {gn9 : Nat} {gs9 : Array (Option Value)}
    (a0 : PySem.W.nsIn K mainGlobals "_law_forms" = some (some (.ref f0))) (l0 : K.lookup f0 = some ⟨oc0, od0, .func (PySem.W.fnOf "_law_forms" "_law_forms" (defArgs s__law_forms) (defBody s__law_forms) (defScope s__law_forms) .none kV0 dc0 pm0 an0 cd0 ct0), sl0⟩) (c0 : PySem.W.codeIn K cd0 "_law_forms" = true) (k0 : PySem.W.keepIn K (.ref f0) = true)
    (a1 : PySem.W.nsIn K mainGlobals "_law_place_names" = some (some (.ref f1))) (l1 : K.lookup f1 = some ⟨oc1, od1, .func (PySem.W.fnOf "_law_place_names" "_law_place_names" (defArgs s__law_place_names) (defBody s__law_place_names) (defScope s__law_place_names) .none kV1 dc1 pm1 an1 cd1 ct1), sl1⟩) (c1 : PySem.W.codeIn K cd1 "_law_place_names" = true) (k1 : PySem.W.keepIn K (.ref f1) = true)
    (a2 : PySem.W.nsIn K mainGlobals "_law_cell_at" = some (some (.ref f2))) (l2 : K.lookup f2 = some ⟨oc2, od2, .func (PySem.W.fnOf "_law_cell_at" "_law_cell_at" (defArgs s__law_cell_at) (defBody s__law_cell_at) (defScope s__law_cell_at) .none kV2 dc2 pm2 an2 cd2 ct2), sl2⟩) (c2 : PySem.W.codeIn K cd2 "_law_cell_at" = true) (k2 : PySem.W.keepIn K (.ref f2) = true)
    (a3 : PySem.W.nsIn K mainGlobals "_law_draws" = some (some (.ref f3))) (l3 : K.lookup f3 = some ⟨oc3, od3, .func (PySem.W.fnOf "_law_draws" "_law_draws" (defArgs s__law_draws) (defBody s__law_draws) (defScope s__law_draws) .none kV3 dc3 pm3 an3 cd3 ct3), sl3⟩) (c3 : PySem.W.codeIn K cd3 "_law_draws" = true) (k3 : PySem.W.keepIn K (.ref f3) = true)
    (a4 : PySem.W.nsIn K mainGlobals "_law_coded" = some (some (.ref f4))) (l4 : K.lookup f4 = some ⟨oc4, od4, .func (PySem.W.fnOf "_law_coded" "_law_coded" (defArgs s__law_coded) (defBody s__law_coded) (defScope s__law_coded) .none kV4 dc4 pm4 an4 cd4 ct4), sl4⟩) (c4 : PySem.W.codeIn K cd4 "_law_coded" = true) (k4 : PySem.W.keepIn K (.ref f4) = true)
    (a5 : PySem.W.nsIn K mainGlobals "_law_row" = some (some (.ref f5))) (l5 : K.lookup f5 = some ⟨oc5, od5, .func (PySem.W.fnOf "_law_row" "_law_row" (defArgs s__law_row) (defBody s__law_row) (defScope s__law_row) .none kV5 dc5 pm5 an5 cd5 ct5), sl5⟩) (c5 : PySem.W.codeIn K cd5 "_law_row" = true) (k5 : PySem.W.keepIn K (.ref f5) = true)
    (a6 : PySem.W.nsIn K mainGlobals "_law_decoded" = some (some (.ref f6))) (l6 : K.lookup f6 = some ⟨oc6, od6, .func (PySem.W.fnOf "_law_decoded" "_law_decoded" (defArgs s__law_decoded) (defBody s__law_decoded) (defScope s__law_decoded) .none kV6 dc6 pm6 an6 cd6 ct6), sl6⟩) (c6 : PySem.W.codeIn K cd6 "_law_decoded" = true) (k6 : PySem.W.keepIn K (.ref f6) = true)
    (a7 : PySem.W.nsIn K mainGlobals "_law_line" = some (some (.ref f7))) (l7 : K.lookup f7 = some ⟨oc7, od7, .func (PySem.W.fnOf "_law_line" "_law_line" (defArgs s__law_line) (defBody s__law_line) (defScope s__law_line) .none kV7 dc7 pm7 an7 cd7 ct7), sl7⟩) (c7 : PySem.W.codeIn K cd7 "_law_line" = true) (k7 : PySem.W.keepIn K (.ref f7) = true)
    (a8 : PySem.W.nsIn K mainGlobals "_law_program" = some (some (.ref f8))) (l8 : K.lookup f8 = some ⟨oc8, od8, .func (PySem.W.fnOf "_law_program" "_law_program" (defArgs s__law_program) (defBody s__law_program) (defScope s__law_program) .none kV8 dc8 pm8 an8 cd8 ct8), sl8⟩) (c8 : PySem.W.codeIn K cd8 "_law_program" = true) (k8 : PySem.W.keepIn K (.ref f8) = true)
    (a9 : PySem.W.nsIn K mainGlobals "_law_named" = some (some (.ref f9))) (l9 : K.lookup f9 = some ⟨oc9, od9, .func (PySem.W.fnOf "_law_named" "_law_named" (defArgs s__law_named) (defBody s__law_named) (defScope s__law_named) .none kV9 dc9 pm9 an9 cd9 ct9), sl9⟩) (c9 : PySem.W.codeIn K cd9 "_law_named" = true) (k9 : PySem.W.keepIn K (.ref f9) = true)
    (a10 : PySem.W.nsIn K mainGlobals "is_place_name" = some (some (.ref f10))) (l10 : K.lookup f10 = some ⟨oc10, od10, .func (PySem.W.fnOf "is_place_name" "is_place_name" (defArgs s_is_place_name) (defBody s_is_place_name) (defScope s_is_place_name) .none kV10 dc10 pm10 an10 cd10 ct10), sl10⟩) (c10 : PySem.W.codeIn K cd10 "is_place_name" = true) (k10 : PySem.W.keepIn K (.ref f10) = true)
    (a11 : PySem.W.nsIn K mainGlobals "number_in" = some (some (.ref f11))) (l11 : K.lookup f11 = some ⟨oc11, od11, .func (PySem.W.fnOf "number_in" "number_in" (defArgs s_number_in) (defBody s_number_in) (defScope s_number_in) .none kV11 dc11 pm11 an11 cd11 ct11), sl11⟩) (c11 : PySem.W.codeIn K cd11 "number_in" = true) (k11 : PySem.W.keepIn K (.ref f11) = true)
    (a12 : PySem.W.nsIn K mainGlobals "is_whole" = some (some (.ref f12))) (l12 : K.lookup f12 = some ⟨oc12, od12, .func (PySem.W.fnOf "is_whole" "is_whole" (defArgs s_is_whole) (defBody s_is_whole) (defScope s_is_whole) .none kV12 dc12 pm12 an12 cd12 ct12), sl12⟩) (c12 : PySem.W.codeIn K cd12 "is_whole" = true) (k12 : PySem.W.keepIn K (.ref f12) = true)
    (a13 : PySem.W.nsIn K mainGlobals "is_word" = some (some (.ref f13))) (l13 : K.lookup f13 = some ⟨oc13, od13, .func (PySem.W.fnOf "is_word" "is_word" (defArgs s_is_word) (defBody s_is_word) (defScope s_is_word) .none kV13 dc13 pm13 an13 cd13 ct13), sl13⟩) (c13 : PySem.W.codeIn K cd13 "is_word" = true) (k13 : PySem.W.keepIn K (.ref f13) = true)
    (a14 : PySem.W.nsIn K mainGlobals "register_in" = some (some (.ref f14))) (l14 : K.lookup f14 = some ⟨oc14, od14, .func (PySem.W.fnOf "register_in" "register_in" (defArgs s_register_in) (defBody s_register_in) (defScope s_register_in) .none kV14 dc14 pm14 an14 cd14 ct14), sl14⟩) (c14 : PySem.W.codeIn K cd14 "register_in" = true) (k14 : PySem.W.keepIn K (.ref f14) = true)
    (a15 : PySem.W.nsIn K mainGlobals "part_in" = some (some (.ref f15))) (l15 : K.lookup f15 = some ⟨oc15, od15, .func (PySem.W.fnOf "part_in" "part_in" (defArgs s_part_in) (defBody s_part_in) (defScope s_part_in) .none kV15 dc15 pm15 an15 cd15 ct15), sl15⟩) (c15 : PySem.W.codeIn K cd15 "part_in" = true) (k15 : PySem.W.keepIn K (.ref f15) = true)
    (a16 : PySem.W.nsIn K mainGlobals "item_in" = some (some (.ref f16))) (l16 : K.lookup f16 = some ⟨oc16, od16, .func (PySem.W.fnOf "item_in" "item_in" (defArgs s_item_in) (defBody s_item_in) (defScope s_item_in) .none kV16 dc16 pm16 an16 cd16 ct16), sl16⟩) (c16 : PySem.W.codeIn K cd16 "item_in" = true) (k16 : PySem.W.keepIn K (.ref f16) = true)
    (a17 : PySem.W.nsIn K mainGlobals "items_in" = some (some (.ref f17))) (l17 : K.lookup f17 = some ⟨oc17, od17, .func (PySem.W.fnOf "items_in" "items_in" (defArgs s_items_in) (defBody s_items_in) (defScope s_items_in) .none kV17 dc17 pm17 an17 cd17 ct17), sl17⟩) (c17 : PySem.W.codeIn K cd17 "items_in" = true) (k17 : PySem.W.keepIn K (.ref f17) = true)
    (a18 : PySem.W.nsIn K mainGlobals "name_in" = some (some (.ref f18))) (l18 : K.lookup f18 = some ⟨oc18, od18, .func (PySem.W.fnOf "name_in" "name_in" (defArgs s_name_in) (defBody s_name_in) (defScope s_name_in) .none kV18 dc18 pm18 an18 cd18 ct18), sl18⟩) (c18 : PySem.W.codeIn K cd18 "name_in" = true) (k18 : PySem.W.keepIn K (.ref f18) = true)
    (a19 : PySem.W.nsIn K mainGlobals "is_row" = some (some (.ref f19))) (l19 : K.lookup f19 = some ⟨oc19, od19, .func (PySem.W.fnOf "is_row" "is_row" (defArgs s_is_row) (defBody s_is_row) (defScope s_is_row) .none kV19 dc19 pm19 an19 cd19 ct19), sl19⟩) (c19 : PySem.W.codeIn K cd19 "is_row" = true) (k19 : PySem.W.keepIn K (.ref f19) = true)
    (a20 : PySem.W.nsIn K mainGlobals "coded" = some (some (.ref f20))) (l20 : K.lookup f20 = some ⟨oc20, od20, .func (PySem.W.fnOf "coded" "coded" (defArgs s_coded) (defBody s_coded) (defScope s_coded) .none kV20 dc20 pm20 an20 cd20 ct20), sl20⟩) (c20 : PySem.W.codeIn K cd20 "coded" = true) (k20 : PySem.W.keepIn K (.ref f20) = true)
    (a21 : PySem.W.nsIn K mainGlobals "word_of" = some (some (.ref f21))) (l21 : K.lookup f21 = some ⟨oc21, od21, .func (PySem.W.fnOf "word_of" "word_of" (defArgs s_word_of) (defBody s_word_of) (defScope s_word_of) .none kV21 dc21 pm21 an21 cd21 ct21), sl21⟩) (c21 : PySem.W.codeIn K cd21 "word_of" = true) (k21 : PySem.W.keepIn K (.ref f21) = true)
    (a22 : PySem.W.nsIn K mainGlobals "read_code" = some (some (.ref f22))) (l22 : K.lookup f22 = some ⟨oc22, od22, .func (PySem.W.fnOf "read_code" "read_code" (defArgs s_read_code) (defBody s_read_code) (defScope s_read_code) .none kV22 dc22 pm22 an22 cd22 ct22), sl22⟩) (c22 : PySem.W.codeIn K cd22 "read_code" = true) (k22 : PySem.W.keepIn K (.ref f22) = true)
    (a23 : PySem.W.nsIn K mainGlobals "_law_numbered" = some (some (.ref f23))) (l23 : K.lookup f23 = some ⟨oc23, od23, .func (PySem.W.fnOf "_law_numbered" "_law_numbered" (defArgs s__law_numbered) (defBody s__law_numbered) (defScope s__law_numbered) .none kV23 dc23 pm23 an23 cd23 ct23), sl23⟩) (c23 : PySem.W.codeIn K cd23 "_law_numbered" = true) (k23 : PySem.W.keepIn K (.ref f23) = true)
    (a24 : PySem.W.nsIn K mainGlobals "_law_turned" = some (some (.ref f24))) (l24 : K.lookup f24 = some ⟨oc24, od24, .func (PySem.W.fnOf "_law_turned" "_law_turned" (defArgs s__law_turned) (defBody s__law_turned) (defScope s__law_turned) .none kV24 dc24 pm24 an24 cd24 ct24), sl24⟩) (c24 : PySem.W.codeIn K cd24 "_law_turned" = true) (k24 : PySem.W.keepIn K (.ref f24) = true)
    (a25 : PySem.W.nsIn K mainGlobals "law" = some (some (.ref f25))) (l25 : K.lookup f25 = some ⟨oc25, od25, .func (PySem.W.fnOf "law" "law" (defArgs s_law) (defBody s_law) (defScope s_law) .none kV25 dc25 pm25 an25 cd25 ct25), sl25⟩) (c25 : PySem.W.codeIn K cd25 "law" = true) (k25 : PySem.W.keepIn K (.ref f25) = true)
    (gv6 : PySem.W.nsIn K mainGlobals "NAMING" = some (some (.ref ga6))) (gk6 : K.lookup ga6 = some ⟨.type "tuple", none, .seq #[.str "put" tk6_0, .str "jump" tk6_1, .str "if" tk6_2] gn6, gs6⟩)
    (gv9 : PySem.W.nsIn K mainGlobals "ROW_WORDS" = some (some (.ref ga9))) (gk9 : K.lookup ga9 = some ⟨.type "tuple", none, .seq #[.str "put" tk9_0, .str "high" tk9_1, .str "copy" tk9_2, .str "add" tk9_3, .str "less" tk9_4, .str "times" tk9_5, .str "cut" tk9_6, .str "rest" tk9_7, .str "under" tk9_8, .str "same" tk9_9, .str "load" tk9_10, .str "store" tk9_11, .str "jump" tk9_12, .str "if" tk9_13, .str "call" tk9_14] gn9, gs9⟩)
    (gv0 : PySem.W.nsIn K mainGlobals "LONGEST" = some (some (.int 8 tk0)))
    (gv1 : PySem.W.nsIn K mainGlobals "LETTERS" = some (some (.str "abcdefghijklmnopqrstuvwxyz" tk1)))
    (gv2 : PySem.W.nsIn K mainGlobals "MOST_FIGURES" = some (some (.int 10 tk2)))
    (gv3 : PySem.W.nsIn K mainGlobals "FIGURES" = some (some (.str "0123456789" tk3)))
    (gv4 : PySem.W.nsIn K mainGlobals "ROUND" = some (some (.int 4294967296 tk4)))
    (gv5 : PySem.W.nsIn K mainGlobals "REGISTERS" = some (some (.str "01234567" tk5)))
    (gv7 : PySem.W.nsIn K mainGlobals "OVER" = some (some (.int 33554432 tk7)))
    (gv8 : PySem.W.nsIn K mainGlobals "MOST_WORDS" = some (some (.int 256 tk8)))
    {ha0 : Addr} {hn0 : Nat}
    (hv0 : PySem.W.nsIn K mainGlobals "FORMS" = some (some (.ref ha0))) (hk0 : K.lookup ha0 = some ⟨.type "dict", none, .dict #[⟨PyData.keyHash w.params "put", .str "put" th0_0, .str "an" tv0_0⟩, ⟨PyData.keyHash w.params "high", .str "high" th0_1, .str "an" tv0_1⟩, ⟨PyData.keyHash w.params "copy", .str "copy" th0_2, .str "ab" tv0_2⟩, ⟨PyData.keyHash w.params "add", .str "add" th0_3, .str "abc" tv0_3⟩, ⟨PyData.keyHash w.params "less", .str "less" th0_4, .str "abc" tv0_4⟩, ⟨PyData.keyHash w.params "times", .str "times" th0_5, .str "abc" tv0_5⟩, ⟨PyData.keyHash w.params "cut", .str "cut" th0_6, .str "abc" tv0_6⟩, ⟨PyData.keyHash w.params "rest", .str "rest" th0_7, .str "abc" tv0_7⟩, ⟨PyData.keyHash w.params "under", .str "under" th0_8, .str "abc" tv0_8⟩, ⟨PyData.keyHash w.params "same", .str "same" th0_9, .str "abc" tv0_9⟩, ⟨PyData.keyHash w.params "load", .str "load" th0_10, .str "abn" tv0_10⟩, ⟨PyData.keyHash w.params "store", .str "store" th0_11, .str "abn" tv0_11⟩, ⟨PyData.keyHash w.params "jump", .str "jump" th0_12, .str "n" tv0_12⟩, ⟨PyData.keyHash w.params "if", .str "if" th0_13, .str "an" tv0_13⟩, ⟨PyData.keyHash w.params "call", .str "call" th0_14, .str "" tv0_14⟩] hn0, #[]⟩) (hs0 : (ha0 == sysModules) = false)
    {ha1 : Addr} {hn1 : Nat}
    (hv1 : PySem.W.nsIn K mainGlobals "BOUNDS" = some (some (.ref ha1))) (hk1 : K.lookup ha1 = some ⟨.type "dict", none, .dict #[⟨PyData.keyHash w.params "a", .str "a" th1_0, .int 8 tv1_0⟩, ⟨PyData.keyHash w.params "b", .str "b" th1_1, .int 8 tv1_1⟩, ⟨PyData.keyHash w.params "c", .str "c" th1_2, .int 8 tv1_2⟩, ⟨PyData.keyHash w.params "n", .str "n" th1_3, .int 65536 tv1_3⟩] hn1, #[]⟩) (hs1 : (ha1 == sysModules) = false)
    {ha2 : Addr} {hn2 : Nat}
    (hv2 : PySem.W.nsIn K mainGlobals "WORTHS" = some (some (.ref ha2))) (hk2 : K.lookup ha2 = some ⟨.type "dict", none, .dict #[⟨PyData.keyHash w.params "a", .str "a" th2_0, .int 4194304 tv2_0⟩, ⟨PyData.keyHash w.params "b", .str "b" th2_1, .int 524288 tv2_1⟩, ⟨PyData.keyHash w.params "c", .str "c" th2_2, .int 65536 tv2_2⟩, ⟨PyData.keyHash w.params "n", .str "n" th2_3, .int 1 tv2_3⟩] hn2, #[]⟩) (hs2 : (ha2 == sysModules) = false)
    (z0 : PySem.W.nsIn K mainGlobals "range" = some none)
    (z1 : PySem.W.nsIn K mainGlobals "int" = some none)
    (z2 : PySem.W.nsIn K mainGlobals "len" = some none)
    (z3 : PySem.W.nsIn K mainGlobals "tuple" = some none)
    (z4 : PySem.W.nsIn K mainGlobals "str" = some none)
    (z5 : PySem.W.nsIn K mainGlobals "min" = some none)
    (z6 : PySem.W.nsIn K mainGlobals "sorted" = some none)
    (z7 : PySem.W.nsIn K mainGlobals "list" = some none)
    (z8 : PySem.W.nsIn K mainGlobals "isinstance" = some none)
    (z9 : PySem.W.nsIn K mainGlobals "bool" = some none)
    (z10 : PySem.W.nsIn K mainGlobals "zip" = some none)
    (z11 : PySem.W.nsIn K mainGlobals "enumerate" = some none)
    (z12 : PySem.W.nsIn K mainGlobals "reversed" = some none)
    : ∃ fd : FuncData, (∀ (s : Shared) (v : Value), BindsTo s fd ⟨[v], []⟩ [("_law_script", v)]) ∧ ∀ base : Heap, K.In base → base.Ns mainGlobals mg → FnOk P w K mg base (L2.CX P w) 6 fa fd ["_law_script"] (spD K mg [none] .F m_law) := by
  have e := hfa.symm.trans (PySem.W.mg_of X G a25)
  cases e
  have F0 := fun_mk (st := s__law_forms) l0 c0 k0
  have b0 := F0.binds (ps := []) fun _ _ _ _ _ _ us hl => match us, hl with | [], _ => rfl
  have F1 := fun_mk (st := s__law_place_names) l1 c1 k1
  have b1 := F1.binds (ps := ["_law_cell", "_law_free"]) fun _ _ _ _ _ _ us hl => match us, hl with | [_, _], _ => rfl
  have F2 := fun_mk (st := s__law_cell_at) l2 c2 k2
  have b2 := F2.binds (ps := ["_law_script", "_law_k"]) fun _ _ _ _ _ _ us hl => match us, hl with | [_, _], _ => rfl
  have F3 := fun_mk (st := s__law_draws) l3 c3 k3
  have b3 := F3.binds (ps := ["_law_cell", "_law_k", "_law_free"]) fun _ _ _ _ _ _ us hl => match us, hl with | [_, _, _], _ => rfl
  have F4 := fun_mk (st := s__law_coded) l4 c4 k4
  have b4 := F4.binds (ps := ["_law_row_here"]) fun _ _ _ _ _ _ us hl => match us, hl with | [_], _ => rfl
  have F5 := fun_mk (st := s__law_row) l5 c5 k5
  have b5 := F5.binds (ps := ["_law_way", "_law_draws_here"]) fun _ _ _ _ _ _ us hl => match us, hl with | [_, _], _ => rfl
  have F6 := fun_mk (st := s__law_decoded) l6 c6 k6
  have b6 := F6.binds (ps := ["_law_word"]) fun _ _ _ _ _ _ us hl => match us, hl with | [_], _ => rfl
  have F7 := fun_mk (st := s__law_line) l7 c7 k7
  have b7 := F7.binds (ps := ["_law_word"]) fun _ _ _ _ _ _ us hl => match us, hl with | [_], _ => rfl
  have F8 := fun_mk (st := s__law_program) l8 c8 k8
  have b8 := F8.binds (ps := ["_law_script", "_law_free"]) fun _ _ _ _ _ _ us hl => match us, hl with | [_, _], _ => rfl
  have F9 := fun_mk (st := s__law_named) l9 c9 k9
  have b9 := F9.binds (ps := ["_law_lines", "_law_places"]) fun _ _ _ _ _ _ us hl => match us, hl with | [_, _], _ => rfl
  have F10 := fun_mk (st := s_is_place_name) l10 c10 k10
  have b10 := F10.binds (ps := ["word"]) fun _ _ _ _ _ _ us hl => match us, hl with | [_], _ => rfl
  have F11 := fun_mk (st := s_number_in) l11 c11 k11
  have b11 := F11.binds (ps := ["word"]) fun _ _ _ _ _ _ us hl => match us, hl with | [_], _ => rfl
  have F12 := fun_mk (st := s_is_whole) l12 c12 k12
  have b12 := F12.binds (ps := ["thing"]) fun _ _ _ _ _ _ us hl => match us, hl with | [_], _ => rfl
  have F13 := fun_mk (st := s_is_word) l13 c13 k13
  have b13 := F13.binds (ps := ["thing"]) fun _ _ _ _ _ _ us hl => match us, hl with | [_], _ => rfl
  have F14 := fun_mk (st := s_register_in) l14 c14 k14
  have b14 := F14.binds (ps := ["word"]) fun _ _ _ _ _ _ us hl => match us, hl with | [_], _ => rfl
  have F15 := fun_mk (st := s_part_in) l15 c15 k15
  have b15 := F15.binds (ps := ["name", "letter", "word"]) fun _ _ _ _ _ _ us hl => match us, hl with | [_, _, _], _ => rfl
  have F16 := fun_mk (st := s_item_in) l16 c16 k16
  have b16 := F16.binds (ps := ["words"]) fun _ _ _ _ _ _ us hl => match us, hl with | [_], _ => rfl
  have F17 := fun_mk (st := s_items_in) l17 c17 k17
  have b17 := F17.binds (ps := ["lines"]) fun _ _ _ _ _ _ us hl => match us, hl with | [_], _ => rfl
  have F18 := fun_mk (st := s_name_in) l18 c18 k18
  have b18 := F18.binds (ps := ["item"]) fun _ _ _ _ _ _ us hl => match us, hl with | [_], _ => rfl
  have F19 := fun_mk (st := s_is_row) l19 c19 k19
  have b19 := F19.binds (ps := ["thing"]) fun _ _ _ _ _ _ us hl => match us, hl with | [_], _ => rfl
  have F20 := fun_mk (st := s_coded) l20 c20 k20
  have b20 := F20.binds (ps := ["row"]) fun _ _ _ _ _ _ us hl => match us, hl with | [_], _ => rfl
  have F21 := fun_mk (st := s_word_of) l21 c21 k21
  have b21 := F21.binds (ps := ["item", "places"]) fun _ _ _ _ _ _ us hl => match us, hl with | [_, _], _ => rfl
  have F22 := fun_mk (st := s_read_code) l22 c22 k22
  have b22 := F22.binds (ps := ["text"]) fun _ _ _ _ _ _ us hl => match us, hl with | [_], _ => rfl
  have F23 := fun_mk (st := s__law_numbered) l23 c23 k23
  have b23 := F23.binds (ps := ["_law_told", "_law_places", "_law_more"]) fun _ _ _ _ _ _ us hl => match us, hl with | [_, _, _], _ => rfl
  have F24 := fun_mk (st := s__law_turned) l24 c24 k24
  have b24 := F24.binds (ps := ["_law_told", "_law_names", "_law_places"]) fun _ _ _ _ _ _ us hl => match us, hl with | [_, _, _], _ => rfl
  have F25 := fun_mk (st := s_law) l25 c25 k25
  have b25 := F25.binds (ps := ["_law_script"]) fun _ _ _ _ _ _ us hl => match us, hl with | [_], _ => rfl
  have T : Txt w K mg := {
    d__law_forms := ⟨_, ⟨_, F0, b0⟩, f__law_forms, PySem.W.mg_of X G a0⟩
    d__law_place_names := ⟨_, ⟨_, F1, b1⟩, f__law_place_names, PySem.W.mg_of X G a1⟩
    d__law_cell_at := ⟨_, ⟨_, F2, b2⟩, f__law_cell_at, PySem.W.mg_of X G a2⟩
    d__law_draws := ⟨_, ⟨_, F3, b3⟩, f__law_draws, PySem.W.mg_of X G a3⟩
    d__law_coded := ⟨_, ⟨_, F4, b4⟩, f__law_coded, PySem.W.mg_of X G a4⟩
    d__law_row := ⟨_, ⟨_, F5, b5⟩, f__law_row, PySem.W.mg_of X G a5⟩
    d__law_decoded := ⟨_, ⟨_, F6, b6⟩, f__law_decoded, PySem.W.mg_of X G a6⟩
    d__law_line := ⟨_, ⟨_, F7, b7⟩, f__law_line, PySem.W.mg_of X G a7⟩
    d__law_program := ⟨_, ⟨_, F8, b8⟩, f__law_program, PySem.W.mg_of X G a8⟩
    d__law_named := ⟨_, ⟨_, F9, b9⟩, f__law_named, PySem.W.mg_of X G a9⟩
    d_is_place_name := ⟨_, ⟨_, F10, b10⟩, f_is_place_name, PySem.W.mg_of X G a10⟩
    d_number_in := ⟨_, ⟨_, F11, b11⟩, f_number_in, PySem.W.mg_of X G a11⟩
    d_is_whole := ⟨_, ⟨_, F12, b12⟩, f_is_whole, PySem.W.mg_of X G a12⟩
    d_is_word := ⟨_, ⟨_, F13, b13⟩, f_is_word, PySem.W.mg_of X G a13⟩
    d_register_in := ⟨_, ⟨_, F14, b14⟩, f_register_in, PySem.W.mg_of X G a14⟩
    d_part_in := ⟨_, ⟨_, F15, b15⟩, f_part_in, PySem.W.mg_of X G a15⟩
    d_item_in := ⟨_, ⟨_, F16, b16⟩, f_item_in, PySem.W.mg_of X G a16⟩
    d_items_in := ⟨_, ⟨_, F17, b17⟩, f_items_in, PySem.W.mg_of X G a17⟩
    d_name_in := ⟨_, ⟨_, F18, b18⟩, f_name_in, PySem.W.mg_of X G a18⟩
    d_is_row := ⟨_, ⟨_, F19, b19⟩, f_is_row, PySem.W.mg_of X G a19⟩
    d_coded := ⟨_, ⟨_, F20, b20⟩, f_coded, PySem.W.mg_of X G a20⟩
    d_word_of := ⟨_, ⟨_, F21, b21⟩, f_word_of, PySem.W.mg_of X G a21⟩
    d_read_code := ⟨_, ⟨_, F22, b22⟩, f_read_code, PySem.W.mg_of X G a22⟩
    d__law_numbered := ⟨_, ⟨_, F23, b23⟩, f__law_numbered, PySem.W.mg_of X G a23⟩
    d__law_turned := ⟨_, ⟨_, F24, b24⟩, f__law_turned, PySem.W.mg_of X G a24⟩
    g_LONGEST := ⟨.int 8, _, PySem.W.mg_of X G gv0, ⟨_, rfl⟩, fun _ => .flat (d := .int 8) rfl⟩
    g_LETTERS := ⟨.str "abcdefghijklmnopqrstuvwxyz", _, PySem.W.mg_of X G gv1, ⟨_, rfl⟩, fun _ => .flat (d := .str "abcdefghijklmnopqrstuvwxyz") rfl⟩
    g_MOST_FIGURES := ⟨.int 10, _, PySem.W.mg_of X G gv2, ⟨_, rfl⟩, fun _ => .flat (d := .int 10) rfl⟩
    g_FIGURES := ⟨.str "0123456789", _, PySem.W.mg_of X G gv3, ⟨_, rfl⟩, fun _ => .flat (d := .str "0123456789") rfl⟩
    g_ROUND := ⟨.int 4294967296, _, PySem.W.mg_of X G gv4, ⟨_, rfl⟩, fun _ => .flat (d := .int 4294967296) rfl⟩
    g_REGISTERS := ⟨.str "01234567", _, PySem.W.mg_of X G gv5, ⟨_, rfl⟩, fun _ => .flat (d := .str "01234567") rfl⟩
    g_OVER := ⟨.int 33554432, _, PySem.W.mg_of X G gv7, ⟨_, rfl⟩, fun _ => .flat (d := .int 33554432) rfl⟩
    g_MOST_WORDS := ⟨.int 256, _, PySem.W.mg_of X G gv8, ⟨_, rfl⟩, fun _ => .flat (d := .int 256) rfl⟩
    g_NAMING := ⟨.ref ga6, _, PySem.W.mg_of X G gv6, rfl, fun _ => .tup (vs := [toV (.str "put"), toV (.str "jump"), toV (.str "if")]) (.inr ⟨_, _, _, gk6, rfl, rfl, (by rw [sizeLine_eq]; exact (by decide : 3 ≤ 16777216)), .cons ⟨_, rfl⟩ (.cons ⟨_, rfl⟩ (.cons ⟨_, rfl⟩ (.nil)))⟩) (.cons (.flat (d := (.str "put")) rfl) (.cons (.flat (d := (.str "jump")) rfl) (.cons (.flat (d := (.str "if")) rfl) (.nil))))⟩
    k_ROW_WORDS := ⟨ga9, _, _, _, PySem.W.mg_of X G gv9, gk9, rfl, rfl, rfl, (by rw [sizeLine_eq]; exact (by decide : 15 ≤ 16777216)), .cons ⟨_, rfl⟩ (.cons ⟨_, rfl⟩ (.cons ⟨_, rfl⟩ (.cons ⟨_, rfl⟩ (.cons ⟨_, rfl⟩ (.cons ⟨_, rfl⟩ (.cons ⟨_, rfl⟩ (.cons ⟨_, rfl⟩ (.cons ⟨_, rfl⟩ (.cons ⟨_, rfl⟩ (.cons ⟨_, rfl⟩ (.cons ⟨_, rfl⟩ (.cons ⟨_, rfl⟩ (.cons ⟨_, rfl⟩ (.cons ⟨_, rfl⟩ (.nil)))))))))))))))⟩
    h_FORMS := ⟨ha0, _, _, PySem.W.mg_of X G hv0, hk0, ⟨⟨_, _, rfl, rfl⟩, ⟨_, _, rfl, rfl⟩, ⟨_, _, rfl, rfl⟩, ⟨_, _, rfl, rfl⟩, ⟨_, _, rfl, rfl⟩, ⟨_, _, rfl, rfl⟩, ⟨_, _, rfl, rfl⟩, ⟨_, _, rfl, rfl⟩, ⟨_, _, rfl, rfl⟩, ⟨_, _, rfl, rfl⟩, ⟨_, _, rfl, rfl⟩, ⟨_, _, rfl, rfl⟩, ⟨_, _, rfl, rfl⟩, ⟨_, _, rfl, rfl⟩, ⟨_, _, rfl, rfl⟩, True.intro⟩, hs0, .cons ⟨_, rfl⟩ (.cons ⟨_, rfl⟩ (.cons ⟨_, rfl⟩ (.cons ⟨_, rfl⟩ (.cons ⟨_, rfl⟩ (.cons ⟨_, rfl⟩ (.cons ⟨_, rfl⟩ (.cons ⟨_, rfl⟩ (.cons ⟨_, rfl⟩ (.cons ⟨_, rfl⟩ (.cons ⟨_, rfl⟩ (.cons ⟨_, rfl⟩ (.cons ⟨_, rfl⟩ (.cons ⟨_, rfl⟩ (.cons ⟨_, rfl⟩ (.nil)))))))))))))))⟩
    h_BOUNDS := ⟨ha1, _, _, PySem.W.mg_of X G hv1, hk1, ⟨⟨_, _, rfl, rfl⟩, ⟨_, _, rfl, rfl⟩, ⟨_, _, rfl, rfl⟩, ⟨_, _, rfl, rfl⟩, True.intro⟩, hs1, .cons ⟨_, rfl⟩ (.cons ⟨_, rfl⟩ (.cons ⟨_, rfl⟩ (.cons ⟨_, rfl⟩ (.nil))))⟩
    h_WORTHS := ⟨ha2, _, _, PySem.W.mg_of X G hv2, hk2, ⟨⟨_, _, rfl, rfl⟩, ⟨_, _, rfl, rfl⟩, ⟨_, _, rfl, rfl⟩, ⟨_, _, rfl, rfl⟩, True.intro⟩, hs2, .cons ⟨_, rfl⟩ (.cons ⟨_, rfl⟩ (.cons ⟨_, rfl⟩ (.cons ⟨_, rfl⟩ (.nil))))⟩
    b_range := PySem.W.mg_none_of X G z0
    b_int := PySem.W.mg_none_of X G z1
    b_len := PySem.W.mg_none_of X G z2
    b_tuple := PySem.W.mg_none_of X G z3
    b_str := PySem.W.mg_none_of X G z4
    b_min := PySem.W.mg_none_of X G z5
    b_sorted := PySem.W.mg_none_of X G z6
    b_list := PySem.W.mg_none_of X G z7
    b_isinstance := PySem.W.mg_none_of X G z8
    b_bool := PySem.W.mg_none_of X G z9
    b_zip := PySem.W.mg_none_of X G z10
    b_enumerate := PySem.W.mg_none_of X G z11
    b_reversed := PySem.W.mg_none_of X G z12 }
  refine ⟨PySem.W.fnOf "law" "law" (defArgs s_law) (defBody s_law) (defScope s_law) .none kV25 dc25 pm25 an25 cd25 ct25, fun s v => .of_eq rfl, fun base _ _ => ?_⟩
  exact C_law T F25 b25 (PySem.W.mg_of X G a25)
end K11


set_option Elab.async false
set_option linter.all false
set_option maxRecDepth 100000
namespace K11
open PySem L2 My
/-! rows and words -/
inductive Lt where | a | b | c | n
def Lt.s : Lt → Str
  | .a => "a" | .b => "b" | .c => "c" | .n => "n"
def Lt.w : Lt → Int
  | .a => 4194304 | .b => 524288 | .c => 65536 | .n => 1
def Lt.m : Lt → Int
  | .a => 8 | .b => 8 | .c => 8 | .n => 65536
theorem Lt.m0 (l : Lt) : 0 < l.m := by cases l <;> decide
theorem Lt.w0 (l : Lt) : 0 < l.w := by cases l <;> decide
theorem Lt.m1 (l : Lt) : l.m ≤ 65536 := by cases l <;> decide
theorem Lt.w1 (l : Lt) : l.w ≤ 4194304 := by cases l <;> decide
def FL : List D := [.tup [.str "put", .str "an"], .tup [.str "high", .str "an"], .tup [.str "copy", .str "ab"], .tup [.str "add", .str "abc"], .tup [.str "less", .str "abc"], .tup [.str "times", .str "abc"], .tup [.str "cut", .str "abc"], .tup [.str "rest", .str "abc"], .tup [.str "under", .str "abc"], .tup [.str "same", .str "abc"],
  .tup [.str "load", .str "abn"], .tup [.str "store", .str "abn"], .tup [.str "jump", .str "n"], .tup [.str "if", .str "an"], .tup [.str "call", .str ""]]
def RW : List Str := ["put", "high", "copy", "add", "less", "times", "cut", "rest", "under", "same", "load", "store", "jump", "if", "call"]
theorem w_forms : m__law_forms [] = .ret (.lst FL) := rfl
/-- a kind of rows -/
structure Fm (p : Nat) (nm txt : Str) (fs : List Lt) : Prop where
  lt : p < 15
  fl : FL[p]? = some (.tup [.str nm, .str txt])
  rw : RW[p]? = some nm
  fo : tb_FORMS.lookup nm = some (.inr txt)
  ix : RW.idxOf nm = p
  me : nm ∈ RW
  ch : txt.cps.toList.map (fun c => D.str ⟨#[c]⟩) = fs.map fun l => D.str l.s
  tl : txt.length = fs.length
  l3 : fs.length ≤ 3
  ok : nm.cps.all (· < 0x110000) = true
theorem fm_of (p : Nat) (h : p < 15) : ∃ nm txt fs, Fm p nm txt fs := by
  have h : p = 0 ∨ p = 1 ∨ p = 2 ∨ p = 3 ∨ p = 4 ∨ p = 5 ∨ p = 6 ∨ p = 7 ∨ p = 8 ∨ p = 9 ∨ p = 10 ∨ p = 11 ∨ p = 12 ∨ p = 13 ∨ p = 14 := by omega
  rcases h with h | h | h | h | h | h | h | h | h | h | h | h | h | h | h <;> subst h
  · exact ⟨"put", "an", [.a, .n], by decide, rfl, rfl, rfl, by decide, by decide, rfl, rfl, by decide, by decide +kernel⟩
  · exact ⟨"high", "an", [.a, .n], by decide, rfl, rfl, rfl, by decide, by decide, rfl, rfl, by decide, by decide +kernel⟩
  · exact ⟨"copy", "ab", [.a, .b], by decide, rfl, rfl, rfl, by decide, by decide, rfl, rfl, by decide, by decide +kernel⟩
  · exact ⟨"add", "abc", [.a, .b, .c], by decide, rfl, rfl, rfl, by decide, by decide, rfl, rfl, by decide, by decide +kernel⟩
  · exact ⟨"less", "abc", [.a, .b, .c], by decide, rfl, rfl, rfl, by decide, by decide, rfl, rfl, by decide, by decide +kernel⟩
  · exact ⟨"times", "abc", [.a, .b, .c], by decide, rfl, rfl, rfl, by decide, by decide, rfl, rfl, by decide, by decide +kernel⟩
  · exact ⟨"cut", "abc", [.a, .b, .c], by decide, rfl, rfl, rfl, by decide, by decide, rfl, rfl, by decide, by decide +kernel⟩
  · exact ⟨"rest", "abc", [.a, .b, .c], by decide, rfl, rfl, rfl, by decide, by decide, rfl, rfl, by decide, by decide +kernel⟩
  · exact ⟨"under", "abc", [.a, .b, .c], by decide, rfl, rfl, rfl, by decide, by decide, rfl, rfl, by decide, by decide +kernel⟩
  · exact ⟨"same", "abc", [.a, .b, .c], by decide, rfl, rfl, rfl, by decide, by decide, rfl, rfl, by decide, by decide +kernel⟩
  · exact ⟨"load", "abn", [.a, .b, .n], by decide, rfl, rfl, rfl, by decide, by decide, rfl, rfl, by decide, by decide +kernel⟩
  · exact ⟨"store", "abn", [.a, .b, .n], by decide, rfl, rfl, rfl, by decide, by decide, rfl, rfl, by decide, by decide +kernel⟩
  · exact ⟨"jump", "n", [.n], by decide, rfl, rfl, rfl, by decide, by decide, rfl, rfl, by decide, by decide +kernel⟩
  · exact ⟨"if", "an", [.a, .n], by decide, rfl, rfl, rfl, by decide, by decide, rfl, rfl, by decide, by decide +kernel⟩
  · exact ⟨"call", "", [], by decide, rfl, rfl, rfl, by decide, by decide, rfl, rfl, by decide, by decide +kernel⟩
section
variable {p : Nat} {nm txt : Str} {fs : List Lt}
theorem Fm.at (h : Fm p nm txt fs) : atI FL (p : Int) = some (.tup [.str nm, .str txt]) := by
  rw [atI_of (by omega) (by have := h.lt; show (p : Int) < ((15 : Nat) : Int); omega)]
  exact h.fl
theorem Fm.atR (h : Fm p nm txt fs) : atI (RW.map D.str) (p : Int) = some (.str nm) := by
  rw [atI_of (by omega) (by have := h.lt; show (p : Int) < ((15 : Nat) : Int); omega), List.getElem?_map]
  show (RW[p]?).map D.str = _
  rw [h.rw]; rfl
/-- the k-th letter -/
theorem Fm.letter (h : Fm p nm txt fs) {k : Nat} {l : Lt} (hk : fs[k]? = some l) : dIdx (.str txt) (.int (k : Int)) = some (.str l.s) := by
  have e := congrArg (fun x => x[k]?) h.ch
  simp only [List.getElem?_map, hk, Option.map_some] at e
  have hk2 : k < fs.length := by
    rcases Nat.lt_or_ge k fs.length with h | h
    · exact h
    · rw [List.getElem?_eq_none h] at hk; cases hk
  have hl : txt.cps.toList.length = fs.length := by
    have := congrArg List.length h.ch
    simpa using this
  show (if txt.length ≤ mx then (atI txt.cps.toList (k : Int)).map fun c => D.str ⟨#[c]⟩ else none) = _
  rw [if_pos (by rw [h.tl]; have := h.l3; have e : mx = 16777216 := rfl; omega), atI_of (by omega) (by omega)]
  exact e
theorem Fm.lm (h : Fm p nm txt fs) : txt.length ≤ mx := by
  rw [h.tl]; have := h.l3; have e : mx = 16777216 := rfl; omega
theorem Fm.ne {q : Nat} {nm' txt' : Str} {fs' : List Lt} (h : Fm p nm txt fs) (h' : Fm q nm' txt' fs') (n : q ≠ p) : ¬ nm = nm' := by
  rintro rfl
  exact n (h'.ix.symm.trans h.ix)
end
/-- parts within their bounds -/
inductive Parts : List Lt → List Int → Prop
  | nil : Parts [] []
  | cons {l : Lt} {i : Int} {fs : List Lt} {is : List Int} : 0 ≤ i → i < l.m → Parts fs is → Parts (l :: fs) (i :: is)
theorem Parts.len {fs : List Lt} {is : List Int} (h : Parts fs is) : is.length = fs.length := by
  induction h with
  | nil => rfl
  | cons _ _ _ ih => simp [ih]
/-- the sum of the parts -/
def wsum : List Lt → List Int → Int
  | l :: fs, i :: is => i * l.w + wsum fs is
  | _, _ => 0
theorem Parts.nonneg {fs : List Lt} {is : List Int} (h : Parts fs is) : 0 ≤ wsum fs is := by
  induction h with
  | nil => decide
  | @cons l i fs is h0 h1 hr ih =>
    show 0 ≤ i * l.w + wsum fs is
    have := Int.mul_nonneg h0 (Int.le_of_lt l.w0)
    omega
def rowD (nm : Str) (is : List Int) : D := .tup (.str nm :: is.map .int)
def cod (p : Nat) (fs : List Lt) (is : List Int) : Int := p * 33554432 + wsum fs is
theorem Parts.snoc {fs : List Lt} {is : List Int} {l : Lt} {i : Int} (h : Parts fs is) (h0 : 0 ≤ i) (h1 : i < l.m) : Parts (fs ++ [l]) (is ++ [i]) := by
  induction h with
  | nil => exact .cons h0 h1 .nil
  | cons a b _ ih => exact .cons a b ih
theorem Parts.at {fs : List Lt} {is : List Int} (h : Parts fs is) : ∀ {k : Nat} {l : Lt}, fs[k]? = some l → ∃ i, is[k]? = some i ∧ 0 ≤ i ∧ i < l.m := by
  induction h with
  | nil => intro k l e; simp at e
  | cons a b _ ih =>
    intro k l e
    cases k with
    | zero => simp at e; subst e; exact ⟨_, rfl, a, b⟩
    | succ k => simp at e; exact ih e
theorem wsum_take {fs : List Lt} {is : List Int} (h : Parts fs is) : ∀ {k : Nat} {l : Lt} {i : Int}, fs[k]? = some l → is[k]? = some i → wsum (fs.take (k + 1)) (is.take (k + 1)) = wsum (fs.take k) (is.take k) + i * l.w := by
  induction h with
  | nil => intro k l i e; simp at e
  | @cons l' i' fs is a b _ ih =>
    intro k l i e e2
    cases k with
    | zero => simp at e e2; subst e e2; simp [wsum]
    | succ k =>
      simp at e e2
      have := ih e e2
      show i' * l'.w + wsum (fs.take (k + 1)) (is.take (k + 1)) = i' * l'.w + wsum (fs.take k) (is.take k) + i * l.w
      omega
/-! the program's -/
theorem w_is_whole (i : Int) : m_is_whole [.int i] = .ret (.bl true) := rfl
theorem lkB (l : Lt) : tb_BOUNDS.lookup l.s = some (.inl l.m) := by cases l <;> rfl
theorem lkW (l : Lt) : tb_WORTHS.lookup l.s = some (.inl l.w) := by cases l <;> rfl
theorem row_loop {a b : D} {fs : List Lt} {is : List Int} (h : Parts fs is) : ∀ x y : D, ∃ x' y', forL (bindT (.t [.s 2, .s 3])) (exs t_is_row B_is_row_1) (zipD (fs.map fun l => D.str l.s) (is.map D.int)) [a, b, x, y] = .nx [a, b, x', y'] := by
  induction h with
  | nil => exact fun x y => ⟨x, y, rfl⟩
  | @cons l i fs is h0 h1 _ ih =>
    intro x y
    obtain ⟨x', y', e⟩ := ih (.str l.s) (.int i)
    refine ⟨x', y', ?_⟩
    rw [← e]
    exact forL_one (ρ1 := [a, b, .str l.s, .int i]) rfl (by simp [B_is_row_1, w_is_whole, lkB, h0, h1])
theorem cut1 {d : D} {xs : List D} : cut (d :: xs) (some 1) none = xs := by
  rw [cut_from (by decide) (by simp; omega)]; rfl
theorem ndp_row {nm : Str} (hn : nm.cps.all (· < 0x110000) = true) (is : List Int) (n : Nat) : ndp (n + 1) (rowD nm is) = true := by
  show (ndp n (.str nm) && ndpL n (is.map D.int)) = true
  rw [ndpL_ints, Bool.and_true]; cases n <;> exact hn
theorem row_ne0 {nm : Str} (hn : nm.cps.all (· < 0x110000) = true) {is : List Int} : dCmp .eq (rowD nm is) (.tup []) = some false := by
  rw [dCmp_eq, if_pos (show eqOk _ _ = true by show (ndp 60 _ && ndp 60 _) = true; rw [ndp_row hn]; rfl)]; rfl
theorem w_is_row {p : Nat} {nm txt : Str} {fs : List Lt} {is : List Int} (f : Fm p nm txt fs) (h : Parts fs is) : m_is_row [rowD nm is] = .ret (.bl true) := by
  obtain ⟨x', y', e⟩ := row_loop (a := rowD nm is) (b := .str txt) h .non .non
  have hl : (is.length : Int) + 1 = 1 + (txt.length : Int) := by rw [h.len, f.tl]; omega
  have n0 := row_ne0 (is := is) f.ok
  unfold rowD at e n0 ⊢
  simp -implicitDefEqProofs [m_is_row, b_is_row, runR_eq, n0, f.fo, f.lm, hl, f.ch, cut1, e]
theorem coded_loop {a : D} {fs : List Lt} {is : List Int} (h : Parts fs is) : ∀ (v : Int) (x y : D), ∃ x' y', forL (bindT (.t [.s 2, .s 3])) (exs t_coded B_coded_1) (zipD (fs.map fun l => D.str l.s) (is.map D.int)) [a, .int v, x, y] = .nx [a, .int (v + wsum fs is), x', y'] := by
  induction h with
  | nil => exact fun v x y => ⟨x, y, by simp [wsum, zipD]⟩
  | @cons l i fs is h0 h1 _ ih =>
    intro v x y
    obtain ⟨x', y', e⟩ := ih (v + i * l.w) (.str l.s) (.int i)
    refine ⟨x', y', ?_⟩
    have mk : mulOk i l.w := mulOk_r (by have := l.w0; omega) (by have := l.w1; omega)
    have e2 : v + wsum (l :: fs) (i :: is) = v + i * l.w + wsum fs is := by show v + (i * l.w + wsum fs is) = _; omega
    rw [e2, ← e]
    exact forL_one (ρ1 := [a, .int v, .str l.s, .int i]) rfl (by simp [B_coded_1, lkW, mk])
theorem w_coded {p : Nat} {nm txt : Str} {fs : List Lt} {is : List Int} (f : Fm p nm txt fs) (h : Parts fs is) : m_coded [rowD nm is] = .ret (.int (cod p fs is)) := by
  have e1 := w_is_row f h
  obtain ⟨x', y', e⟩ := coded_loop (a := rowD nm is) h (p * 33554432) .non .non
  have mk : ∀ n, mulOk n 33554432 := fun n => mulOk_r (by decide) (by decide)
  have ti : tidxV ["put", "high", "copy", "add", "less", "times", "cut", "rest", "under", "same", "load", "store", "jump", "if", "call"] (.str nm) = some (.int (p : Int)) := by
    show (if nm ∈ RW then some (D.int (RW.idxOf nm : Nat)) else none) = _
    rw [if_pos f.me, f.ix]
  unfold rowD at e e1 ⊢
  simp -implicitDefEqProofs [m_coded, b_coded, runR_eq, e1, ti, g_OVER, mk, f.fo, f.ch, cut1, e, cod]
def prt (w : Int) (fs : List Lt) : List Int := fs.map fun l => w / l.w % l.m
theorem prt_ok (w : Int) : ∀ fs : List Lt, Parts fs (prt w fs)
  | [] => .nil
  | l :: fs => .cons (Int.emod_nonneg _ (by have := l.m0; omega)) (Int.emod_lt_of_pos _ l.m0) (prt_ok w fs)
theorem divW (l : Lt) : divOk l.w := divOk_of l.w0 (by have := l.w1; omega)
theorem row_cmp {nm : Str} (hn : nm.cps.all (· < 0x110000) = true) {is : List Int} : dCmp .ne (rowD nm is) (rowD nm is) = some false := by
  rw [dCmp_ne, if_pos (show eqOk _ _ = true by show (ndp 60 _ && ndp 60 _) = true; rw [ndp_row hn]; rfl), deq_refl _ 60 (ndp_row hn _ 59)]; rfl
/-- what decoded tells -/
def due (w : Int) (p : Nat) (nm : Str) (fs : List Lt) : D := if cod p fs (prt w fs) = w then rowD nm (prt w fs) else .non
end K11


set_option Elab.async false
set_option linter.all false
set_option maxRecDepth 100000
namespace K11
open PySem L2 My
def Small (ws : List Int) : Prop := ∀ w ∈ ws, 0 ≤ w ∧ w < 4294967296
theorem Small.snoc {ws : List Int} {w : Int} (h : Small ws) (h1 : 0 ≤ w) (h2 : w < 4294967296) : Small (ws ++ [w]) := fun x m => by
  rcases List.mem_append.mp m with m | m
  · exact h x m
  · rw [List.mem_singleton.mp m]; exact ⟨h1, h2⟩
theorem Small.at {ws : List Int} (h : Small ws) {n : Nat} (hn : n < ws.length) : 0 ≤ ws.getD n 0 ∧ ws.getD n 0 < 4294967296 := h _ (My.getD_mem hn)
theorem p18 : powOk 10 18 := by decide
theorem p30 : powOk 10 30 := by decide
theorem dv4 : divOk 4294967296 := by decide
theorem pw : (10 : Int) ^ 18 = 1000000000000000000 := by decide
theorem draw1 {c k g d : Int} {ws : List Int} {j : D} (h2 : 1000000000000000000 ≤ c) (h3 : 4294967296 ≤ g) (lw : ws.length < mx) : exs t__law_draws B__law_draws_1 [.int c, .int k, .bl true, .lst (ws.map .int), .int g, .int d, j] = .nx [.int c, .int k, .bl true, .lst ((ws ++ [g % 4294967296]).map .int), .int (g / 4294967296), .int d, j] := by
  simp [B__law_draws_1, p18, pw, h2, h3, dv4, lw]
theorem draw2 {c k g d : Int} {ws : List Int} {n : Int} {f : Bool} (hc : ¬ (f = true ∧ 1000000000000000000 ≤ c ∧ 4294967296 ≤ g)) (hn : 0 ≤ n) (hn2 : n < 6) (h0 : 0 ≤ d) (h1 : d < 2147483647) (lw : ws.length < mx) : ∃ w, 0 ≤ w ∧ w < 4294967296 ∧ ∃ d', 0 ≤ d' ∧ d' < 2147483647 ∧
    exs t__law_draws B__law_draws_1 [.int c, .int k, .bl f, .lst (ws.map .int), .int g, .int d, .int n] = .nx [.int c, .int k, .bl f, .lst ((ws ++ [w]).map .int), .int g, .int d', .int n] := by
  have m1 : ∀ x, mulOk x n := fun x => mulOk_r (by omega) (by omega)
  have m3 : ∀ x, mulOk x 69621 := fun x => mulOk_r (by decide) (by decide)
  obtain ⟨e, he⟩ : ∃ e, e = (d + n * n + 1) * 69621 % 2147483647 := ⟨_, rfl⟩
  have e0 : 0 ≤ e := by omega
  have e1 : e < 2147483647 := by omega
  have m4 : mulOk e e := mulOk_r (by omega) (by omega)
  refine ⟨if e % 2 = 0 then e else e * e % 4294967296, by split <;> omega, by split <;> omega, e, e0, e1, ?_⟩
  have cf : evB t__law_draws true [(.var 2), (.cmp .ge (.var 0) (.bin .pow (.cst (.int 10)) (.cst (.int 18)))), (.cmp .ge (.var 4) (.cst (.int 4294967296)))] [.int c, .int k, .bl f, .lst (ws.map .int), .int g, .int d, .int n] = some (.bl false) := by
    cases f with
    | false => simp
    | true =>
      by_cases h2 : 1000000000000000000 ≤ c
      · have h3 : ¬ 4294967296 ≤ g := fun h3 => hc ⟨rfl, h2, h3⟩
        simp [p18, pw, h2, h3]
      · simp [p18, pw, h2]
  by_cases q : e % 2 = 0
  · simp [B__law_draws_1, cf, m1, m3, m4, ← he, atI_two, q, lw]
  · simp [B__law_draws_1, cf, m1, m3, m4, ← he, atI_two, q, lw]
def IDr (c k : Int) (f : Bool) (n : Nat) (ρ : List D) : Prop := ∃ (ws : List Int) (g d : Int) (j : D), ρ = [.int c, .int k, .bl f, .lst (ws.map .int), .int g, .int d, j] ∧ ws.length = n ∧ Small ws ∧ 0 ≤ d ∧ d < 2147483647
theorem draws_loop {c k g d : Int} {f : Bool} (h0 : 0 ≤ d) (h1 : d < 2147483647) : ∃ ρ', forL (bindT (.s 6)) (exs t__law_draws B__law_draws_1) (ups 0 6) [.int c, .int k, .bl f, .lst [], .int g, .int d, .non] = .nx ρ' ∧ IDr c k f 6 ρ' :=
  forL_ups (IDr c k f) (fun n hn ρ hI => by
    obtain ⟨ws, g, d, j, rfl, hl, hs, d0, d1⟩ := hI
    have lw : ws.length < mx := by
      have : mx = 16777216 := rfl
      omega
    by_cases hc : f = true ∧ 1000000000000000000 ≤ c ∧ 4294967296 ≤ g
    · obtain ⟨rfl, h2, h3⟩ := hc
      exact ⟨_, .inl (draw1 h2 h3 lw), _, _, _, _, rfl, by simp [hl], hs.snoc (by omega) (by omega), d0, d1⟩
    · obtain ⟨w, w0, w1, d', e0, e1, ee⟩ := draw2 (k := k) hc (show (0 : Int) ≤ 0 + (n : Int) by omega) (by omega) d0 d1 lw
      exact ⟨_, .inl ee, _, _, _, _, rfl, by simp [hl], hs.snoc w0 w1, e0, e1⟩) ⟨[], g, d, .non, rfl, rfl, fun _ m => (by cases m), h0, h1⟩
theorem w_draws (c k : Int) (f : Bool) (hk : 0 ≤ k) (hk2 : k < 1000) : ∃ ws : List Int, ws.length = 6 ∧ Small ws ∧ m__law_draws [.int c, .int k, .bl f] = .ret (.lst (ws.map .int)) := by
  have dv : divOk 16 := by decide
  have m1 : ∀ x, mulOk 7919 x := fun x => mulOk_l (by decide) (by decide)
  have m2 : ∀ x, mulOk x k := fun x => mulOk_r (by omega) (by omega)
  have kk : 0 ≤ 7919 * k * k ∧ 7919 * k * k ≤ 7919000 * k := by
    constructor
    · exact Int.mul_nonneg (by omega) hk
    · have := Int.mul_le_mul_of_nonneg_left (show k ≤ 1000 by omega) (show 0 ≤ 7919 * k by omega)
      omega
  have m4 : ∀ x, mulOk x (48271 + 7919 * k * k) := fun x => mulOk_r (by omega) (by omega)
  obtain ⟨ρ', e, ws, g, d, j, rfl, hl, hs, _⟩ := draws_loop (c := c) (k := k) (f := f) (g := c / 16) (d := (c / 16 % 10 ^ 30 + 1) * (48271 + 7919 * k * k) % 2147483629) (by omega) (by omega)
  refine ⟨ws, hl, hs, ?_⟩
  simp at e
  simp [m__law_draws, b__law_draws, runR_eq, dv, p30, m1, m2, m4, inR, e]
end K11

set_option Elab.async false
set_option linter.all false
set_option maxRecDepth 100000
namespace K11
open PySem L2 My
/-! the law's own -/
theorem wd (l : Lt) : ((Option.map (fun r => D.dct (mergeD [] r)) (mkDct [D.str "a", D.str "b", D.str "c", D.str "n"] [D.int 4194304, D.int 524288, D.int 65536, D.int 1])).bind fun x => dIdx x (D.str l.s)) = some (.int l.w) := by cases l <;> rfl
theorem md (l : Lt) : atI [D.int 8, .int 65536] (if l.s = "n" then 1 else 0) = some (.int l.m) := by cases l <;> rfl
theorem atRow {nm : Str} {is : List Int} {k : Nat} {i : Int} (h : is[k]? = some i) : atI (D.str nm :: is.map D.int) ((k : Int) + 1) = some (.int i) := by
  have hk : k < is.length := by
    rcases Nat.lt_or_ge k is.length with g | g
    · exact g
    · rw [List.getElem?_eq_none g] at h; cases h
  rw [atI_of (by omega) (by simp; omega)]
  have e : ((k : Int) + 1).toNat = k + 1 := by omega
  rw [e, List.getElem?_cons_succ, List.getElem?_map, h]; rfl
theorem lc_loop {p : Nat} {nm txt : Str} {fs : List Lt} {is : List Int} (f : Fm p nm txt fs) (h : Parts fs is) {w : Int} {x : D} : ∃ x', forL (bindT (.s 5)) (exs t__law_coded B__law_coded_1) (ups 0 fs.length) [rowD nm is, .int p, .str nm, .str txt, .int w, x] = .nx [rowD nm is, .int p, .str nm, .str txt, .int (w + wsum fs is), x'] := by
  obtain ⟨ρ', e, x', rfl⟩ := forL_ups (i := 5) (lo := 0) (body := exs t__law_coded B__law_coded_1) (n := fs.length) (ρ := [rowD nm is, .int p, .str nm, .str txt, .int w, x]) (fun k ρ => ∃ x, ρ = [rowD nm is, .int p, .str nm, .str txt, .int (w + wsum (fs.take k) (is.take k)), x]) (fun k hk ρ hI => by
    obtain ⟨x, rfl⟩ := hI
    obtain ⟨l, hl⟩ : ∃ l, fs[k]? = some l := ⟨_, List.getElem?_eq_getElem hk⟩
    obtain ⟨i, hi, h0, h1⟩ := h.at hl
    have e1 := f.letter hl
    have e2 := atRow (nm := nm) hi
    have mk : mulOk i l.w := mulOk_r (by have := l.w0; omega) (by have := l.w1; omega)
    refine ⟨[rowD nm is, .int p, .str nm, .str txt, .int (w + wsum (fs.take k) (is.take k) + i * l.w), .int (0 + k)], .inl ?_, ⟨_, by rw [wsum_take h hl hi]; congr 6; omega⟩⟩
    unfold rowD
    simp -implicitDefEqProofs [B__law_coded_1, e1, e2, mk, wd]) ⟨x, by simp [wsum]⟩
  refine ⟨x', ?_⟩
  rw [e, List.take_length, ← h.len, List.take_length]
end K11

set_option Elab.async false
set_option linter.all false
set_option maxRecDepth 100000
namespace K11
open PySem L2 My
theorem lc_step {p : Nat} {nm txt : Str} {fs : List Lt} {is : List Int} (f : Fm p nm txt fs) (h : Parts fs is) {a b c d e : D} : exs t__law_coded B__law_coded_2 [rowD nm is, .int p, a, b, c, d] = .ret (.int (cod p fs is)) := by
  obtain ⟨x', e1⟩ := lc_loop f h (w := p * 33554432) (x := d)
  have mk : ∀ n, mulOk n 33554432 := fun n => mulOk_r (by decide) (by decide)
  have at1 := f.at
  have iR : inR (fs.length : Int) := by have := f.l3; exact ⟨by omega, by omega⟩
  have le : fs.length ≤ mx := by have := f.l3; have emx : mx = 16777216 := rfl; omega
  unfold rowD at e1 ⊢
  unfold cod
  simp -implicitDefEqProofs [B__law_coded_2, w_forms, at1, mk, f.tl, le, iR, e1]
theorem lc_skip {p q : Nat} {nm txt nm' txt' : Str} {fs fs' : List Lt} {is : List Int} (f : Fm p nm txt fs) (f' : Fm q nm' txt' fs') (hn : q ≠ p) {a b c d : D} : exs t__law_coded B__law_coded_2 [rowD nm is, .int q, a, b, c, d] = .nx [rowD nm is, .int q, .str nm', .str txt', c, d] := by
  have at1 := f'.at
  have nn := f.ne f' hn
  unfold rowD
  simp -implicitDefEqProofs [B__law_coded_2, w_forms, at1, nn]
theorem lc_all {p : Nat} {nm txt : Str} {fs : List Lt} {is : List Int} (f : Fm p nm txt fs) (h : Parts fs is) : ∀ (m q : Nat), q + m = p → ∀ x a b c d : D, forL (bindT (.s 1)) (exs t__law_coded B__law_coded_2) (ups q (15 - q)) [rowD nm is, x, a, b, c, d] = .ret (.int (cod p fs is))
  | 0, q, hq, x, a, b, c, d => by
    have : q = p := by omega
    subst this
    have lt := f.lt
    obtain ⟨r, hr⟩ : ∃ r, 15 - q = r + 1 := ⟨14 - q, by omega⟩
    rw [hr]
    exact forL_ret (ρ1 := [rowD nm is, .int q, a, b, c, d]) rfl (lc_step f h (e := .non))
  | m + 1, q, hq, x, a, b, c, d => by
    have lt := f.lt
    obtain ⟨r, hr⟩ : ∃ r, 15 - q = r + 1 := ⟨14 - q, by omega⟩
    have hr2 : 15 - (q + 1) = r := by omega
    obtain ⟨nm', txt', fs', f'⟩ := fm_of q (by omega)
    have ih := lc_all f h m (q + 1) (by omega) (.int q) (.str nm') (.str txt') c d
    rw [hr2] at ih
    rw [hr, ← ih]
    exact forL_one (ρ1 := [rowD nm is, .int q, a, b, c, d]) rfl (lc_skip f f' (by omega))
theorem w_lcoded {p : Nat} {nm txt : Str} {fs : List Lt} {is : List Int} (f : Fm p nm txt fs) (h : Parts fs is) : m__law_coded [rowD nm is] = .ret (.int (cod p fs is)) := by
  have e := lc_all f h p 0 (by omega) .non .non .non .non .non
  have iR : inR 15 := by decide
  simp at e
  simp -implicitDefEqProofs [m__law_coded, b__law_coded, runR_eq, iR, e]
/-- the letters' loop -/
theorem ld_loop {w : Int} {pl r n2 t2 : D} : ∀ (fs : List Lt) (ps : List Int), ps.length + fs.length < mx → ∀ x y : D, ∃ x' y', forL (bindT (.s 3)) (exs t__law_decoded B__law_decoded_1) (fs.map fun l => D.str l.s) [.int w, pl, .lst (ps.map .int), x, r, n2, t2, y] = .nx [.int w, pl, .lst ((ps ++ prt w fs).map .int), x', r, n2, t2, y']
  | [], ps, _, x, y => ⟨x, y, by simp [prt]⟩
  | l :: fs, ps, hl, x, y => by
    obtain ⟨x', y', e⟩ := ld_loop (w := w) (pl := pl) (r := r) (n2 := n2) (t2 := t2) fs (ps ++ [w / l.w % l.m]) (by simp at hl ⊢; omega) (.str l.s) (.int l.w)
    refine ⟨x', y', ?_⟩
    have e2 : ps ++ prt w (l :: fs) = ps ++ [w / l.w % l.m] ++ prt w fs := by simp [prt]
    have lp : ps.length < mx := by simp at hl; omega
    rw [e2, ← e]
    exact forL_one (ρ1 := [.int w, pl, .lst (ps.map .int), .str l.s, r, n2, t2, y]) rfl (by simp -implicitDefEqProofs [B__law_decoded_1, wd, md, divW, l.m0, lp])
theorem w_ldecoded {w : Int} {p : Nat} {nm txt : Str} {fs : List Lt} (f : Fm p nm txt fs) (hp : w / 33554432 = p) : m__law_decoded [.int w] = .ret (due w p nm fs) := by
  have d : divOk 33554432 := by decide
  have lt := f.lt
  have l3 := f.l3
  have emx : mx = 16777216 := rfl
  obtain ⟨x', y', e1⟩ := ld_loop (w := w) (pl := .int p) (r := .non) (n2 := .str nm) (t2 := .str txt) fs [] (by simp; omega) .non .non
  have e3 := w_lcoded f (prt_ok w fs)
  have le2 : 1 + (prt w fs).length ≤ mx := by simp [prt]; omega
  have n15 : ¬ (14 : Int) < (p : Int) := by omega
  have at1 := f.at
  unfold due
  unfold rowD at e3 ⊢
  simp at e1
  by_cases c : cod p fs (prt w fs) = w
  · simp -implicitDefEqProofs [m__law_decoded, b__law_decoded, runR_eq, d, hp, n15, w_forms, at1, f.ch, e1, le2, e3, c]
  · simp -implicitDefEqProofs [m__law_decoded, b__law_decoded, runR_eq, d, hp, n15, w_forms, at1, f.ch, e1, le2, e3, c]
theorem w_ldecoded_no {w : Int} (hp : 15 ≤ w / 33554432) : m__law_decoded [.int w] = .ret .non := by
  have d : divOk 33554432 := by decide
  have : 14 < w / 33554432 := by omega
  simp -implicitDefEqProofs [m__law_decoded, b__law_decoded, runR_eq, d, this]
end K11

set_option Elab.async false
set_option linter.all false
set_option maxRecDepth 100000
namespace K11
open PySem L2 My
/-! a drawn row -/
theorem row1 {way nm m q : D} {form : Str} {l : Lt} {n : Int} {ws ps : List Int} (hx : dIdx (.str form) (.int n) = some (.str l.s)) (h0 : 0 ≤ n) (h1 : n < 6) (hw : ws.length = 6) (lp : ps.length < mx) :
    ∃ p, 0 ≤ p ∧ p < l.m ∧ ∃ m', exs t__law_row B__law_row_1 [way, .lst (ws.map .int), .lst (ps.map .int), .int n, nm, .str form, m, q] = .nx [way, .lst (ws.map .int), .lst ((ps ++ [p]).map .int), .int n, nm, .str form, m', .int p] := by
  have d5 : divOk 5 := by decide
  obtain ⟨mo, hm⟩ : ∃ mo : Int, mo = l.m := ⟨_, rfl⟩
  have m0 : 0 < mo := by rw [hm]; exact l.m0
  have em : atI [D.int 8, .int 65536] (if l.s = "n" then 1 else 0) = some (.int mo) := by rw [hm]; exact md l
  obtain ⟨x1, _, a1⟩ := atI_intE (ws := ws) h0 (by omega)
  obtain ⟨x4, _, a4⟩ := atI_intE (ws := ws) (i := 4) (by decide) (by omega)
  obtain ⟨x5, _, a5⟩ := atI_intE (ws := ws) (i := 5) (by decide) (by omega)
  rw [← hm]
  by_cases c1 : x4 % 5 = 1
  · by_cases c2 : n = x5 % 3
    · refine ⟨if x4 / 5 % 2 = 0 then 0 else mo - 1, by split <;> omega, by split <;> omega, .int mo, ?_⟩
      by_cases c3 : x4 / 5 % 2 = 0 <;> simp [B__law_row_1, hx, em, a1, a4, a5, m0, c1, ← c2, d5, atI_two, lp, c3]
    · refine ⟨x1 % mo, Int.emod_nonneg _ (by omega), Int.emod_lt_of_pos _ m0, .int mo, ?_⟩
      simp [B__law_row_1, hx, em, a1, a4, a5, m0, c1, c2, d5, lp]
  · refine ⟨x1 % mo, Int.emod_nonneg _ (by omega), Int.emod_lt_of_pos _ m0, .int mo, ?_⟩
    simp [B__law_row_1, hx, em, a1, a4, a5, m0, c1, d5, lp]
theorem w_row {p : Nat} {nm txt : Str} {fs : List Lt} {ws : List Int} (f : Fm p nm txt fs) (hw : ws.length = 6) : ∃ is, Parts fs is ∧ m__law_row [.int p, .lst (ws.map .int)] = .ret (rowD nm is) := by
  have l3 := f.l3
  have emx : mx = 16777216 := rfl
  obtain ⟨ρ', e, is, a, b, c, rfl, hp⟩ := forL_ups (i := 3) (lo := 0) (body := exs t__law_row B__law_row_1) (n := fs.length) (ρ := [.int p, .lst (ws.map .int), .lst [], .non, .str nm, .str txt, .non, .non]) (fun k ρ => ∃ ps a b c, ρ = [.int p, .lst (ws.map .int), .lst (ps.map .int), a, .str nm, .str txt, b, c] ∧ Parts (fs.take k) ps) (fun k hk ρ hI => by
    obtain ⟨ps, a, b, c, rfl, hp⟩ := hI
    obtain ⟨l, hl⟩ : ∃ l, fs[k]? = some l := ⟨_, List.getElem?_eq_getElem hk⟩
    have lp := hp.len
    simp at lp
    obtain ⟨i, i0, i1, m', e⟩ := row1 (way := .int p) (nm := .str nm) (m := b) (q := c) (ps := ps) (ws := ws) (n := 0 + (k : Int)) (by rw [Int.zero_add]; exact f.letter hl) (by omega) (by omega) hw (by omega)
    refine ⟨_, .inl e, _, _, _, _, rfl, ?_⟩
    have : fs.take (k + 1) = fs.take k ++ [l] := by rw [List.take_add_one, hl]; rfl
    rw [this]
    exact hp.snoc i0 i1) ⟨[], .non, .non, .non, rfl, .nil⟩
  rw [List.take_length] at hp
  refine ⟨is, hp, ?_⟩
  have le : fs.length ≤ mx := by omega
  have le2 : 1 + is.length ≤ mx := by rw [hp.len]; omega
  have iR : inR (fs.length : Int) := ⟨by omega, by omega⟩
  have at1 := f.at
  unfold rowD
  simp -implicitDefEqProofs [m__law_row, b__law_row, runR_eq, w_forms, at1, f.tl, le, iR, e, le2]
end K11

set_option Elab.async false
set_option linter.all false
set_option maxRecDepth 100000
namespace K11
open PySem L2 My
theorem emx : mx = 16777216 := rfl
def ok (w : Int) : Prop := 0 ≤ w ∧ w < 4294967296
/-- a number's text -/
theorem num_len {i : Int} (h0 : 0 ≤ i) (h1 : i < 4294967296) : i.natAbs.log2 < 1920 ∧ (Str.ofString (toString i)).length ≤ 11 := by
  refine ⟨Nat.lt_trans (log2_lt (k := 32) (by omega) (by decide)) (by decide), ?_⟩
  rw [ofString_length]
  exact int_text_length_le10 (k := 10) (by decide) (by omega)
def pre (l : Lt) : Str := if l.s = "n" then "" else "r"
theorem pre_at (l : Lt) : atI [D.str "r", .str ""] (if l.s = "n" then 1 else 0) = some (.str (pre l)) := by cases l <;> rfl
theorem pre_len (l : Lt) : (pre l).length ≤ 1 := by cases l <;> decide +kernel
def pt (l : Lt) (i : Int) : Str := pre l ++ Str.ofString (toString i)
theorem app_len (x y : Str) : (x ++ y).length = x.length + y.length := by
  show (x.cps ++ y.cps).size = _
  rw [Array.size_append]; rfl
theorem pt_len {l : Lt} {i : Int} (h0 : 0 ≤ i) (h1 : i < l.m) : (pt l i).length ≤ 12 := by
  have := l.m1
  have h := (num_len h0 (by omega)).2
  have h2 := pre_len l
  unfold pt
  rw [app_len]; omega
def lw : List Lt → List Int → List Str
  | l :: fs, i :: is => pt l i :: lw fs is
  | _, _ => []
theorem lw_len {fs : List Lt} {is : List Int} (h : Parts fs is) : (lw fs is).length = fs.length := by
  induction h with
  | nil => rfl
  | cons _ _ _ ih => show (lw _ _).length + 1 = _; rw [ih]; rfl
theorem lw_sum {fs : List Lt} {is : List Int} (h : Parts fs is) : ((lw fs is).map (·.length)).sum ≤ 12 * fs.length := by
  induction h with
  | nil => exact Nat.le_refl _
  | @cons l i fs is h0 h1 _ ih =>
    show (pt l i).length + ((lw fs is).map (·.length)).sum ≤ 12 * (fs.length + 1)
    have := pt_len h0 h1
    omega
theorem allStrs_map : ∀ ys : List Str, allStrs (ys.map D.str) = some ys
  | [] => rfl
  | y :: ys => by
    show (allStrs (ys.map D.str)).map (y :: ·) = _
    rw [allStrs_map ys]; rfl
theorem join_of {x : Str} {ys : List Str} (h : (ys.map (·.length)).sum + ys.length * x.length ≤ 16777216) : joinV x (.lst (ys.map .str)) = some (.str (Txt.join x ys)) := by
  show ((allStrs (ys.map D.str)).bind fun ys => if (ys.map (·.length)).sum + ys.length * x.length ≤ 16777216 then some (D.str (Txt.join x ys)) else none) = _
  rw [allStrs_map]
  show (if (ys.map (·.length)).sum + ys.length * x.length ≤ 16777216 then some (D.str (Txt.join x ys)) else none) = _
  rw [if_pos h]
theorem join_len (x : Str) (ys : List Str) : (Txt.join x ys).length = (ys.map (·.length)).sum + (ys.length - 1) * x.length := size_glued x ys
theorem nm_len {p : Nat} {nm txt : Str} {fs : List Lt} (f : Fm p nm txt fs) : nm.length ≤ 5 := by
  have : ∀ z ∈ RW, z.length ≤ 5 := by decide +kernel
  exact this nm f.me
theorem sp_len : ((" " : Str)).length = 1 := rfl
/-- the words of a row's line -/
def words (nm : Str) (fs : List Lt) (is : List Int) : List Str := nm :: lw fs is
theorem words_ok {p : Nat} {nm txt : Str} {fs : List Lt} {is : List Int} (f : Fm p nm txt fs) (h : Parts fs is) : joinV " " (.lst ((words nm fs is).map .str)) = some (.str (Txt.join " " (words nm fs is))) ∧ (Txt.join " " (words nm fs is)).length ≤ 60 := by
  have l1 := lw_len h
  have l2 := lw_sum h
  have l3 := f.l3
  have l4 := nm_len f
  have s1 : ((words nm fs is).map (·.length)).sum = nm.length + ((lw fs is).map (·.length)).sum := rfl
  have s2 : (words nm fs is).length = (lw fs is).length + 1 := rfl
  refine ⟨join_of ?_, ?_⟩
  · rw [s1, s2, sp_len]; omega
  · rw [join_len, s1, s2, sp_len]; omega
theorem ll_loop {w : D} {nm nm' txt : Str} {p : Nat} {fs : List Lt} {is : List Int} (f : Fm p nm txt fs) (h : Parts fs is) : ∃ x', forL (bindT (.s 3)) (exs t__law_line B__law_line_1) (ups 0 fs.length) [w, rowD nm is, .lst ([nm].map .str), .non, .str nm', .str txt] = .nx [w, rowD nm is, .lst (([nm] ++ lw fs is).map .str), x', .str nm', .str txt] := by
  have key : ∀ k, k ≤ fs.length → (lw (fs.take k) (is.take k)).length = k := fun k hk => by
    have : ∀ {fs : List Lt} {is : List Int}, Parts fs is → ∀ k, k ≤ fs.length → (lw (fs.take k) (is.take k)).length = k := fun h => by
      induction h with
      | nil => intro k hk; have : k = 0 := by simpa using hk
               subst this; rfl
      | @cons l i fs is _ _ _ ih =>
        intro k hk
        cases k with
        | zero => rfl
        | succ k => show (lw (fs.take k) (is.take k)).length + 1 = k + 1; rw [ih k (by simpa using hk)]
    exact this h k hk
  have step : ∀ {fs : List Lt} {is : List Int}, Parts fs is → ∀ {k : Nat} {l : Lt} {i : Int}, fs[k]? = some l → is[k]? = some i → lw (fs.take (k + 1)) (is.take (k + 1)) = lw (fs.take k) (is.take k) ++ [pt l i] := fun h => by
    induction h with
    | nil => intro k l i e; simp at e
    | @cons l' i' fs is a b _ ih =>
      intro k l i e e2
      cases k with
      | zero => simp at e e2; subst e e2; rfl
      | succ k =>
        simp at e e2
        show pt l' i' :: lw (fs.take (k + 1)) (is.take (k + 1)) = pt l' i' :: lw (fs.take k) (is.take k) ++ [pt l i]
        rw [ih e e2]; rfl
  have l3 := f.l3
  obtain ⟨ρ', e, x', rfl⟩ := forL_ups (i := 3) (lo := 0) (body := exs t__law_line B__law_line_1) (n := fs.length) (ρ := [w, rowD nm is, .lst ([nm].map .str), .non, .str nm', .str txt])
    (fun k ρ => ∃ x, ρ = [w, rowD nm is, .lst (([nm] ++ lw (fs.take k) (is.take k)).map .str), x, .str nm', .str txt]) (fun k hk ρ hI => by
    obtain ⟨x, rfl⟩ := hI
    obtain ⟨l, hl⟩ : ∃ l, fs[k]? = some l := ⟨_, List.getElem?_eq_getElem hk⟩
    obtain ⟨i, hi, h0, h1⟩ := h.at hl
    have e1 := f.letter hl
    have e2 := atRow (nm := nm) hi
    have hm := l.m1
    obtain ⟨n1, n2⟩ := num_len h0 (show i < 4294967296 by omega)
    have n3 := pre_len l
    have n4 : (pre l).length + (Str.ofString i.repr).length ≤ mx := by
      have n2 : (Str.ofString i.repr).length ≤ 11 := n2
      rw [emx]; omega
    have n5 : (([nm] ++ lw (fs.take k) (is.take k)).map D.str).length < mx := by rw [emx, List.length_map, List.length_append, key k (by omega)]; simp; omega
    have pa := pre_at l
    refine ⟨[w, rowD nm is, .lst (([nm] ++ lw (fs.take k) (is.take k)).map D.str ++ [.str (pt l i)]), .int (0 + k), .str nm', .str txt], .inl ?_, ⟨_, by rw [step h hl hi, ← List.append_assoc, List.map_append (l₂ := [pt l i])]; rfl⟩⟩
    generalize ([nm] ++ lw (fs.take k) (is.take k)).map D.str = W at n5 ⊢
    unfold rowD
    simp -implicitDefEqProofs [B__law_line_1, e1, e2, pa, n1, n4, n5, pt]) ⟨.non, rfl⟩
  refine ⟨x', ?_⟩
  rw [e, List.take_length, ← h.len, List.take_length]
end K11


set_option Elab.async false
set_option linter.all false
set_option maxRecDepth 100000
namespace K11
open PySem L2 My
/-! numbers' texts -/
abbrev tl (x : Str) : List Nat := x.cps.toList
def num (i : Int) : Str := Str.ofString (toString i)
theorem tl_num {i : Int} (h : 0 ≤ i) : tl (num i) = TL.numL i.toNat := by
  obtain ⟨n, rfl⟩ := Int.eq_ofNat_of_zero_le h
  exact TL.tl_num n
theorem len_tl (x : Str) : x.length = (tl x).length := TL.len_tl x
theorem num_dig {i : Int} (h : 0 ≤ i) : ∀ c ∈ tl (num i), 48 ≤ c ∧ c ≤ 57 := fun c m => by
  rw [tl_num h] at m
  exact TL.numL_digits _ c m
theorem num_ne {i : Int} (h : 0 ≤ i) : tl (num i) ≠ [] := by
  rw [tl_num h]; exact TL.numL_ne _
theorem numL_head : ∀ (n : Nat) (r : List Nat), TL.numL n = 48 :: r → r = [] := by
  intro n
  induction n using Nat.strongRecOn with
  | _ n ih =>
    intro r e
    by_cases h : n < 10
    · rw [TL.numL_lt h] at e
      injection e with _ e; exact e.symm
    · rw [TL.numL_step (by omega)] at e
      cases e2 : TL.numL (n / 10) with
      | nil => exact absurd e2 (TL.numL_ne _)
      | cons c q =>
        rw [e2] at e
        injection e with e3 e4
        subst e3
        have q0 := ih (n / 10) (by omega) q e2
        subst q0
        have : TL.numL (n / 10) = TL.numL 0 := by rw [e2, TL.numL_lt (by decide)]
        have := TL.numL_inj this
        omega
theorem num_len2 {i : Int} {k : Nat} (hk : 0 < k) (h : 0 ≤ i) (h1 : i < 10 ^ k) : (num i).length ≤ k := by
  rw [len_tl, tl_num h]
  refine TL.numL_len hk ?_
  have : ((10 : Int) ^ k) = ((10 ^ k : Nat) : Int) := by simp
  omega
theorem num_int {i : Int} (h : 0 ≤ i) (h1 : i < 10 ^ 10) : biV .int [.str (num i)] = some (.int i) := by
  have l := num_len2 (k := 10) (by decide) h h1
  show (if (num i).length ≤ 640 then (PySem.intText? (num i)).map D.int else none) = _
  rw [if_pos (by omega)]
  obtain ⟨n, rfl⟩ := Int.eq_ofNat_of_zero_le h
  have : PySem.intText? (num (n : Int)) = some (n : Int) := TL.int_num (by
    have := len_tl (num (n : Int))
    rw [tl_num h] at this
    have e : ((n : Int)).toNat = n := rfl
    rw [e] at this
    omega)
  rw [this]; rfl
theorem dIn_sign (c : Nat) (z : Str) : dIn (.str ⟨#[c]⟩) (.str z) = some (decide (c ∈ tl z)) := congrArg some (PySem.StrLaws.found_one z c)
theorem fig_in {c : Nat} (h : 48 ≤ c ∧ c ≤ 57) : dIn (.str ⟨#[c]⟩) g_FIGURES = some true := by
  refine (dIn_sign c _).trans (congrArg some (decide_eq_true ?_))
  have e : tl ("0123456789" : Str) = [48, 49, 50, 51, 52, 53, 54, 55, 56, 57] := by decide +kernel
  show c ∈ tl ("0123456789" : Str)
  rw [e]; simp; omega
theorem let_out {c : Nat} (h : c < 97 ∨ 122 < c) : dIn (.str ⟨#[c]⟩) g_LETTERS = some false := by
  refine (dIn_sign c _).trans (congrArg some (decide_eq_false ?_))
  have e : tl ("abcdefghijklmnopqrstuvwxyz" : Str) = [97, 98, 99, 100, 101, 102, 103, 104, 105, 106, 107, 108, 109, 110, 111, 112, 113, 114, 115, 116, 117, 118, 119, 120, 121, 122] := by decide +kernel
  show ¬ c ∈ tl ("abcdefghijklmnopqrstuvwxyz" : Str)
  rw [e]; simp; omega
theorem reg_in {c : Nat} (h : 48 ≤ c ∧ c ≤ 55) : dIn (.str ⟨#[c]⟩) g_REGISTERS = some true := by
  refine (dIn_sign c _).trans (congrArg some (decide_eq_true ?_))
  have e : tl ("01234567" : Str) = [48, 49, 50, 51, 52, 53, 54, 55] := by decide +kernel
  show c ∈ tl ("01234567" : Str)
  rw [e]; simp; omega
theorem idx_sign {z : Str} {c : Nat} {i : Int} (hl : z.length ≤ mx) (h : atI (tl z) i = some c) : dIdx (.str z) (.int i) = some (.str ⟨#[c]⟩) := by
  show (if z.length ≤ mx then (atI (tl z) i).map fun c => D.str ⟨#[c]⟩ else none) = _
  rw [if_pos hl, h]; rfl
theorem at0 {α : Type} {x : α} {xs : List α} : atI (x :: xs) 0 = some x := by
  rw [atI_of (by omega) (by simp <;> omega)] <;> rfl
theorem at1' {α : Type} {x y : α} {xs : List α} : atI (x :: y :: xs) 1 = some y := by
  rw [atI_of (by omega) (by simp <;> omega)] <;> rfl
theorem fig_loop {x0 : D} : ∀ (cs : List Nat), (∀ c ∈ cs, 48 ≤ c ∧ c ≤ 57) → ∀ y : D, ∃ y', forL (bindT (.s 1)) (exs t_number_in B_number_in_1) (cs.map fun c => D.str ⟨#[c]⟩) [x0, y] = .nx [x0, y']
  | [], _, y => ⟨y, rfl⟩
  | c :: cs, h, y => by
    obtain ⟨y', e⟩ := fig_loop (x0 := x0) cs (fun d m => h d (List.mem_cons_of_mem _ m)) (.str ⟨#[c]⟩)
    refine ⟨y', ?_⟩
    rw [← e]
    have hc := fig_in (h c List.mem_cons_self)
    exact forL_one (ρ1 := [x0, .str ⟨#[c]⟩]) rfl (by simp [B_number_in_1, hc])
/-- a number's text is read -/
theorem w_number {i : Int} (h : 0 ≤ i) (h1 : i < 10 ^ 10) : m_number_in [.str (num i)] = .ret (.int i) := by
  have hi := num_int h h1
  have hl := num_len2 (k := 10) (by decide) h h1
  have hd := num_dig h
  have hn := num_ne h
  have hh : ∀ r, tl (num i) = 48 :: r → r = [] := by rw [tl_num h]; exact numL_head _
  have ht := len_tl (num i)
  have hm : (num i).length ≤ mx := by rw [emx]; omega
  obtain ⟨y', e⟩ := fig_loop (x0 := .str (num i)) _ hd .non
  cases ec : tl (num i) with
  | nil => exact absurd ec hn
  | cons c r =>
    rw [ec] at ht hh
    have hx := idx_sign hm (by rw [ec]; exact at0)
    have k1 : (1 : Int) ≤ ((num i).length : Int) := by rw [ht]; simp; omega
    have k2 : ((num i).length : Int) ≤ 10 := by omega
    generalize num i = Z at *
    by_cases c0 : c = 48
    · have hr := hh r (by rw [c0])
      subst hr c0
      have k3 : ¬ (1 : Int) < (Z.length : Int) := by rw [ht]; simp
      have q : dCmp .eq (.str ⟨#[48]⟩) (.str "0") = some true := by decide +kernel
      have e : forL (bindT (.s 1)) (exs t_number_in B_number_in_1) ((tl Z).map fun c => D.str ⟨#[c]⟩) [.str Z, .non] = .nx [.str Z, y'] := e
      simp -implicitDefEqProofs [m_number_in, b_number_in, runR_eq, g_MOST_FIGURES, hm, k1, k2, hx, q, k3, e, hi]
    · have q : dCmp .eq (.str ⟨#[c]⟩) (.str "0") = some false := by
        show some (decide ((⟨#[c]⟩ : Str) = "0")) = _
        refine congrArg some (decide_eq_false fun e => c0 ?_)
        have e3 : [c] = tl ("0" : Str) := congrArg tl e
        have e2 : tl ("0" : Str) = [48] := by decide +kernel
        rw [e2] at e3
        injection e3
      simp -implicitDefEqProofs [m_number_in, b_number_in, runR_eq, g_MOST_FIGURES, hm, k1, k2, hx, q, e, hi]
end K11

set_option Elab.async false
set_option linter.all false
set_option maxRecDepth 100000
namespace K11
open PySem L2 My
theorem lk_none {α : Type} {z : Str} : ∀ (tab : List (Str × α)), z ∉ tab.map (·.1) → tab.lookup z = none
  | [], _ => rfl
  | (k, v) :: tab, h => by
    simp at h
    have e : (z == k) = false := by simpa using h.1
    rw [List.lookup_cons, e]
    exact lk_none tab (by simpa using h.2)
/-- no word that begins with a figure is one of these -/
theorem num_notin {z : Str} {c : Nat} {r : List Nat} (h : tl z = c :: r) (hc : c < 97) : z ∉ RW ∧ z ≠ "word" := by
  have key : ∀ y ∈ ("word" : Str) :: RW, (tl y).headD 0 ≥ 97 := by decide +kernel
  have q : z ∉ ("word" : Str) :: RW := fun m => by
    have := key z m
    rw [h] at this
    simp at this; omega
  exact ⟨fun m => q (List.mem_cons_of_mem _ m), fun e => q (by rw [e]; exact List.mem_cons_self)⟩
theorem ne_eq {x y : Str} (h : x ≠ y) : dCmp .eq (.str x) (.str y) = some false := by
  show some (decide (x = y)) = _
  rw [decide_eq_false h]
theorem w_noplace {i : Int} (h : 0 ≤ i) (h1 : i < 10 ^ 8) : m_is_place_name [.str (num i)] = .ret (.bl false) := by
  have hl := num_len2 (k := 8) (by decide) h h1
  have hd := num_dig h
  have hn := num_ne h
  have ht := len_tl (num i)
  have hm : (num i).length ≤ mx := by rw [emx]; omega
  cases ec : tl (num i) with
  | nil => exact absurd ec hn
  | cons c r =>
    rw [ec] at ht hd
    have k1 : (1 : Int) ≤ ((num i).length : Int) := by rw [ht]; simp; omega
    have k2 : ((num i).length : Int) ≤ 8 := by omega
    have hc := hd c List.mem_cons_self
    obtain ⟨n1, n2⟩ := num_notin ec (by omega)
    have hk : tb_FORMS.lookup (num i) = none := lk_none tb_FORMS n1
    have hw := ne_eq n2
    have hf : forL (bindT (.s 1)) (exs t_is_place_name B_is_place_name_1) ((tl (num i)).map fun c => D.str ⟨#[c]⟩) [.str (num i), .non] = .ret (.bl false) := by
      rw [ec]
      have lo := let_out (c := c) (by omega)
      exact forL_ret (ρ1 := [.str (num i), .str ⟨#[c]⟩]) rfl (by simp [B_is_place_name_1, lo])
    generalize num i = Z at *
    simp -implicitDefEqProofs [m_is_place_name, b_is_place_name, runR_eq, g_LONGEST, hm, k1, k2, hk, hw, hf]
theorem tl_app (x y : Str) : tl (x ++ y) = tl x ++ tl y := TL.tl_append x y
theorem ext_tl {x y : Str} (h : tl x = tl y) : x = y := TL.ext_tl h
theorem w_reg {i : Int} (h : 0 ≤ i) (h1 : i < 8) : m_register_in [.str ("r" ++ num i)] = .ret (.int i) := by
  have e1 : tl ("r" : Str) = [114] := by decide +kernel
  have e2 : tl (num i) = [48 + i.toNat] := by rw [tl_num h, TL.numL_lt (by omega)]
  have et : tl ("r" ++ num i) = [114, 48 + i.toNat] := by rw [tl_app, e1, e2]; rfl
  have hl : ("r" ++ num i).length = 2 := by rw [len_tl, et]; rfl
  have hm : ("r" ++ num i).length ≤ mx := by rw [hl, emx]; decide
  have x0 := idx_sign hm (by rw [et]; exact at0)
  have x1 := idx_sign hm (by rw [et]; exact at1')
  have q0 : dCmp .eq (.str ⟨#[114]⟩) (.str "r") = some true := by decide +kernel
  have q1 := reg_in (c := 48 + i.toNat) (by omega)
  have en : (⟨#[48 + i.toNat]⟩ : Str) = num i := ext_tl e2.symm
  have q2 := num_int h (show i < 10 ^ 10 by omega)
  rw [← en] at q2
  generalize ("r" ++ num i) = Z at *
  generalize (⟨#[48 + i.toNat]⟩ : Str) = Y at *
  have m2 : 2 ≤ mx := by rw [emx]; decide
  simp -implicitDefEqProofs [m_register_in, b_register_in, runR_eq, m2, hl, x0, x1, q0, q1, q2]
theorem nam_in {p : Nat} {nm txt : Str} {fs : List Lt} (f : Fm p nm txt fs) : ∃ b, dIn (.str nm) g_NAMING = some b := by
  have h1 : ndp 60 (.str nm) = true := f.ok
  have h2 : ndpL 60 [.str "put", .str "jump", .str "if"] = true := by decide +kernel
  exact ⟨_, if_pos (by rw [h1, h2]; rfl)⟩
/-- a part of a row is read -/
theorem w_part {p : Nat} {nm txt : Str} {fs : List Lt} (f : Fm p nm txt fs) {l : Lt} {i : Int} (h : 0 ≤ i) (h1 : i < l.m) : m_part_in [.str nm, .str l.s, .str (pt l i)] = .ret (.int i) := by
  have key : ∀ {s : Str}, dCmp .ne (.str s) (.str "n") = some true → i < 8 → m_part_in [.str nm, .str s, .str ("r" ++ num i)] = .ret (.int i) := fun {s} q h8 => by
    have e := w_reg h h8
    generalize ("r" ++ num i) = Z at *
    simp -implicitDefEqProofs [m_part_in, b_part_in, runR_eq, q, e]
  cases l with
  | a => exact key (s := "a") (by decide +kernel) h1
  | b => exact key (s := "b") (by decide +kernel) h1
  | c => exact key (s := "c") (by decide +kernel) h1
  | n =>
    have h1 : i < 65536 := h1
    have ep : pt .n i = num i := by
      refine ext_tl ?_
      show tl (("" : Str) ++ num i) = _
      rw [tl_app]; rfl
    rw [ep]
    have q : dCmp .ne (.str "n") (.str "n") = some false := by decide +kernel
    have hs : Lt.n.s = "n" := rfl
    rw [hs]
    obtain ⟨b, hb⟩ := nam_in f
    have e1 := w_noplace h (show i < 10 ^ 8 by omega)
    have e2 := w_number h (show i < 10 ^ 10 by omega)
    have lb : tb_BOUNDS.lookup ("n" : Str) = some (.inl 65536) := rfl
    have k : ¬ 65536 ≤ i := by omega
    generalize num i = Z at *
    cases b with
    | true => simp -implicitDefEqProofs [m_part_in, b_part_in, runR_eq, q, hb, e1, e2, lb, k]
    | false => simp -implicitDefEqProofs [m_part_in, b_part_in, runR_eq, q, hb, e2, lb, k]
theorem part_comp {p : Nat} {nm txt : Str} {fs0 : List Lt} (f : Fm p nm txt fs0) {W : List D} {x1 x2 : D} (hw : atI W 0 = some (.str nm)) {fs : List Lt} {is : List Int} (h : Parts fs is) :
    compR t_item_in (.call 2 [(.idx (.var 0) (.cst (.int 0))), (.var 3), (.var 4)]) (.t [(.s 3), (.s 4)]) none [.lst W, x1, x2, .non, .non] (zipD (fs.map fun l => D.str l.s) ((lw fs is).map .str)) = some (is.map .int) := by
  induction h with
  | nil => rfl
  | @cons l i fs is h0 h1 _ ih =>
    have e := w_part f h0 h1
    have ez : zipD ((l :: fs).map fun l => D.str l.s) ((lw (l :: fs) (i :: is)).map .str) = .tup [.str l.s, .str (pt l i)] :: zipD (fs.map fun l => D.str l.s) ((lw fs is).map .str) := rfl
    rw [ez, compR_yes (ρ1 := [.lst W, x1, x2, .str l.s, .str (pt l i)]) (y := .int i) rfl rfl (by simp [hw, e]), ih]; rfl
theorem non_ints (is : List Int) : dIn .non (.lst (is.map D.int)) = some false := by
  have h1 : ∀ is : List Int, ndpL 60 (is.map D.int) = true := fun is => by
    induction is with
    | nil => rfl
    | cons i is ih => show (ndp 60 (.int i) && ndpL 60 (is.map D.int)) = true; rw [ih]; rfl
  have h2 : ∀ is : List Int, ((is.map D.int).any fun y => deq y .non) = false := fun is => by
    induction is with
    | nil => rfl
    | cons i is ih => rw [List.map_cons, List.any_cons, ih]; rfl
  show (if (ndp 60 .non && ndpL 60 (is.map D.int)) = true then some ((is.map D.int).any fun y => deq y .non) else none) = _
  rw [h1, h2]; rfl
/-- the words of a row are read -/
theorem w_item {p : Nat} {nm txt : Str} {fs : List Lt} {is : List Int} (f : Fm p nm txt fs) (h : Parts fs is) : m_item_in [.lst ((words nm fs is).map .str)] = .ret (rowD nm is) := by
  have hw : atI ((words nm fs is).map D.str) 0 = some (.str nm) := at0
  have hl : (words nm fs is).length = 1 + fs.length := by show (lw fs is).length + 1 = _; rw [lw_len h]; omega
  have hc : cut ((words nm fs is).map D.str) (some 1) none = (lw fs is).map D.str := cut1
  have e := part_comp f (x1 := .non) (x2 := .non) hw h
  have nw : dCmp .eq (.str nm) (.str "word") = some false := ne_eq fun e => by
    have : ("word" : Str) ∉ RW := by decide +kernel
    exact this (e ▸ f.me)
  have nn := non_ints is
  have l3 := f.l3
  have z1 : (zipD (fs.map fun l => D.str l.s) ((lw fs is).map D.str)).length ≤ mx := by
    have : ∀ (a b : List D), (zipD a b).length ≤ a.length := fun a => by
      induction a with
      | nil => intro b; cases b <;> exact Nat.le_refl _
      | cons x a ih => intro b; cases b with
        | nil => exact Nat.zero_le _
        | cons y b => show (zipD a b).length + 1 ≤ a.length + 1; have := ih b; omega
    have := this (fs.map fun l => D.str l.s) ((lw fs is).map D.str)
    rw [List.length_map] at this
    rw [emx]; omega
  have li := h.len
  have lm : 1 + is.length ≤ mx := by rw [emx]; omega
  have lf : fs.length ≤ mx := by rw [emx]; omega
  have hlw : ((words nm fs is).map D.str).length = 1 + fs.length := by rw [List.length_map, hl]
  have ht := f.tl
  have hfm := f.lm
  have hle : ((1 + fs.length : Nat) : Int) = 1 + (fs.length : Int) := by omega
  unfold rowD
  generalize (words nm fs is).map D.str = W at *
  generalize (lw fs is).map D.str = Y at *
  simp -implicitDefEqProofs [m_item_in, b_item_in, runR_eq, hw, nw, f.fo, hlw, ht, lf, hle, f.ch, hc, z1, e, nn, lm]
theorem w_item_word {w : Int} (h : ok w) : m_item_in [.lst [.str "word", .str (num w)]] = .ret (.int w) := by
  have e := w_number h.1 (show w < 10 ^ 10 by have := h.2; omega)
  have hw : atI [D.str "word", .str (num w)] 0 = some (.str "word") := at0
  have hw1 : atI [D.str "word", .str (num w)] 1 = some (.str (num w)) := at1'
  have q : dCmp .eq (.str "word") (.str "word") = some true := by decide +kernel
  have h0 := h.1
  have h1 := h.2
  have e2 : m_is_word [.int w] = .ret (.bl true) := by
    have : m_is_whole [.int w] = .ret (.bl true) := rfl
    simp [m_is_word, b_is_word, runR_eq, this, g_ROUND, h0, h1]
  generalize num w = Z at *
  simp -implicitDefEqProofs [m_item_in, b_item_in, runR_eq, hw, hw1, q, e, e2]
end K11

set_option Elab.async false
set_option linter.all false
set_option maxRecDepth 100000
namespace K11
open PySem L2 My
theorem mem_joinL {S : List Nat} {c : Nat} : ∀ {ps : List (List Nat)}, c ∈ TL.joinL S ps → c ∈ S ∨ ∃ p ∈ ps, c ∈ p
  | [], h => by cases h
  | [p], h => .inr ⟨p, List.mem_cons_self, h⟩
  | p :: q :: r, h => by
    have h : c ∈ p ++ (S ++ TL.joinL S (q :: r)) := h
    rcases List.mem_append.mp h with h | h
    · exact .inr ⟨p, List.mem_cons_self, h⟩
    · rcases List.mem_append.mp h with h | h
      · exact .inl h
      · rcases mem_joinL h with h | ⟨p', m, h⟩
        · exact .inl h
        · exact .inr ⟨p', List.mem_cons_of_mem _ m, h⟩
theorem tl_join (y : Str) (ps : List Str) : tl (Txt.join y ps) = TL.joinL (tl y) (ps.map tl) := by
  rw [TL.join_eq]; exact TL.tl_join y ps
theorem mem_join {y : Str} {ps : List Str} {c : Nat} (h : c ∈ tl (Txt.join y ps)) : c ∈ tl y ∨ ∃ p ∈ ps, c ∈ tl p := by
  rw [tl_join] at h
  rcases mem_joinL h with h | ⟨p, m, h⟩
  · exact .inl h
  · obtain ⟨x, hx, rfl⟩ := List.mem_map.mp m
    exact .inr ⟨x, hx, h⟩
theorem join_ne {y p : Str} {ps : List Str} (h : tl p ≠ []) : tl (Txt.join y (p :: ps)) ≠ [] := by
  rw [tl_join]
  cases ps with
  | nil => exact h
  | cons q r =>
    show tl p ++ _ ≠ []
    intro e
    exact h (List.append_eq_nil_iff.mp e).1
theorem t32 : tl (" " : Str) = [32] := by decide +kernel
theorem t10 : tl ("\n" : Str) = [10] := by decide +kernel
theorem k32 : (" " : Str).cps.all (· < 256) = true := by decide +kernel
theorem k10 : ("\n" : Str).cps.all (· < 256) = true := by decide +kernel
theorem spl_sp {ps : List Str} (hne : ps ≠ []) (h : ∀ p ∈ ps, 32 ∉ tl p) : Txt.split (Txt.join " " ps) " " = ps := TL.split_join t32 k32 hne h
theorem spl_nl {ps : List Str} (hne : ps ≠ []) (h : ∀ p ∈ ps, 10 ∉ tl p) : Txt.split (Txt.join "\n" ps) "\n" = ps := TL.split_join t10 k10 hne h
/-- a sign of a word: a letter or a figure -/
def Al (x : Str) : Prop := ∀ c ∈ tl x, 97 ≤ c ∨ (48 ≤ c ∧ c ≤ 57)
theorem al_num {i : Int} (h : 0 ≤ i) : Al (num i) := fun c m => .inr (num_dig h c m)
theorem al_rw {nm : Str} (h : nm ∈ RW) : Al nm := fun c m => by
  have key : ∀ y ∈ RW, ∀ c ∈ tl y, 97 ≤ c := by decide +kernel
  exact .inl (key nm h c m)
theorem al_app {x y : Str} (h : Al x) (h' : Al y) : Al (x ++ y) := fun c m => by
  rw [tl_app] at m
  rcases List.mem_append.mp m with m | m
  · exact h c m
  · exact h' c m
theorem al_pre (l : Lt) : Al (pre l) := fun c m => by
  have key : ∀ y ∈ [("r" : Str), ""], ∀ c ∈ tl y, 97 ≤ c := by decide +kernel
  refine .inl (key (pre l) ?_ c m)
  cases l <;> decide +kernel
theorem al_lw {fs : List Lt} {is : List Int} (h : Parts fs is) : ∀ x ∈ lw fs is, Al x := by
  induction h with
  | nil => intro x m; cases m
  | @cons l i fs is h0 h1 _ ih =>
    intro x m
    rcases List.mem_cons.mp m with rfl | m
    · exact al_app (al_pre l) (al_num h0)
    · exact ih x m
theorem al_words {p : Nat} {nm txt : Str} {fs : List Lt} {is : List Int} (f : Fm p nm txt fs) (h : Parts fs is) : ∀ x ∈ words nm fs is, Al x := fun x m => by
  rcases List.mem_cons.mp m with rfl | m
  · exact al_rw f.me
  · exact al_lw h x m
theorem al_no {x : Str} (h : Al x) {c : Nat} (hc : c < 48 ∨ (57 < c ∧ c < 97)) : c ∉ tl x := fun m => by
  have := h c m; omega
/-- the read line of a word -/
structure RdL (w : Int) (z : Str) : Prop where
  len : z.length ≤ 60
  ne : tl z ≠ []
  f10 : 10 ∉ tl z
  f58 : 58 ∉ tl z
  it : ∃ it : D, My.isNon it = false ∧ isHole it = false ∧ m_item_in [.lst ((Txt.split z " ").map .str)] = .ret it ∧ m_name_in [it] = .ret .non ∧ ∀ P, m_word_of [it, P] = .ret (.int w)
theorem atI_last {α : Type} {x : α} {xs : List α} : atI (xs ++ [x]) (-1) = some x := by
  unfold atI ixN
  rw [if_neg (by decide), if_pos (by simp; omega)]
  have e : (((-1 : Int) + ((xs ++ [x]).length : Int))).toNat = xs.length := by simp; omega
  show (xs ++ [x])[(((-1 : Int) + ((xs ++ [x]).length : Int))).toNat]? = some x
  rw [e]; simp
theorem last_int {nm : Str} {is : List Int} (h : is ≠ []) : ∃ j, atI (D.str nm :: is.map D.int) (-1) = some (.int j) := by
  refine ⟨is.getLast h, ?_⟩
  have e : D.str nm :: is.map D.int = (D.str nm :: is.dropLast.map D.int) ++ [.int (is.getLast h)] := by
    conv => lhs; rw [← List.dropLast_concat_getLast h]
    simp
  rw [e]; exact atI_last
theorem w_name (nm : Str) (is : List Int) : m_name_in [rowD nm is] = .ret .non := by
  unfold rowD
  cases hi : is with
  | nil =>
    have e1 : biV (.isi [.int]) [.tup [.str nm]] = some (.bl false) := rfl
    simp -implicitDefEqProofs [m_name_in, b_name_in, runR_eq, e1]
  | cons j r =>
    obtain ⟨k, hk⟩ := last_int (nm := nm) (is := j :: r) (by simp)
    have e1 : biV (.isi [.int]) [.tup (.str nm :: (j :: r).map D.int)] = some (.bl false) := rfl
    have e2 : biV (.isi [.str]) [.int k] = some (.bl false) := rfl
    have e3 : biV .len [.tup (.str nm :: (j :: r).map D.int)] = some (.int ((r.length : Int) + 2)) := by
      show some (D.int _) = _
      simp; omega
    have k1 : ¬ ((r.length : Int) + 2 = 1) := by omega
    generalize (j :: r).map D.int = W at *
    simp -implicitDefEqProofs [m_name_in, b_name_in, runR_eq, hk, e1, e2, e3, k1]
theorem w_name_int (w : Int) : m_name_in [.int w] = .ret .non := by
  have e1 : biV (.isi [.int]) [.int w] = some (.bl true) := rfl
  simp -implicitDefEqProofs [m_name_in, b_name_in, runR_eq, e1]
theorem w_word {p : Nat} {nm txt : Str} {fs : List Lt} {is : List Int} (f : Fm p nm txt fs) (h : Parts fs is) (P : D) : m_word_of [rowD nm is, P] = .ret (.int (cod p fs is)) := by
  have e1 : biV (.isi [.int]) [rowD nm is] = some (.bl false) := rfl
  have e2 := w_name nm is
  have e3 := w_coded f h
  generalize rowD nm is = R at *
  simp -implicitDefEqProofs [m_word_of, b_word_of, runR_eq, e1, e2, e3]
theorem w_word_int (w : Int) (P : D) : m_word_of [.int w, P] = .ret (.int w) := by
  have e1 : biV (.isi [.int]) [.int w] = some (.bl true) := rfl
  simp -implicitDefEqProofs [m_word_of, b_word_of, runR_eq, e1]
theorem rd_row {p : Nat} {nm txt : Str} {fs : List Lt} {is : List Int} (f : Fm p nm txt fs) (h : Parts fs is) : RdL (cod p fs is) (Txt.join " " (words nm fs is)) := by
  have al := al_words f h
  have n32 : ∀ x ∈ words nm fs is, 32 ∉ tl x := fun x m => al_no (al x m) (by omega)
  have no : ∀ c, (c < 48 ∨ (57 < c ∧ c < 97)) → c ≠ 32 → c ∉ tl (Txt.join " " (words nm fs is)) := fun c hc n m => by
    rcases mem_join m with m | ⟨x, hx, m⟩
    · rw [t32] at m; exact n (List.mem_singleton.mp m)
    · exact al_no (al x hx) hc m
  have nn : tl nm ≠ [] := by
    have key : ∀ y ∈ RW, tl y ≠ [] := by decide +kernel
    exact key nm f.me
  refine ⟨(words_ok f h).2, join_ne nn, no 10 (by omega) (by omega), no 58 (by omega) (by omega), rowD nm is, rfl, rfl, ?_, w_name nm is, w_word f h⟩
  rw [spl_sp (by unfold words; simp) n32]
  exact w_item f h
theorem rd_word {w : Int} (h : ok w) : RdL w ("word " ++ num w) := by
  have ez : "word " ++ num w = Txt.join " " ["word", num w] := by
    refine ext_tl ?_
    rw [tl_join, tl_app]
    have e : tl ("word " : Str) = tl ("word" : Str) ++ [32] := by decide +kernel
    rw [e, t32, List.append_assoc]; rfl
  have al : ∀ x ∈ [("word" : Str), num w], Al x := fun x m => by
    rcases List.mem_cons.mp m with rfl | m
    · intro c m
      have key : ∀ c ∈ tl ("word" : Str), 97 ≤ c := by decide +kernel
      exact .inl (key c m)
    · rw [List.mem_singleton.mp m]; exact al_num h.1
  have n32 : ∀ x ∈ [("word" : Str), num w], 32 ∉ tl x := fun x m => al_no (al x m) (by omega)
  have no : ∀ c, (c < 48 ∨ (57 < c ∧ c < 97)) → c ≠ 32 → c ∉ tl ("word " ++ num w) := fun c hc n m => by
    rw [ez] at m
    rcases mem_join m with m | ⟨x, hx, m⟩
    · rw [t32] at m; exact n (List.mem_singleton.mp m)
    · exact al_no (al x hx) hc m
  have l5 : (("word " : Str)).length = 5 := rfl
  refine ⟨?_, ?_, no 10 (by omega) (by omega), no 58 (by omega) (by omega), .int w, rfl, rfl, ?_, w_name_int w, w_word_int w⟩
  · have := (num_len h.1 h.2).2
    rw [app_len, l5]
    show 5 + (Str.ofString (toString w)).length ≤ 60
    omega
  · rw [ez]
    exact join_ne (by decide +kernel)
  · rw [ez, spl_sp (by simp) n32]
    exact w_item_word h
end K11

set_option Elab.async false
set_option linter.all false
set_option maxRecDepth 100000
namespace K11
open PySem L2 My
/-! names of places -/
theorem let_in {c : Nat} (h : 97 ≤ c ∧ c ≤ 122) : dIn (.str ⟨#[c]⟩) g_LETTERS = some true := by
  refine (dIn_sign c _).trans (congrArg some (decide_eq_true ?_))
  have e : tl ("abcdefghijklmnopqrstuvwxyz" : Str) = [97, 98, 99, 100, 101, 102, 103, 104, 105, 106, 107, 108, 109, 110, 111, 112, 113, 114, 115, 116, 117, 118, 119, 120, 121, 122] := by decide +kernel
  show c ∈ tl ("abcdefghijklmnopqrstuvwxyz" : Str)
  rw [e]; simp; omega
/-- a name of a place -/
structure Nm (z : Str) : Prop where
  l1 : 1 ≤ (tl z).length
  l8 : (tl z).length ≤ 8
  let_ : ∀ c ∈ tl z, 97 ≤ c ∧ c ≤ 122
  nrw : z ∉ RW
  nwd : z ≠ "word"
theorem let_loop {x0 : D} : ∀ (cs : List Nat), (∀ c ∈ cs, 97 ≤ c ∧ c ≤ 122) → ∀ y : D, ∃ y', forL (bindT (.s 1)) (exs t_is_place_name B_is_place_name_1) (cs.map fun c => D.str ⟨#[c]⟩) [x0, y] = .nx [x0, y']
  | [], _, y => ⟨y, rfl⟩
  | c :: cs, h, y => by
    obtain ⟨y', e⟩ := let_loop (x0 := x0) cs (fun d m => h d (List.mem_cons_of_mem _ m)) (.str ⟨#[c]⟩)
    refine ⟨y', ?_⟩
    rw [← e]
    have hc := let_in (h c List.mem_cons_self)
    exact forL_one (ρ1 := [x0, .str ⟨#[c]⟩]) rfl (by simp [B_is_place_name_1, hc])
theorem Nm.place {z : Str} (h : Nm z) : m_is_place_name [.str z] = .ret (.bl true) := by
  have l1 := h.l1
  have l8 := h.l8
  have ht := len_tl z
  have hm : z.length ≤ mx := by rw [emx]; omega
  have k1 : (1 : Int) ≤ (z.length : Int) := by omega
  have k2 : (z.length : Int) ≤ 8 := by omega
  have hk : tb_FORMS.lookup z = none := lk_none tb_FORMS h.nrw
  have hw := ne_eq h.nwd
  obtain ⟨y', hf⟩ := let_loop (x0 := .str z) _ h.let_ .non
  simp -implicitDefEqProofs [m_is_place_name, b_is_place_name, runR_eq, g_LONGEST, hm, k1, k2, hk, hw, hf]
/-! the law's own names -/
def bn (bs : List Int) (j : Nat) : Int := bs.getD j 0
def bAt (bs : List Int) (at_ : Int) (k j : Nat) : Int := (bn bs j + k * (if (j : Int) = at_ then 1 else 0)) % 26
def sgn (bs : List Int) (at_ : Int) (k j : Nat) : Str := ⟨#[97 + (bAt bs at_ k j).toNat]⟩
def cand (bs : List Int) (at_ : Int) (s k : Nat) : Str := Txt.join "" ((List.range s).map (sgn bs at_ k))
theorem joinL_nil : ∀ ps : List (List Nat), TL.joinL [] ps = ps.flatten
  | [] => rfl
  | [p] => by simp [TL.joinL]
  | p :: q :: r => by
    have := joinL_nil (q :: r)
    simp [TL.joinL] at this ⊢
    exact this
theorem cand_tl (bs : List Int) (at_ : Int) (s k : Nat) : tl (cand bs at_ s k) = (List.range s).map fun j => 97 + (bAt bs at_ k j).toNat := by
  unfold cand
  rw [tl_join]
  have e : tl ("" : Str) = [] := by decide +kernel
  rw [e, joinL_nil, List.map_map]
  generalize List.range s = R
  induction R with
  | nil => rfl
  | cons x r ih => rw [List.map_cons, List.flatten_cons, ih]; rfl
theorem bAt_lt (bs : List Int) (at_ : Int) (k j : Nat) : 0 ≤ bAt bs at_ k j ∧ bAt bs at_ k j < 26 := by unfold bAt; omega
/-- unlike ones -/
theorem cand_inj {bs : List Int} {at_ : Int} {s k k' : Nat} (h0 : 0 ≤ at_) (h1 : at_ < s) (hk : k < 24) (hk' : k' < 24) (e : cand bs at_ s k = cand bs at_ s k') : k = k' := by
  have e2 : tl (cand bs at_ s k) = tl (cand bs at_ s k') := by rw [e]
  rw [cand_tl, cand_tl] at e2
  have hj : at_.toNat < s := by omega
  have e3 := congrArg (fun l : List Nat => l[at_.toNat]?) e2
  simp only [List.getElem?_map, List.getElem?_range hj, Option.map_some, Option.some.injEq] at e3
  have a := bAt_lt bs at_ k at_.toNat
  have b := bAt_lt bs at_ k' at_.toNat
  have e4 : bAt bs at_ k at_.toNat = bAt bs at_ k' at_.toNat := by omega
  unfold bAt at e4
  have c : ((at_.toNat : Nat) : Int) = at_ := by omega
  rw [if_pos c] at e4
  omega
def good (z : Str) : Bool := decide (z ≠ "word") && decide (z ∉ RW)
theorem cand_nm {bs : List Int} {at_ : Int} {s k : Nat} (h1 : 1 ≤ s) (h2 : s ≤ 8) (g : good (cand bs at_ s k) = true) : Nm (cand bs at_ s k) := by
  obtain ⟨g1, g2⟩ := Bool.and_eq_true_iff.mp g
  refine ⟨by rw [cand_tl]; simpa using h1, by rw [cand_tl]; simpa using h2, fun c m => ?_, of_decide_eq_true g2, of_decide_eq_true g1⟩
  rw [cand_tl] at m
  obtain ⟨j, _, rfl⟩ := List.mem_map.mp m
  have := bAt_lt bs at_ k j
  omega
/-- unlike ones out of a row are no more than it -/
theorem nodup_le {α : Type} [DecidableEq α] : ∀ {l m : List α}, l.Nodup → (∀ x ∈ l, x ∈ m) → l.length ≤ m.length
  | [], m, _, _ => Nat.zero_le _
  | x :: l, m, n, h => by
    obtain ⟨nx, n⟩ := List.nodup_cons.mp n
    have hx := h x List.mem_cons_self
    have := nodup_le (m := m.erase x) n fun y hy => (List.mem_erase_of_ne (fun e => nx (by rw [← e]; exact hy))).mpr (h y (List.mem_cons_of_mem _ hy))
    rw [List.length_erase_of_mem hx] at this
    have : 0 < m.length := List.length_pos_of_mem hx
    simp; omega
def names (bs : List Int) (at_ : Int) (s n : Nat) : List Str := ((List.range n).map (cand bs at_ s)).filter good
theorem cands_nodup {bs : List Int} {at_ : Int} {s n : Nat} (h0 : 0 ≤ at_) (h1 : at_ < s) (hn : n ≤ 24) : ((List.range n).map (cand bs at_ s)).Nodup := by
  rw [List.nodup_iff_pairwise_ne, List.pairwise_map]
  refine List.Pairwise.imp_of_mem ?_ List.nodup_range
  intro a b ha hb hab e
  exact hab (cand_inj h0 h1 (by have := List.mem_range.mp ha; omega) (by have := List.mem_range.mp hb; omega) e)
theorem names_nodup {bs : List Int} {at_ : Int} {s n : Nat} (h0 : 0 ≤ at_) (h1 : at_ < s) (hn : n ≤ 24) : (names bs at_ s n).Nodup := (cands_nodup h0 h1 hn).filter _
theorem names_nm {bs : List Int} {at_ : Int} {s n : Nat} (h1 : 1 ≤ s) (h2 : s ≤ 8) : ∀ z ∈ names bs at_ s n, Nm z := fun z m => by
  obtain ⟨a, b⟩ := List.mem_filter.mp m
  obtain ⟨k, _, rfl⟩ := List.mem_map.mp a
  exact cand_nm h1 h2 b
def badL (n : Nat) : List Str := (("word" : Str) :: RW).filter fun z => (tl z).length == n
theorem bad_len : ∀ s : Nat, s ≤ 8 → (badL s).length ≤ 9 := by decide +kernel
theorem names_len {bs : List Int} {at_ : Int} {s : Nat} (h0 : 0 ≤ at_) (h1 : at_ < s) (h2 : s ≤ 8) : 12 ≤ (names bs at_ s 24).length := by
  have nd := cands_nodup (bs := bs) h0 h1 (Nat.le_refl 24)
  have hb : (((List.range 24).map (cand bs at_ s)).filter fun z => !good z).length ≤ (badL s).length := by
    refine nodup_le (nd.filter _) fun z m => ?_
    obtain ⟨a, b⟩ := List.mem_filter.mp m
    obtain ⟨k, _, rfl⟩ := List.mem_map.mp a
    refine List.mem_filter.mpr ⟨?_, by rw [cand_tl]; simp⟩
    unfold good at b
    by_cases w : cand bs at_ s k = "word"
    · rw [w]; exact List.mem_cons_self
    · refine List.mem_cons_of_mem _ ?_
      simpa [w] using b
  have := bad_len s h2
  have e : ∀ l : List Str, (l.filter good).length + (l.filter fun z => !good z).length = l.length := fun l => by
    induction l with
    | nil => rfl
    | cons x r ih => cases g : good x <;> simp [List.filter_cons, g] <;> omega
  have e24 := e ((List.range 24).map (cand bs at_ s))
  rw [List.length_map, List.length_range] at e24
  unfold names
  omega
end K11

set_option Elab.async false
set_option linter.all false
set_option maxRecDepth 100000
namespace K11
open PySem L2 My
def ABC : Str := "abcdefghijklmnopqrstuvwxyz"
theorem abc_at {i : Int} (h0 : 0 ≤ i) (h1 : i < 26) : dIdx (.str ABC) (.int i) = some (.str ⟨#[97 + i.toNat]⟩) := by
  have e : tl ABC = [97, 98, 99, 100, 101, 102, 103, 104, 105, 106, 107, 108, 109, 110, 111, 112, 113, 114, 115, 116, 117, 118, 119, 120, 121, 122] := by decide +kernel
  refine idx_sign (by rw [emx]; decide +kernel) ?_
  rw [e]
  obtain ⟨n, rfl⟩ : ∃ n : Nat, i = n := ⟨i.toNat, by omega⟩
  have key : ∀ n : Nat, n < 26 → atI [97, 98, 99, 100, 101, 102, 103, 104, 105, 106, 107, 108, 109, 110, 111, 112, 113, 114, 115, 116, 117, 118, 119, 120, 121, 122] (n : Int) = some (97 + n) := by decide +kernel
  exact key n (by omega)
theorem ups_range : ∀ (lo : Int) (n : Nat), ups lo n = (List.range n).map fun j : Nat => D.int (lo + j)
  | lo, 0 => rfl
  | lo, n + 1 => by
    show D.int lo :: ups (lo + 1) n = _
    rw [ups_range (lo + 1) n, List.range_succ_eq_map, List.map_cons, List.map_map]
    refine congr (congrArg _ (by simp)) (List.map_congr_left fun j _ => ?_)
    show D.int (lo + 1 + j) = D.int (lo + ((j + 1 : Nat) : Int))
    congr 1; omega
theorem signs_comp {x0 x1 x3 x6 x9 x11 x12 x13 x8 : D} {bs : List Int} {at_ : Int} {s k : Nat} (hs : bs.length = s) (h8 : s ≤ 8) :
    compR t__law_place_names (.idx (.var 2) (.bin .mod (.bin .add (.idx (.var 7) (.var 8)) (.bin .mul (.var 10) (.bi .int [(.cmp .eq (.var 8) (.var 5))]))) (.cst (.int 26)))) (.s 8) none
      [x0, x1, .str ABC, x3, .int s, .int at_, x6, .lst (bs.map .int), x8, x9, .int k, x11, x12, x13] (ups 0 s) = some (((List.range s).map (sgn bs at_ k)).map .str) := by
  have e : ups 0 s = (List.range s).map fun j : Nat => D.int j := by
    have := ups_range 0 s
    simpa using this
  rw [e, List.map_map]
  refine compR_all (fun j : Nat => D.int j) (D.str ∘ sgn bs at_ k) fun j m => ?_
  have hj := List.mem_range.mp m
  refine ⟨_, rfl, rfl, ?_⟩
  have e1 : atI (bs.map D.int) (j : Int) = some (.int (bn bs j)) := atI_int (ws := bs) (i := (j : Int)) (by omega) (by omega)
  have d26 : divOk 26 := by decide
  have a := bAt_lt bs at_ k j
  have e2 := abc_at a.1 a.2
  have hmul : mulOk (k : Int) (if (j : Int) = at_ then 1 else 0) := .inr (.inl (by split <;> omega))
  unfold sgn
  unfold bAt at *
  by_cases c : (j : Int) = at_
  · simp only [if_pos c] at *
    subst c
    simp only [Int.mul_one] at e2
    simp -implicitDefEqProofs [e1, e2, d26, hmul]
  · simp only [if_neg c] at *
    simp only [Int.mul_zero, Int.add_zero] at e2
    simp -implicitDefEqProofs [e1, e2, c, d26, hmul]
/-- one of the twenty-four -/
theorem cand_step {x0 x1 x3 x6 x8 x11 x12 x13 : D} {bs : List Int} {at_ : Int} {s k : Nat} {ns : List Str} (hs : bs.length = s) (h1 : 1 ≤ s) (h8 : s ≤ 8) (ha : 0 ≤ at_) (hn : ns.length < mx) :
    ∃ a b c, exs t__law_place_names B__law_place_names_2 [x0, x1, .str ABC, x3, .int s, .int at_, x6, .lst (bs.map .int), x8, .lst (ns.map .str), .int k, x11, x12, x13] =
      .nx [x0, x1, .str ABC, x3, .int s, .int at_, x6, .lst (bs.map .int), x8, .lst ((if good (cand bs at_ s k) then ns ++ [cand bs at_ s k] else ns).map .str), .int k, a, b, c] := by
  have e1 := fun x8 x9 x11 x12 x13 => signs_comp (x0 := x0) (x1 := x1) (x3 := x3) (x6 := x6) (x9 := x9) (x11 := x11) (x12 := x12) (x13 := x13) (x8 := x8) (at_ := at_) (k := k) hs h8
  have e2 : joinV "" (.lst (((List.range s).map (sgn bs at_ k)).map .str)) = some (.str (cand bs at_ s k)) := by
    refine join_of ?_
    have : (((List.range s).map (sgn bs at_ k)).map (·.length)).sum = s := by
      rw [List.map_map]
      have : (List.length_map (as := List.range s) (f := fun _ : Nat => 1)) = List.length_map _ := rfl
      have key : ∀ l : List Nat, (l.map ((fun z : Str => z.length) ∘ sgn bs at_ k)).sum = l.length := fun l => by
        induction l with
        | nil => rfl
        | cons x r ih => rw [List.map_cons, List.sum_cons, ih]; show 1 + r.length = r.length + 1; omega
      rw [key, List.length_range]
    rw [this, List.length_map, List.length_range]
    have : (("" : Str)).length = 0 := rfl
    rw [this]; omega
  have iR : inR (s : Int) := ⟨by omega, by omega⟩
  have sl : s ≤ mx := by rw [emx]; omega
  have q1 : dCmp .ne (.str (cand bs at_ s k)) (.str "word") = some (decide (cand bs at_ s k ≠ "word")) := by
    show some (!decide (cand bs at_ s k = "word")) = _
    by_cases c : cand bs at_ s k = "word" <;> simp [c]
  have q2 : dIn (.str (cand bs at_ s k)) (.lst (RW.map .str)) = some (decide (cand bs at_ s k ∈ RW)) := by
    have n1 : ndp 60 (.str (cand bs at_ s k)) = true := by
      show (cand bs at_ s k).cps.all (· < 0x110000) = true
      rw [Array.all_eq_true']
      intro c m
      have m : c ∈ tl (cand bs at_ s k) := by simpa using m
      rw [cand_tl] at m
      obtain ⟨j, _, rfl⟩ := List.mem_map.mp m
      have := bAt_lt bs at_ k j
      simp; omega
    have n2 : ndpL 60 (RW.map D.str) = true := by decide +kernel
    show (if (ndp 60 (.str (cand bs at_ s k)) && ndpL 60 (RW.map D.str)) = true then some ((RW.map D.str).any fun y => deq y (.str (cand bs at_ s k))) else none) = _
    rw [n1, n2]
    refine congrArg some ?_
    rw [List.any_map]
    generalize cand bs at_ s k = z
    generalize RW = R
    induction R with
    | nil => rfl
    | cons x r ih =>
      rw [List.any_cons, ih]
      show (decide (x = z) || _) = _
      by_cases c : x = z
      · subst c; simp
      · have c' : ¬ z = x := fun e => c e.symm
        simp [c, c']
  have q3 : ∀ a b, compR t__law_place_names (.idx (.var 13) (.cst (.int 0))) (.s 13) none [x0, x1, .str ABC, x3, .int s, .int at_, x6, .lst (bs.map .int), x8, .lst (ns.map .str), .int k, a, b, x13] FL = some (RW.map .str) := fun a b => rfl
  have hg : good (cand bs at_ s k) = (decide (cand bs at_ s k ≠ "word") && !decide (cand bs at_ s k ∈ RW)) := by
    unfold good
    by_cases c : cand bs at_ s k ∈ RW <;> simp [c]
  have hn' : (ns.map D.str).length < mx := by rw [List.length_map]; exact hn
  have fl : FL.length ≤ mx := by decide
  have wf := w_forms
  rw [hg]
  generalize hz : cand bs at_ s k = z at *
  generalize hS : ((List.range s).map (sgn bs at_ k)).map D.str = S at *
  generalize FL = F at *
  generalize RW.map D.str = R at *
  clear hz hg
  by_cases c1 : z = "word"
  · have q1 : dCmp .ne (.str z) (.str "word") = some false := by rw [q1]; simp [c1]
    have hg : (decide (z ≠ "word") && !decide (z ∈ RW)) = false := by simp [c1]
    rw [hg]
    exact ⟨.lst S, .str z, x13, by simp -implicitDefEqProofs [B__law_place_names_2, iR, sl, e1, e2, q1]⟩
  · have q1 : dCmp .ne (.str z) (.str "word") = some true := by rw [q1]; simp [c1]
    by_cases c2 : z ∈ RW
    · have hg : (decide (z ≠ "word") && !decide (z ∈ RW)) = false := by simp [c2]
      have q2 : dIn (.str z) (.lst R) = some true := by rw [q2]; simp [c2]
      rw [hg]
      exact ⟨.lst S, .str z, x13, by simp -implicitDefEqProofs [B__law_place_names_2, iR, sl, e1, e2, q1, q2, q3, wf, fl]⟩
    · have hg : (decide (z ≠ "word") && !decide (z ∈ RW)) = true := by simp [c2, c1]
      have q2 : dIn (.str z) (.lst R) = some false := by rw [q2]; simp [c2]
      rw [hg]
      exact ⟨.lst S, .str z, x13, by simp -implicitDefEqProofs [B__law_place_names_2, iR, sl, e1, e2, q1, q2, q3, wf, fl, hn]⟩
theorem base_step {c g d j at_ sz x9 x10 x11 x12 x13 : D} {gi di : Int} {bs : List Int} {n : Nat} {f : Bool} (hn : n < 8) (lw : bs.length < mx) :
    ∃ (b g' : Int), exs t__law_place_names B__law_place_names_1 [c, .bl f, .str ABC, .int gi, sz, at_, .int di, .lst (bs.map .int), .int n, x9, x10, x11, x12, x13] =
      .nx [c, .bl f, .str ABC, .int g', sz, at_, .int di, .lst ((bs ++ [b]).map .int), .int n, x9, x10, x11, x12, x13] := by
  have d26 : divOk 26 := by decide
  have d3 : divOk ((n : Int) + 3) := divOk_of (by omega) (by omega)
  have lw' : (bs.map D.int).length < mx := by rw [List.length_map]; exact lw
  by_cases h : f = true ∧ 26 ≤ gi
  · obtain ⟨rfl, h⟩ := h
    exact ⟨gi % 26, gi / 26, by simp -implicitDefEqProofs [B__law_place_names_1, h, d26, lw]⟩
  · refine ⟨di / ((n : Int) + 3) % 26, gi, ?_⟩
    cases f with
    | false => simp -implicitDefEqProofs [B__law_place_names_1, d26, d3, lw]
    | true =>
      have h : ¬ 26 ≤ gi := fun z => h ⟨rfl, z⟩
      simp -implicitDefEqProofs [B__law_place_names_1, h, d26, d3, lw]
/-- the names that the law draws -/
theorem w_place_names (c : Int) (f : Bool) : ∃ ns : List Str, ns.Nodup ∧ (∀ z ∈ ns, Nm z) ∧ 12 ≤ ns.length ∧ m__law_place_names [.int c, .bl f] = .ret (.lst (ns.map .str)) := by
  obtain ⟨s, hs1, hs8, hs⟩ : ∃ s : Nat, 1 ≤ s ∧ s ≤ 8 ∧ 1 + c / 2 % 8 = (s : Int) := ⟨(1 + c / 2 % 8).toNat, by omega, by omega, by omega⟩
  have hat0 : 0 ≤ c / 2 / 8 % (s : Int) := Int.emod_nonneg _ (by omega)
  have hat1 : c / 2 / 8 % (s : Int) < s := Int.emod_lt_of_pos _ (by omega)
  generalize hat : c / 2 / 8 % (s : Int) = at_ at *
  obtain ⟨ρ1, e1, bs, g1, j1, hb, rfl⟩ := forL_ups (i := 8) (lo := 0) (body := exs t__law_place_names B__law_place_names_1) (n := s) (ρ := [.int c, .bl f, .str ABC, .int (c / 2 / 64), .int s, .int at_, .int ((c % 1000003 + 17) * 48271), .lst [], .non, .non, .non, .non, .non, .non])
    (fun n ρ => ∃ (bs : List Int) (g : Int) (j : D), bs.length = n ∧ ρ = [.int c, .bl f, .str ABC, .int g, .int s, .int at_, .int ((c % 1000003 + 17) * 48271), .lst (bs.map .int), j, .non, .non, .non, .non, .non]) (fun k hk ρ hI => by
      obtain ⟨bs, g, j, hb, rfl⟩ := hI
      obtain ⟨b, g', e⟩ := base_step (c := .int c) (g := .non) (d := .non) (j := .non) (at_ := .int at_) (sz := .int s) (x9 := .non) (x10 := .non) (x11 := .non) (x12 := .non) (x13 := .non) (gi := g) (di := (c % 1000003 + 17) * 48271) (bs := bs) (n := k) (f := f) (by omega) (by rw [emx]; omega)
      refine ⟨_, .inl ?_, bs ++ [b], g', .int k, by simp [hb], rfl⟩
      rw [← e]
      simp) ⟨[], _, _, rfl, rfl⟩
  obtain ⟨ρ2, e2, x8, k2, x11, x12, x13, rfl⟩ := forL_ups (i := 10) (lo := 0) (body := exs t__law_place_names B__law_place_names_2) (n := 24) (ρ := [.int c, .bl f, .str ABC, .int g1, .int s, .int at_, .int ((c % 1000003 + 17) * 48271), .lst (bs.map .int), j1, .lst [], .non, .non, .non, .non])
    (fun n ρ => ∃ (j k x11 x12 x13 : D), ρ = [.int c, .bl f, .str ABC, .int g1, .int s, .int at_, .int ((c % 1000003 + 17) * 48271), .lst (bs.map .int), j, .lst ((names bs at_ s n).map .str), k, x11, x12, x13]) (fun k hk ρ hI => by
      obtain ⟨j, k', x11, x12, x13, rfl⟩ := hI
      have hl : (names bs at_ s k).length < mx := by
        have := List.length_filter_le good ((List.range k).map (cand bs at_ s))
        rw [List.length_map, List.length_range] at this
        unfold names
        rw [emx]; omega
      obtain ⟨a, b, d, e⟩ := cand_step (x0 := .int c) (x1 := .bl f) (x3 := .int g1) (x6 := .int ((c % 1000003 + 17) * 48271)) (x8 := j) (x11 := x11) (x12 := x12) (x13 := x13) (at_ := at_) (k := k) hb hs1 hs8 hat0 hl
      have en : names bs at_ s (k + 1) = if good (cand bs at_ s k) then names bs at_ s k ++ [cand bs at_ s k] else names bs at_ s k := by
        unfold names
        rw [List.range_succ, List.map_append, List.filter_append]
        by_cases g : good (cand bs at_ s k) = true <;> simp [g, List.filter_cons]
      refine ⟨_, .inl ?_, j, .int k, a, b, d, by rw [en]⟩
      rw [← e]
      simp) ⟨j1, .non, .non, .non, .non, rfl⟩
  refine ⟨names bs at_ s 24, names_nodup hat0 hat1 (Nat.le_refl _), names_nm hs1 hs8, names_len hat0 hat1 hs8, ?_⟩
  have d2 : divOk 2 := by decide
  have d8 : divOk 8 := by decide
  have d64 : divOk 64 := by decide
  have dm : divOk 1000003 := by decide
  have ds : divOk (s : Int) := divOk_of (by omega) (by omega)
  have iR : inR (s : Int) := ⟨by omega, by omega⟩
  have sl : s ≤ mx := by rw [emx]; omega
  have iR24 : inR 24 := by decide
  have hs0 : 0 < s := hs1
  have hmul : mulOk (c % 1000003 + 17) 48271 := .inr (.inl (by omega))
  have abc : (Str.ofString "abcdefghijklmnopqrstuvwxyz") = ABC := rfl
  generalize (names bs at_ s 24).map D.str = NS at *
  simp -implicitDefEqProofs [m__law_place_names, b__law_place_names, runR_eq, d2, d8, d64, dm, hs, hs0, ds, hat, hmul, iR, sl, abc, e1, e2, iR24]
end K11

set_option Elab.async false
set_option linter.all false
set_option maxRecDepth 100000
namespace K11
open PySem L2 My
/-! lines with names in the stead of numbers -/
def Nam (nm : Str) : Prop := nm = "put" ∨ nm = "jump" ∨ nm = "if"
instance {nm : Str} : Decidable (Nam nm) := inferInstanceAs (Decidable (_ ∨ _ ∨ _))
theorem Lt.s_inj {l m : Lt} (h : D.str l.s = D.str m.s) : l = m := by
  have h : l.s = m.s := by injection h
  revert h
  cases l <;> cases m <;> first | (intro _; rfl) | (intro h; exact absurd h (by decide))
theorem Fm.nam {p : Nat} {nm txt : Str} {fs : List Lt} (f : Fm p nm txt fs) (h : Nam nm) : ∃ gs, fs = gs ++ [Lt.n] ∧ gs.length ≤ 1 ∧ tb_FORMS.lookup nm = some (.inr txt) := by
  have key : ∀ {ls : List Lt}, fs.map (fun l => D.str l.s) = ls.map (fun l => D.str l.s) → fs = ls := by
    intro ls e
    have : ∀ {a b : List Lt}, a.map (fun l => D.str l.s) = b.map (fun l => D.str l.s) → a = b := by
      intro a
      induction a with
      | nil => intro b e; cases b with
        | nil => rfl
        | cons _ _ => cases e
      | cons x a ih => intro b e; cases b with
        | nil => cases e
        | cons y b =>
          rw [List.map_cons, List.map_cons] at e
          injection e with e1 e2
          rw [Lt.s_inj e1, ih e2]
    exact this e
  have fo := f.fo
  have ch := f.ch
  rcases h with rfl | rfl | rfl
  · have e : (some (.inr "an") : Option Key) = some (.inr txt) := fo
    injection e with e; injection e with e
    subst e
    exact ⟨[.a], key ch.symm, by decide, fo⟩
  · have e : (some (.inr "n") : Option Key) = some (.inr txt) := fo
    injection e with e; injection e with e
    subst e
    exact ⟨[], key ch.symm, by decide, fo⟩
  · have e : (some (.inr "an") : Option Key) = some (.inr txt) := fo
    injection e with e; injection e with e
    subst e
    exact ⟨[.a], key ch.symm, by decide, fo⟩
theorem or3 (A B C z : Str) : (decide (A = z) || (decide (B = z) || (decide (C = z) || false))) = true ↔ (z = A ∨ z = B ∨ z = C) := by
  rw [Bool.or_eq_true, Bool.or_eq_true, Bool.or_false, decide_eq_true_iff, decide_eq_true_iff, decide_eq_true_iff]
  exact or_congr ⟨Eq.symm, Eq.symm⟩ (or_congr ⟨Eq.symm, Eq.symm⟩ ⟨Eq.symm, Eq.symm⟩)
theorem nam_dIn {p : Nat} {nm txt : Str} {fs : List Lt} (f : Fm p nm txt fs) : dIn (.str nm) (.tup [.str "put", .str "jump", .str "if"]) = some (decide (Nam nm)) := by
  have h1 : ndp 60 (.str nm) = true := f.ok
  have h2 : ndpL 60 [.str "put", .str "jump", .str "if"] = true := by decide +kernel
  refine (if_pos (by rw [h1, h2]; rfl)).trans (congrArg some ?_)
  have k := or3 "put" "jump" "if" nm
  by_cases h : Nam nm
  · exact (k.mpr h).trans (decide_eq_true h).symm
  · exact (Bool.eq_false_iff.mpr fun z => h (k.mp z)).trans (decide_eq_false h).symm
def wordsN (nm : Str) (gs : List Lt) (js : List Int) (n : Str) : List Str := nm :: (lw gs js ++ [n])
def rowN (nm : Str) (js : List Int) (n : Str) : D := .tup (.str nm :: (js.map .int ++ [D.str n]))
theorem Nm.ok {z : Str} (h : Nm z) : z.cps.all (· < 0x110000) = true := by
  rw [Array.all_eq_true']
  intro c m
  have := h.let_ c (by simpa using m)
  simp; omega
theorem w_partN {nm n : Str} (hn : Nam nm) (h : Nm n) : m_part_in [.str nm, .str "n", .str n] = .ret (.str n) := by
  have q : dCmp .ne (.str "n") (.str "n") = some false := by decide +kernel
  have e1 := h.place
  have hb : dIn (.str nm) g_NAMING = some true := by
    rcases hn with rfl | rfl | rfl <;> decide +kernel
  simp -implicitDefEqProofs [m_part_in, b_part_in, runR_eq, q, hb, e1]
theorem part_compN {p : Nat} {nm txt n : Str} {fs0 : List Lt} (f : Fm p nm txt fs0) (hn : Nam nm) (hN : Nm n) {W : List D} {x1 x2 : D} (hw : atI W 0 = some (.str nm)) {gs : List Lt} {js : List Int} (h : Parts gs js) :
    compR t_item_in (.call 2 [(.idx (.var 0) (.cst (.int 0))), (.var 3), (.var 4)]) (.t [(.s 3), (.s 4)]) none [.lst W, x1, x2, .non, .non] (zipD ((gs ++ [Lt.n]).map fun l => D.str l.s) ((lw gs js ++ [n]).map .str)) = some (js.map .int ++ [D.str n]) := by
  induction h with
  | nil =>
    have e := w_partN hn hN
    have ez : zipD ((([] : List Lt) ++ [Lt.n]).map fun l => D.str l.s) ((lw [] [] ++ [n]).map .str) = [.tup [.str "n", .str n]] := rfl
    rw [ez, compR_yes (ρ1 := [.lst W, x1, x2, .str "n", .str n]) (y := .str n) rfl rfl (by simp [hw, e])]; rfl
  | @cons l i fs is h0 h1 _ ih =>
    have e := w_part f h0 h1
    have ez : zipD ((l :: fs ++ [Lt.n]).map fun l => D.str l.s) ((lw (l :: fs) (i :: is) ++ [n]).map .str) = .tup [.str l.s, .str (pt l i)] :: zipD ((fs ++ [Lt.n]).map fun l => D.str l.s) ((lw fs is ++ [n]).map .str) := rfl
    rw [ez, compR_yes (ρ1 := [.lst W, x1, x2, .str l.s, .str (pt l i)]) (y := .int i) rfl rfl (by simp [hw, e]), ih]; rfl
theorem non_intsN {n : Str} (hN : Nm n) (is : List Int) : dIn .non (.lst (is.map D.int ++ [D.str n])) = some false := by
  have h1 : ∀ is : List Int, ndpL 60 (is.map D.int ++ [D.str n]) = true := fun is => by
    induction is with
    | nil =>
      show (ndp 60 (.str n) && true) = true
      rw [show ndp 60 (.str n) = true from hN.ok]; rfl
    | cons i is ih => show (ndp 60 (.int i) && ndpL 60 (is.map D.int ++ [D.str n])) = true; rw [ih]; rfl
  have h2 : ∀ is : List Int, ((is.map D.int ++ [D.str n]).any fun y => deq y .non) = false := fun is => by
    induction is with
    | nil => rfl
    | cons i is ih => rw [List.map_cons, List.cons_append, List.any_cons, ih]; rfl
  show (if (ndp 60 .non && ndpL 60 (is.map D.int ++ [D.str n])) = true then some ((is.map D.int ++ [D.str n]).any fun y => deq y .non) else none) = _
  rw [h1, h2]; rfl
theorem zipD_len : ∀ (a b : List D), (zipD a b).length ≤ a.length := fun a => by
  induction a with
  | nil => intro b; cases b <;> exact Nat.le_refl _
  | cons x a ih => intro b; cases b with
    | nil => exact Nat.zero_le _
    | cons y b => show (zipD a b).length + 1 ≤ a.length + 1; have := ih b; omega
theorem w_itemN {p : Nat} {nm txt n : Str} {gs : List Lt} {js : List Int} (f : Fm p nm txt (gs ++ [Lt.n])) (hn : Nam nm) (hN : Nm n) (h : Parts gs js) : m_item_in [.lst ((wordsN nm gs js n).map .str)] = .ret (rowN nm js n) := by
  have hw : atI ((wordsN nm gs js n).map D.str) 0 = some (.str nm) := at0
  have hl : (wordsN nm gs js n).length = 1 + (gs ++ [Lt.n]).length := by show (lw gs js ++ [n]).length + 1 = _; rw [List.length_append, lw_len h]; simp; omega
  have hc : cut ((wordsN nm gs js n).map D.str) (some 1) none = (lw gs js ++ [n]).map D.str := cut1
  have e := part_compN f hn hN (x1 := .non) (x2 := .non) hw h
  have nw : dCmp .eq (.str nm) (.str "word") = some false := ne_eq fun e => by
    have : ("word" : Str) ∉ RW := by decide +kernel
    exact this (e ▸ f.me)
  have nn := non_intsN hN js
  have l3 := f.l3
  have z1 : (zipD ((gs ++ [Lt.n]).map fun l => D.str l.s) ((lw gs js ++ [n]).map D.str)).length ≤ mx := by
    have := zipD_len ((gs ++ [Lt.n]).map fun l => D.str l.s) ((lw gs js ++ [n]).map D.str)
    rw [List.length_map] at this
    rw [emx]; omega
  have li := h.len
  have lm : 1 + (js.map D.int ++ [D.str n]).length ≤ mx := by
    rw [emx, List.length_append, List.length_map]
    rw [List.length_append] at l3
    simp at l3 ⊢; omega
  have lf : (gs ++ [Lt.n]).length ≤ mx := by rw [emx]; omega
  have hlw : ((wordsN nm gs js n).map D.str).length = 1 + (gs ++ [Lt.n]).length := by rw [List.length_map, hl]
  have ht := f.tl
  have hfm := f.lm
  have ch := f.ch
  have hle : ((1 + (gs ++ [Lt.n]).length : Nat) : Int) = 1 + ((gs ++ [Lt.n]).length : Int) := by omega
  have fo := f.fo
  unfold rowN
  generalize (wordsN nm gs js n).map D.str = W at *
  generalize (lw gs js ++ [n]).map D.str = Y at *
  generalize js.map D.int ++ [D.str n] = J at *
  clear f l3
  generalize gs ++ [Lt.n] = fs at *
  simp -implicitDefEqProofs [m_item_in, b_item_in, runR_eq, hw, nw, fo, hlw, ht, lf, hle, ch, hc, z1, e, nn, lm]
theorem w_nameN {nm n : Str} {js : List Int} : m_name_in [rowN nm js n] = .ret (.str n) := by
  unfold rowN
  have e0 : D.str nm :: (js.map D.int ++ [D.str n]) = (D.str nm :: js.map D.int) ++ [D.str n] := rfl
  have e1 : biV (.isi [.int]) [.tup (.str nm :: (js.map D.int ++ [D.str n]))] = some (.bl false) := rfl
  have e2 : biV (.isi [.str]) [.str n] = some (.bl true) := rfl
  have e3 : biV .len [.tup (.str nm :: (js.map D.int ++ [D.str n]))] = some (.int ((js.length : Int) + 2)) := by
    show some (D.int _) = _
    simp; omega
  have k1 : ¬ ((js.length : Int) + 2 = 1) := by omega
  have hk : atI (D.str nm :: (js.map D.int ++ [D.str n])) (-1) = some (.str n) := by rw [e0]; exact atI_last
  generalize D.str nm :: (js.map D.int ++ [D.str n]) = W at *
  simp -implicitDefEqProofs [m_name_in, b_name_in, runR_eq, hk, e1, e2, e3, k1]
theorem cut_last {α : Type} (xs : List α) : cut xs none (some (-1)) = xs.dropLast := by
  unfold cut HT.sIx
  dsimp only
  rw [if_pos (by decide), List.drop_zero, List.dropLast_eq_take]
  congr 1
  omega
theorem w_wordN {p : Nat} {nm txt n : Str} {gs : List Lt} {js : List Int} {a : Int} {P : List (Key × D)} (f : Fm p nm txt (gs ++ [Lt.n])) (h : Parts (gs ++ [Lt.n]) (js ++ [a])) (hP : getK (.inr n) P = some (.int a)) : m_word_of [rowN nm js n, .dct P] = .ret (.int (cod p (gs ++ [Lt.n]) (js ++ [a]))) := by
  have e1 : biV (.isi [.int]) [rowN nm js n] = some (.bl false) := rfl
  have e2 := w_nameN (nm := nm) (n := n) (js := js)
  have e3 := w_coded f h
  have hx : dIdx (rowN nm js n) (.int (-1)) = some (.str n) := by
    show atI ((D.str nm :: js.map D.int) ++ [D.str n]) (-1) = _
    exact atI_last
  have hs : slcV (rowN nm js n) none (some (-1)) = some (.tup (.str nm :: js.map D.int)) := by
    show some (D.tup (cut ((D.str nm :: js.map D.int) ++ [D.str n]) none (some (-1)))) = _
    rw [cut_last, List.dropLast_concat]
  have hd : dBin .add (.tup (.str nm :: js.map D.int)) (.tup [.int a]) = some (rowD nm (js ++ [a])) := by
    have l3 := f.l3
    have hl := h.len
    simp at hl l3
    have : (D.str nm :: js.map D.int).length + [D.int a].length ≤ mx := by
      rw [emx]; simp; omega
    refine (if_pos this).trans ?_
    unfold rowD
    rw [List.map_append]; rfl
  have hg : dIdx (.dct P) (.str n) = some (.int a) := hP
  have q : dIs (.str n) .non = some false := rfl
  generalize rowN nm js n = R at *
  generalize rowD nm (js ++ [a]) = R2 at *
  generalize D.str nm :: js.map D.int = W at *
  simp -implicitDefEqProofs [m_word_of, b_word_of, runR_eq, e1, e2, e3, hx, hs, hd, hg]
end K11

set_option Elab.async false
set_option linter.all false
set_option maxRecDepth 100000
namespace K11
open PySem L2 My
def PK (P : List (Key × D)) : Prop := ∀ n, (getK (.inr n) P).isSome = true → Nm n
theorem PK.pt {P : List (Key × D)} (h : PK P) (l : Lt) {i : Int} (h0 : 0 ≤ i) : getK (.inr (pt l i)) P = none := by
  cases e : getK (.inr (K11.pt l i)) P with
  | none => rfl
  | some v =>
    have n := h (K11.pt l i) (by rw [e]; rfl)
    exfalso
    cases ec : tl (num i) with
    | nil => exact num_ne h0 ec
    | cons c r =>
      have m : c ∈ tl (num i) := by rw [ec]; exact List.mem_cons_self
      have a := num_dig h0 c m
      have b := n.let_ c (by show c ∈ tl (pre l ++ num i); rw [tl_app]; exact List.mem_append_right _ m)
      omega
theorem cut_sub {α : Type} {xs : List α} {lo hi : Option Int} {c : α} (h : c ∈ cut xs lo hi) : c ∈ xs := List.mem_of_mem_drop (List.mem_of_mem_take h)
theorem slc_str {z : Str} (hl : z.length ≤ mx) (lo hi : Option Int) : slcV (.str z) lo hi = some (.str ⟨(cut (tl z) lo hi).toArray⟩) := by
  show (if z.length ≤ mx then some (D.str ⟨(cut (tl z) lo hi).toArray⟩) else none) = _
  rw [if_pos hl]
theorem no_colon {z : Str} (h : 58 ∉ tl z) (lo hi : Option Int) : dCmp .eq (.str ⟨(cut (tl z) lo hi).toArray⟩) (.str ":") = some false := by
  refine ne_eq fun e => h (cut_sub (lo := lo) (hi := hi) ?_)
  have e2 : cut (tl z) lo hi = tl (":" : Str) := congrArg tl e
  rw [e2]; decide +kernel
theorem splt_of {z x : Str} (hx : (x.length == 0) = false) (hl : z.length + 2 ≤ mx) : spltV x (.str z) = some (.lst ((Txt.split z x).map .str)) := by
  show (if (x.length == 0) = false ∧ z.length + 2 ≤ mx then some (D.lst ((Txt.split z x).map .str)) else none) = _
  rw [if_pos ⟨hx, hl⟩]
theorem dc0 : Option.map (fun r => D.dct (mergeD [] r)) (mkDct [] []) = some (.dct []) := rfl
/-- a told line -/
structure LineT (P : List (Key × D)) (w : Int) (z : Str) : Prop where
  len : z.length ≤ 60
  ne : tl z ≠ []
  f10 : 10 ∉ tl z
  f58 : 58 ∉ tl z
  it : ∃ it : D, My.isNon it = false ∧ isHole it = false ∧ m_item_in [.lst ((Txt.split z " ").map .str)] = .ret it ∧ (m_name_in [it] = .ret .non ∨ ∃ n, m_name_in [it] = .ret (.str n) ∧ (getK (.inr n) P).isSome = true) ∧ m_word_of [it, .dct P] = .ret (.int w)
theorem last_sign {z : Str} (h : tl z ≠ []) (hl : z.length ≤ mx) : ∃ c ∈ tl z, dIdx (.str z) (.int (-1)) = some (.str ⟨#[c]⟩) := by
  refine ⟨(tl z).getLast h, List.getLast_mem h, idx_sign hl ?_⟩
  have e := List.dropLast_concat_getLast h
  conv => lhs; rw [← e]
  exact atI_last
theorem not_colon {z : Str} {c : Nat} (h : 58 ∉ tl z) (m : c ∈ tl z) : dCmp .ne (.str ⟨#[c]⟩) (.str ":") = some true := by
  have q : ¬ (⟨#[c]⟩ : Str) = ":" := fun e => by
    have e2 : [c] = tl (":" : Str) := congrArg tl e
    have e3 : tl (":" : Str) = [58] := by decide +kernel
    rw [e3] at e2
    injection e2 with e2
    subst e2
    exact h m
  show some (!decide ((⟨#[c]⟩ : Str) = ":")) = _
  rw [decide_eq_false q]; rfl
theorem toT {w : Int} {z : Str} {P : List (Key × D)} (h : RdL w z) : LineT P w z :=
  ⟨h.len, h.ne, h.f10, h.f58, let ⟨it, a, b, c, e, f⟩ := h.it; ⟨it, a, b, c, .inl e, f _⟩⟩
theorem word_split {w : Int} (h : ok w) : Txt.split ("word " ++ num w) " " = [("word" : Str), num w] := by
  have ez : "word " ++ num w = Txt.join " " [("word" : Str), num w] := by
    refine ext_tl ?_
    rw [tl_join, tl_app]
    have e : tl ("word " : Str) = tl ("word" : Str) ++ [32] := by decide +kernel
    rw [e, t32, List.append_assoc]; rfl
  have n32 : ∀ x ∈ [("word" : Str), num w], 32 ∉ tl x := fun x m => by
    rcases List.mem_cons.mp m with rfl | m
    · decide +kernel
    · rw [List.mem_singleton.mp m]; exact al_no (al_num h.1) (by omega)
  rw [ez, spl_sp (by simp) n32]
theorem line_word {w : Int} {P : List (Key × D)} (h : ok w) : LineT P w ("word " ++ num w) := toT (rd_word h)
theorem line_row {p : Nat} {nm txt : Str} {fs : List Lt} {is : List Int} {P : List (Key × D)} (f : Fm p nm txt fs) (h : Parts fs is) : LineT P (cod p fs is) (Txt.join " " (words nm fs is)) := toT (rd_row f h)
/-! with a name in the number's stead -/
theorem mem_wordsN {p : Nat} {nm txt n : Str} {gs fs : List Lt} {js : List Int} (f : Fm p nm txt fs) (h : Parts gs js) (hN : Nm n) : ∀ x ∈ wordsN nm gs js n, Al x := fun x m => by
  rcases List.mem_cons.mp m with rfl | m
  · exact al_rw f.me
  · rcases List.mem_append.mp m with m | m
    · exact al_lw h x m
    · rw [List.mem_singleton.mp m]
      intro c m
      exact .inl (hN.let_ c m).1
theorem wordsN_sum {p : Nat} {nm txt n : Str} {gs : List Lt} {js : List Int} (f : Fm p nm txt (gs ++ [Lt.n])) (h : Parts gs js) (hN : Nm n) : ((wordsN nm gs js n).map (·.length)).sum ≤ 5 + 12 * gs.length + 8 := by
  have a := nm_len f
  have b := lw_sum h
  have c := hN.l8
  rw [← len_tl] at c
  show (nm.length :: (lw gs js ++ [n]).map (·.length)).sum ≤ _
  rw [List.sum_cons, List.map_append, List.sum_append]
  have : ([n].map (·.length)).sum = n.length := by simp
  rw [this]; omega
theorem lineN_len {p : Nat} {nm txt n : Str} {gs : List Lt} {js : List Int} (f : Fm p nm txt (gs ++ [Lt.n])) (h : Parts gs js) (hN : Nm n) : (Txt.join " " (wordsN nm gs js n)).length ≤ 60 ∧ joinV " " (.lst ((wordsN nm gs js n).map .str)) = some (.str (Txt.join " " (wordsN nm gs js n))) := by
  have s := wordsN_sum f h hN
  have l3 := f.l3
  rw [List.length_append] at l3
  have l1 : [Lt.n].length = 1 := rfl
  have lw_ : (wordsN nm gs js n).length = gs.length + 2 := by
    show ((lw gs js ++ [n]).length + 1) = _
    rw [List.length_append, lw_len h]; rfl
  refine ⟨?_, join_of ?_⟩
  · rw [join_len, lw_, sp_len]; omega
  · rw [lw_, sp_len]; omega
theorem line_named {p : Nat} {nm txt n : Str} {gs : List Lt} {js : List Int} {a : Int} {P : List (Key × D)} (hP : PK P) (f : Fm p nm txt (gs ++ [Lt.n])) (hn : Nam nm) (h : Parts gs js) (h' : Parts (gs ++ [Lt.n]) (js ++ [a])) (hg : getK (.inr n) P = some (.int a)) :
    LineT P (cod p (gs ++ [Lt.n]) (js ++ [a])) (Txt.join " " (wordsN nm gs js n)) := by
  have hN : Nm n := hP n (by rw [hg]; rfl)
  have al := mem_wordsN f h hN
  have n32 : ∀ x ∈ wordsN nm gs js n, 32 ∉ tl x := fun x m => al_no (al x m) (by omega)
  have no : ∀ c, (c < 48 ∨ (57 < c ∧ c < 97)) → c ≠ 32 → c ∉ tl (Txt.join " " (wordsN nm gs js n)) := fun c hc n m => by
    rcases mem_join m with m | ⟨x, hx, m⟩
    · rw [t32] at m; exact n (List.mem_singleton.mp m)
    · exact al_no (al x hx) hc m
  have nn : tl nm ≠ [] := by
    have key : ∀ y ∈ RW, tl y ≠ [] := by decide +kernel
    exact key nm f.me
  have ne : tl (Txt.join " " (wordsN nm gs js n)) ≠ [] := join_ne nn
  obtain ⟨len, _⟩ := lineN_len f h hN
  have sp : Txt.split (Txt.join " " (wordsN nm gs js n)) " " = wordsN nm gs js n := spl_sp (by unfold wordsN; simp) n32
  refine ⟨len, ne, no 10 (by omega) (by omega), no 58 (by omega) (by omega), ⟨rowN nm js n, rfl, rfl, ?_, .inr ⟨n, w_nameN, by rw [hg]; rfl⟩, w_wordN f h' hg⟩⟩
  rw [sp]
  exact w_itemN f hn hN h
end K11

set_option Elab.async false
set_option linter.all false
set_option maxRecDepth 100000
namespace K11
open PySem L2 My
/-! the program that the law draws -/
/-- a word's own line -/
inductive LineW : Int → Str → Prop
  | row {p : Nat} {nm txt : Str} {fs : List Lt} {is : List Int} : Fm p nm txt fs → Parts fs is → LineW (cod p fs is) (Txt.join " " (words nm fs is))
  | wrd {w : Int} : ok w → LineW w ("word " ++ num w)
theorem line_word' {w : Int} (h : ok w) (h1 : m__law_decoded [.int w] = .ret .non) : m__law_line [.int w] = .ret (.str ("word " ++ num w)) := by
  obtain ⟨n1, n2⟩ := num_len h.1 h.2
  have l5 : (("word " : Str)).length = 5 := rfl
  have n4 : (("word " : Str)).length + (Str.ofString w.repr).length ≤ mx := by
    have n2 : (Str.ofString w.repr).length ≤ 11 := n2
    rw [emx, l5]; omega
  simp -implicitDefEqProofs [m__law_line, b__law_line, runR_eq, h1, n1, n4]
  rfl
theorem line_of {w : Int} (h : ok w) : ∃ z, LineW w z ∧ m__law_line [.int w] = .ret (.str z) := by
  obtain ⟨h0, h1⟩ := h
  by_cases hp : 15 ≤ w / 33554432
  · exact ⟨_, .wrd ⟨h0, h1⟩, line_word' ⟨h0, h1⟩ (w_ldecoded_no hp)⟩
  · obtain ⟨p, hp2⟩ : ∃ p : Nat, w / 33554432 = p := ⟨(w / 33554432).toNat, by omega⟩
    obtain ⟨nm, txt, fs, f⟩ := fm_of p (by omega)
    have e1 := w_ldecoded f hp2
    unfold due at e1
    by_cases c : cod p fs (prt w fs) = w
    · rw [if_pos c] at e1
      have po := prt_ok w fs
      obtain ⟨j, jl⟩ := words_ok f po
      obtain ⟨x', e4⟩ := ll_loop (w := .int w) (nm' := nm) f po
      have e3' : [nm] ++ lw fs (prt w fs) = words nm fs (prt w fs) := rfl
      rw [e3'] at e4
      have d : divOk 33554432 := by decide
      have at1 := f.at
      have l3 := f.l3
      have le : fs.length ≤ mx := by rw [emx]; omega
      have iR : inR (fs.length : Int) := ⟨by omega, by omega⟩
      refine ⟨Txt.join " " (words nm fs (prt w fs)), ?_, ?_⟩
      · have := LineW.row f po
        rw [c] at this
        exact this
      · generalize (words nm fs (prt w fs)).map D.str = W at e4 j
        generalize Txt.join " " (words nm fs (prt w fs)) = Z at j ⊢
        unfold rowD at e1 e4
        simp at e4
        simp -implicitDefEqProofs [m__law_line, b__law_line, runR_eq, e1, d, hp2, w_forms, at1, f.tl, le, iR, e4, j]
    · rw [if_neg c] at e1
      exact ⟨_, .wrd ⟨h0, h1⟩, line_word' ⟨h0, h1⟩ e1⟩
/-- the lines of a program -/
inductive PL where | nam (z : Str) | cod (w : Int) (z : Str) (d : Int)
def PL.d : PL → D
  | .nam z => .tup [.str (z ++ ":"), .non]
  | .cod _ z d => .tup [.str z, .int d]
def plW : List PL → List Int
  | [] => []
  | .nam _ :: r => plW r
  | .cod w _ _ :: r => w :: plW r
def plN : List PL → List Str
  | [] => []
  | .nam z :: r => z :: plN r
  | .cod _ _ _ :: r => plN r
def plP (n : Int) : List PL → List (Key × D)
  | [] => []
  | .nam z :: r => (.inr z, .int n) :: plP n r
  | .cod _ _ _ :: r => plP (n + 1) r
def PL.ok : PL → Prop
  | .nam z => Nm z
  | .cod w z d => LineW w z ∧ 0 ≤ d
theorem plW_snoc (a : List PL) (x : PL) : plW (a ++ [x]) = plW a ++ (match x with | .nam _ => [] | .cod w _ _ => [w]) := by
  induction a with
  | nil => cases x <;> rfl
  | cons y a ih => cases y <;> simp [plW, ih]
theorem plN_snoc (a : List PL) (x : PL) : plN (a ++ [x]) = plN a ++ (match x with | .nam z => [z] | .cod _ _ _ => []) := by
  induction a with
  | nil => cases x <;> rfl
  | cons y a ih => cases y <;> simp [plN, ih]
theorem plP_snoc (x : PL) : ∀ (n : Int) (a : List PL), plP n (a ++ [x]) = plP n a ++ (match x with | .nam z => [(.inr z, .int (n + (plW a).length))] | .cod _ _ _ => [])
  | n, [] => by cases x <;> simp [plP, plW]
  | n, y :: a => by
    cases y with
    | nam z => show (_ :: plP n (a ++ [x])) = _; rw [plP_snoc x n a]; rfl
    | cod w z d =>
      show plP (n + 1) (a ++ [x]) = _
      rw [plP_snoc x (n + 1) a]
      cases x with
      | nam z' => show plP (n + 1) a ++ [(.inr z', .int (n + 1 + (plW a).length))] = plP (n + 1) a ++ [(.inr z', .int (n + ((plW a).length + 1 : Nat)))]; congr 4; omega
      | cod _ _ _ => rfl
theorem plP_keys : ∀ (n : Int) (a : List PL), (plP n a).map (·.1) = (plN a).map .inr
  | n, [] => rfl
  | n, .nam z :: a => by show (.inr z :: _ : List Key) = _; rw [plP_keys n a]; rfl
  | n, .cod _ _ _ :: a => plP_keys (n + 1) a
theorem putD_new {α : Type} {k : Key} {v : α} : ∀ {l : List (Key × α)}, k ∉ l.map (·.1) → putD k v l = l ++ [(k, v)]
  | [], _ => rfl
  | (k', u) :: r, h => by
    unfold putD
    rw [if_neg fun e => h (by rw [e]; exact List.mem_cons_self), putD_new fun m => h (List.mem_cons_of_mem _ m)]; rfl
theorem getK_none {α : Type} {k : Key} : ∀ {l : List (Key × α)}, k ∉ l.map (·.1) → getK k l = none
  | [], _ => rfl
  | (k', u) :: r, h => by
    unfold getK
    rw [if_neg fun e => h (by rw [e]; exact List.mem_cons_self), getK_none fun m => h (List.mem_cons_of_mem _ m)]
theorem getK_some {α : Type} {k : Key} : ∀ {l : List (Key × α)}, k ∈ l.map (·.1) → ∃ v, getK k l = some v ∧ (k, v) ∈ l
  | (k', u) :: r, h => by
    unfold getK
    by_cases e : k' = k
    · subst e; exact ⟨u, by rw [if_pos rfl], List.mem_cons_self⟩
    · rw [if_neg e]
      have h' : k ∈ r.map (·.1) := by
        rcases List.mem_cons.mp h with h | h
        · exact absurd h.symm e
        · exact h
      obtain ⟨v, e1, e2⟩ := getK_some h'
      exact ⟨v, e1, List.mem_cons_of_mem _ e2⟩
theorem plP_val : ∀ (n : Int) (a : List PL) (k : Key) (v : D), (k, v) ∈ plP n a → ∃ i : Int, v = .int i ∧ n ≤ i ∧ i ≤ n + (plW a).length
  | n, .nam z :: a, k, v, m => by
    rcases List.mem_cons.mp m with m | m
    · cases m; exact ⟨n, rfl, by omega, by show n ≤ n + ((plW a).length : Int); omega⟩
    · exact plP_val n a k v m
  | n, .cod w z d :: a, k, v, m => by
    obtain ⟨i, e, h1, h2⟩ := plP_val (n + 1) a k v m
    refine ⟨i, e, by omega, ?_⟩
    show i ≤ n + ((plW a).length + 1 : Nat)
    omega
end K11

set_option Elab.async false
set_option linter.all false
set_option maxRecDepth 100000
namespace K11
open PySem L2 My
theorem wsum_le {fs : List Lt} {is : List Int} (h : Parts fs is) : wsum fs is ≤ 29360128 * fs.length := by
  induction h with
  | nil => exact Int.le_refl 0
  | @cons l i fs is h0 h1 _ ih =>
    show i * l.w + wsum fs is ≤ 29360128 * ((fs.length + 1 : Nat) : Int)
    have : i * l.w ≤ 29360128 := by
      cases l <;> simp [Lt.m, Lt.w] at h1 ⊢ <;> omega
    omega
theorem cod_ok {p : Nat} {nm txt : Str} {fs : List Lt} {is : List Int} (f : Fm p nm txt fs) (h : Parts fs is) : ok (cod p fs is) := by
  have h1 := h.nonneg
  have h2 := wsum_le h
  have h3 := f.l3
  have h4 := f.lt
  unfold cod
  exact ⟨by omega, by omega⟩
theorem six {ws : List Int} (h : ws.length = 6) : ∃ a b c d e f, ws = [a, b, c, d, e, f] := by
  match ws, h with
  | [a, b, c, d, e, f], _ => exact ⟨a, b, c, d, e, f, rfl⟩
theorem app_colon {z : Str} (h : Nm z) : dBin .add (.str z) (.str ":") = some (.str (z ++ ":")) := by
  have := h.l8
  rw [← len_tl] at this
  have l1 : ((":" : Str)).length = 1 := rfl
  exact if_pos (by rw [l1, emx]; omega)
/-- what is kept while the program is drawn -/
structure PI (N : List Str) (n : Nat) (pl : List PL) : Prop where
  len : pl.length = n
  nm : plN pl = N.take (plN pl).length
  le : (plN pl).length ≤ 12
  ok : ∀ x ∈ pl, x.ok
theorem plW_le : ∀ a : List PL, (plW a).length ≤ a.length
  | [] => Nat.le_refl _
  | .nam _ :: r => by have := plW_le r; show (plW r).length ≤ r.length + 1; omega
  | .cod _ _ _ :: r => by have := plW_le r; show (plW r).length + 1 ≤ r.length + 1; omega
theorem prog_step {ns : List Int} {N : List Str} {pl : List PL} {n : Nat} {x7 x8 x9 : D} (hN : N.Nodup) (hNm : ∀ z ∈ N, Nm z) (h12 : 12 ≤ N.length) (hI : PI N n pl) {k : Nat} (hk : k < ns.length) (hk2 : k < 61) (hn : n < 100) :
    ∃ (pl' : List PL) (y7 y8 y9 : D), PI N (n + 1) pl' ∧ exs t__law_program B__law_program_1 [.lst (ns.map .int), .bl true, .lst (N.map .str), .lst (pl.map PL.d), .lst ((plW pl).map .int), .dct (plP 0 pl), .int k, x7, x8, x9] =
      .nx [.lst (ns.map .int), .bl true, .lst (N.map .str), .lst (pl'.map PL.d), .lst ((plW pl').map .int), .dct (plP 0 pl'), .int k, y7, y8, y9] := by
  obtain ⟨c, _, hc⟩ := atI_intE (ws := ns) (i := (k : Int)) (by omega) (by omega)
  obtain ⟨ws, hw6, hsm, hdr⟩ := w_draws c k true (by omega) (by omega)
  obtain ⟨p, hp⟩ : ∃ p : Nat, c % 16 % 15 = p := ⟨(c % 16 % 15).toNat, by omega⟩
  obtain ⟨nm, txt, fs, f⟩ := fm_of p (by omega)
  obtain ⟨is, hpar, hrow⟩ := w_row f hw6
  have hcod := w_lcoded f hpar
  have hok := cod_ok f hpar
  obtain ⟨a0, a1, a2, a3, a4, a5, rfl⟩ := six hw6
  have s0 := hsm a0 (by simp)
  have s3 := hsm a3 (by simp)
  have s5 := hsm a5 (by simp)
  have t0 : atI [D.int a0, .int a1, .int a2, .int a3, .int a4, .int a5] 0 = some (.int a0) := rfl
  have t3 : atI [D.int a0, .int a1, .int a2, .int a3, .int a4, .int a5] 3 = some (.int a3) := rfl
  have t5 : atI [D.int a0, .int a1, .int a2, .int a3, .int a4, .int a5] 5 = some (.int a5) := rfl
  have d8 : divOk 8 := by decide
  have d4 : divOk 4 := by decide
  have d15 : divOk 15 := by decide
  have d16 : divOk 16 := by decide
  have lP : (plP 0 pl).length = (plN pl).length := by
    have := congrArg List.length (plP_keys 0 pl)
    simpa using this
  have lW := plW_le pl
  have hle := hI.le
  have hlen := hI.len
  have bl : biV .len [.dct (plP 0 pl)] = some (.int ((plN pl).length : Int)) := by
    show some (D.int (plP 0 pl).length) = _
    rw [lP]
  have blW : biV .len [.lst ((plW pl).map D.int)] = some (.int ((plW pl).length : Int)) := by
    show some (D.int ((plW pl).map D.int).length) = _
    rw [List.length_map]
  have hlL : (pl.map PL.d).length < mx := by rw [List.length_map, emx]; omega
  have hlW : ((plW pl).map D.int).length < mx := by rw [List.length_map, emx]; omega
  have hlP : (plP 0 pl).length < mx := by rw [lP, emx]; omega
  by_cases h1 : a5 / 8 % 4 = 2 ∧ (plN pl).length < 12
  · obtain ⟨g1, g2⟩ := h1
    have hz : N[(plN pl).length]? = some N[(plN pl).length] := List.getElem?_eq_getElem (by omega)
    generalize hzz : N[(plN pl).length] = z at hz
    have mz : z ∈ N := List.mem_of_getElem? hz
    have hzn := hNm z mz
    have hz2 : atI (N.map D.str) ((plN pl).length : Int) = some (.str z) := by
      rw [atI_of (by omega) (by rw [List.length_map]; omega), List.getElem?_map]
      show (N[(plN pl).length]?).map D.str = _
      rw [hz]; rfl
    have hnew : (.inr z : Key) ∉ (plP 0 pl).map (·.1) := by
      rw [plP_keys, hI.nm]
      intro m
      obtain ⟨y, m2, e⟩ := List.mem_map.mp m
      injection e with e
      rw [e] at m2
      have md : z ∈ N.drop (plN pl).length := by
        rw [List.drop_eq_getElem_cons (by omega), hzz]; exact List.mem_cons_self
      have nd : (N.take (plN pl).length ++ N.drop (plN pl).length).Nodup := by rw [List.take_append_drop]; exact hN
      exact (List.nodup_append.mp nd).2.2 z m2 z md rfl
    have hput := putD_new (v := D.int ((plW pl).length : Int)) hnew
    have hcol := app_colon hzn
    have hset : mutV .setI [.str z, .int ((plW pl).length : Int)] (.dct (plP 0 pl)) = some (.dct (plP 0 pl ++ [(.inr z, .int ((plW pl).length : Int))])) := by
      show (if (plP 0 pl).length < mx then some (D.dct (putD (.inr z) (.int ((plW pl).length : Int)) (plP 0 pl))) else none) = _
      rw [if_pos hlP, hput]
    have g2' : ((plN pl).length : Int) < 12 := by omega
    refine ⟨pl ++ [.nam z], .lst [.int a0, .int a1, .int a2, .int a3, .int a4, .int a5], .str z, x9, ⟨by simp [hlen], ?_, ?_, ?_⟩, ?_⟩
    · rw [plN_snoc]
      show plN pl ++ [z] = N.take (plN pl ++ [z]).length
      have e1 : N.take ((plN pl).length + 1) = N.take (plN pl).length ++ [z] := by rw [List.take_succ, hz]; rfl
      rw [List.length_append]
      exact (congrArg (· ++ [z]) hI.nm).trans e1.symm
    · rw [plN_snoc, List.length_append]; show _ + 1 ≤ 12; omega
    · intro x m
      rcases List.mem_append.mp m with m | m
      · exact hI.ok x m
      · rw [List.mem_singleton.mp m]; exact hzn
    · have eL : (pl ++ [PL.nam z]).map PL.d = pl.map PL.d ++ [.tup [.str (z ++ ":"), .non]] := by simp [PL.d]
      have eW : plW (pl ++ [PL.nam z]) = plW pl := by rw [plW_snoc]; simp
      have eP : plP 0 (pl ++ [PL.nam z]) = plP 0 pl ++ [(.inr z, .int ((plW pl).length : Int))] := by rw [plP_snoc]; simp
      rw [eL, eW, eP]
      have hdr' : m__law_draws [.int c, .int k, .bl true] = .ret (.lst [.int a0, .int a1, .int a2, .int a3, .int a4, .int a5]) := hdr
      clear hzz
      generalize hP : plP 0 pl = P at *
      generalize hWW : (plW pl).map D.int = W at *
      generalize pl.map PL.d = L at *
      generalize N.map D.str = NN at *
      generalize ns.map D.int = SS at *
      generalize hws : [D.int a0, .int a1, .int a2, .int a3, .int a4, .int a5] = WS at *
      have g1' : (2 : Int) = 2 := rfl
      simp -implicitDefEqProofs [B__law_program_1, hc, hdr', t5, d8, d4, g1, bl, g2', hz2, blW, hset, hcol, hlL]
  · have hcc : ¬ (a5 / 8 % 4 = 2 ∧ ((plN pl).length : Int) < 12) := fun ⟨g1, g2⟩ => h1 ⟨g1, by omega⟩
    have hgo : ∀ w : Int, ok w → (w = if a5 / 8 % 4 = 1 then a0 else cod p fs is) → ∃ (pl' : List PL) (y7 y8 y9 : D), PI N (n + 1) pl' ∧ exs t__law_program B__law_program_1 [.lst (ns.map .int), .bl true, .lst (N.map .str), .lst (pl.map PL.d), .lst ((plW pl).map .int), .dct (plP 0 pl), .int k, x7, x8, x9] =
      .nx [.lst (ns.map .int), .bl true, .lst (N.map .str), .lst (pl'.map PL.d), .lst ((plW pl').map .int), .dct (plP 0 pl'), .int k, y7, y8, y9] := fun w hw he => by
      obtain ⟨z, lz, hline⟩ := line_of hw
      refine ⟨pl ++ [.cod w z a3], .lst [.int a0, .int a1, .int a2, .int a3, .int a4, .int a5], x8, .int w, ⟨by simp [hlen], ?_, ?_, ?_⟩, ?_⟩
      · rw [plN_snoc, List.append_nil]; exact hI.nm
      · rw [plN_snoc, List.append_nil]; exact hI.le
      · intro x m
        rcases List.mem_append.mp m with m | m
        · exact hI.ok x m
        · rw [List.mem_singleton.mp m]; exact ⟨lz, s3.1⟩
      · have eL : (pl ++ [PL.cod w z a3]).map PL.d = pl.map PL.d ++ [.tup [.str z, .int a3]] := by simp [PL.d]
        have eW : (plW (pl ++ [PL.cod w z a3])).map D.int = (plW pl).map D.int ++ [.int w] := by rw [plW_snoc]; simp
        have eP : plP 0 (pl ++ [PL.cod w z a3]) = plP 0 pl := by rw [plP_snoc]; simp
        rw [eL, eW, eP]
        have hdr' : m__law_draws [.int c, .int k, .bl true] = .ret (.lst [.int a0, .int a1, .int a2, .int a3, .int a4, .int a5]) := hdr
        have hrow' : m__law_row [.int p, .lst [.int a0, .int a1, .int a2, .int a3, .int a4, .int a5]] = .ret (rowD nm is) := hrow
        generalize hP : plP 0 pl = P at *
        generalize hWW : (plW pl).map D.int = W at *
        generalize pl.map PL.d = L at *
        generalize N.map D.str = NN at *
        generalize ns.map D.int = SS at *
        generalize hws : [D.int a0, .int a1, .int a2, .int a3, .int a4, .int a5] = WS at *
        generalize hRD : rowD nm is = RD at *
        by_cases g3 : a5 / 8 % 4 = 1
        · rw [if_pos g3] at he
          subst he
          by_cases g1 : a5 / 8 % 4 = 2
          · omega
          · simp -implicitDefEqProofs [B__law_program_1, hc, hdr', t5, t0, t3, d8, d4, d15, d16, hp, hrow', hcod, g1, g3, hline, hlL, hlW]
        · rw [if_neg g3] at he
          subst he
          by_cases g1 : a5 / 8 % 4 = 2
          · have g2 : ¬ ((plN pl).length : Int) < 12 := fun g2 => h1 ⟨g1, by omega⟩
            simp -implicitDefEqProofs [B__law_program_1, hc, hdr', t5, t0, t3, d8, d4, d15, d16, hp, hrow', hcod, g1, g2, bl, hline, hlL, hlW]
          · simp -implicitDefEqProofs [B__law_program_1, hc, hdr', t5, t0, t3, d8, d4, d15, d16, hp, hrow', hcod, g1, g3, hline, hlL, hlW]
    refine hgo (if a5 / 8 % 4 = 1 then a0 else cod p fs is) ?_ rfl
    split
    · exact s0
    · exact hok
end K11

set_option Elab.async false
set_option linter.all false
set_option maxRecDepth 100000
namespace K11
open PySem L2 My
theorem w_cell0 (ns : List Int) : ∃ c : Int, m__law_cell_at [.lst (ns.map .int), .int 0] = .ret (.int c) := by
  cases ns with
  | nil => exact ⟨0, by simp [m__law_cell_at, b__law_cell_at, runR_eq]⟩
  | cons n ns =>
    have h : atI ((n :: ns).map D.int) 0 = some (.int n) := at0
    have hl : biV .len [.lst ((n :: ns).map D.int)] = some (.int ((ns.length : Int) + 1)) := by
      show some (D.int _) = _
      simp
    have k : (0 : Int) < (ns.length : Int) + 1 := by omega
    generalize (n :: ns).map D.int = W at *
    exact ⟨n, by simp -implicitDefEqProofs [m__law_cell_at, b__law_cell_at, runR_eq, h, hl, k]⟩
/-- the program that the law draws -/
theorem w_program (ns : List Int) (hl : ns.length ≤ 63) : ∃ (N : List Str) (n : Nat) (pl : List PL), N.Nodup ∧ (∀ z ∈ N, Nm z) ∧ PI N n pl ∧ n ≤ 60 ∧
    m__law_program [.lst (ns.map .int), .bl true] = .ret (.tup [.lst (N.map .str), .lst (pl.map PL.d), .lst ((plW pl).map .int), .dct (plP 0 pl)]) := by
  obtain ⟨c, hc⟩ := w_cell0 ns
  obtain ⟨N, nd, hN, h12, e1⟩ := w_place_names c true
  obtain ⟨n, hn⟩ : ∃ n : Nat, n = ((if (61 : Int) < (ns.length : Int) then (61 : Int) else (ns.length : Int))).toNat - 1 := ⟨_, rfl⟩
  have hn1 : n ≤ 60 := by omega
  obtain ⟨ρ', e2, pl, k', x7, x8, x9, hI, rfl⟩ := forL_ups (i := 6) (lo := 1) (body := exs t__law_program B__law_program_1) (n := n) (ρ := [.lst (ns.map .int), .bl true, .lst (N.map .str), .lst [], .lst [], .dct [], .non, .non, .non, .non])
    (fun n ρ => ∃ (pl : List PL) (k x7 x8 x9 : D), PI N n pl ∧ ρ = [.lst (ns.map .int), .bl true, .lst (N.map .str), .lst (pl.map PL.d), .lst ((plW pl).map .int), .dct (plP 0 pl), k, x7, x8, x9]) (fun k hk ρ hI => by
      obtain ⟨pl, k0, x7, x8, x9, hI, rfl⟩ := hI
      obtain ⟨pl', y7, y8, y9, hI', e⟩ := prog_step (ns := ns) (x7 := x7) (x8 := x8) (x9 := x9) nd hN h12 hI (k := k + 1) (by omega) (by omega) (by omega)
      refine ⟨_, .inl ?_, pl', .int ((k + 1 : Nat) : Int), y7, y8, y9, hI', rfl⟩
      rw [← e]
      show exs _ _ [.lst (ns.map .int), .bl true, .lst (N.map .str), .lst (pl.map PL.d), .lst ((plW pl).map .int), .dct (plP 0 pl), .int (1 + k), x7, x8, x9] = _
      have : (1 : Int) + (k : Int) = ((k + 1 : Nat) : Int) := by omega
      rw [this]) ⟨[], .non, .non, .non, .non, ⟨rfl, rfl, Nat.zero_le _, fun x m => nomatch m⟩, rfl⟩
  refine ⟨N, n, pl, nd, hN, hI, hn1, ?_⟩
  have hlen : biV .len [.lst (ns.map D.int)] = some (.int (ns.length : Int)) := by
    show some (D.int _) = _
    rw [List.length_map]
  generalize hM : (if (61 : Int) < (ns.length : Int) then (61 : Int) else (ns.length : Int)) = M at *
  have i1 : inR 1 := by decide
  have i2 : inR M := by constructor <;> omega
  have hd0 : Option.map (fun r => D.dct (mergeD [] r)) (mkDct [] []) = some (.dct []) := rfl
  generalize pl.map PL.d = L at *
  generalize (plW pl).map D.int = W at *
  generalize plP 0 pl = P at *
  generalize N.map D.str = NN at *
  generalize ns.map D.int = SS at *
  simp -implicitDefEqProofs [m__law_program, b__law_program, runR_eq, hc, e1, hd0, hlen, hM, i1, i2, ← hn, e2]
end K11

set_option Elab.async false
set_option linter.all false
set_option maxRecDepth 100000
namespace K11
open PySem L2 My
/-! names put in the stead of numbers -/
theorem spl_one {z : Str} (h : 32 ∉ tl z) : Txt.split z " " = [z] := by
  have e : Txt.join " " [z] = z := ext_tl (by rw [tl_join]; rfl)
  have := spl_sp (ps := [z]) (by simp) fun p m => by rw [List.mem_singleton.mp m]; exact h
  rw [e] at this
  exact this
theorem join_one (z : Str) : Txt.join " " [z] = z := ext_tl (by rw [tl_join]; rfl)
theorem tl_colon (z : Str) : tl (z ++ ":") = tl z ++ [58] := by
  rw [tl_app]
  have e : tl (":" : Str) = [58] := by decide +kernel
  rw [e]
theorem nm_no {z : Str} (h : Nm z) {c : Nat} (hc : c < 97) (h58 : c ≠ 58) : c ∉ tl (z ++ ":") := by
  rw [tl_colon]
  intro m
  rcases List.mem_append.mp m with m | m
  · have := h.let_ c m; omega
  · exact h58 (List.mem_singleton.mp m)
theorem nm_len9 {z : Str} (h : Nm z) : (z ++ ":").length ≤ 9 := by
  rw [len_tl, tl_colon, List.length_append]
  have := h.l8
  show _ + 1 ≤ 9; omega
/-- told lines -/
inductive Tds (P : List (Key × D)) : List PL → List Str → List Int → Prop
  | nil : Tds P [] [] []
  | nam {z : Str} {pl : List PL} {zs : List Str} {ws : List Int} : Nm z → Tds P pl zs ws → Tds P (.nam z :: pl) ((z ++ ":") :: zs) ws
  | cod {w w' d : Int} {z z' : Str} {pl : List PL} {zs : List Str} {ws : List Int} : LineT P w' z' → Tds P pl zs ws → Tds P (.cod w z d :: pl) (z' :: zs) (w' :: ws)
/-- a name's line stays -/
theorem named_nam {x0 x1 x3 p6 : D} {z : Str} {acc : List Str} (h : Nm z) (hl : acc.length < mx) :
    exs t__law_named B__law_named_1 [x0, x1, .lst (acc.map .str), x3, .str (z ++ ":"), .non, p6] = .nx [x0, x1, .lst ((acc ++ [z ++ ":"]).map .str), x3, .str (z ++ ":"), .non, .lst [.str (z ++ ":")]] := by
  have l9 := nm_len9 h
  have s3 := splt_of (z := z ++ ":") (x := " ") (by decide +kernel) (by rw [emx]; omega)
  rw [spl_one (nm_no h (by omega) (by omega))] at s3
  have j : joinV " " (.lst ([z ++ ":"].map D.str)) = some (.str (z ++ ":")) := by
    have := join_of (x := " ") (ys := [z ++ ":"]) (by simp [sp_len]; omega)
    rw [join_one] at this
    exact this
  have q : dIs .non .non = some true := rfl
  rw [List.map_append (l₂ := [z ++ ":"])]
  have hl' : (acc.map D.str).length < mx := by rw [List.length_map]; exact hl
  generalize acc.map D.str = A at *
  have em : [z ++ ":"].map D.str = [D.str (z ++ ":")] := rfl
  rw [em] at s3 j ⊢
  clear em
  generalize z ++ ":" = Z at *
  simp -implicitDefEqProofs [B__law_named_1, s3, j, q, hl']
/-- a line that stays -/
theorem named_keep {x0 x1 p6 : D} {K : List Str} {z : Str} {ps : List Str} {acc : List Str} {d : Int} {q1 q2 : Bool} (hz : z.length ≤ 60) (hs : Txt.split z " " = ps) (hj : joinV " " (.lst (ps.map .str)) = some (.str z)) {nm : Str} (h0 : atI (ps.map D.str) 0 = some (.str nm))
    (hK : dCmp .ne (.lst (K.map .str)) (.lst []) = some q1) (hn : dIn (.str nm) (.tup [.str "put", .str "jump", .str "if"]) = some q2) (hno : (q1 && q2 && decide (0 < d % 3)) = false) (hl : acc.length < mx) :
    exs t__law_named B__law_named_1 [x0, x1, .lst (acc.map .str), .lst (K.map .str), .str z, .int d, p6] = .nx [x0, x1, .lst ((acc ++ [z]).map .str), .lst (K.map .str), .str z, .int d, .lst (ps.map .str)] := by
  have s3 := splt_of (z := z) (x := " ") (by decide +kernel) (by rw [emx]; omega)
  rw [hs] at s3
  rw [List.map_append (l₂ := [z])]
  have hl' : (acc.map D.str).length < mx := by rw [List.length_map]; exact hl
  have d3 : divOk 3 := by decide
  have q : dIs (.int d) .non = some false := rfl
  generalize hKK : K.map D.str = KK at *
  generalize acc.map D.str = A at *
  generalize ps.map D.str = W at *
  generalize hT : [D.str "put", .str "jump", .str "if"] = T at *
  have hT' : [D.str (Str.ofString "put"), D.str (Str.ofString "jump"), D.str (Str.ofString "if")] = T := hT
  cases q1 with
  | false => simp -implicitDefEqProofs [B__law_named_1, s3, hj, q, hK, hl']
  | true =>
    cases q2 with
    | false => simp -implicitDefEqProofs [B__law_named_1, s3, hj, q, hK, h0, hT', hn, hl']
    | true =>
      have hno : ¬ 0 < d % 3 := by simpa using hno
      simp -implicitDefEqProofs [B__law_named_1, s3, hj, q, hK, h0, hT', hn, d3, hno, hl']
/-- a line with a name put in -/
theorem named_put {x0 x1 p6 : D} {K : List Str} {z z' n x : Str} {ps : List Str} {acc : List Str} {d : Int} {nm : Str} (hz : z.length ≤ 60) (hs : Txt.split z " " = ps ++ [x]) (hne : ps ≠ []) (hj : joinV " " (.lst ((ps ++ [n]).map .str)) = some (.str z')) (h0 : atI ((ps ++ [x]).map D.str) 0 = some (.str nm))
    (hK : dCmp .ne (.lst (K.map .str)) (.lst []) = some true) (hn : dIn (.str nm) (.tup [.str "put", .str "jump", .str "if"]) = some true) (hd : 0 < d % 3) (hk : K ≠ []) (hx : K[(d / 3 % (K.length : Int)).toNat]? = some n) (hl : acc.length < mx) :
    exs t__law_named B__law_named_1 [x0, x1, .lst (acc.map .str), .lst (K.map .str), .str z, .int d, p6] = .nx [x0, x1, .lst ((acc ++ [z']).map .str), .lst (K.map .str), .str z, .int d, .lst ((ps ++ [n]).map .str)] := by
  have s3 := splt_of (z := z) (x := " ") (by decide +kernel) (by rw [emx]; omega)
  rw [hs] at s3
  rw [List.map_append (l₂ := [z'])]
  have hl' : (acc.map D.str).length < mx := by rw [List.length_map]; exact hl
  have d3 : divOk 3 := by decide
  have q : dIs (.int d) .non = some false := rfl
  have kl : 0 < (K.length : Int) := by
    have := List.length_pos_iff.mpr hk
    omega
  have m0 := Int.emod_nonneg (d / 3) (show (K.length : Int) ≠ 0 by omega)
  have m1 := Int.emod_lt_of_pos (d / 3) kl
  have hKl : biV .len [.lst (K.map D.str)] = some (.int (K.length : Int)) := by
    show some (D.int _) = _
    rw [List.length_map]
  have hKx : atI (K.map D.str) (d / 3 % (K.length : Int)) = some (.str n) := by
    rw [atI_of m0 (by rw [List.length_map]; exact m1), List.getElem?_map, hx]; rfl
  have hset : mutV .setI [.int (-1), .str n] (.lst ((ps ++ [x]).map D.str)) = some (.lst ((ps ++ [n]).map D.str)) := by
    show (ixN ((ps ++ [x]).map D.str).length (-1)).map (fun k => D.lst (((ps ++ [x]).map D.str).set k (.str n))) = _
    have e : ixN ((ps ++ [x]).map D.str).length (-1) = some ps.length := by
      unfold ixN
      rw [if_neg (by decide), if_pos (by simp; omega)]
      simp
      omega
    rw [e]
    show some (D.lst _) = _
    rw [List.map_append, List.map_append, List.set_append_right _ _ (by simp)]
    simp
  have kd : dBin .mod (.int (d / 3)) (.int (K.length : Int)) = some (.int (d / 3 % (K.length : Int))) := if_pos kl
  generalize (K.length : Int) = KL at *
  generalize hKK : K.map D.str = KK at *
  generalize acc.map D.str = A at *
  generalize (ps ++ [x]).map D.str = W at *
  generalize (ps ++ [n]).map D.str = W2 at *
  generalize hT : [D.str "put", .str "jump", .str "if"] = T at *
  have hT' : [D.str (Str.ofString "put"), D.str (Str.ofString "jump"), D.str (Str.ofString "if")] = T := hT
  simp -implicitDefEqProofs [B__law_named_1, s3, hj, q, hK, h0, hT', hn, d3, hd, hKl, kl, hKx, hset, hl']
end K11

set_option Elab.async false
set_option linter.all false
set_option maxRecDepth 100000
namespace K11
open PySem L2 My
/-- a told line, by its parts -/
inductive T where
  | nam (z : Str)
  | row (p : Nat) (nm : Str) (fs : List Lt) (is : List Int)
  | put (p : Nat) (nm : Str) (gs : List Lt) (js : List Int) (n : Str)
  | wrd (w : Int)
def T.text : T → Str
  | .nam z => z ++ ":"
  | .row _ nm fs is => Txt.join " " (words nm fs is)
  | .put _ nm gs js n => Txt.join " " (wordsN nm gs js n)
  | .wrd w => "word " ++ num w
def T.pl : T → PL
  | .nam z => .nam z
  | _ => .cod 0 "" 0
def T.wf (N : List Str) : T → Prop
  | .nam z => Nm z
  | .row p nm fs is => (∃ txt, Fm p nm txt fs) ∧ Parts fs is
  | .put p nm gs js n => (∃ txt, Fm p nm txt (gs ++ [Lt.n])) ∧ Nam nm ∧ Parts gs js ∧ n ∈ N
  | .wrd w => ok w
def tN (ts : List T) : List Str := plN (ts.map T.pl)
def tP (ts : List T) : List (Key × D) := plP 0 (ts.map T.pl)
def adr (P : List (Key × D)) (n : Str) : Int := match getK (.inr n) P with | some (.int i) => i | _ => 0
def T.w (P : List (Key × D)) : T → List Int
  | .nam _ => []
  | .row p _ fs is => [cod p fs is]
  | .put p _ gs js n => [cod p (gs ++ [Lt.n]) (js ++ [adr P n])]
  | .wrd w => [w]
def tW (P : List (Key × D)) (ts : List T) : List Int := ts.flatMap (T.w P)
theorem Parts.split {gs : List Lt} : ∀ {is : List Int}, Parts (gs ++ [Lt.n]) is → ∃ js i, is = js ++ [i] ∧ Parts gs js ∧ lw (gs ++ [Lt.n]) is = lw gs js ++ [pt Lt.n i] := by
  induction gs with
  | nil =>
    intro is h
    cases h with
    | cons h0 h1 h => cases h; exact ⟨[], _, rfl, .nil, rfl⟩
  | cons l gs ih =>
    intro is h
    cases h with
    | @cons _ i _ is h0 h1 h =>
      obtain ⟨js, k, rfl, hp, e⟩ := ih h
      exact ⟨i :: js, k, rfl, .cons h0 h1 hp, by show pt l i :: lw (gs ++ [Lt.n]) (js ++ [k]) = _; rw [e]; rfl⟩
/-- what is known of the names at hand -/
structure KN (N : List Str) (K : List Str) : Prop where
  ne : ∃ q1, dCmp .ne (.lst (K.map .str)) (.lst []) = some q1 ∧ (q1 = true → K ≠ [])
  at_ : ∀ n ∈ K, n ∈ N
theorem named_line {x0 x1 : D} {N K acc : List Str} {w d : Int} {z : Str} (hK : KN N K) (hN : ∀ n ∈ N, Nm n) (hz : LineW w z) (hd : 0 ≤ d) (hl : acc.length < mx) (p6 : D) : ∃ (t : T) (y6 : D), t.wf N ∧ t.pl = .cod 0 "" 0 ∧
    exs t__law_named B__law_named_1 [x0, x1, .lst (acc.map .str), .lst (K.map .str), .str z, .int d, p6] = .nx [x0, x1, .lst ((acc ++ [t.text]).map .str), .lst (K.map .str), .str z, .int d, y6] := by
  obtain ⟨q1, hq1, hq2⟩ := hK.ne
  cases hz with
  | wrd h =>
    have L := line_word (P := []) h
    have hj : joinV " " (.lst ([("word" : Str), num w].map .str)) = some (.str ("word " ++ num w)) := by
      have e : Txt.join " " [("word" : Str), num w] = "word " ++ num w := by
        refine ext_tl ?_
        rw [tl_join, tl_app]
        have e : tl ("word " : Str) = tl ("word" : Str) ++ [32] := by decide +kernel
        rw [e, t32, List.append_assoc]; rfl
      rw [← e]
      have hn := num_len2 (k := 10) (by decide) h.1 (show w < 10 ^ 10 by have := h.2; omega)
      have l4 : (("word" : Str)).length = 4 := rfl
      refine join_of ?_
      rw [sp_len]
      simp only [List.map_cons, List.map_nil, List.sum_cons, List.sum_nil, List.length_cons, List.length_nil]
      rw [l4]; omega
    refine ⟨.wrd w, _, h, rfl, named_keep (q1 := q1) (q2 := false) L.len (word_split h) hj (nm := "word") at0 hq1 (by decide +kernel) ?_ hl⟩
    simp
  | @row p nm txt fs is f h =>
    have L := line_row (P := []) f h
    have al := al_words f h
    have n32 : ∀ x ∈ words nm fs is, 32 ∉ tl x := fun x m => al_no (al x m) (by omega)
    have sp := spl_sp (ps := words nm fs is) (by unfold words; simp) n32
    have hj := (words_ok f h).1
    have h0 : atI ((words nm fs is).map D.str) 0 = some (.str nm) := at0
    have hn := nam_dIn f
    by_cases c : (q1 && decide (Nam nm) && decide (0 < d % 3)) = true
    · obtain ⟨c1, c3⟩ := Bool.and_eq_true_iff.mp c
      obtain ⟨c1, c2⟩ := Bool.and_eq_true_iff.mp c1
      subst c1
      have c2 := of_decide_eq_true c2
      have c3 := of_decide_eq_true c3
      have hk := hq2 rfl
      have kl : 0 < (K.length : Int) := by
        have := List.length_pos_iff.mpr hk
        omega
      have m0 := Int.emod_nonneg (d / 3) (show (K.length : Int) ≠ 0 by omega)
      have m1 := Int.emod_lt_of_pos (d / 3) kl
      have hx : K[(d / 3 % (K.length : Int)).toNat]? = some (K[(d / 3 % (K.length : Int)).toNat]'(by omega)) := List.getElem?_eq_getElem (by omega)
      generalize (K[(d / 3 % (K.length : Int)).toNat]'(by omega)) = n at hx
      have nN := hK.at_ n (List.mem_of_getElem? hx)
      obtain ⟨gs, rfl, _, _⟩ := f.nam c2
      obtain ⟨js, i, rfl, hp, elw⟩ := h.split
      have hNm : Nm n := hN n nN
      have hjn := (lineN_len f hp hNm).2
      have ew : words nm (gs ++ [Lt.n]) (js ++ [i]) = (nm :: lw gs js) ++ [pt Lt.n i] := by unfold words; rw [elw]; rfl
      have ewn : wordsN nm gs js n = (nm :: lw gs js) ++ [n] := rfl
      rw [decide_eq_true c2] at hn
      have Ll := L.len
      rw [ew] at sp h0
      rw [ewn] at hjn
      have := named_put (x0 := x0) (x1 := x1) (p6 := p6) Ll (by rw [ew]; exact sp) (by simp) hjn h0 hq1 hn c3 hk hx hl
      exact ⟨.put p nm gs js n, _, ⟨⟨_, f⟩, c2, hp, nN⟩, rfl, by show _ = RS.nx [x0, x1, .lst ((acc ++ [Txt.join " " (wordsN nm gs js n)]).map .str), _, _, _, _]; rw [ewn]; exact this⟩
    · have c := Bool.eq_false_iff.mpr c
      exact ⟨.row p nm fs is, _, ⟨⟨_, f⟩, h⟩, rfl, named_keep L.len sp hj h0 hq1 hn c hl⟩
/-- the lines of a program and the told ones: names at the same places -/
inductive Sm : List PL → List T → Prop
  | nil : Sm [] []
  | nam {z : Str} {pl : List PL} {ts : List T} : Sm pl ts → Sm (.nam z :: pl) (.nam z :: ts)
  | cod {w d : Int} {z : Str} {t : T} {pl : List PL} {ts : List T} : t.pl = .cod 0 "" 0 → Sm pl ts → Sm (.cod w z d :: pl) (t :: ts)
theorem Sm.same {pl : List PL} {ts : List T} (h : Sm pl ts) : plN pl = tN ts ∧ (plW pl).length = (plW (ts.map T.pl)).length ∧ (∀ n : Int, plP n pl = plP n (ts.map T.pl)) ∧ pl.length = ts.length := by
  induction h with
  | nil => exact ⟨rfl, rfl, fun _ => rfl, rfl⟩
  | nam h ih =>
    obtain ⟨a, b, c, d⟩ := ih
    exact ⟨congrArg (_ :: ·) a, b, fun n => congrArg (_ :: ·) (c n), congrArg (· + 1) d⟩
  | @cod w d z t pl ts e h ih =>
    obtain ⟨a, b, c, d⟩ := ih
    have e1 : (t :: ts).map T.pl = .cod 0 "" 0 :: ts.map T.pl := by rw [List.map_cons, e]
    refine ⟨?_, ?_, fun n => ?_, congrArg (· + 1) d⟩
    · show plN pl = plN ((t :: ts).map T.pl); rw [e1]; exact a
    · rw [e1]; exact congrArg (· + 1) b
    · rw [e1]; exact c (n + 1)
theorem named_loop {x0 x1 : D} {N K : List Str} (hK : KN N K) (hN : ∀ n ∈ N, Nm n) : ∀ (pl : List PL), (∀ x ∈ pl, x.ok) → ∀ (acc : List Str) (a b c : D), acc.length + pl.length < mx →
    ∃ (ts : List T) (a' b' c' : D), Sm pl ts ∧ (∀ t ∈ ts, t.wf N) ∧ forL (bindT (.t [(.s 4), (.s 5)])) (exs t__law_named B__law_named_1) (pl.map PL.d) [x0, x1, .lst (acc.map .str), .lst (K.map .str), a, b, c] = .nx [x0, x1, .lst ((acc ++ ts.map T.text).map .str), .lst (K.map .str), a', b', c']
  | [], _, acc, a, b, c, _ => ⟨[], a, b, c, .nil, (fun _ m => nomatch m), by rw [List.map_nil (f := T.text), List.append_nil]; rfl⟩
  | .nam z :: pl, h, acc, a, b, c, hl => by
    have hz : Nm z := h _ List.mem_cons_self
    simp at hl
    have e := named_nam (x0 := x0) (x1 := x1) (x3 := .lst (K.map .str)) (p6 := c) hz (acc := acc) (by omega)
    obtain ⟨ts, a', b', c', ht, hw, e2⟩ := named_loop hK hN pl (fun x m => h x (List.mem_cons_of_mem _ m)) (acc ++ [z ++ ":"]) (.str (z ++ ":")) .non (.lst [.str (z ++ ":")]) (by simp; omega)
    refine ⟨.nam z :: ts, a', b', c', .nam ht, fun t m => ?_, ?_⟩
    · rcases List.mem_cons.mp m with rfl | m
      · exact hz
      · exact hw t m
    have ea : acc ++ (T.nam z :: ts).map T.text = acc ++ [z ++ ":"] ++ ts.map T.text := by simp [T.text]
    rw [ea, ← e2]
    exact forL_one (ρ1 := [x0, x1, .lst (acc.map .str), .lst (K.map .str), .str (z ++ ":"), .non, c]) rfl e
  | .cod w z d :: pl, h, acc, a, b, c, hl => by
    obtain ⟨hz, hd⟩ : LineW w z ∧ 0 ≤ d := h _ List.mem_cons_self
    simp at hl
    obtain ⟨t, y6, ht0, et, e⟩ := named_line (x0 := x0) (x1 := x1) hK hN hz hd (acc := acc) (by omega) c
    obtain ⟨ts, a', b', c', ht, hw, e2⟩ := named_loop hK hN pl (fun x m => h x (List.mem_cons_of_mem _ m)) (acc ++ [t.text]) (.str z) (.int d) y6 (by simp; omega)
    refine ⟨t :: ts, a', b', c', .cod et ht, fun t' m => ?_, ?_⟩
    · rcases List.mem_cons.mp m with rfl | m
      · exact ht0
      · exact hw t' m
    have ea : acc ++ (t :: ts).map T.text = acc ++ [t.text] ++ ts.map T.text := by simp
    rw [ea, ← e2]
    exact forL_one (ρ1 := [x0, x1, .lst (acc.map .str), .lst (K.map .str), .str z, .int d, c]) rfl e
end K11

set_option Elab.async false
set_option linter.all false
set_option maxRecDepth 100000
namespace K11
open PySem L2 My
theorem plN_nm {pl : List PL} (h : ∀ x ∈ pl, x.ok) : ∀ z ∈ plN pl, Nm z := by
  induction pl with
  | nil => intro z m; cases m
  | cons y pl ih =>
    intro z m
    have ih := ih fun x m => h x (List.mem_cons_of_mem _ m)
    cases y with
    | nam z0 =>
      rcases List.mem_cons.mp m with rfl | m
      · exact h _ List.mem_cons_self
      · exact ih z m
    | cod w z0 d => exact ih z m
theorem ndpL_names : ∀ (n : Nat) (K : List Str), (∀ z ∈ K, Nm z) → ndpL n (K.map D.str) = true
  | n, [], _ => by cases n <;> rfl
  | n, z :: K, h => by
    have e1 : ndp n (.str z) = true := by
      have := (h z List.mem_cons_self).ok
      cases n <;> exact this
    have e2 := ndpL_names n K fun x m => h x (List.mem_cons_of_mem _ m)
    show (ndp n (.str z) && ndpL n (K.map D.str)) = true
    rw [e1, e2]; rfl
theorem kn_of {pl : List PL} (h : ∀ x ∈ pl, x.ok) : KN (plN pl) (srtS (plN pl)) := by
  have mem : ∀ n, n ∈ srtS (plN pl) → n ∈ plN pl := fun n m => (List.mergeSort_perm (plN pl) leX).mem_iff.mp m
  refine ⟨⟨!(srtS (plN pl)).isEmpty, ?_, fun e => ?_⟩, mem⟩
  · have n1 := ndpL_names 59 (srtS (plN pl)) fun z m => plN_nm h z (mem z m)
    have n2 : ndp 60 (.lst ((srtS (plN pl)).map .str)) = true := n1
    show (if eqOk (.lst ((srtS (plN pl)).map .str)) (.lst []) = true then some (!deq (.lst ((srtS (plN pl)).map .str)) (.lst [])) else none) = _
    have : eqOk (.lst ((srtS (plN pl)).map .str)) (.lst []) = true := by
      show (ndp 60 (.lst ((srtS (plN pl)).map .str)) && ndp 60 (.lst [])) = true
      rw [n2]; rfl
    rw [if_pos this]
    cases srtS (plN pl) <;> rfl
  · intro z
    rw [z] at e
    cases e
theorem keys_pl (n : Int) (pl : List PL) : keysV (.dct (plP n pl)) = some (.lst ((plN pl).map .str)) := by
  show some (D.lst ((plP n pl).map fun p => keyD p.1)) = _
  have : (plP n pl).map (fun p => keyD p.1) = ((plP n pl).map (·.1)).map keyD := by rw [List.map_map]; rfl
  rw [this, plP_keys, List.map_map]; rfl
theorem plN_le (a : List PL) : (plN a).length ≤ a.length := by
  induction a with
  | nil => exact Nat.le_refl _
  | cons y a ih => cases y with
    | nam _ => show (plN a).length + 1 ≤ a.length + 1; omega
    | cod _ _ _ => show (plN a).length ≤ a.length + 1; omega
theorem srt_of {xs : List Str} (h : xs.length < 64) : srtV (.lst (xs.map .str)) = some (.lst ((srtS xs).map .str)) := by
  show ((allStrs (xs.map D.str)).bind fun xs => if xs.length < 64 then some (D.lst ((srtS xs).map .str)) else none) = _
  rw [allStrs_map]
  exact if_pos h
/-- the told lines of a program -/
theorem w_named {pl : List PL} (h : ∀ x ∈ pl, x.ok) (hl : pl.length ≤ 60) : ∃ ts, Sm pl ts ∧ (∀ t ∈ ts, t.wf (plN pl)) ∧ m__law_named [.lst (pl.map PL.d), .dct (plP 0 pl)] = .ret (.lst ((ts.map T.text).map .str)) := by
  obtain ⟨ts, a, b, c, ht, hw, e⟩ := named_loop (x0 := .lst (pl.map PL.d)) (x1 := .dct (plP 0 pl)) (kn_of h) (plN_nm h) pl h [] .non .non .non (by rw [emx]; simp; omega)
  refine ⟨ts, ht, hw, ?_⟩
  have k1 := keys_pl 0 pl
  have lN := plN_le pl
  have k2 := srt_of (xs := plN pl) (by omega)
  rw [List.nil_append] at e
  have en : ([] : List Str).map D.str = [] := rfl
  rw [en] at e
  generalize (plN pl).map D.str = NN at *
  generalize (srtS (plN pl)).map D.str = KK at *
  have lm : pl.length ≤ mx := by rw [emx]; omega
  generalize pl.map PL.d = L at *
  generalize plP 0 pl = P at *
  generalize (ts.map T.text).map D.str = Z at *
  simp -implicitDefEqProofs [m__law_named, b__law_named, runR_eq, k1, k2, e]
/-! told lines, read -/
theorem T.pl_ok (N : List Str) : ∀ ts : List T, (∀ t ∈ ts, t.wf N) → ∀ z ∈ tN ts, Nm z
  | [], _, z, m => nomatch m
  | t :: ts, h, z, m => by
    have ih := T.pl_ok N ts fun x m => h x (List.mem_cons_of_mem _ m)
    cases t with
    | nam y =>
      rcases List.mem_cons.mp m with rfl | m
      · exact h _ List.mem_cons_self
      · exact ih z m
    | _ => exact ih z m
theorem adr_of {ts : List T} {n : Str} (h : n ∈ tN ts) : getK (.inr n) (tP ts) = some (.int (adr (tP ts) n)) ∧ 0 ≤ adr (tP ts) n ∧ adr (tP ts) n ≤ (plW (ts.map T.pl)).length := by
  have mk : (.inr n : Key) ∈ (tP ts).map (·.1) := by unfold tP; rw [plP_keys]; exact List.mem_map_of_mem h
  obtain ⟨v, e1, e2⟩ := getK_some mk
  obtain ⟨i, rfl, h0, h1⟩ := plP_val 0 _ _ _ e2
  have : adr (tP ts) n = i := by unfold adr; rw [e1]
  rw [this]
  exact ⟨e1, h0, by omega⟩
theorem pk_of {ts : List T} {N : List Str} (h : ∀ t ∈ ts, t.wf N) : PK (tP ts) := fun n hs => by
  by_cases m : (.inr n : Key) ∈ (tP ts).map (·.1)
  · unfold tP at m
    rw [plP_keys] at m
    obtain ⟨y, hy, e⟩ := List.mem_map.mp m
    injection e with e
    rw [← e]
    exact T.pl_ok N ts h y hy
  · rw [getK_none m] at hs; cases hs
theorem lineT_of {ts : List T} {t : T} {N : List Str} (hw : ∀ t ∈ ts, t.wf N) (hP : PK (tP ts)) (hl : ts.length ≤ 1000) (h : t.wf (tN ts)) (hn : t.pl = .cod 0 "" 0) : ∃ w, t.w (tP ts) = [w] ∧ LineT (tP ts) w t.text := by
  cases t with
  | nam z => cases hn
  | row p nm fs is =>
    obtain ⟨⟨txt, f⟩, hp⟩ := h
    exact ⟨_, rfl, line_row f hp⟩
  | wrd w => exact ⟨_, rfl, line_word h⟩
  | put p nm gs js n =>
    obtain ⟨⟨txt, f⟩, c2, hp, nN⟩ := h
    obtain ⟨hg, h0, h1⟩ := adr_of nN
    have := plW_le (ts.map T.pl)
    rw [List.length_map] at this
    exact ⟨_, rfl, line_named hP f c2 hp (hp.snoc h0 (by show _ < (65536 : Int); omega)) hg⟩
theorem tds_of {as ts : List T} {N : List Str} (hw : ∀ t ∈ as, t.wf N) (hP : PK (tP as)) (hl : as.length ≤ 1000) (h : ∀ t ∈ ts, t.wf (tN as)) : Tds (tP as) (ts.map T.pl) (ts.map T.text) (tW (tP as) ts) := by
  induction ts with
  | nil => exact .nil
  | cons t ts ih =>
    have ih := ih fun x m => h x (List.mem_cons_of_mem _ m)
    have ht := h t List.mem_cons_self
    have key : t.pl = .cod 0 "" 0 → Tds (tP as) ((t :: ts).map T.pl) ((t :: ts).map T.text) (tW (tP as) (t :: ts)) := fun e => by
      obtain ⟨w, e1, l⟩ := lineT_of hw hP hl ht e
      have e2 : tW (tP as) (t :: ts) = w :: tW (tP as) ts := by unfold tW; rw [List.flatMap_cons, e1]; rfl
      rw [List.map_cons, List.map_cons, e, e2]
      exact .cod l ih
    cases t with
    | nam z =>
      have e2 : tW (tP as) (.nam z :: ts) = tW (tP as) ts := rfl
      rw [e2]
      exact .nam ht ih
    | row p nm fs is => exact key rfl
    | put p nm gs js n => exact key rfl
    | wrd w => exact key rfl
theorem Tds.len {P : List (Key × D)} {pl : List PL} {zs : List Str} {ws : List Int} (h : Tds P pl zs ws) : zs.length = pl.length ∧ ws.length = (plW pl).length := by
  induction h with
  | nil => exact ⟨rfl, rfl⟩
  | nam _ _ ih => exact ⟨congrArg (· + 1) ih.1, ih.2⟩
  | cod _ _ ih => exact ⟨congrArg (· + 1) ih.1, congrArg (· + 1) ih.2⟩
end K11

set_option Elab.async false
set_option linter.all false
set_option maxRecDepth 100000
namespace K11
open PySem L2 My
/-! told lines are read -/
inductive Its (P : List (Key × D)) : List Int → List D → Prop
  | nil : Its P [] []
  | cons {w k : Int} {it : D} {ws : List Int} {ts : List D} : (m_name_in [it] = .ret .non ∨ ∃ n, m_name_in [it] = .ret (.str n) ∧ (getK (.inr n) P).isSome = true) → m_word_of [it, .dct P] = .ret (.int w) → Its P ws ts → Its P (w :: ws) (.tup [.int k, it] :: ts)
theorem Its.len {P : List (Key × D)} {ws : List Int} {ts : List D} (h : Its P ws ts) : ts.length = ws.length := by
  induction h with
  | nil => rfl
  | cons _ _ _ ih => simp [ih]
theorem read_step {P Q : List (Key × D)} {w : Int} {z : Str} (h : LineT P w z) {L a b : D} {k : Int} {its : List D} (hl : its.length < mx) : ∃ (it a' b' : D), (m_name_in [it] = .ret .non ∨ ∃ n, m_name_in [it] = .ret (.str n) ∧ (getK (.inr n) P).isSome = true) ∧ m_word_of [it, .dct P] = .ret (.int w) ∧
    exs t_items_in B_items_in_1 [L, .lst its, .dct Q, .int k, .str z, a, b] = .nx [L, .lst (its ++ [.tup [.int k, it]]), .dct Q, .int k, .str z, a', b'] := by
  obtain ⟨it, n1, n2, e1, e2, e3⟩ := h.it
  have hz := h.len
  have hm : z.length ≤ mx := by rw [emx]; omega
  have hm2 : z.length + 2 ≤ mx := by rw [emx]; omega
  have s1 := slc_str hm none (some (-1))
  have s2 := slc_str hm (some (-1)) none
  have q := no_colon h.f58 (some (-1)) none
  have s3 := splt_of (x := " ") (by decide +kernel) hm2
  have q2 : dIs it .non = some false := by
    show (if isHole it then none else some (My.isNon it)) = _
    rw [n2, n1]; rfl
  refine ⟨it, .str ⟨(cut (tl z) none (some (-1))).toArray⟩, it, e2, e3, ?_⟩
  generalize (Txt.split z " ").map D.str = W at *
  generalize (⟨(cut (tl z) none (some (-1))).toArray⟩ : Str) = A at *
  generalize (⟨(cut (tl z) (some (-1)) none).toArray⟩ : Str) = B at *
  simp -implicitDefEqProofs [B_items_in_1, s1, s2, q, s3, e1, q2, hl]
theorem cut_lastone {α : Type} (xs : List α) (x : α) : cut (xs ++ [x]) (some (-1)) none = [x] := by
  unfold cut HT.sIx
  dsimp only
  rw [if_pos (by decide)]
  have e3 : (-1 + ((xs.length : Int) + 1)).toNat = xs.length := by omega
  simp [e3]
theorem name_step {Q : List (Key × D)} {z : Str} (h : Nm z) {L a b : D} {k : Int} {its : List D} (hn : (.inr z : Key) ∉ Q.map (·.1)) (hl : Q.length < mx) : ∃ a' b', exs t_items_in B_items_in_1 [L, .lst its, .dct Q, .int k, .str (z ++ ":"), a, b] = .nx [L, .lst its, .dct (Q ++ [(.inr z, .int (its.length : Int))]), .int k, .str (z ++ ":"), a', b'] := by
  have hz := nm_len9 h
  have hm : (z ++ ":").length ≤ mx := by rw [emx]; omega
  have s1 := slc_str hm none (some (-1))
  have s2 := slc_str hm (some (-1)) none
  rw [tl_colon, cut_last, List.dropLast_concat] at s1
  rw [tl_colon, cut_lastone] at s2
  have ez : (⟨(tl z).toArray⟩ : Str) = z := ext_tl rfl
  rw [ez] at s1
  have q : dCmp .eq (.str ⟨[58].toArray⟩) (.str ":") = some true := by decide +kernel
  have pl := h.place
  have ni : dIn (.str z) (.dct Q) = some false := by
    show some ((getK (.inr z) Q).isSome) = _
    rw [getK_none hn]; rfl
  have hset : mutV .setI [.str z, .int (its.length : Int)] (.dct Q) = some (.dct (Q ++ [(.inr z, .int (its.length : Int))])) := by
    show (if Q.length < mx then some (D.dct (putD (.inr z) (.int (its.length : Int)) Q)) else none) = _
    rw [if_pos hl, putD_new hn]
  refine ⟨.str z, b, ?_⟩
  generalize z ++ ":" = Z at *
  generalize (⟨[58].toArray⟩ : Str) = B at *
  have bl : biV .len [.lst its] = some (.int (its.length : Int)) := rfl
  generalize (its.length : Int) = IL at *
  simp -implicitDefEqProofs [B_items_in_1, s1, s2, q, pl, ni, bl, hset]
theorem Tds.items {P : List (Key × D)} {pl : List PL} {zs : List Str} {ws : List Int} (h : Tds P pl zs ws) {L : D} : ∀ (k : Int) (its : List D) (Q : List (Key × D)) (a b c d : D), its.length + ws.length < mx → Q.length + pl.length < mx → (plN pl).Nodup → (∀ z ∈ plN pl, (.inr z : Key) ∉ Q.map (·.1)) →
    ∃ (ts : List D) (a' b' c' d' : D), Its P ws ts ∧
    forL (bindT (.t [.s 3, .s 4])) (exs t_items_in B_items_in_1) (enumFrom k (zs.map .str)) [L, .lst its, .dct Q, a, b, c, d] = .nx [L, .lst (its ++ ts), .dct (Q ++ plP (its.length : Int) pl), a', b', c', d'] := by
  induction h with
  | nil => exact fun k its Q a b c d _ _ _ _ => ⟨[], a, b, c, d, .nil, by rw [List.append_nil]; show RS.nx _ = RS.nx [L, .lst its, .dct (Q ++ []), a, b, c, d]; rw [List.append_nil]⟩
  | @nam z pl zs ws hz _ ih =>
    intro k its Q a b c d hl hq nd hn
    obtain ⟨nz, nd⟩ := List.nodup_cons.mp (show (z :: plN pl).Nodup from nd)
    simp at hq
    obtain ⟨a1, b1, e1⟩ := name_step hz (L := L) (a := c) (b := d) (k := k) (its := its) (hn z List.mem_cons_self) (by omega)
    obtain ⟨ts, a2, b2, c2, d2, i3, e2⟩ := ih (k + 1) its (Q ++ [(.inr z, .int (its.length : Int))]) (.int k) (.str (z ++ ":")) a1 b1 hl (by simp; omega) nd (fun y m m2 => by
      rw [List.map_append] at m2
      rcases List.mem_append.mp m2 with m2 | m2
      · exact hn y (List.mem_cons_of_mem _ m) m2
      · have := List.mem_singleton.mp m2
        injection this with this
        subst this
        exact nz m)
    refine ⟨ts, a2, b2, c2, d2, i3, ?_⟩
    have ez : enumFrom k (((z ++ ":") :: zs).map D.str) = .tup [.int k, .str (z ++ ":")] :: enumFrom (k + 1) (zs.map .str) := rfl
    have eq : Q ++ plP (its.length : Int) (.nam z :: pl) = Q ++ [(.inr z, .int (its.length : Int))] ++ plP (its.length : Int) pl := by simp [plP]
    rw [ez, eq, ← e2]
    exact forL_one (ρ1 := [L, .lst its, .dct Q, .int k, .str (z ++ ":"), c, d]) rfl e1
  | @cod w w' d0 z z' pl zs ws hz _ ih =>
    intro k its Q a b c d hl hq nd hn
    simp at hl hq
    obtain ⟨it, a1, b1, i1, i2, e⟩ := read_step hz (Q := Q) (L := L) (a := c) (b := d) (k := k) (its := its) (by omega)
    obtain ⟨ts, a2, b2, c2, d2, i3, e2⟩ := ih (k + 1) (its ++ [.tup [.int k, it]]) Q (.int k) (.str z') a1 b1 (by simp; omega) (by omega) nd hn
    refine ⟨.tup [.int k, it] :: ts, a2, b2, c2, d2, .cons i1 i2 i3, ?_⟩
    have ez : enumFrom k ((z' :: zs).map D.str) = .tup [.int k, .str z'] :: enumFrom (k + 1) (zs.map .str) := rfl
    have ea : its ++ (.tup [.int k, it] :: ts) = its ++ [.tup [.int k, it]] ++ ts := by simp
    have el : ((its ++ [D.tup [.int k, it]]).length : Int) = (its.length : Int) + 1 := by simp
    rw [el] at e2
    rw [ez, ea]
    show _ = RS.nx [L, _, .dct (Q ++ plP ((its.length : Int) + 1) pl), _, _, _, _]
    rw [← e2]
    exact forL_one (ρ1 := [L, .lst its, .dct Q, .int k, .str z', c, d]) rfl e
theorem Its.names {P : List (Key × D)} {ws : List Int} {ts : List D} (h : Its P ws ts) {x0 x1 : D} : ∀ a b c : D, ∃ a' b' c', forL (bindT (.t [.s 3, .s 4])) (exs t_read_code B_read_code_1) ts [x0, x1, .dct P, a, b, c] = .nx [x0, x1, .dct P, a', b', c'] := by
  induction h with
  | nil => exact fun a b c => ⟨a, b, c, rfl⟩
  | @cons w k it ws ts h1 h2 _ ih =>
    intro a b c
    rcases h1 with h1 | ⟨n, h1, hs⟩
    · obtain ⟨a', b', c', e⟩ := ih (.int k) it .non
      refine ⟨a', b', c', ?_⟩
      rw [← e]
      exact forL_one (ρ1 := [x0, x1, .dct P, .int k, it, c]) rfl (by simp -implicitDefEqProofs [B_read_code_1, h1])
    · obtain ⟨a', b', c', e⟩ := ih (.int k) it (.str n)
      refine ⟨a', b', c', ?_⟩
      rw [← e]
      have q : dIs (.str n) .non = some false := rfl
      have q2 : dIn (.str n) (.dct P) = some true := by
        show some ((getK (.inr n) P).isSome) = _
        rw [hs]
      exact forL_one (ρ1 := [x0, x1, .dct P, .int k, it, c]) rfl (by simp -implicitDefEqProofs [B_read_code_1, h1, q, q2])
theorem Its.comp {P : List (Key × D)} {ws : List Int} {ts : List D} (h : Its P ws ts) {x0 x1 x5 : D} : ∀ a b : D, compR t_read_code (.call 2 [(.var 4), (.var 2)]) (.t [(.s 3), (.s 4)]) none [x0, x1, .dct P, a, b, x5] ts = some (ws.map .int) := by
  induction h with
  | nil => exact fun a b => rfl
  | @cons w k it ws ts h1 h2 _ ih =>
    intro a b
    rw [compR_yes (ρ1 := [x0, x1, .dct P, .int k, it, x5]) (y := .int w) rfl rfl (by simp [h2]), ih]; rfl
theorem Tds.f10 {P : List (Key × D)} {pl : List PL} {zs : List Str} {ws : List Int} (h : Tds P pl zs ws) : ∀ z ∈ zs, 10 ∉ tl z ∧ tl z ≠ [] ∧ z.length ≤ 60 := by
  induction h with
  | nil => intro z m; cases m
  | nam a _ ih =>
    intro z m
    rcases List.mem_cons.mp m with rfl | m
    · have := nm_len9 a
      exact ⟨nm_no a (by omega) (by omega), by rw [tl_colon]; simp, by omega⟩
    · exact ih z m
  | cod a _ ih =>
    intro z m
    rcases List.mem_cons.mp m with rfl | m
    · exact ⟨a.f10, a.ne, a.len⟩
    · exact ih z m
theorem sum_le {zs : List Str} (h : ∀ z ∈ zs, z.length ≤ 60) : (zs.map (·.length)).sum ≤ 60 * zs.length := by
  induction zs with
  | nil => exact Nat.le_refl _
  | cons z zs ih =>
    have a := ih fun x m => h x (List.mem_cons_of_mem _ m)
    have b := h z List.mem_cons_self
    rw [List.map_cons, List.sum_cons, List.length_cons]; omega
theorem nl1 : (("\n" : Str)).length = 1 := rfl
theorem Tds.join {P : List (Key × D)} {pl : List PL} {zs : List Str} {ws : List Int} (h : Tds P pl zs ws) (hl : pl.length ≤ 200) : joinV "\n" (.lst (zs.map .str)) = some (.str (Txt.join "\n" zs)) := by
  refine join_of ?_
  have a := sum_le fun z m => (h.f10 z m).2.2
  have b := h.len.1
  rw [nl1]; omega
/-- what was told is read -/
theorem Tds.read {pl : List PL} {zs : List Str} {ws : List Int} (h : Tds (plP 0 pl) pl zs ws) (nd : (plN pl).Nodup) (hl : pl.length ≤ 200) : m_read_code [.str (Txt.join "\n" zs)] = .ret (.lst (ws.map .int)) := by
  obtain ⟨hz, hw⟩ := h.len
  have hwl := plW_le pl
  cases hzs : zs with
  | nil =>
    have hp : pl = [] := List.eq_nil_of_length_eq_zero (by rw [← hz, hzs]; rfl)
    have hw0 : ws = [] := List.eq_nil_of_length_eq_zero (by rw [hw, hp]; rfl)
    subst hw0
    have j0 : Txt.join "\n" [] = ("" : Str) := by rfl
    have q : dCmp .eq (.str "") (.str "") = some true := by decide +kernel
    have e1 : biV (.isi [.str]) [.str ""] = some (.bl true) := rfl
    rw [j0]
    simp -implicitDefEqProofs [m_read_code, b_read_code, runR_eq, q, e1]
  | cons z0 zr =>
    have hne : zs ≠ [] := by rw [hzs]; simp
    have n0 : tl (Txt.join "\n" zs) ≠ [] := by
      have := (h.f10 z0 (by rw [hzs]; exact List.mem_cons_self)).2.1
      rw [hzs]
      exact join_ne this
    have q : dCmp .eq (.str (Txt.join "\n" zs)) (.str "") = some false := ne_eq fun e => n0 (by rw [e]; rfl)
    have e1 : biV (.isi [.str]) [.str (Txt.join "\n" zs)] = some (.bl true) := rfl
    have sm := sum_le fun z m => (h.f10 z m).2.2
    have jl : (Txt.join "\n" zs).length + 2 ≤ mx := by
      rw [join_len, nl1, emx]; omega
    have s3 := splt_of (z := Txt.join "\n" zs) (x := "\n") (by decide +kernel) jl
    rw [spl_nl hne fun z m => (h.f10 z m).1] at s3
    obtain ⟨ts, a1, b1, c1, d1, hi, e2⟩ := h.items (L := .lst (zs.map .str)) 0 [] [] .non .non .non .non (by rw [emx]; simp; omega) (by rw [emx]; simp; omega) nd (fun z _ m => by simp at m)
    have tlen := hi.len
    rw [List.nil_append, List.nil_append] at e2
    have e0 : (([] : List D).length : Int) = 0 := rfl
    rw [e0] at e2
    have e3 : m_items_in [.lst (zs.map .str)] = .ret (.tup [.lst ts, .dct (plP 0 pl)]) := by
      generalize zs.map D.str = W at *
      simp -implicitDefEqProofs [m_items_in, b_items_in, runR_eq, dc0, e2]
    obtain ⟨a2, b2, c2, e4⟩ := hi.names (x0 := .str (Txt.join "\n" zs)) (x1 := .lst ts) .non .non .non
    have e5 := hi.comp (x0 := .str (Txt.join "\n" zs)) (x1 := .lst ts) (x5 := c2) a2 b2
    have k1 : ¬ (256 : Int) < (ts.length : Int) := by omega
    have k2 : ts.length ≤ mx := by rw [emx]; omega
    rw [← hzs]
    generalize Txt.join "\n" zs = J at *
    generalize zs.map D.str = W at *
    generalize plP 0 pl = P at *
    simp -implicitDefEqProofs [m_read_code, b_read_code, runR_eq, q, e1, s3, e3, e4, e5, g_MOST_WORDS, k1, k2]
/-- told lines are read -/
theorem T.read {ts : List T} (h : ∀ t ∈ ts, t.wf (tN ts)) (nd : (tN ts).Nodup) (hl : ts.length ≤ 200) : m_read_code [.str (Txt.join "\n" (ts.map T.text))] = .ret (.lst ((tW (tP ts) ts).map .int)) :=
  (tds_of h (pk_of h) (by omega) h).read nd (by rw [List.length_map]; exact hl)
theorem T.join {ts : List T} (h : ∀ t ∈ ts, t.wf (tN ts)) (hl : ts.length ≤ 200) : joinV "\n" (.lst ((ts.map T.text).map .str)) = some (.str (Txt.join "\n" (ts.map T.text))) :=
  (tds_of h (pk_of h) (by omega) h).join (by rw [List.length_map]; exact hl)
end K11

set_option Elab.async false
set_option linter.all false
set_option maxRecDepth 100000
namespace K11
open PySem L2 My
/-! a told line's words -/
def T.hd : T → Str
  | .nam z => z ++ ":"
  | .row _ nm _ _ => nm
  | .put _ nm _ _ _ => nm
  | .wrd _ => "word"
def T.tail : T → List Str
  | .nam _ => []
  | .row _ _ fs is => lw fs is
  | .put _ _ gs js n => lw gs js ++ [n]
  | .wrd w => [num w]
structure TL (t : T) : Prop where
  len : t.text.length ≤ 60
  ne : tl t.text ≠ []
  f58 : 58 ∉ tl t.text
  spl : Txt.split t.text " " = t.hd :: t.tail
  join : joinV " " (.lst ((t.hd :: t.tail).map .str)) = some (.str t.text)
  hal : Al t.hd
theorem join_word {w : Int} (h : ok w) : joinV " " (.lst ([("word" : Str), num w].map .str)) = some (.str ("word " ++ num w)) := by
  have e : Txt.join " " [("word" : Str), num w] = "word " ++ num w := by
    refine ext_tl ?_
    rw [tl_join, tl_app]
    have e : tl ("word " : Str) = tl ("word" : Str) ++ [32] := by decide +kernel
    rw [e, t32, List.append_assoc]; rfl
  rw [← e]
  have hn := num_len2 (k := 10) (by decide) h.1 (show w < 10 ^ 10 by have := h.2; omega)
  have l4 : (("word" : Str)).length = 4 := rfl
  refine join_of ?_
  rw [sp_len]
  simp only [List.map_cons, List.map_nil, List.sum_cons, List.sum_nil, List.length_cons, List.length_nil]
  rw [l4]; omega
theorem T.tl {t : T} {N : List Str} (h : t.wf N) (hN : ∀ n ∈ N, Nm n) (hn : t.pl = .cod 0 "" 0) : TL t := by
  cases t with
  | nam z => cases hn
  | row p nm fs is =>
    obtain ⟨⟨txt, f⟩, hp⟩ := h
    have L := line_row (P := []) f hp
    have al := al_words f hp
    have n32 : ∀ x ∈ words nm fs is, 32 ∉ K11.tl x := fun x m => al_no (al x m) (by omega)
    exact ⟨L.len, L.ne, L.f58, spl_sp (ps := words nm fs is) (by unfold words; simp) n32, (words_ok f hp).1, al_rw f.me⟩
  | wrd w =>
    have L := line_word (P := []) h
    exact ⟨L.len, L.ne, L.f58, word_split h, join_word h, fun c m => by
      have key : ∀ c ∈ K11.tl ("word" : Str), 97 ≤ c := by decide +kernel
      exact .inl (key c m)⟩
  | put p nm gs js n =>
    obtain ⟨⟨txt, f⟩, c2, hp, nN⟩ := h
    have hNm := hN n nN
    have al := mem_wordsN f hp hNm
    have n32 : ∀ x ∈ wordsN nm gs js n, 32 ∉ K11.tl x := fun x m => al_no (al x m) (by omega)
    have no : ∀ c, (c < 48 ∨ (57 < c ∧ c < 97)) → c ≠ 32 → c ∉ K11.tl (Txt.join " " (wordsN nm gs js n)) := fun c hc n m => by
      rcases mem_join m with m | ⟨x, hx, m⟩
      · rw [t32] at m; exact n (List.mem_singleton.mp m)
      · exact al_no (al x hx) hc m
    have nn : K11.tl nm ≠ [] := by
      have key : ∀ y ∈ RW, K11.tl y ≠ [] := by decide +kernel
      exact key nm f.me
    obtain ⟨len, j⟩ := lineN_len f hp hNm
    exact ⟨len, join_ne nn, no 58 (by omega) (by omega), spl_sp (by unfold wordsN; simp) n32, j, al_rw f.me⟩
/-- the colon behind it -/
theorem TL.noc {t : T} (h : TL t) : ∃ c, dIdx (.str t.text) (.int (-1)) = some (.str ⟨#[c]⟩) ∧ dCmp .ne (.str ⟨#[c]⟩) (.str ":") = some true ∧ dCmp .eq (.str ⟨#[c]⟩) (.str ":") = some false := by
  obtain ⟨c0, m0, hx⟩ := last_sign h.ne (by have := h.len; rw [emx]; omega)
  refine ⟨c0, hx, not_colon h.f58 m0, ?_⟩
  have := not_colon h.f58 m0
  refine ne_eq fun e => ?_
  rw [e] at this
  exact absurd this (by decide +kernel)
theorem nam_colon {z : Str} (h : Nm z) : dIdx (.str (z ++ ":")) (.int (-1)) = some (.str ⟨#[58]⟩) ∧ dCmp .ne (.str ⟨#[58]⟩) (.str ":") = some false ∧ dCmp .eq (.str ⟨#[58]⟩) (.str ":") = some true := by
  have l9 := nm_len9 h
  exact ⟨idx_sign (by rw [emx]; omega) (by rw [tl_colon]; exact atI_last), by decide +kernel, by decide +kernel⟩
theorem pt_n (i : Int) : pt .n i = num i := by
  refine ext_tl ?_
  show K11.tl (("" : Str) ++ num i) = _
  rw [tl_app]; rfl
theorem mem_lw {fs : List Lt} {is : List Int} (h : Parts fs is) : ∀ x ∈ lw fs is, ∃ l i, x = pt l i ∧ 0 ≤ i := by
  induction h with
  | nil => intro x m; cases m
  | @cons l i fs is h0 _ _ ih =>
    intro x m
    rcases List.mem_cons.mp m with rfl | m
    · exact ⟨l, i, rfl, h0⟩
    · exact ih x m
/-- a word that is a name, its address and some more in its stead -/
def sub (P : List (Key × D)) (more : Int) (x : Str) : Str := match getK (.inr x) P with | some (.int a) => num (a + more) | _ => x
theorem sub_lw {P : List (Key × D)} (hP : PK P) {more : Int} {fs : List Lt} {is : List Int} (h : Parts fs is) : (lw fs is).map (sub P more) = lw fs is := by
  refine (List.map_congr_left fun x m => ?_).trans (List.map_id _)
  obtain ⟨l, i, rfl, h0⟩ := mem_lw h x m
  unfold sub
  rw [hP.pt l h0]; rfl
theorem num_str {v : Int} (h0 : 0 ≤ v) (h1 : v < 4294967296) : biV .str [.int v] = some (.str (num v)) := by
  have := (num_len h0 h1).1
  exact if_pos this
theorem cut_head {x : D} {xs : List D} : cut (x :: xs) none (some 1) = [x] := by
  unfold cut HT.sIx
  dsimp only
  simp
theorem sub_comp {P : List (Key × D)} {more : Int} (hm : 0 ≤ more ∧ more ≤ 1) (hV : ∀ k v, (k, v) ∈ P → ∃ i : Int, v = .int i ∧ 0 ≤ i ∧ i ≤ 1000) {x0 x3 x4 x5 x6 x7 : D} (xs : List Str) :
    compR t__law_numbered (.ife (.cmp .inn (.var 7) (.var 1)) (.bi .str [(.bin .add (.idx (.var 1) (.var 7)) (.var 2))]) (.var 7)) (.s 7) none [x0, .dct P, .int more, x3, x4, x5, x6, x7] (xs.map .str) = some ((xs.map (sub P more)).map .str) := by
  rw [List.map_map]
  refine compR_all (fun x : Str => D.str x) (D.str ∘ sub P more) fun x _ => ?_
  refine ⟨_, rfl, rfl, ?_⟩
  have e0 : dIn (.str x) (.dct P) = some ((getK (.inr x) P).isSome) := rfl
  have e1 : dIdx (.dct P) (.str x) = getK (.inr x) P := rfl
  show _ = some (D.str (sub P more x))
  unfold sub
  cases eg : getK (.inr x) P with
  | none =>
    rw [eg] at e0 e1
    simp -implicitDefEqProofs [e0]
  | some v =>
    rw [eg] at e0 e1
    obtain ⟨u, eu, mu⟩ := getK_some (k := .inr x) (l := P) (by
      by_cases m : (.inr x : Key) ∈ P.map (·.1)
      · exact m
      · rw [getK_none m] at eg; cases eg)
    rw [eg] at eu
    cases eu
    obtain ⟨i, rfl, i0, i1⟩ := hV _ _ mu
    have es := num_str (v := i + more) (by omega) (by omega)
    simp -implicitDefEqProofs [e0, e1, es]
end K11

set_option Elab.async false
set_option linter.all false
set_option maxRecDepth 100000
namespace K11
open PySem L2 My
/-! numbers in the stead of names -/
def T.num (P : List (Key × D)) (more : Int) : T → List T
  | .nam _ => []
  | .put p nm gs js n => [.row p nm (gs ++ [Lt.n]) (js ++ [adr P n + more])]
  | t => [t]
theorem lw_snoc {gs : List Lt} {js : List Int} {v : Int} (h : Parts gs js) : lw (gs ++ [Lt.n]) (js ++ [v]) = lw gs js ++ [K11.num v] := by
  induction h with
  | nil => show [pt Lt.n v] = _; rw [pt_n]; rfl
  | @cons l i fs is _ _ _ ih => show pt l i :: lw (fs ++ [Lt.n]) (is ++ [v]) = _; rw [ih]; rfl
theorem sub_tail {P : List (Key × D)} (hP : PK P) {t : T} {N : List Str} {more : Int} (h : t.wf N) (hn : t.pl = .cod 0 "" 0) (hNP : ∀ n ∈ N, ∃ a : Int, getK (.inr n) P = some (.int a) ∧ 0 ≤ a ∧ a ≤ 1000) (hm : 0 ≤ more ∧ more ≤ 1) :
    ∃ t', T.num P more t = [t'] ∧ t'.wf [] ∧ t'.pl = .cod 0 "" 0 ∧ t'.hd = t.hd ∧ t'.tail = t.tail.map (sub P more) := by
  cases t with
  | nam z => cases hn
  | row p nm fs is => exact ⟨_, rfl, h, rfl, rfl, (sub_lw hP h.2).symm⟩
  | wrd w =>
    refine ⟨_, rfl, h, rfl, rfl, ?_⟩
    show [K11.num w] = [sub P more (K11.num w)]
    unfold sub
    rw [← pt_n, hP.pt .n h.1]
  | put p nm gs js n =>
    obtain ⟨hf, c2, hp, nN⟩ := h
    obtain ⟨a, e, a0, a1⟩ := hNP n nN
    have ea : adr P n = a := by unfold adr; rw [e]
    refine ⟨_, rfl, ⟨hf, hp.snoc (by rw [ea]; omega) (by rw [ea]; show a + more < (65536 : Int); omega)⟩, rfl, rfl, ?_⟩
    show lw (gs ++ [Lt.n]) (js ++ [adr P n + more]) = (lw gs js ++ [n]).map (sub P more)
    rw [lw_snoc hp, List.map_append, sub_lw hP hp]
    congr 1
    show [K11.num (adr P n + more)] = [sub P more n]
    unfold sub
    rw [e, ea]
theorem num_nam {z : Str} (h : Nm z) (x0 x1 x2 x3 a b c : D) : exs t__law_numbered B__law_numbered_1 [x0, x1, x2, x3, .str (z ++ ":"), a, b, c] = .nx [x0, x1, x2, x3, .str (z ++ ":"), a, b, c] := by
  obtain ⟨e1, e2, _⟩ := nam_colon h
  generalize z ++ ":" = Z at *
  simp -implicitDefEqProofs [B__law_numbered_1, e1, e2]
theorem num_line {P : List (Key × D)} (hP : PK P) (hV : ∀ k v, (k, v) ∈ P → ∃ i : Int, v = .int i ∧ 0 ≤ i ∧ i ≤ 1000) {t : T} {N : List Str} {more : Int} (h : t.wf N) (hn : t.pl = .cod 0 "" 0) (hNm : ∀ n ∈ N, Nm n) (hNP : ∀ n ∈ N, ∃ a : Int, getK (.inr n) P = some (.int a) ∧ 0 ≤ a ∧ a ≤ 1000) (hm : 0 ≤ more ∧ more ≤ 1)
    {acc : List Str} (hl : acc.length < mx) (x0 a b c : D) : ∃ (a' b' c' : D), exs t__law_numbered B__law_numbered_1 [x0, .dct P, .int more, .lst (acc.map .str), .str t.text, a, b, c] = .nx [x0, .dct P, .int more, .lst ((acc ++ (T.num P more t).map T.text).map .str), .str t.text, a', b', c'] := by
  have L := T.tl h hNm hn
  obtain ⟨t', en, hw', hn', eh, et⟩ := sub_tail hP h hn hNP hm
  have L' := T.tl hw' (fun n m => nomatch m) hn'
  obtain ⟨c0, q1, q2, _⟩ := L.noc
  have s3 := splt_of (z := t.text) (x := " ") (by decide +kernel) (by have := L.len; rw [emx]; omega)
  rw [L.spl] at s3
  have j := L'.join
  rw [eh, et] at j
  have ec := fun x4 x5 x6 x7 => sub_comp (more := more) hm hV (x0 := x0) (x3 := .lst (acc.map .str)) (x4 := x4) (x5 := x5) (x6 := x6) (x7 := x7) t.tail
  have k1 : cut ((t.hd :: t.tail).map D.str) (some 1) none = t.tail.map D.str := cut1
  have k2 : cut ((t.hd :: t.tail).map D.str) none (some 1) = [.str t.hd] := cut_head
  have lt : t.tail.length ≤ 10 := by
    cases t with
    | nam _ => exact Nat.zero_le _
    | row p nm fs is => obtain ⟨⟨txt, f⟩, hp⟩ := h; have := f.l3; show (lw fs is).length ≤ 10; rw [lw_len hp]; omega
    | wrd w => show 1 ≤ 10; omega
    | put p nm gs js n =>
      obtain ⟨⟨txt, f⟩, _, hp, _⟩ := h
      have := f.l3
      rw [List.length_append] at this
      show (lw gs js ++ [n]).length ≤ 10
      rw [List.length_append, lw_len hp]; simp at this ⊢; omega
  have l1 : (t.tail.map D.str).length ≤ mx := by rw [List.length_map, emx]; omega
  have l2 : [D.str t.hd].length + ((t.tail.map (sub P more)).map D.str).length ≤ mx := by rw [List.length_map, List.length_map, emx]; simp; omega
  have l3 : dBin .add (.lst [.str t.hd]) (.lst ((t.tail.map (sub P more)).map D.str)) = some (.lst ((t.hd :: t.tail.map (sub P more)).map .str)) := if_pos l2
  refine ⟨.lst ((t.hd :: t.tail).map .str), .lst ((t.tail.map (sub P more)).map .str), c, ?_⟩
  rw [en, List.map_cons, List.map_nil, List.map_append (l₂ := [t'.text])]
  have hl' : (acc.map D.str).length < mx := by rw [List.length_map]; exact hl
  generalize acc.map D.str = A at *
  generalize (t.hd :: t.tail).map D.str = W at *
  generalize t.tail.map D.str = Y at *
  generalize (t.hd :: t.tail.map (sub P more)).map D.str = W2 at *
  generalize (t.tail.map (sub P more)).map D.str = Y2 at *
  generalize t.text = Z at *
  simp -implicitDefEqProofs [B__law_numbered_1, q1, q2, s3, k1, k2, l1, ec, l3, j, hl']
theorem numbered_loop {P : List (Key × D)} (hP : PK P) (hV : ∀ k v, (k, v) ∈ P → ∃ i : Int, v = .int i ∧ 0 ≤ i ∧ i ≤ 1000) {N : List Str} {more : Int} (hNm : ∀ n ∈ N, Nm n) (hNP : ∀ n ∈ N, ∃ a : Int, getK (.inr n) P = some (.int a) ∧ 0 ≤ a ∧ a ≤ 1000) (hm : 0 ≤ more ∧ more ≤ 1) {x0 : D} :
    ∀ (ts : List T), (∀ t ∈ ts, t.wf N) → ∀ (acc : List Str) (x a b c : D), acc.length + ts.length < mx → ∃ x' a' b' c', forL (bindT (.s 4)) (exs t__law_numbered B__law_numbered_1) ((ts.map T.text).map .str) [x0, .dct P, .int more, .lst (acc.map .str), x, a, b, c] =
      .nx [x0, .dct P, .int more, .lst ((acc ++ (ts.flatMap (T.num P more)).map T.text).map .str), x', a', b', c']
  | [], _, acc, x, a, b, c, _ => ⟨x, a, b, c, by rw [List.flatMap_nil, List.map_nil (f := T.text), List.append_nil]; rfl⟩
  | t :: ts, h, acc, x, a, b, c, hl => by
    simp at hl
    have ht := h t List.mem_cons_self
    have fm : (t :: ts).flatMap (T.num P more) = T.num P more t ++ ts.flatMap (T.num P more) := List.flatMap_cons
    have key : t.pl = .cod 0 "" 0 → ∃ x' a' b' c', forL (bindT (.s 4)) (exs t__law_numbered B__law_numbered_1) (((t :: ts).map T.text).map .str) [x0, .dct P, .int more, .lst (acc.map .str), x, a, b, c] =
      .nx [x0, .dct P, .int more, .lst ((acc ++ ((t :: ts).flatMap (T.num P more)).map T.text).map .str), x', a', b', c'] := fun hn => by
      obtain ⟨a1, b1, c1, e⟩ := num_line hP hV ht hn hNm hNP hm (acc := acc) (by omega) x0 a b c
      obtain ⟨t', en, _⟩ := sub_tail hP ht hn hNP hm
      obtain ⟨x', a', b', c', e2⟩ := numbered_loop hP hV hNm hNP hm ts (fun x m => h x (List.mem_cons_of_mem _ m)) (acc ++ (T.num P more t).map T.text) (.str t.text) a1 b1 c1 (by rw [en]; simp; omega)
      refine ⟨x', a', b', c', ?_⟩
      rw [fm, List.map_append (f := T.text), ← List.append_assoc, ← e2]
      exact forL_one (ρ1 := [x0, .dct P, .int more, .lst (acc.map .str), .str t.text, a, b, c]) rfl e
    cases t with
    | nam z =>
      obtain ⟨x', a', b', c', e2⟩ := numbered_loop hP hV hNm hNP hm ts (fun x m => h x (List.mem_cons_of_mem _ m)) acc (.str (z ++ ":")) a b c (by omega)
      refine ⟨x', a', b', c', ?_⟩
      rw [fm]
      show _ = RS.nx [x0, .dct P, .int more, .lst ((acc ++ (ts.flatMap (T.num P more)).map T.text).map .str), x', a', b', c']
      rw [← e2]
      exact forL_one (ρ1 := [x0, .dct P, .int more, .lst (acc.map .str), .str (z ++ ":"), a, b, c]) rfl (num_nam ht _ _ _ _ _ _ _)
    | row p nm fs is => exact key rfl
    | put p nm gs js n => exact key rfl
    | wrd w => exact key rfl
theorem w_numbered {P : List (Key × D)} (hP : PK P) (hV : ∀ k v, (k, v) ∈ P → ∃ i : Int, v = .int i ∧ 0 ≤ i ∧ i ≤ 1000) {N : List Str} {more : Int} (hNm : ∀ n ∈ N, Nm n) (hNP : ∀ n ∈ N, ∃ a : Int, getK (.inr n) P = some (.int a) ∧ 0 ≤ a ∧ a ≤ 1000) (hm : 0 ≤ more ∧ more ≤ 1) {ts : List T} (h : ∀ t ∈ ts, t.wf N) (hl : ts.length ≤ 1000) :
    m__law_numbered [.lst ((ts.map T.text).map .str), .dct P, .int more] = .ret (.lst (((ts.flatMap (T.num P more)).map T.text).map .str)) := by
  obtain ⟨x', a', b', c', e⟩ := numbered_loop hP hV hNm hNP hm (x0 := .lst ((ts.map T.text).map .str)) ts h [] .non .non .non .non (by rw [emx]; simp; omega)
  rw [List.nil_append] at e
  have en : ([] : List Str).map D.str = [] := rfl
  rw [en] at e
  have lm : ts.length ≤ mx := by rw [emx]; omega
  generalize (ts.map T.text).map D.str = Z at *
  generalize ((ts.flatMap (T.num P more)).map T.text).map D.str = W at *
  simp -implicitDefEqProofs [m__law_numbered, b__law_numbered, runR_eq, e]
end K11

set_option Elab.async false
set_option linter.all false
set_option maxRecDepth 100000
namespace K11
open PySem L2 My
/-! all names called otherwise -/
def AL : Str := "abcdefghijkl"
/-- a name's place among all, sorted -/
def plc (N : List Str) (n : Str) : Nat := ((srtS N).findIdx? fun y => y == n).getD 0
def oth (N : List Str) (n : Str) : Str := "zy" ++ ⟨#[97 + plc N n]⟩
theorem plc_of {N : List Str} {n : Str} (h : n ∈ N) : (srtS N).findIdx? (fun y => y == n) = some (plc N n) ∧ plc N n < N.length ∧ (srtS N)[plc N n]? = some n := by
  have pm := List.mergeSort_perm N leX
  have m : n ∈ srtS N := pm.mem_iff.mpr h
  cases e : (srtS N).findIdx? fun y => y == n with
  | none =>
    have := List.findIdx?_eq_none_iff.mp e n m
    simp at this
  | some j =>
    have ep : plc N n = j := by unfold plc; rw [e]; rfl
    rw [ep]
    obtain ⟨x, h1, h2, _⟩ := find_first e
    have h2 : x = n := by simpa using h2
    subst h2
    have hl : j < (srtS N).length := (List.getElem?_eq_some_iff.mp h1).1
    exact ⟨rfl, by rw [← pm.length_eq]; exact hl, h1⟩
theorem plc_inj {N : List Str} {n m : Str} (hn : n ∈ N) (hm : m ∈ N) (e : plc N n = plc N m) : n = m := by
  have a := (plc_of hn).2.2
  have b := (plc_of hm).2.2
  rw [e, b] at a
  injection a with a
  exact a.symm
theorem tl_zy : tl ("zy" : Str) = [122, 121] := by decide +kernel
theorem oth_tl (N : List Str) (n : Str) : tl (oth N n) = [122, 121, 97 + plc N n] := by
  unfold oth
  rw [tl_app, tl_zy]; rfl
theorem oth_inj {N : List Str} {n m : Str} (hn : n ∈ N) (hm : m ∈ N) (e : oth N n = oth N m) : n = m := by
  have e2 : tl (oth N n) = tl (oth N m) := by rw [e]
  rw [oth_tl, oth_tl] at e2
  injection e2 with _ e2; injection e2 with _ e2; injection e2 with e2 _
  exact plc_inj hn hm (by omega)
theorem oth_nm {N : List Str} {n : Str} (hn : n ∈ N) (hl : N.length ≤ 12) : Nm (oth N n) := by
  have hp := (plc_of hn).2.1
  have key : ∀ y ∈ ("word" : Str) :: RW, (tl y).headD 0 ≠ 122 := by decide +kernel
  have q : oth N n ∉ ("word" : Str) :: RW := fun m => by
    have := key _ m
    rw [oth_tl] at this
    exact this rfl
  refine ⟨by rw [oth_tl]; simp, by rw [oth_tl]; simp, fun c m => ?_, fun m => q (List.mem_cons_of_mem _ m), fun e => q (by rw [e]; exact List.mem_cons_self)⟩
  rw [oth_tl] at m
  simp at m
  omega
theorem al_at {j : Nat} (h : j < 12) : dIdx (.str AL) (.int (j : Int)) = some (.str ⟨#[97 + j]⟩) := by
  have e : tl AL = [97, 98, 99, 100, 101, 102, 103, 104, 105, 106, 107, 108] := by decide +kernel
  refine idx_sign (by rw [emx]; decide +kernel) ?_
  rw [e]
  have key : ∀ n : Nat, n < 12 → atI [97, 98, 99, 100, 101, 102, 103, 104, 105, 106, 107, 108] (n : Int) = some (97 + n) := by decide +kernel
  exact key j h
theorem oth_step {N : List Str} (hl : N.length ≤ 12) {pl : List PL} (hN : plN pl = N) {x0 x1 x3 x6 x7 x8 : D} {O : List (Key × D)} {n : Str} (hn : n ∈ N) (hO : (.inr n : Key) ∉ O.map (·.1)) (hlO : O.length < mx) :
    exs t__law_turned B__law_turned_1 [x0, x1, .dct (plP 0 pl), x3, .dct O, .str n, x6, x7, x8] = .nx [x0, x1, .dct (plP 0 pl), x3, .dct (O ++ [(.inr n, .str (oth N n))]), .str n, x6, x7, x8] := by
  obtain ⟨e1, e2, _⟩ := plc_of hn
  have k1 := keys_pl 0 pl
  rw [hN] at k1
  have k2 := srt_of (xs := N) (by omega)
  have k3 : ixlV (.lst ((srtS N).map .str)) (.str n) = some (.int (plc N n : Nat)) := by
    show ((allStrs ((srtS N).map D.str)).bind fun xs => (xs.findIdx? fun y => y == n).map fun j => D.int (j : Nat)) = _
    rw [allStrs_map]
    show ((srtS N).findIdx? fun y => y == n).map _ = _
    rw [e1]; rfl
  have k4 := al_at (j := plc N n) (by omega)
  have k5 : dBin .add (.str "zy") (.str ⟨#[97 + plc N n]⟩) = some (.str (oth N n)) := by
    have l2 : (("zy" : Str)).length = 2 := rfl
    have l1 : ((⟨#[97 + plc N n]⟩ : Str)).length = 1 := rfl
    show (if (("zy" : Str)).length + ((⟨#[97 + plc N n]⟩ : Str)).length ≤ mx then some (D.str ("zy" ++ ⟨#[97 + plc N n]⟩)) else none) = some (D.str ("zy" ++ ⟨#[97 + plc N n]⟩))
    rw [if_pos (by rw [l2, l1, emx]; decide)]
  have k6 : mutV .setI [.str n, .str (oth N n)] (.dct O) = some (.dct (O ++ [(.inr n, .str (oth N n))])) := by
    show (if O.length < mx then some (D.dct (putD (.inr n) (.str (oth N n)) O)) else none) = _
    rw [if_pos hlO, putD_new hO]
  have ka : Str.ofString "abcdefghijkl" = AL := rfl
  generalize N.map D.str = NN at *
  generalize (srtS N).map D.str = KK at *
  generalize (plc N n : Int) = J at *
  generalize plP 0 pl = P at *
  generalize oth N n = ON at *
  generalize (⟨#[97 + plc N n]⟩ : Str) = C at *
  simp -implicitDefEqProofs [B__law_turned_1, k1, k2, k3, ka, k4, k5, k6]
theorem oth_loop {N : List Str} (hl : N.length ≤ 12) {pl : List PL} (hN : plN pl = N) {x0 x1 x3 x6 x7 x8 : D} : ∀ (M : List Str), (∀ n ∈ M, n ∈ N) → M.Nodup → ∀ (O : List (Key × D)) (x5 : D), (∀ n ∈ M, (.inr n : Key) ∉ O.map (·.1)) → O.length + M.length < mx →
    ∃ x5', forL (bindT (.s 5)) (exs t__law_turned B__law_turned_1) (M.map .str) [x0, x1, .dct (plP 0 pl), x3, .dct O, x5, x6, x7, x8] = .nx [x0, x1, .dct (plP 0 pl), x3, .dct (O ++ M.map fun n => (.inr n, .str (oth N n))), x5', x6, x7, x8]
  | [], _, _, O, x5, _, _ => ⟨x5, by rw [List.map_nil, List.map_nil, List.append_nil]; rfl⟩
  | n :: M, h, nd, O, x5, hO, hlO => by
    obtain ⟨nn, nd⟩ := List.nodup_cons.mp nd
    simp at hlO
    have e := oth_step hl hN (x0 := x0) (x1 := x1) (x3 := x3) (x6 := x6) (x7 := x7) (x8 := x8) (h n List.mem_cons_self) (hO n List.mem_cons_self) (by omega)
    obtain ⟨x5', e2⟩ := oth_loop hl hN (x0 := x0) (x1 := x1) (x3 := x3) (x6 := x6) (x7 := x7) (x8 := x8) M (fun m hm => h m (List.mem_cons_of_mem _ hm)) nd (O ++ [(.inr n, .str (oth N n))]) (.str n) (fun m hm m2 => by
      rw [List.map_append] at m2
      rcases List.mem_append.mp m2 with m2 | m2
      · exact hO m (List.mem_cons_of_mem _ hm) m2
      · have := List.mem_singleton.mp m2
        injection this with this
        subst this
        exact nn hm) (by simp; omega)
    refine ⟨x5', ?_⟩
    have ea : O ++ (n :: M).map (fun n => ((.inr n : Key), D.str (oth N n))) = O ++ [(.inr n, .str (oth N n))] ++ M.map fun n => (.inr n, .str (oth N n)) := by simp
    rw [ea, ← e2]
    exact forL_one (ρ1 := [x0, x1, .dct (plP 0 pl), x3, .dct O, .str n, x6, x7, x8]) rfl e
def othD (N : List Str) : List (Key × D) := N.map fun n => (.inr n, .str (oth N n))
theorem othD_get {N : List Str} : ∀ (M : List Str) (n : Str), getK (.inr n) (M.map fun n => ((.inr n : Key), D.str (oth N n))) = if n ∈ M then some (.str (oth N n)) else none
  | [], n => rfl
  | m :: M, n => by
    rw [List.map_cons]
    unfold getK
    by_cases e : m = n
    · subst e; rw [if_pos rfl, if_pos List.mem_cons_self]
    · rw [if_neg (fun z => e (by injection z)), othD_get M n]
      have : n ∈ m :: M ↔ n ∈ M := by
        rw [List.mem_cons]
        exact ⟨fun h => h.elim (fun z => absurd z.symm e) id, .inr⟩
      by_cases hm : n ∈ M
      · rw [if_pos hm, if_pos (this.mpr hm)]
      · rw [if_neg hm, if_neg fun z => hm (this.mp z)]
/-- a name in another one's stead -/
def ren (N : List Str) (x : Str) : Str := if x ∈ N then oth N x else x
theorem ren_comp {N : List Str} {x0 x1 x2 x3 x5 x6 x7 x8 : D} (xs : List Str) :
    compR t__law_turned (.getD (.var 4) (.var 8) (.var 8)) (.s 8) none [x0, x1, x2, x3, .dct (othD N), x5, x6, x7, x8] (xs.map .str) = some ((xs.map (ren N)).map .str) := by
  rw [List.map_map]
  refine compR_all (fun x : Str => D.str x) (D.str ∘ ren N) fun x _ => ?_
  refine ⟨_, rfl, rfl, ?_⟩
  show getV (.dct (othD N)) (.str x) (.str x) = some (D.str (ren N x))
  show some ((getK (.inr x) (othD N)).getD (.str x)) = _
  unfold othD
  rw [othD_get]
  unfold ren
  by_cases h : x ∈ N
  · rw [if_pos h, if_pos h]; rfl
  · rw [if_neg h, if_neg h]; rfl
end K11

set_option Elab.async false
set_option linter.all false
set_option maxRecDepth 100000
namespace K11
open PySem L2 My
def T.ren (N : List Str) : T → T
  | .nam z => .nam (oth N z)
  | .put p nm gs js n => .put p nm gs js (oth N n)
  | t => t
theorem pt_notin {N : List Str} (hN : ∀ n ∈ N, Nm n) (l : Lt) {i : Int} (h : 0 ≤ i) : pt l i ∉ N := fun m => by
  have n := hN _ m
  cases ec : tl (num i) with
  | nil => exact num_ne h ec
  | cons c r =>
    have m : c ∈ tl (num i) := by rw [ec]; exact List.mem_cons_self
    have a := num_dig h c m
    have b := n.let_ c (by show c ∈ tl (pre l ++ num i); rw [tl_app]; exact List.mem_append_right _ m)
    omega
theorem ren_lw {N : List Str} (hN : ∀ n ∈ N, Nm n) {fs : List Lt} {is : List Int} (h : Parts fs is) : (lw fs is).map (ren N) = lw fs is := by
  refine (List.map_congr_left fun x m => ?_).trans (List.map_id _)
  obtain ⟨l, i, rfl, h0⟩ := mem_lw h x m
  unfold ren
  rw [if_neg (pt_notin hN l h0)]; rfl
theorem ren_tail {N M : List Str} (hN : ∀ n ∈ N, Nm n) {t : T} (h : t.wf N) (hn : t.pl = .cod 0 "" 0) : (T.ren N t).pl = .cod 0 "" 0 ∧ (T.ren N t).hd = t.hd ∧ (T.ren N t).tail = t.tail.map (ren N) ∧ (T.ren N t).wf (N.map (oth N)) := by
  cases t with
  | nam z => cases hn
  | row p nm fs is => exact ⟨rfl, rfl, (ren_lw hN h.2).symm, h⟩
  | wrd w =>
    refine ⟨rfl, rfl, ?_, h⟩
    show [K11.num w] = [ren N (K11.num w)]
    unfold ren
    rw [← pt_n, if_neg (pt_notin hN .n h.1)]
  | put p nm gs js n =>
    obtain ⟨hf, c2, hp, nN⟩ := h
    refine ⟨rfl, rfl, ?_, hf, c2, hp, List.mem_map_of_mem nN⟩
    show lw gs js ++ [oth N n] = (lw gs js ++ [n]).map (ren N)
    rw [List.map_append, ren_lw hN hp]
    congr 1
    show [oth N n] = [ren N n]
    unfold ren
    rw [if_pos nN]
theorem tail_len {t : T} {N : List Str} (h : t.wf N) : t.tail.length ≤ 10 := by
  cases t with
  | nam _ => exact Nat.zero_le _
  | row p nm fs is => obtain ⟨⟨txt, f⟩, hp⟩ := h; have := f.l3; show (lw fs is).length ≤ 10; rw [lw_len hp]; omega
  | wrd w => show 1 ≤ 10; omega
  | put p nm gs js n =>
    obtain ⟨⟨txt, f⟩, _, hp, _⟩ := h
    have := f.l3
    rw [List.length_append] at this
    show (lw gs js ++ [n]).length ≤ 10
    rw [List.length_append, lw_len hp]; simp at this ⊢; omega
/-- one line called otherwise -/
theorem ren_line {N : List Str} (hN : ∀ n ∈ N, Nm n) (hO : ∀ n ∈ N, Nm (oth N n)) {t : T} (h : t.wf N) (hn : t.pl = .cod 0 "" 0) {acc : List Str} (hl : acc.length < mx) (x0 x1 x2 x5 x7 x8 : D) :
    ∃ (y7 y8 : D), exs t__law_turned B__law_turned_2 [x0, x1, x2, .lst (acc.map .str), .dct (othD N), x5, .str t.text, x7, x8] = .nx [x0, x1, x2, .lst ((acc ++ [(T.ren N t).text]).map .str), .dct (othD N), x5, .str t.text, y7, y8] := by
  have L := T.tl h hN hn
  obtain ⟨hn', eh, et, hw'⟩ := ren_tail (M := []) hN h hn
  have L' := T.tl hw' (fun n m => by obtain ⟨y, hy, rfl⟩ := List.mem_map.mp m; exact hO y hy) hn'
  obtain ⟨c0, q1, _, q2⟩ := L.noc
  have s3 := splt_of (z := t.text) (x := " ") (by decide +kernel) (by have := L.len; rw [emx]; omega)
  rw [L.spl] at s3
  have j := L'.join
  rw [eh, et] at j
  have ec := fun x5 x6 x7 x8 => ren_comp (N := N) (x0 := x0) (x1 := x1) (x2 := x2) (x3 := .lst (acc.map .str)) (x5 := x5) (x6 := x6) (x7 := x7) (x8 := x8) t.tail
  have k1 : cut ((t.hd :: t.tail).map D.str) (some 1) none = t.tail.map D.str := cut1
  have k2 : cut ((t.hd :: t.tail).map D.str) none (some 1) = [.str t.hd] := cut_head
  have lt := tail_len h
  have l1 : (t.tail.map D.str).length ≤ mx := by rw [List.length_map, emx]; omega
  have l2 : [D.str t.hd].length + ((t.tail.map (ren N)).map D.str).length ≤ mx := by rw [List.length_map, List.length_map, emx]; simp; omega
  have l3 : dBin .add (.lst [.str t.hd]) (.lst ((t.tail.map (ren N)).map D.str)) = some (.lst ((t.hd :: t.tail.map (ren N)).map .str)) := if_pos l2
  refine ⟨.lst ((t.hd :: t.tail.map (ren N)).map .str), x8, ?_⟩
  rw [List.map_append (l₂ := [(T.ren N t).text])]
  have hl' : (acc.map D.str).length < mx := by rw [List.length_map]; exact hl
  generalize acc.map D.str = A at *
  generalize (t.hd :: t.tail).map D.str = W at *
  generalize t.tail.map D.str = Y at *
  generalize (t.hd :: t.tail.map (ren N)).map D.str = W2 at *
  generalize (t.tail.map (ren N)).map D.str = Y2 at *
  generalize t.text = Z at *
  generalize othD N = OD at *
  simp -implicitDefEqProofs [B__law_turned_2, q1, q2, s3, k1, k2, l1, ec, l3, j, hl']
theorem ren_nam {N : List Str} {z : Str} (h : Nm z) (hz : z ∈ N) (ho : Nm (oth N z)) {acc : List Str} (hl : acc.length < mx) (x0 x1 x2 x5 x7 x8 : D) :
    ∃ (y7 y8 : D), exs t__law_turned B__law_turned_2 [x0, x1, x2, .lst (acc.map .str), .dct (othD N), x5, .str (z ++ ":"), x7, x8] = .nx [x0, x1, x2, .lst ((acc ++ [oth N z ++ ":"]).map .str), .dct (othD N), x5, .str (z ++ ":"), y7, y8] := by
  have l9 := nm_len9 h
  have hm : (z ++ ":").length ≤ mx := by rw [emx]; omega
  have s3 := splt_of (z := z ++ ":") (x := " ") (by decide +kernel) (by rw [emx]; omega)
  rw [spl_one (nm_no h (by omega) (by omega))] at s3
  have em : [z ++ ":"].map D.str = [D.str (z ++ ":")] := rfl
  rw [em] at s3
  obtain ⟨q1, _, q2⟩ := nam_colon h
  have s1 := slc_str hm none (some (-1))
  rw [tl_colon, cut_last, List.dropLast_concat] at s1
  have ez : (⟨(tl z).toArray⟩ : Str) = z := ext_tl rfl
  rw [ez] at s1
  have g : dIdx (.dct (othD N)) (.str z) = some (.str (oth N z)) := by
    show getK (.inr z) (othD N) = _
    unfold othD
    rw [othD_get, if_pos hz]
  have hc := app_colon ho
  have l9' := nm_len9 ho
  have j : joinV " " (.lst [.str (oth N z ++ ":")]) = some (.str (oth N z ++ ":")) := by
    have := join_of (x := " ") (ys := [oth N z ++ ":"]) (by simp [sp_len]; omega)
    rw [join_one] at this
    exact this
  have k1 : cut [D.str (z ++ ":")] (some 1) none = [] := cut1
  have k2 : cut [D.str (z ++ ":")] none (some 1) = [.str (z ++ ":")] := cut_head
  have ec := fun x5 x6 x7 x8 => ren_comp (N := N) (x0 := x0) (x1 := x1) (x2 := x2) (x3 := .lst (acc.map .str)) (x5 := x5) (x6 := x6) (x7 := x7) (x8 := x8) []
  have en : ([] : List Str).map D.str = [] := rfl
  have en2 : (([] : List Str).map (ren N)).map D.str = [] := rfl
  rw [en2, en] at ec
  have l3 : dBin .add (.lst [.str (z ++ ":")]) (.lst []) = some (.lst [.str (z ++ ":")]) := rfl
  have lm : ([] : List D).length ≤ mx := Nat.zero_le _
  refine ⟨.lst [.str (oth N z ++ ":")], x8, ?_⟩
  rw [List.map_append (l₂ := [oth N z ++ ":"])]
  have hl' : (acc.map D.str).length < mx := by rw [List.length_map]; exact hl
  generalize acc.map D.str = A at *
  clear em en en2
  generalize z ++ ":" = Z at *
  generalize hOC : oth N z ++ ":" = OC at *
  have hOC' : oth N z ++ Str.ofString ":" = OC := hOC
  generalize oth N z = OZ at *
  generalize othD N = OD at *
  simp -implicitDefEqProofs [B__law_turned_2, q1, q2, s3, k1, k2, ec, l3, s1, g, hc, j, hl']
theorem turned_loop {N : List Str} (hN : ∀ n ∈ N, Nm n) (hO : ∀ n ∈ N, Nm (oth N n)) {x0 x1 x2 x5 : D} : ∀ (ts : List T), (∀ t ∈ ts, t.wf N) → (∀ z ∈ tN ts, z ∈ N) → ∀ (acc : List Str) (x a b : D), acc.length + ts.length < mx →
    ∃ x' a' b', forL (bindT (.s 6)) (exs t__law_turned B__law_turned_2) ((ts.map T.text).map .str) [x0, x1, x2, .lst (acc.map .str), .dct (othD N), x5, x, a, b] = .nx [x0, x1, x2, .lst ((acc ++ (ts.map (T.ren N)).map T.text).map .str), .dct (othD N), x5, x', a', b']
  | [], _, _, acc, x, a, b, _ => ⟨x, a, b, by rw [List.map_nil (f := T.ren N), List.map_nil (f := T.text), List.append_nil]; rfl⟩
  | t :: ts, h, hz, acc, x, a, b, hl => by
    simp at hl
    have ht := h t List.mem_cons_self
    have fin : ∀ (a1 b1 : D), (∀ z ∈ tN ts, z ∈ N) → exs t__law_turned B__law_turned_2 [x0, x1, x2, .lst (acc.map .str), .dct (othD N), x5, .str t.text, a, b] = .nx [x0, x1, x2, .lst ((acc ++ [(T.ren N t).text]).map .str), .dct (othD N), x5, .str t.text, a1, b1] →
        ∃ x' a' b', forL (bindT (.s 6)) (exs t__law_turned B__law_turned_2) (((t :: ts).map T.text).map .str) [x0, x1, x2, .lst (acc.map .str), .dct (othD N), x5, x, a, b] = .nx [x0, x1, x2, .lst ((acc ++ ((t :: ts).map (T.ren N)).map T.text).map .str), .dct (othD N), x5, x', a', b'] := fun a1 b1 hz e => by
      obtain ⟨x', a', b', e2⟩ := turned_loop hN hO ts (fun x m => h x (List.mem_cons_of_mem _ m)) hz (acc ++ [(T.ren N t).text]) (.str t.text) a1 b1 (by simp; omega)
      refine ⟨x', a', b', ?_⟩
      have ea : acc ++ ((t :: ts).map (T.ren N)).map T.text = acc ++ [(T.ren N t).text] ++ (ts.map (T.ren N)).map T.text := by simp
      rw [ea, ← e2]
      exact forL_one (ρ1 := [x0, x1, x2, .lst (acc.map .str), .dct (othD N), x5, .str t.text, a, b]) rfl e
    have key : t.pl = .cod 0 "" 0 → tN (t :: ts) = tN ts → ∃ x' a' b', forL (bindT (.s 6)) (exs t__law_turned B__law_turned_2) (((t :: ts).map T.text).map .str) [x0, x1, x2, .lst (acc.map .str), .dct (othD N), x5, x, a, b] = .nx [x0, x1, x2, .lst ((acc ++ ((t :: ts).map (T.ren N)).map T.text).map .str), .dct (othD N), x5, x', a', b'] := fun hn en => by
      obtain ⟨a1, b1, e⟩ := ren_line hN hO ht hn (acc := acc) (by omega) x0 x1 x2 x5 a b
      exact fin a1 b1 (by rw [← en]; exact hz) e
    cases t with
    | nam z =>
      have zN : z ∈ N := hz z List.mem_cons_self
      obtain ⟨a1, b1, e⟩ := ren_nam ht zN (hO z zN) (acc := acc) (by omega) x0 x1 x2 x5 a b
      exact fin a1 b1 (fun y m => hz y (List.mem_cons_of_mem _ m)) e
    | row p nm fs is => exact key rfl rfl
    | put p nm gs js n => exact key rfl rfl
    | wrd w => exact key rfl rfl
theorem w_turned {pl : List PL} {N : List Str} (hpl : plN pl = N) (hl : N.length ≤ 12) (nd : N.Nodup) (hN : ∀ n ∈ N, Nm n) {ts : List T} (h : ∀ t ∈ ts, t.wf N) (hz : ∀ z ∈ tN ts, z ∈ N) (hts : ts.length ≤ 1000) (x1 : D) :
    m__law_turned [.lst ((ts.map T.text).map .str), x1, .dct (plP 0 pl)] = .ret (.lst (((ts.map (T.ren N)).map T.text).map .str)) := by
  have hO : ∀ n ∈ N, Nm (oth N n) := fun n m => oth_nm m hl
  obtain ⟨x5, e1⟩ := oth_loop hl hpl (x0 := .lst ((ts.map T.text).map .str)) (x1 := x1) (x3 := .lst []) (x6 := .non) (x7 := .non) (x8 := .non) N (fun _ m => m) nd [] .non (fun _ _ m => by simp at m) (by rw [emx]; simp; omega)
  rw [List.nil_append] at e1
  obtain ⟨x', a', b', e2⟩ := turned_loop hN hO (x0 := .lst ((ts.map T.text).map .str)) (x1 := x1) (x2 := .dct (plP 0 pl)) (x5 := x5) ts h hz [] .non .non .non (by rw [emx]; simp; omega)
  rw [List.nil_append] at e2
  have en : ([] : List Str).map D.str = [] := rfl
  rw [en] at e2
  have es : srcK .keys (plP 0 pl) = N.map .str := by
    show (plP 0 pl).map (fun p => keyD p.1) = _
    have : (plP 0 pl).map (fun p => keyD p.1) = ((plP 0 pl).map (·.1)).map keyD := by rw [List.map_map]; rfl
    rw [this, plP_keys, List.map_map, hpl]; rfl
  have e1' : forL (bindT (.s 5)) (exs t__law_turned B__law_turned_1) (srcK .keys (plP 0 pl)) [.lst ((ts.map T.text).map .str), x1, .dct (plP 0 pl), .lst [], .dct [], .non, .non, .non, .non] = .nx [.lst ((ts.map T.text).map .str), x1, .dct (plP 0 pl), .lst [], .dct (othD N), x5, .non, .non, .non] := by rw [es]; exact e1
  have lm : ts.length ≤ mx := by rw [emx]; omega
  generalize (ts.map T.text).map D.str = Z at *
  generalize ((ts.map (T.ren N)).map T.text).map D.str = W at *
  generalize plP 0 pl = P at *
  generalize othD N = OD at *
  simp -implicitDefEqProofs [m__law_turned, b__law_turned, runR_eq, dc0, e1', e2]
end K11

set_option Elab.async false
set_option linter.all false
set_option maxRecDepth 100000
namespace K11
open PySem L2 My
/-! addresses -/
theorem adr_cons (z n : Str) (i : Int) (P : List (Key × D)) : adr ((.inr z, .int i) :: P) n = if z = n then i else adr P n := by
  unfold adr
  show (match (if (.inr z : Key) = .inr n then some (D.int i) else getK (.inr n) P) with | some (.int i) => i | _ => 0) = _
  by_cases e : z = n
  · rw [if_pos e, if_pos (by rw [e])]
  · rw [if_neg e, if_neg fun h => e (by injection h)]
    try rfl
theorem adr_shift (n : Str) (d : Int) : ∀ (m : Int) (a : List PL), n ∈ plN a → adr (plP (m + d) a) n = adr (plP m a) n + d
  | m, .nam z :: a, h => by
    show adr ((.inr z, .int (m + d)) :: plP (m + d) a) n = adr ((.inr z, .int m) :: plP m a) n + d
    rw [adr_cons, adr_cons]
    by_cases e : z = n
    · rw [if_pos e, if_pos e]
    · rw [if_neg e, if_neg e]
      exact adr_shift n d m a ((List.mem_cons.mp h).resolve_left fun q => e q.symm)
  | m, .cod w z d' :: a, h => by
    show adr (plP (m + d + 1) a) n = adr (plP (m + 1) a) n + d
    have : m + d + 1 = m + 1 + d := by omega
    rw [this]
    exact adr_shift n d (m + 1) a h
theorem tW_num {P P1 P2 : List (Key × D)} {N : List Str} {more : Int} (hP : ∀ n ∈ N, adr P2 n = adr P n + more) {ts : List T} (h : ∀ t ∈ ts, t.wf N) : tW P1 (ts.flatMap (T.num P more)) = tW P2 ts := by
  induction ts with
  | nil => rfl
  | cons t ts ih =>
    have ih := ih fun x m => h x (List.mem_cons_of_mem _ m)
    have ht := h t List.mem_cons_self
    unfold tW at ih ⊢
    rw [List.flatMap_cons, List.flatMap_append, ih, List.flatMap_cons]
    congr 1
    cases t with
    | put p nm gs js n =>
      have e := hP n ht.2.2.2
      show [cod p (gs ++ [Lt.n]) (js ++ [adr P n + more])] = [cod p (gs ++ [Lt.n]) (js ++ [adr P2 n])]
      rw [e]
    | _ => rfl
theorem tW_congr {P1 P2 : List (Key × D)} {N : List Str} (hP : ∀ n ∈ N, adr P1 n = adr P2 n) {ts : List T} (h : ∀ t ∈ ts, t.wf N) : tW P1 ts = tW P2 ts := by
  induction ts with
  | nil => rfl
  | cons t ts ih =>
    have ih := ih fun x m => h x (List.mem_cons_of_mem _ m)
    have ht := h t List.mem_cons_self
    unfold tW at ih ⊢
    rw [List.flatMap_cons, List.flatMap_cons, ih]
    congr 1
    cases t with
    | put p nm gs js n =>
      have e := hP n ht.2.2.2
      show [cod p (gs ++ [Lt.n]) (js ++ [adr P1 n])] = [cod p (gs ++ [Lt.n]) (js ++ [adr P2 n])]
      rw [e]
    | _ => rfl
theorem num_wf {P : List (Key × D)} (hP : PK P) {N : List Str} {more : Int} (hNP : ∀ n ∈ N, ∃ a : Int, getK (.inr n) P = some (.int a) ∧ 0 ≤ a ∧ a ≤ 1000) (hm : 0 ≤ more ∧ more ≤ 1) {ts : List T} (h : ∀ t ∈ ts, t.wf N) :
    (∀ t ∈ ts.flatMap (T.num P more), t.wf []) ∧ tN (ts.flatMap (T.num P more)) = [] ∧ (ts.flatMap (T.num P more)).length ≤ ts.length := by
  induction ts with
  | nil => exact ⟨(fun _ m => nomatch m), rfl, Nat.le_refl _⟩
  | cons t ts ih =>
    obtain ⟨a, b, c⟩ := ih fun x m => h x (List.mem_cons_of_mem _ m)
    have ht := h t List.mem_cons_self
    rw [List.flatMap_cons]
    have key : t.pl = .cod 0 "" 0 → (∀ x ∈ T.num P more t ++ ts.flatMap (T.num P more), x.wf []) ∧ tN (T.num P more t ++ ts.flatMap (T.num P more)) = [] ∧ (T.num P more t ++ ts.flatMap (T.num P more)).length ≤ (t :: ts).length := fun hn => by
      obtain ⟨t', en, hw, hn', _⟩ := sub_tail hP ht hn hNP hm
      rw [en]
      refine ⟨fun x m => ?_, ?_, ?_⟩
      · rcases List.mem_cons.mp m with rfl | m
        · exact hw
        · exact a x m
      · show plN (t'.pl :: (ts.flatMap (T.num P more)).map T.pl) = []
        rw [hn']; exact b
      · rw [List.length_append]; show 1 + (ts.flatMap (T.num P more)).length ≤ ts.length + 1; omega
    cases t with
    | nam z => exact ⟨a, b, by show (ts.flatMap (T.num P more)).length ≤ ts.length + 1; omega⟩
    | row p nm fs is => exact key rfl
    | put p nm gs js n => exact key rfl
    | wrd w => exact key rfl
/-! called otherwise -/
theorem ren_names {N : List Str} : ∀ ts : List T, tN (ts.map (T.ren N)) = (tN ts).map (oth N)
  | [] => rfl
  | .nam z :: ts => by show oth N z :: tN (ts.map (T.ren N)) = oth N z :: _; rw [ren_names ts]; rfl
  | .row _ _ _ _ :: ts => ren_names ts
  | .put _ _ _ _ _ :: ts => ren_names ts
  | .wrd _ :: ts => ren_names ts
theorem ren_adr {N : List Str} {n : Str} (hn : n ∈ N) : ∀ (m : Int) (ts : List T), (∀ z ∈ tN ts, z ∈ N) → adr (plP m ((ts.map (T.ren N)).map T.pl)) (oth N n) = adr (plP m (ts.map T.pl)) n
  | m, [], _ => rfl
  | m, .nam z :: ts, h => by
    show adr ((.inr (oth N z), .int m) :: plP m ((ts.map (T.ren N)).map T.pl)) (oth N n) = adr ((.inr z, .int m) :: plP m (ts.map T.pl)) n
    rw [adr_cons, adr_cons, ren_adr hn m ts fun y hy => h y (List.mem_cons_of_mem _ hy)]
    have zN := h z List.mem_cons_self
    by_cases e : z = n
    · rw [if_pos e, if_pos (by rw [e])]
    · rw [if_neg e, if_neg fun q => e (oth_inj zN hn q)]
  | m, .row _ _ _ _ :: ts, h => ren_adr hn (m + 1) ts h
  | m, .put _ _ _ _ _ :: ts, h => ren_adr hn (m + 1) ts h
  | m, .wrd _ :: ts, h => ren_adr hn (m + 1) ts h
theorem tW_ren {P P' : List (Key × D)} {N : List Str} (hP : ∀ n ∈ N, adr P' (oth N n) = adr P n) {ts : List T} (h : ∀ t ∈ ts, t.wf N) : tW P' (ts.map (T.ren N)) = tW P ts := by
  induction ts with
  | nil => rfl
  | cons t ts ih =>
    have ih := ih fun x m => h x (List.mem_cons_of_mem _ m)
    have ht := h t List.mem_cons_self
    unfold tW at ih ⊢
    rw [List.map_cons, List.flatMap_cons, List.flatMap_cons, ih]
    congr 1
    cases t with
    | put p nm gs js n =>
      have e := hP n ht.2.2.2
      show [cod p (gs ++ [Lt.n]) (js ++ [adr P' (oth N n)])] = [cod p (gs ++ [Lt.n]) (js ++ [adr P n])]
      rw [e]
    | _ => rfl
theorem ren_wf {N : List Str} (hN : ∀ n ∈ N, Nm n) (hO : ∀ n ∈ N, Nm (oth N n)) {ts : List T} (h : ∀ t ∈ ts, t.wf N) (hz : ∀ z ∈ tN ts, z ∈ N) : ∀ t ∈ ts.map (T.ren N), t.wf (N.map (oth N)) := by
  induction ts with
  | nil => exact fun _ m => nomatch m
  | cons t ts ih =>
    have ht := h t List.mem_cons_self
    intro x m
    rw [List.map_cons] at m
    have key : t.pl = .cod 0 "" 0 → tN (t :: ts) = tN ts → x.wf (N.map (oth N)) := fun hn en => by
      rcases List.mem_cons.mp m with rfl | m
      · exact (ren_tail (M := []) hN ht hn).2.2.2
      · exact ih (fun x m => h x (List.mem_cons_of_mem _ m)) (by rw [← en]; exact hz) x m
    cases t with
    | nam z =>
      rcases List.mem_cons.mp m with rfl | m
      · exact hO z (hz z List.mem_cons_self)
      · exact ih (fun x m => h x (List.mem_cons_of_mem _ m)) (fun y hy => hz y (List.mem_cons_of_mem _ hy)) x m
    | row p nm fs is => exact key rfl rfl
    | put p nm gs js n => exact key rfl rfl
    | wrd w => exact key rfl rfl
/-! the names' lines behind the last row -/
def keep (L : List Str) : T → Bool
  | .nam z => decide (z ∉ L)
  | _ => true
theorem keep_names (L : List Str) : ∀ (ts : List T) (M : List Str), tN (ts.filter (keep L) ++ M.map T.nam) = (tN ts).filter (fun z => decide (z ∉ L)) ++ M
  | [], M => by
    induction M with
    | nil => rfl
    | cons z M ih => show z :: tN (([] : List T).filter (keep L) ++ M.map T.nam) = z :: M; rw [ih]; rfl
  | .nam z :: ts, M => by
    have ih := keep_names L ts M
    show tN ((T.nam z :: ts).filter (keep L) ++ M.map T.nam) = (z :: tN ts).filter _ ++ M
    by_cases e : z ∉ L
    · have k : keep L (.nam z) = true := decide_eq_true e
      rw [List.filter_cons_of_pos k, List.filter_cons_of_pos (by simpa using e)]
      show z :: tN (ts.filter (keep L) ++ M.map T.nam) = _
      rw [ih]; rfl
    · have k : ¬ keep L (.nam z) = true := by show ¬ decide (z ∉ L) = true; simpa using e
      rw [List.filter_cons_of_neg k, List.filter_cons_of_neg (by simpa using e)]
      exact ih
  | .row _ _ _ _ :: ts, M => keep_names L ts M
  | .put _ _ _ _ _ :: ts, M => keep_names L ts M
  | .wrd _ :: ts, M => keep_names L ts M
theorem adr_nams {n : Str} : ∀ {M : List Str} (m : Int), n ∈ M → adr (plP m ((M.map T.nam).map T.pl)) n = m
  | z :: M, m, h => by
    show adr ((.inr z, .int m) :: plP m ((M.map T.nam).map T.pl)) n = m
    rw [adr_cons]
    by_cases e : z = n
    · rw [if_pos e]
    · rw [if_neg e]; exact adr_nams m ((List.mem_cons.mp h).resolve_left fun q => e q.symm)
/-- one that stays stays -/
theorem keep_adr {L M : List Str} {n : Str} (hn : n ∉ L) : ∀ (m : Int) (ts : List T), n ∈ tN ts → adr (plP m ((ts.filter (keep L) ++ M.map T.nam).map T.pl)) n = adr (plP m (ts.map T.pl)) n
  | m, .nam z :: ts, h => by
    by_cases e : z ∉ L
    · have k : keep L (.nam z) = true := decide_eq_true e
      rw [List.filter_cons_of_pos k]
      show adr ((.inr z, .int m) :: plP m ((ts.filter (keep L) ++ M.map T.nam).map T.pl)) n = adr ((.inr z, .int m) :: plP m (ts.map T.pl)) n
      rw [adr_cons, adr_cons]
      by_cases q : z = n
      · rw [if_pos q, if_pos q]
      · rw [if_neg q, if_neg q]; exact keep_adr hn m ts ((List.mem_cons.mp h).resolve_left fun w => q w.symm)
    · have k : ¬ keep L (.nam z) = true := by show ¬ decide (z ∉ L) = true; simpa using e
      rw [List.filter_cons_of_neg k]
      have q : ¬ z = n := fun q => e (by rw [q]; exact hn)
      show _ = adr ((.inr z, .int m) :: plP m (ts.map T.pl)) n
      rw [adr_cons, if_neg q]
      exact keep_adr hn m ts ((List.mem_cons.mp h).resolve_left fun w => q w.symm)
  | m, .row _ _ _ _ :: ts, h => keep_adr hn (m + 1) ts h
  | m, .put _ _ _ _ _ :: ts, h => keep_adr hn (m + 1) ts h
  | m, .wrd _ :: ts, h => keep_adr hn (m + 1) ts h
/-- a last one stands behind the last row -/
theorem last_adr {L M : List Str} {n : Str} (hn : n ∈ L) (hM : n ∈ M) : ∀ (m : Int) (ts : List T), adr (plP m ((ts.filter (keep L) ++ M.map T.nam).map T.pl)) n = m + (plW (ts.map T.pl)).length
  | m, [] => by
    show adr (plP m ((M.map T.nam).map T.pl)) n = m + ((0 : Nat) : Int)
    rw [adr_nams m hM]; omega
  | m, .nam z :: ts => by
    have ih := last_adr hn hM m ts
    by_cases e : z ∉ L
    · have k : keep L (.nam z) = true := decide_eq_true e
      rw [List.filter_cons_of_pos k]
      show adr ((.inr z, .int m) :: plP m ((ts.filter (keep L) ++ M.map T.nam).map T.pl)) n = _
      rw [adr_cons, if_neg fun q => e (by rw [q]; exact hn)]
      exact ih
    · have k : ¬ keep L (.nam z) = true := by show ¬ decide (z ∉ L) = true; simpa using e
      rw [List.filter_cons_of_neg k]
      exact ih
  | m, .row _ _ _ _ :: ts => by
    show adr (plP (m + 1) ((ts.filter (keep L) ++ M.map T.nam).map T.pl)) n = m + (((plW (ts.map T.pl)).length + 1 : Nat) : Int)
    rw [last_adr hn hM (m + 1) ts]; omega
  | m, .put _ _ _ _ _ :: ts => by
    show adr (plP (m + 1) ((ts.filter (keep L) ++ M.map T.nam).map T.pl)) n = m + (((plW (ts.map T.pl)).length + 1 : Nat) : Int)
    rw [last_adr hn hM (m + 1) ts]; omega
  | m, .wrd _ :: ts => by
    show adr (plP (m + 1) ((ts.filter (keep L) ++ M.map T.nam).map T.pl)) n = m + (((plW (ts.map T.pl)).length + 1 : Nat) : Int)
    rw [last_adr hn hM (m + 1) ts]; omega
theorem tW_keep (P : List (Key × D)) (L M : List Str) (ts : List T) : tW P (ts.filter (keep L) ++ M.map T.nam) = tW P ts := by
  have e0 : ∀ M : List Str, tW P (M.map T.nam) = [] := fun M => by
    induction M with
    | nil => rfl
    | cons z M ih => show tW P (M.map T.nam) = []; exact ih
  have e1 : ∀ a b : List T, tW P (a ++ b) = tW P a ++ tW P b := fun a b => List.flatMap_append
  rw [e1, e0, List.append_nil]
  induction ts with
  | nil => rfl
  | cons t ts ih =>
    by_cases k : keep L t = true
    · rw [List.filter_cons_of_pos k]
      show T.w P t ++ tW P (ts.filter (keep L)) = T.w P t ++ tW P ts
      rw [ih]
    · rw [List.filter_cons_of_neg k, ih]
      cases t with
      | nam z => rfl
      | _ => exact absurd rfl k
end K11

set_option Elab.async false
set_option linter.all false
set_option maxRecDepth 100000
namespace K11
open PySem L2 My
def CALL : T := .row 14 "call" [] []
theorem call_wf (N : List Str) : CALL.wf N := ⟨⟨"", by decide, rfl, rfl, rfl, by decide, by decide, rfl, rfl, by decide, by decide +kernel⟩, .nil⟩
theorem call_text : CALL.text = "call" := join_one "call"
theorem dIn_names {L : List Str} {z : Str} (hz : Nm z) (hL : ∀ y ∈ L, Nm y) : dIn (.str z) (.lst (L.map .str)) = some (decide (z ∈ L)) := by
  have h1 : ndp 60 (.str z) = true := hz.ok
  have h2 := ndpL_names 60 L hL
  refine (if_pos (by rw [h1, h2]; rfl)).trans (congrArg some ?_)
  rw [List.any_map]
  induction L with
  | nil => rfl
  | cons x r ih =>
    rw [List.any_cons, ih (fun y m => hL y (List.mem_cons_of_mem _ m)) (ndpL_names 60 r fun y m => hL y (List.mem_cons_of_mem _ m))]
    show (decide (x = z) || _) = _
    by_cases c : x = z
    · subst c; simp
    · have c' : ¬ z = x := fun e => c e.symm
      simp [c, c']
theorem last_comp {P : List (Key × D)} {W : Nat} {x0 x1 x2 x3 x4 x5 x6 x7 x10 x11 : D} {WS : List D} (hW : WS.length = W) (N : List Str) (hg : ∀ n ∈ N, getK (.inr n) P = some (.int (adr P n))) :
    compR t_law (.var 10) (.s 10) (some (.cmp .eq (.idx (.var 9) (.var 10)) (.bi .len [(.var 8)]))) [x0, x1, x2, x3, x4, x5, x6, x7, .lst WS, .dct P, x10, x11] (N.map .str) = some ((N.filter fun n => decide (adr P n = W)).map .str) := by
  refine compR_flt (fun n : Str => D.str n) (fun n => decide (adr P n = W)) (fun n => .str n) fun n m => ?_
  refine ⟨_, rfl, ?_, fun _ => rfl⟩
  have e1 : dIdx (.dct P) (.str n) = some (.int (adr P n)) := hg n m
  have bl : biV .len [.lst WS] = some (.int (W : Int)) := by show some (D.int _) = _; rw [hW]
  show (ev t_law (.cmp .eq (.idx (.var 9) (.var 10)) (.bi .len [(.var 8)])) [x0, x1, x2, x3, x4, x5, x6, x7, .lst WS, .dct P, .str n, x11]).bind truth = some (decide (adr P n = W))
  simp -implicitDefEqProofs [e1, bl]
theorem moved_comp {L : List Str} (hL : ∀ y ∈ L, Nm y) {N : List Str} (hN : ∀ n ∈ N, Nm n) {x0 x1 x2 x3 x5 x6 x7 x8 x9 x10 x11 : D} (ts : List T) (h : ∀ t ∈ ts, t.wf N) :
    compR t_law (.var 11) (.s 11) (some (.boolE false [(.cmp .ne (.idx (.var 11) (.neg (.cst (.int 1)))) (.cst (.str ":"))), (.cmp .nin (.slc (.var 11) none (some (.neg (.cst (.int 1))))) (.var 4))])) [x0, x1, x2, x3, .lst (L.map .str), x5, x6, x7, x8, x9, x10, x11] ((ts.map T.text).map .str) = some (((ts.filter (keep L)).map T.text).map .str) := by
  rw [List.map_map, List.map_map]
  refine compR_flt (D.str ∘ T.text) (keep L) (D.str ∘ T.text) fun t m => ?_
  refine ⟨_, rfl, ?_, fun _ => rfl⟩
  have ht := h t m
  show (ev t_law (.boolE false [(.cmp .ne (.idx (.var 11) (.neg (.cst (.int 1)))) (.cst (.str ":"))), (.cmp .nin (.slc (.var 11) none (some (.neg (.cst (.int 1))))) (.var 4))]) [x0, x1, x2, x3, .lst (L.map .str), x5, x6, x7, x8, x9, x10, .str t.text]).bind truth = some (keep L t)
  have key : t.pl = .cod 0 "" 0 → keep L t = true → (ev t_law (.boolE false [(.cmp .ne (.idx (.var 11) (.neg (.cst (.int 1)))) (.cst (.str ":"))), (.cmp .nin (.slc (.var 11) none (some (.neg (.cst (.int 1))))) (.var 4))]) [x0, x1, x2, x3, .lst (L.map .str), x5, x6, x7, x8, x9, x10, .str t.text]).bind truth = some (keep L t) := fun hn hk => by
    obtain ⟨c0, q1, q2, _⟩ := (T.tl ht hN hn).noc
    rw [hk]
    generalize t.text = Z at *
    simp -implicitDefEqProofs [q1, q2]
  cases t with
  | nam z =>
    have hz : Nm z := ht
    obtain ⟨q1, q2, _⟩ := nam_colon hz
    have hm : (z ++ ":").length ≤ mx := by have := nm_len9 hz; rw [emx]; omega
    have s1 := slc_str hm none (some (-1))
    rw [tl_colon, cut_last, List.dropLast_concat] at s1
    have ez : (⟨(tl z).toArray⟩ : Str) = z := ext_tl rfl
    rw [ez] at s1
    have di := dIn_names hz hL
    have ek : keep L (.nam z) = !decide (z ∈ L) := by show decide (z ∉ L) = _; by_cases c : z ∈ L <;> simp [c]
    have et : T.text (.nam z) = z ++ ":" := rfl
    rw [ek, et]
    generalize z ++ ":" = Z at *
    generalize L.map D.str = LL at *
    generalize decide (z ∈ L) = b at *
    simp -implicitDefEqProofs [q1, q2, s1, di]
  | row p nm fs is => exact key rfl rfl
  | put p nm gs js n => exact key rfl rfl
  | wrd w => exact key rfl rfl
theorem rev_comp {x0 x1 x2 x3 x4 x5 x6 x7 x8 x9 x10 x11 : D} (M : List Str) (hM : ∀ y ∈ M, Nm y) :
    compR t_law (.bin .add (.var 10) (.cst (.str ":"))) (.s 10) none [x0, x1, x2, x3, x4, x5, x6, x7, x8, x9, x10, x11] (M.map .str) = some (((M.map T.nam).map T.text).map .str) := by
  rw [List.map_map, List.map_map]
  refine compR_all (fun z : Str => D.str z) _ fun z m => ?_
  refine ⟨_, rfl, rfl, ?_⟩
  have := app_colon (hM z m)
  show _ = some (D.str (z ++ ":"))
  simp -implicitDefEqProofs [this]
theorem dCmp_eqL (ws : List Int) : dCmp .eq (.lst (ws.map D.int)) (.lst (ws.map D.int)) = some true := by
  have h : eqOk (.lst (ws.map D.int)) (.lst (ws.map D.int)) = true := by
    show (ndp 60 _ && ndp 60 _) = true
    rw [ndp_ints 59 ws]; rfl
  refine (if_pos h).trans (congrArg some ?_)
  show deqL _ _ = true
  rw [deqL_ints, decide_eq_true rfl]
theorem law_holds (ns : List Int) (hl : ns.length ≤ 63) (hb : ∀ i ∈ ns, Builtin.Int.intBits i ≤ 1048576) : m_law [.lst (ns.map D.int)] = .ret (.bl true) := by
  obtain ⟨NA, n, pl, nd, hNA, hI, hn, e1⟩ := w_program ns hl
  have hpl : pl.length ≤ 60 := by rw [hI.len]; exact hn
  obtain ⟨ts, sm, hwf, e2⟩ := w_named hI.ok hpl
  obtain ⟨s1, s2, s3, s4⟩ := sm.same
  -- names
  generalize hN : plN pl = N at *
  have eN : tN ts = N := s1.symm
  have nmN : ∀ z ∈ N, Nm z := by rw [← hN]; exact plN_nm hI.ok
  have ndN : N.Nodup := by rw [← hN, hI.nm]; exact nd.sublist (List.take_sublist _ _)
  have lN : N.length ≤ 12 := by rw [← hN]; exact hI.le
  have ltsn : ts.length ≤ 60 := by rw [← s4]; exact hpl
  have eP : plP 0 pl = tP ts := s3 0
  have hwf' : ∀ t ∈ ts, t.wf (tN ts) := by rw [eN]; exact hwf
  have hPK := pk_of hwf
  have hcnt : (plW (ts.map T.pl)).length ≤ 60 := by
    have := plW_le (ts.map T.pl)
    rw [List.length_map] at this
    omega
  have hNP : ∀ n ∈ N, ∃ a : Int, getK (.inr n) (tP ts) = some (.int a) ∧ 0 ≤ a ∧ a ≤ 1000 := fun n m => by
    obtain ⟨a, b, c⟩ := adr_of (ts := ts) (n := n) (by rw [eN]; exact m)
    exact ⟨_, a, b, by omega⟩
  have hV : ∀ k v, (k, v) ∈ tP ts → ∃ i : Int, v = .int i ∧ 0 ≤ i ∧ i ≤ 1000 := fun k v m => by
    obtain ⟨i, e, h0, h1⟩ := plP_val 0 _ k v m
    exact ⟨i, e, h0, by omega⟩
  have hadr : ∀ n ∈ N, getK (.inr n) (tP ts) = some (.int (adr (tP ts) n)) := fun n m => (adr_of (by rw [eN]; exact m)).1
  -- read
  have r0 := T.read hwf' (by rw [eN]; exact ndN) (by omega)
  have j0 := T.join hwf' (by omega)
  -- numbers in the stead of names
  obtain ⟨n1, n2, n3⟩ := num_wf hPK hNP (more := 0) (by omega) hwf
  have w0 := w_numbered hPK hV nmN hNP (more := 0) (by omega) hwf (by omega)
  have r1 := T.read (ts := ts.flatMap (T.num (tP ts) 0)) (by rw [n2]; exact n1) (by rw [n2]; exact .nil) (by omega)
  have j1 := T.join (ts := ts.flatMap (T.num (tP ts) 0)) (by rw [n2]; exact n1) (by omega)
  rw [tW_num (N := N) (P2 := tP ts) (fun n _ => by omega) hwf] at r1
  -- all called otherwise
  have hO : ∀ n ∈ N, Nm (oth N n) := fun n m => oth_nm m lN
  have hzN : ∀ z ∈ tN ts, z ∈ N := by rw [eN]; exact fun _ m => m
  have w1 := fun x1 => w_turned hN lN ndN nmN hwf hzN (by omega) x1
  have twf := ren_wf nmN hO hwf hzN
  have tnm : tN (ts.map (T.ren N)) = N.map (oth N) := by rw [ren_names, eN]
  have tnd : (tN (ts.map (T.ren N))).Nodup := by
    rw [tnm, List.nodup_iff_pairwise_ne, List.pairwise_map]
    exact List.Pairwise.imp_of_mem (fun {a b} ha hb hab e => hab (oth_inj ha hb e)) ndN
  have r2 := T.read (ts := ts.map (T.ren N)) (by rw [tnm]; exact twf) tnd (by rw [List.length_map]; omega)
  have j2 := T.join (ts := ts.map (T.ren N)) (by rw [tnm]; exact twf) (by rw [List.length_map]; omega)
  rw [tW_ren (P := tP ts) (P' := tP (ts.map (T.ren N))) (fun n m => ren_adr m 0 ts hzN) hwf] at r2
  -- a row more at the front
  have c1 : ∀ t ∈ CALL :: ts, t.wf (tN (CALL :: ts)) := fun t m => by
    show t.wf (tN ts)
    rcases List.mem_cons.mp m with rfl | m
    · exact call_wf _
    · exact hwf' t m
  have cnd : (tN (CALL :: ts)).Nodup := by show (tN ts).Nodup; rw [eN]; exact ndN
  have r3 := T.read c1 cnd (by show ts.length + 1 ≤ 200; omega)
  have j3 := T.join c1 (by show ts.length + 1 ≤ 200; omega)
  have cadr : ∀ n ∈ N, adr (tP (CALL :: ts)) n = adr (tP ts) n + 1 := fun n m => adr_shift n 1 0 (ts.map T.pl) (by show n ∈ tN ts; rw [eN]; exact m)
  obtain ⟨m1, m2, m3⟩ := num_wf hPK hNP (more := 1) (by omega) hwf
  have w2 := w_numbered hPK hV nmN hNP (more := 1) (by omega) hwf (by omega)
  have d1 : ∀ t ∈ CALL :: ts.flatMap (T.num (tP ts) 1), t.wf (tN (CALL :: ts.flatMap (T.num (tP ts) 1))) := fun t m => by
    show t.wf (tN (ts.flatMap (T.num (tP ts) 1)))
    rw [m2]
    rcases List.mem_cons.mp m with rfl | m
    · exact call_wf _
    · exact m1 t m
  have dnd : (tN (CALL :: ts.flatMap (T.num (tP ts) 1))).Nodup := by show (tN (ts.flatMap (T.num (tP ts) 1))).Nodup; rw [m2]; exact .nil
  have r4 := T.read d1 dnd (by show (ts.flatMap (T.num (tP ts) 1)).length + 1 ≤ 200; omega)
  have j4 := T.join d1 (by show (ts.flatMap (T.num (tP ts) 1)).length + 1 ≤ 200; omega)
  have tail0 : ∀ (P : List (Key × D)) (xs : List T), tW P (CALL :: xs) = cod 14 [] [] :: tW P xs := fun P xs => rfl
  rw [tail0, tW_num (N := N) (P2 := tP (CALL :: ts)) (fun n m => cadr n m) hwf, ← tail0] at r4
  -- the names' lines behind the last row
  have W1 : (plW pl).length = (plW (ts.map T.pl)).length := s2
  generalize hLL : (N.filter fun n => decide (adr (tP ts) n = ((plW pl).length : Nat))) = L at *
  have memL : ∀ n, n ∈ L ↔ n ∈ N ∧ adr (tP ts) n = ((plW pl).length : Nat) := fun n => by rw [← hLL, List.mem_filter]; simp
  have nmL : ∀ y ∈ L, Nm y := fun y m => nmN y ((memL y).mp m).1
  have pm := List.mergeSort_perm L leX
  have memS : ∀ n, n ∈ (srtS L).reverse ↔ n ∈ L := fun n => by rw [List.mem_reverse]; exact pm.mem_iff
  have lL : L.length ≤ 12 := by rw [← hLL]; have := List.length_filter_le (fun n => decide (adr (tP ts) n = ((plW pl).length : Nat))) N; omega
  have lS : (srtS L).reverse.length = L.length := by rw [List.length_reverse]; exact pm.length_eq
  have ndL : L.Nodup := by rw [← hLL]; exact ndN.filter _
  have ndS : (srtS L).reverse.Nodup := (List.reverse_perm _).nodup_iff.mpr (pm.nodup_iff.mpr ndL)
  generalize hM : (srtS L).reverse = M at *
  have knm := keep_names L ts M
  rw [eN] at knm
  have memK : ∀ n, n ∈ tN (ts.filter (keep L) ++ M.map T.nam) ↔ n ∈ N := fun n => by
    rw [knm, List.mem_append, List.mem_filter, memS]
    constructor
    · rintro (h | h)
      · exact h.1
      · exact ((memL n).mp h).1
    · intro h
      by_cases c : n ∈ L
      · exact .inr c
      · exact .inl ⟨h, by simpa using c⟩
  have wfmono : ∀ {t : T} {A B : List Str}, (∀ n ∈ A, n ∈ B) → t.wf A → t.wf B := fun {t A B} hs h => by
    cases t with
    | put p nm gs js n => exact ⟨h.1, h.2.1, h.2.2.1, hs _ h.2.2.2⟩
    | nam z => exact h
    | row p nm fs is => exact h
    | wrd w => exact h
  have k1 : ∀ t ∈ ts.filter (keep L) ++ M.map T.nam, t.wf (tN (ts.filter (keep L) ++ M.map T.nam)) := fun t m => by
    rcases List.mem_append.mp m with m | m
    · exact wfmono (fun n h => (memK n).mpr h) (hwf t (List.mem_filter.mp m).1)
    · obtain ⟨z, hz, rfl⟩ := List.mem_map.mp m
      exact nmL z ((memS z).mp hz)
  have knd : (tN (ts.filter (keep L) ++ M.map T.nam)).Nodup := by
    rw [knm, List.nodup_append]
    refine ⟨ndN.filter _, ndS, fun a ha b hb e => ?_⟩
    subst e
    have := (List.mem_filter.mp ha).2
    exact absurd ((memS a).mp hb) (by simpa using this)
  have lK : (ts.filter (keep L) ++ M.map T.nam).length ≤ 100 := by
    have := List.length_filter_le (keep L) ts
    rw [List.length_append, List.length_map]
    omega
  have r5 := T.read k1 knd (by omega)
  have j5 := T.join k1 (by omega)
  rw [tW_keep, tW_congr (P2 := tP ts) (N := N) (fun n m => by
    by_cases c : n ∈ L
    · have a := last_adr c ((memS n).mpr c) 0 ts
      have b := ((memL n).mp c).2
      show adr (plP 0 ((ts.filter (keep L) ++ M.map T.nam).map T.pl)) n = _
      rw [a, b, W1]; omega
    · exact keep_adr c 0 ts (by rw [eN]; exact m)) hwf] at r5
  have eC1 := fun x0 x1 x2 x3 x4 x5 x6 x7 x10 x11 => last_comp (P := tP ts) (W := (plW pl).length) (WS := (plW pl).map D.int) (by rw [List.length_map]) (x0 := x0) (x1 := x1) (x2 := x2) (x3 := x3) (x4 := x4) (x5 := x5) (x6 := x6) (x7 := x7) (x10 := x10) (x11 := x11) N hadr
  rw [hLL] at eC1
  have eC2 := fun x0 x1 x2 x3 x5 x6 x7 x8 x9 x10 x11 => moved_comp nmL nmN (x0 := x0) (x1 := x1) (x2 := x2) (x3 := x3) (x5 := x5) (x6 := x6) (x7 := x7) (x8 := x8) (x9 := x9) (x10 := x10) (x11 := x11) ts hwf
  have eC3 := fun x0 x1 x2 x3 x4 x5 x6 x7 x8 x9 x10 x11 => rev_comp (x0 := x0) (x1 := x1) (x2 := x2) (x3 := x3) (x4 := x4) (x5 := x5) (x6 := x6) (x7 := x7) (x8 := x8) (x9 := x9) (x10 := x10) (x11 := x11) M (fun y m => nmL y ((memS y).mp m))
  have eS := srt_of (xs := L) (by omega)
  have eR : srcItems .rev [.lst ((srtS L).map .str)] = some (M.map .str) := by
    show some ((srtS L).map D.str).reverse = _
    rw [← List.map_reverse, hM]
  have eKy : srcItems .keys [.dct (tP ts)] = some (N.map .str) := by
    show some ((tP ts).map fun p => keyD p.1) = _
    have : (tP ts).map (fun p => keyD p.1) = ((tP ts).map (·.1)).map keyD := by rw [List.map_map]; rfl
    rw [this]
    unfold tP
    rw [plP_keys, List.map_map]
    show some ((tN ts).map _) = _
    rw [eN]; rfl
  have a3 : dBin .add (.lst [.str "call"]) (.lst ((ts.map T.text).map .str)) = some (.lst (((CALL :: ts).map T.text).map .str)) := by
    refine (if_pos (by rw [List.length_map, List.length_map, emx]; simp; omega)).trans ?_
    rw [List.map_cons, call_text]; rfl
  have a4 : dBin .add (.lst [.str "call"]) (.lst (((ts.flatMap (T.num (tP ts) 1)).map T.text).map .str)) = some (.lst (((CALL :: ts.flatMap (T.num (tP ts) 1)).map T.text).map .str)) := by
    refine (if_pos (by rw [List.length_map, List.length_map, emx]; show 1 + _ ≤ _; omega)).trans ?_
    rw [List.map_cons, call_text]; rfl
  have a5 : dBin .add (.lst (((ts.filter (keep L)).map T.text).map .str)) (.lst (((M.map T.nam).map T.text).map .str)) = some (.lst (((ts.filter (keep L) ++ M.map T.nam).map T.text).map .str)) := by
    rw [List.length_append, List.length_map] at lK
    refine (if_pos (by rw [List.length_map, List.length_map, List.length_map, List.length_map, List.length_map, emx]; omega)).trans ?_
    rw [List.map_append, List.map_append]
  generalize hF : tW (tP ts) ts = F at *
  generalize hG : tW (tP (CALL :: ts)) (CALL :: ts) = G at *
  have lG : G.length = F.length + 1 := by
    rw [← hG, ← hF, tail0]
    have len : ∀ (P P' : List (Key × D)) (xs : List T), (tW P xs).length = (tW P' xs).length := fun P P' xs => by
      induction xs with
      | nil => rfl
      | cons t xs ih =>
        show (T.w P t ++ tW P xs).length = (T.w P' t ++ tW P' xs).length
        rw [List.length_append, List.length_append, ih]
        cases t <;> rfl
    show (tW _ ts).length + 1 = _
    rw [len _ (tP ts)]
  have q1 : dCmp .ne (.lst (F.map D.int)) (.lst (F.map D.int)) = some false := by rw [dCmp_neL, decide_eq_true rfl]; rfl
  have q2 : dCmp .ne (.lst (G.map D.int)) (.lst (G.map D.int)) = some false := by rw [dCmp_neL, decide_eq_true rfl]; rfl
  have q3 := dCmp_eqL F
  have b1 : biV .len [.lst (F.map D.int)] = some (.int (F.length : Int)) := by show some (D.int _) = _; rw [List.length_map]
  have b2 : biV .len [.lst (G.map D.int)] = some (.int ((F.length : Int) + 1)) := by show some (D.int _) = _; rw [List.length_map, lG]; rfl
  have z1 : (N.map D.str).length ≤ mx := by rw [List.length_map, emx]; omega
  have z2 : (M.map D.str).length ≤ mx := by rw [List.length_map, emx]; omega
  have z3 : ((ts.map T.text).map D.str).length ≤ mx := by rw [List.length_map, List.length_map, emx]; omega
  rw [eP] at e1 e2
  rw [eP] at w1
  clear hwf hwf' hPK hNP hV hadr n1 n2 n3 twf tnm tnd c1 cnd cadr m1 m2 m3 d1 dnd memL memS memK k1 knd wfmono knm
  generalize F.map D.int = FD at *
  generalize G.map D.int = GD at *
  generalize (plW pl).map D.int = WD at *
  generalize pl.map PL.d = LD at *
  generalize Txt.join "\n" (ts.map T.text) = J0 at *
  generalize Txt.join "\n" ((ts.flatMap (T.num (tP ts) 0)).map T.text) = J1 at *
  generalize Txt.join "\n" ((ts.map (T.ren N)).map T.text) = J2 at *
  generalize Txt.join "\n" ((CALL :: ts).map T.text) = J3 at *
  generalize Txt.join "\n" ((CALL :: ts.flatMap (T.num (tP ts) 1)).map T.text) = J4 at *
  generalize Txt.join "\n" ((ts.filter (keep L) ++ M.map T.nam).map T.text) = J5 at *
  generalize (ts.map T.text).map D.str = T0 at *
  generalize ((ts.flatMap (T.num (tP ts) 0)).map T.text).map D.str = T1 at *
  generalize ((ts.map (T.ren N)).map T.text).map D.str = T2 at *
  generalize ((CALL :: ts).map T.text).map D.str = T3 at *
  generalize ((CALL :: ts.flatMap (T.num (tP ts) 1)).map T.text).map D.str = T4 at *
  generalize ((ts.flatMap (T.num (tP ts) 1)).map T.text).map D.str = T6 at *
  generalize ((ts.filter (keep L) ++ M.map T.nam).map T.text).map D.str = T5 at *
  generalize ((ts.filter (keep L)).map T.text).map D.str = T7 at *
  generalize ((M.map T.nam).map T.text).map D.str = T8 at *
  generalize tP ts = P at *
  generalize NA.map D.str = NN at *
  generalize N.map D.str = ND at *
  generalize L.map D.str = LL at *
  generalize (srtS L).map D.str = SL at *
  generalize M.map D.str = MM at *
  generalize ns.map D.int = SS at *
  generalize (F.length : Int) = FL at *
  simp -implicitDefEqProofs [m_law, b_law, runR_eq, e1, e2, w0, w1, w2, r0, r1, r2, r3, r4, r5, j0, j1, j2, j3, j4, j5, eC1, eC2, eC3, eS, eR, eKy, a3, a4, a5, q1, q2, q3, b1, b2, z1, z2, z3]
end K11

open PySem PySem.W PyProof.Rows in
set_option maxRecDepth 100000 in
set_option maxHeartbeats 0 in
theorem PySem.Challenge.cw_underfloor_k11_whole_names_for_numbers_holds : PySem.Challenge.rw_underfloor_k11_whole_names_for_numbers.Holds := by
  w_on; o_law; k_head; (case hw => w_witness2)
  k_fill
  refine My.my_walk (l := PySem.Challenge.rw_underfloor_k11_whole_names_for_numbers) (n := 63) (k := 6) (x := "_law_script") (t := .F) (m := K11.m_law) rfl (by decide) rfl ⟨rfl, by decide, by decide⟩ (fun w h Y => PySem.W.kIn_of Y) ?F K11.law_holds
  case F =>
    intro w mg fa h KX G hmg
    refine' K11.all_mk KX G hmg ?a0 ?l0 ?c0 ?k0 ?a1 ?l1 ?c1 ?k1 ?a2 ?l2 ?c2 ?k2 ?a3 ?l3 ?c3 ?k3 ?a4 ?l4 ?c4 ?k4 ?a5 ?l5 ?c5 ?k5 ?a6 ?l6 ?c6 ?k6 ?a7 ?l7 ?c7 ?k7 ?a8 ?l8 ?c8 ?k8 ?a9 ?l9 ?c9 ?k9 ?a10 ?l10 ?c10 ?k10 ?a11 ?l11 ?c11 ?k11 ?a12 ?l12 ?c12 ?k12 ?a13 ?l13 ?c13 ?k13 ?a14 ?l14 ?c14 ?k14 ?a15 ?l15 ?c15 ?k15 ?a16 ?l16 ?c16 ?k16 ?a17 ?l17 ?c17 ?k17 ?a18 ?l18 ?c18 ?k18 ?a19 ?l19 ?c19 ?k19 ?a20 ?l20 ?c20 ?k20 ?a21 ?l21 ?c21 ?k21 ?a22 ?l22 ?c22 ?k22 ?a23 ?l23 ?c23 ?k23 ?a24 ?l24 ?c24 ?k24 ?a25 ?l25 ?c25 ?k25 ?gv6 ?gk6 ?gv9 ?gk9 ?gv0 ?gv1 ?gv2 ?gv3 ?gv4 ?gv5 ?gv7 ?gv8 ?hv0 ?hk0 ?hs0 ?hv1 ?hk1 ?hs1 ?hv2 ?hk2 ?hs2 ?z0 ?z1 ?z2 ?z3 ?z4 ?z5 ?z6 ?z7 ?z8 ?z9 ?z10 ?z11 ?z12
    (case a0 => k_is)
    (case l0 => k_is)
    (case c0 => k_is)
    (case k0 => k_is)
    (case a1 => k_is)
    (case l1 => k_is)
    (case c1 => k_is)
    (case k1 => k_is)
    (case a2 => k_is)
    (case l2 => k_is)
    (case c2 => k_is)
    (case k2 => k_is)
    (case a3 => k_is)
    (case l3 => k_is)
    (case c3 => k_is)
    (case k3 => k_is)
    (case a4 => k_is)
    (case l4 => k_is)
    (case c4 => k_is)
    (case k4 => k_is)
    (case a5 => k_is)
    (case l5 => k_is)
    (case c5 => k_is)
    (case k5 => k_is)
    (case a6 => k_is)
    (case l6 => k_is)
    (case c6 => k_is)
    (case k6 => k_is)
    (case a7 => k_is)
    (case l7 => k_is)
    (case c7 => k_is)
    (case k7 => k_is)
    (case a8 => k_is)
    (case l8 => k_is)
    (case c8 => k_is)
    (case k8 => k_is)
    (case a9 => k_is)
    (case l9 => k_is)
    (case c9 => k_is)
    (case k9 => k_is)
    (case a10 => k_is)
    (case l10 => k_is)
    (case c10 => k_is)
    (case k10 => k_is)
    (case a11 => k_is)
    (case l11 => k_is)
    (case c11 => k_is)
    (case k11 => k_is)
    (case a12 => k_is)
    (case l12 => k_is)
    (case c12 => k_is)
    (case k12 => k_is)
    (case a13 => k_is)
    (case l13 => k_is)
    (case c13 => k_is)
    (case k13 => k_is)
    (case a14 => k_is)
    (case l14 => k_is)
    (case c14 => k_is)
    (case k14 => k_is)
    (case a15 => k_is)
    (case l15 => k_is)
    (case c15 => k_is)
    (case k15 => k_is)
    (case a16 => k_is)
    (case l16 => k_is)
    (case c16 => k_is)
    (case k16 => k_is)
    (case a17 => k_is)
    (case l17 => k_is)
    (case c17 => k_is)
    (case k17 => k_is)
    (case a18 => k_is)
    (case l18 => k_is)
    (case c18 => k_is)
    (case k18 => k_is)
    (case a19 => k_is)
    (case l19 => k_is)
    (case c19 => k_is)
    (case k19 => k_is)
    (case a20 => k_is)
    (case l20 => k_is)
    (case c20 => k_is)
    (case k20 => k_is)
    (case a21 => k_is)
    (case l21 => k_is)
    (case c21 => k_is)
    (case k21 => k_is)
    (case a22 => k_is)
    (case l22 => k_is)
    (case c22 => k_is)
    (case k22 => k_is)
    (case a23 => k_is)
    (case l23 => k_is)
    (case c23 => k_is)
    (case k23 => k_is)
    (case a24 => k_is)
    (case l24 => k_is)
    (case c24 => k_is)
    (case k24 => k_is)
    (case a25 => k_is)
    (case l25 => k_is)
    (case c25 => k_is)
    (case k25 => k_is)
    (case gv6 => k_is)
    (case gk6 => k_is)
    (case gv9 => k_is)
    (case gk9 => k_is)
    (case gv0 => k_is)
    (case gv1 => k_is)
    (case gv2 => k_is)
    (case gv3 => k_is)
    (case gv4 => k_is)
    (case gv5 => k_is)
    (case gv7 => k_is)
    (case gv8 => k_is)
    (case hv0 => k_is)
    (case hk0 => k_is)
    (case hs0 => first | rfl | decide | k_is)
    (case hv1 => k_is)
    (case hk1 => k_is)
    (case hs1 => first | rfl | decide | k_is)
    (case hv2 => k_is)
    (case hk2 => k_is)
    (case hs2 => first | rfl | decide | k_is)
    (case z0 => k_is)
    (case z1 => k_is)
    (case z2 => k_is)
    (case z3 => k_is)
    (case z4 => k_is)
    (case z5 => k_is)
    (case z6 => k_is)
    (case z7 => k_is)
    (case z8 => k_is)
    (case z9 => k_is)
    (case z10 => k_is)
    (case z11 => k_is)
    (case z12 => k_is)

