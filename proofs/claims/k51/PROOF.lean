import PyProof.Rows.All
import Wide.All
import OpenK.AllK
import Wide.FinOn
import PySem.Syntax
import PyProof.SliceList
import HandS.ForMost
import HandS.Wide
import HandS.WideBits
import HandS.IsInst
import HandS.RevRange
import HandS.Conv
import HandS.SortInts
import HandS.Walk
import HandS.EndBits
import HandS.Style
import HandS.Text
import HandS.TupAny
import HandS.TupMul
import KE.GoesEnum
import PyProof.Draws
import HandS.Zip0
import HandS.More
import HandS.Defaults
import HandS.HeadEnd
import KE.KStateDown
import HandS.Head0
import HandS.Head1
import HandS.Head2
import HandS.HeadHook1
import HandS.HeadHook2
import PySem.Challenge.RW_chargeyard_k51_which_list_is_fairer
section
set_option linter.all false
set_option autoImplicit false
/-! By-value data, a small syntax of defs, its meaning as Lean functions. -/
namespace Cy
open PySem

abbrev Ky := Sum Int Str
/-- data by value -/
inductive D where
  | non | bl (b : Bool) | int (i : Int) | str (x : Str)
  | tup (xs : List D) | lst (xs : List D) | scr (ns : List Int)
  | dct (ks : List Ky) (vs : List D) | obj (c : Str) (fs : List Str) (vs : List D)

mutual
/-- nothing in it can change -/
def pureD : D → Bool
  | .non | .bl _ | .int _ | .str _ | .scr _ => true
  | .tup xs => pureDs xs
  | .lst _ | .dct _ _ | .obj _ _ _ => false
def pureDs : List D → Bool
  | [] => true
  | x :: xs => pureD x && pureDs xs
end
theorem pureDs_all : ∀ xs : List D, pureDs xs = xs.all pureD
  | [] => rfl
  | x :: xs => by simp only [pureDs, List.all_cons, pureDs_all xs]

def b2i (b : Bool) : Int := if b then 1 else 0
mutual
/-- == of data -/
def eqD : D → D → Bool
  | .non, .non => true
  | .bl a, .bl b => a == b
  | .bl a, .int j => b2i a == j
  | .int i, .bl b => i == b2i b
  | .int i, .int j => i == j
  | .str x, .str y => x == y
  | .tup xs, .tup ys => eqDs xs ys
  | .lst xs, .lst ys => eqDs xs ys
  | _, _ => false
def eqDs : List D → List D → Bool
  | [], [] => true
  | x :: xs, y :: ys => eqD x y && eqDs xs ys
  | _, _ => false
end
/-- a text of code points -/
def strOkB (x : Str) : Bool := x.cps.toList.all (fun c => decide (c < 1114112)) && decide (x.cps.size ≤ 100000)
mutual
/-- data that may be compared: depth at most n -/
def shp : Nat → D → Bool
  | _, .non | _, .bl _ | _, .int _ => true
  | _, .str x => strOkB x
  | 0, .tup _ | 0, .lst _ => false
  | n + 1, .tup xs => shps n xs
  | n + 1, .lst xs => shps n xs
  | _, .scr _ | _, .dct _ _ | _, .obj _ _ _ => false
def shps : Nat → List D → Bool
  | _, [] => true
  | n, x :: xs => shp n x && shps n xs
end
theorem shps_all (n : Nat) : ∀ xs : List D, shps n xs = xs.all (shp n)
  | [] => by simp [shps]
  | x :: xs => by simp only [shps, List.all_cons, shps_all n xs]

/-- sizes, never unfolded -/
def BIG : Nat := 2 ^ 1000000
def DVB : Nat := 2 ^ 8000
/-- lists are kept below this -/
abbrev LMX : Nat := 1000000

inductive BO where | add | cat | rep | sub | mul | fdiv | mod | pow | shl | shr | band | bor | bxor
inductive CO where | lt | le | gt | ge | eq | ne | isN | notN | isT | notT | inn | nin
inductive TyN where | int | bool | list | tuple | dict | str
inductive Bi where | len | abs | sum | min | max | all | any | tuple | list | listp | lrng | sorted | int | str | isi (t : TyN) | dict | set
inductive Mt where | bitlen | join | split | count | index | isdigit | replace | partition | upper

def intsOf : List D → Option (List Int)
  | [] => some []
  | .int i :: xs => (intsOf xs).map (i :: ·)
  | _ :: _ => none
def blsOf : List D → Option (List Bool)
  | [] => some []
  | .bl i :: xs => (blsOf xs).map (i :: ·)
  | _ :: _ => none
def strsOf : List D → Option (List Str)
  | [] => some []
  | .str i :: xs => (strsOf xs).map (i :: ·)
  | _ :: _ => none
def ins (x : Int) : List Int → List Int
  | [] => [x]
  | y :: ys => if x ≤ y then x :: y :: ys else y :: ins x ys
def isort : List Int → List Int
  | [] => []
  | x :: xs => ins x (isort xs)
def minL : Int → List Int → Int
  | m, [] => m
  | m, x :: xs => minL (if x < m then x else m) xs
def maxL : Int → List Int → Int
  | m, [] => m
  | m, x :: xs => maxL (if m < x then x else m) xs

/-- the place of an index of any sign -/
def ixP (n : Nat) (i : Int) : Option Nat :=
  if 0 ≤ i then (if i < n then some i.toNat else none) else if 0 ≤ i + n then some (i + n).toNat else none
def sIxD (n d : Nat) : Option Int → Nat
  | none => d
  | some i => if i < 0 then (i + n).toNat else min i.toNat n
def cutD {α : Type} (xs : List α) (lo hi : Option Int) : List α := (xs.drop (sIxD xs.length 0 lo)).take (sIxD xs.length xs.length hi - sIxD xs.length 0 lo)

def binD : BO → D → D → Option D
  | .add, .int i, .int j => some (.int (i + j))
  | .cat, .lst xs, .lst ys => if xs.length + ys.length ≤ LMX then some (.lst (xs ++ ys)) else none
  | .cat, .tup xs, .tup ys => if xs.length + ys.length ≤ LMX then some (.tup (xs ++ ys)) else none
  | .add, .str x, .str y => if x.cps.size + y.cps.size ≤ LMX then some (.str ⟨x.cps ++ y.cps⟩) else none
  | .sub, .int i, .int j => some (.int (i - j))
  | .mul, .int i, .int j => if i.natAbs < BIG ∧ j.natAbs < BIG then some (.int (i * j)) else none
  | .rep, .lst xs, .int k => if -100000 < k ∧ k < 100000 ∧ xs.length < 10 ∧ pureDs xs = true then some (.lst (List.replicate k.toNat xs).flatten) else none
  | .rep, .tup xs, .int k => if 1 < k ∧ k < 1000 ∧ 0 < xs.length ∧ xs.length < 10 ∧ pureDs xs = true then some (.tup (List.replicate k.toNat xs).flatten) else none
  | .fdiv, .int i, .int j => if 0 < j ∧ j.natAbs < DVB then some (.int (i / j)) else none
  | .mod, .int i, .int j => if 0 < j then some (.int (i % j)) else none
  | .pow, .int i, .int j => if 0 ≤ j ∧ j ≤ 10000 ∧ i.natAbs < 100000 then some (.int (i ^ j.toNat)) else none
  | .shl, .int i, .int j => if 0 ≤ j ∧ j ≤ 2000000 ∧ i.natAbs < BIG then some (.int (i * 2 ^ j.toNat)) else none
  | .shr, .int i, .int j => if 0 ≤ j then some (.int (i / 2 ^ j.toNat)) else none
  | .band, .int i, .int j => if 0 ≤ i ∧ 0 ≤ j then some (.int ((i.toNat &&& j.toNat : Nat) : Int)) else none
  | .bor, .int i, .int j => if 0 ≤ i ∧ 0 ≤ j then some (.int ((i.toNat ||| j.toNat : Nat) : Int)) else none
  | .bxor, .int i, .int j => if 0 ≤ i ∧ 0 ≤ j then some (.int ((i.toNat ^^^ j.toNat : Nat) : Int)) else none
  | _, _, _ => none

def keqB : Ky → Ky → Bool
  | .inl i, .inl j => i == j
  | .inr x, .inr y => x == y
  | _, _ => false
def memK (k : Ky) (ks : List Ky) : Bool := ks.any fun k' => keqB k' k
def flatD : D → Bool
  | .non | .bl _ | .int _ | .str _ => true
  | _ => false
def keyD : D → Option Ky
  | .int i => some (.inl i)
  | .str x => some (.inr x)
  | _ => none
def isNonD : D → Bool
  | .non => true
  | _ => false
def inD (x : D) (xs : List D) : Bool := xs.any fun y => eqD y x
def cmpD : CO → D → D → Option Bool
  | .lt, .int i, .int j => some (decide (i < j))
  | .le, .int i, .int j => some (decide (i ≤ j))
  | .gt, .int i, .int j => some (decide (j < i))
  | .ge, .int i, .int j => some (decide (j ≤ i))
  | .eq, x, y => if shp 60 x && shp 60 y then some (eqD x y) else none
  | .ne, x, y => if shp 60 x && shp 60 y then some (!eqD x y) else none
  | .isN, x, .non => some (isNonD x)
  | .notN, x, .non => some (!isNonD x)
  | .isT, .bl b, .bl c => some (b == c)
  | .notT, .bl b, .bl c => some (!(b == c))
  | .inn, x, .lst xs => if flatD x && xs.all flatD then some (inD x xs) else none
  | .nin, x, .lst xs => if flatD x && xs.all flatD then some (!inD x xs) else none
  | .inn, x, .tup xs => if flatD x && xs.all flatD then some (inD x xs) else none
  | .nin, x, .tup xs => if flatD x && xs.all flatD then some (!inD x xs) else none
  | .inn, x, .dct ks _ => (keyD x).map fun k => memK k ks
  | .nin, x, .dct ks _ => (keyD x).map fun k => !memK k ks
  | .inn, .str x, .str y => if x.cps.size = 1 then some (decide (x.cps.getD 0 0 ∈ y.cps.toList)) else none
  | .nin, .str x, .str y => if x.cps.size = 1 then some (!decide (x.cps.getD 0 0 ∈ y.cps.toList)) else none
  | _, _, _ => none

def lookD : Ky → List Ky → List D → Option D
  | k, k' :: ks, v :: vs => if keqB k' k then some v else lookD k ks vs
  | _, _, _ => none
/-- a subscript -/
def ixD : D → D → Option D
  | .lst xs, .int i => (ixP xs.length i).bind fun j => xs[j]?
  | .tup xs, .int i => (ixP xs.length i).bind fun j => xs[j]?
  | .scr ns, .int i => (ixP ns.length i).bind fun j => (ns[j]?).map D.int
  | .str x, .int i => if x.cps.size ≤ LMX then (ixP x.cps.toList.length i).bind fun j => (x.cps.toList[j]?).map fun c => .str ⟨#[c]⟩ else none
  | .dct ks vs, k => (keyD k).bind fun k => lookD k ks vs
  | _, _ => none
def slD (d : D) (lo hi : Option Int) : Option D :=
  match d with
  | .lst xs => some (.lst (cutD xs lo hi))
  | .tup xs => some (.tup (cutD xs lo hi))
  | .str x => if x.cps.size ≤ LMX then some (.str ⟨(cutD x.cps.toList lo hi).toArray⟩) else none
  | _ => none

/-- xs[lo:hi:st] -/
def cut3 {α : Type} (xs : List α) (lo hi : Option Int) (st : Int) : List α :=
  (sliceRange (sliceBounds lo hi (some st) xs.length).1 (sliceBounds lo hi (some st) xs.length).2.1 (sliceBounds lo hi (some st) xs.length).2.2).filterMap fun k => xs[k]?
/-- a slice of a list without lists: a new list -/
def slDp (d : D) (lo hi : Option Int) : Option D :=
  match d with
  | .lst xs => if pureDs xs = true then some (.lst (cutD xs lo hi)) else none
  | _ => none
/-- of things without lists alone -/
def slD3 (d : D) (lo hi : Option Int) (st : Int) : Option D :=
  match d with
  | .lst xs => if st ≠ 0 ∧ pureDs xs = true then some (.lst (cut3 xs lo hi st)) else none
  | _ => none
def isiD : TyN → D → Option Bool
  | .int, d => (match d with | .int _ => some true | .bl _ => some true | .obj _ _ _ => none | _ => some false)
  | .bool, d => (match d with | .bl _ => some true | .obj _ _ _ => none | _ => some false)
  | .list, d => (match d with | .lst _ => some true | .scr _ => some true | .obj _ _ _ => none | _ => some false)
  | .tuple, d => (match d with | .tup _ => some true | .obj _ _ _ => none | _ => some false)
  | .dict, d => (match d with | .dct _ _ => some true | .obj _ _ _ => none | _ => some false)
  | .str, d => (match d with | .str _ => some true | .obj _ _ _ => none | _ => some false)
def rangeL (a b : Int) : List Int := (List.range (b - a).toNat).map fun (i : Nat) => a + (i : Int)
/-- range(a, b, c): c below 0 -/
def rangeN (a b : Int) : List Int := (List.range (a - b).toNat).map fun (i : Nat) => a - (i : Int)
def rngD : List D → Option (List Int)
  | [.int b] => if b.natAbs < 4000000 then some (rangeL 0 b) else none
  | [.int a, .int b] => if a.natAbs < 4000000 ∧ b.natAbs < 4000000 then some (rangeL a b) else none
  | [.int a, .int b, .int c] => if a.natAbs < 4000000 ∧ b.natAbs < 4000000 ∧ c = -1 then some (rangeN a b) else none
  | _ => none

def biD : Bi → List D → Option D
  | .len, [.lst xs] => some (.int xs.length)
  | .len, [.tup xs] => some (.int xs.length)
  | .len, [.scr xs] => some (.int xs.length)
  | .len, [.str x] => if x.cps.size ≤ LMX then some (.int x.cps.size) else none
  | .abs, [.int i] => some (.int i.natAbs)
  | .sum, [.lst xs] => (intsOf xs).map fun ns => .int ns.sum
  | .min, [.int i, .int j] => some (.int (if j < i then j else i))
  | .max, [.int i, .int j] => some (.int (if j > i then j else i))
  | .min, [.lst xs] => (intsOf xs).bind fun ns => (match ns with | [] => none | m :: ms => some (.int (minL m ms)))
  | .max, [.lst xs] => (intsOf xs).bind fun ns => (match ns with | [] => none | m :: ms => some (.int (maxL m ms)))
  | .all, [.lst xs] => (blsOf xs).map fun bs => .bl (bs.all id)
  | .any, [.lst xs] => (blsOf xs).map fun bs => .bl (bs.any id)
  | .tuple, [.lst xs] => some (.tup xs)
  | .tuple, [.tup xs] => some (.tup xs)
  | .list, [.lst xs] => some (.lst xs)
  | .list, [.tup xs] => some (.lst xs)
  | .listp, [.lst xs] => if pureDs xs = true then some (.lst xs) else none
  | .listp, [.tup xs] => if pureDs xs = true then some (.lst xs) else none
  | .lrng, ds => (rngD ds).bind fun ns => if ns.length ≤ LMX then some (.lst (ns.map D.int)) else none
  | .sorted, [.lst xs] => (intsOf xs).map fun ns => .lst ((isort ns).map D.int)
  | .int, [.int i] => some (.int i)
  | .int, [.bl b] => some (.int (if b then 1 else 0))
  | .str, [.int i] => if i.natAbs.log2 < 1920 then some (.str (Str.ofString (toString i))) else none
  | .str, [.str x] => some (.str x)
  | .str, [.non] => some (.str (Str.ofString "None"))
  | .isi t, [d] => (isiD t d).map D.bl
  | _, _ => none
/-- bits of a number -/
def bitsI (i : Int) : Nat := if i = 0 then 0 else i.natAbs.log2 + 1
def mtD : Mt → D → List D → Option D
  | .bitlen, .int i, [] => some (.int (bitsI i))
  | .join, .str a, [.lst xs] => (strsOf xs).bind fun ys => if (ys.map (·.length)).sum + ys.length * a.length ≤ LMX then some (.str (Str.join a ys)) else none
  | _, _, _ => none

/-! ### the syntax -/
inductive Tg where
  | n (i : Nat) | t (ts : List Tg)
mutual
inductive DE where
  | v (i : Nat)
  | mv (i : Nat)
  | pur (e : DE)
  | c (d : D)
  | g (x : Str) (d : D)
  | bin (o : BO) (a b : DE)
  | neg (a : DE)
  | cmp (o : CO) (a b : DE)
  | chn (o o' : CO) (a b c : DE)
  | and (es : DEs)
  | or (es : DEs)
  | not (a : DE)
  | tup (es : DEs)
  | lst (es : DEs)
  | dct (ks vs : DEs)
  | ix (a i : DE)
  | sl (a : DE) (lo hi : DO)
  | slp (a : DE) (lo hi : DO)
  | sl3 (a : DE) (lo hi : DO) (st : DE)
  | fld (a : DE) (f : Str)
  | call (f : Nat) (es : DEs)
  | cio (f i : Nat) (es : DEs) (kl : List Nat)
  | ctm (f : Nat) (a : DE) (es : DEs)
  | bi (b : Bi) (es : DEs)
  | mt (m : Mt) (a : DE) (es : DEs)
  | comp (elt : DE) (tg : Tg) (it : DI) (ifs : DEs) (own : List Nat)
inductive DEs where
  | nil | cons (e : DE) (es : DEs)
inductive DO where
  | no | so (e : DE)
inductive DI where
  | val (e : DE) | rng (es : DEs) | enu (e : DE) | zip (es : DEs) | rev (e : DE) | rrg (es : DEs)
end
inductive UO where
  | app (e : DE) | ext (e : DE) | set (i e : DE) | aug (o : BO) (i e : DE) | clr | rvs | ins (e1 e2 : DE)
  | fset (f : Str) (e : DE) | faug (o : BO) (f : Str) (e : DE)
inductive Ac where
  | f (x : Str) | i (e : DE)
mutual
inductive DS where
  | asg (tg : Tg) (e : DE)
  | par (i j : Nat) (a b : DE)
  | upd (i : Nat) (p : List Ac) (o : UO) (kl : List Nat)
  | aug (i : Nat) (o : BO) (e : DE)
  | ex (e : DE)
  | ifs (c : DE) (a b : DSs)
  | for (tg : Tg) (it : DI) (b : DSs)
  | whl (c : DE) (b : DSs)
  | ret (e : DE)
  | retN
  | brk | cnt | pas
  | rai (c : Str) (es : DEs)
inductive DSs where
  | nil | cons (s : DS) (ss : DSs)
end
def dL : List DE → DEs
  | [] => .nil
  | e :: es => .cons e (dL es)
def sL : List DS → DSs
  | [] => .nil
  | e :: es => .cons e (sL es)

/-! ### the meaning -/
abbrev En := List (Option D)
inductive Rs (α : Type) where
  | ok (a : α) (e : En)
  | exn (c : Str) (x : Option D) (e : En)
inductive Fr where
  | ret (d : D) (io : List D)
  | exn (c : Str) (x : Option D) (io : List D)
abbrev Fn := List D → Option Fr
inductive Ou where
  | nx | rt (d : D) | bk | ct

def bd {α β : Type} (r : Option (Rs α)) (f : α → En → Option (Rs β)) : Option (Rs β) :=
  match r with
  | some (.ok a e) => f a e
  | some (.exn c x e) => some (.exn c x e)
  | none => none
def lf {α : Type} (o : Option α) (e : En) : Option (Rs α) := o.map fun a => .ok a e
theorem bd_ok {α β : Type} (a : α) (e : En) (f : α → En → Option (Rs β)) : bd (some (.ok a e)) f = f a e := rfl
theorem bd_exn {α β : Type} (c : Str) (x : Option D) (e : En) (f : α → En → Option (Rs β)) : bd (some (.exn c x e)) f = some (.exn c x e) := rfl
theorem bd_none {α β : Type} (f : α → En → Option (Rs β)) : bd none f = none := rfl
theorem lf_some {α : Type} (a : α) (e : En) : lf (some a) e = some (.ok a e) := rfl
theorem lf_none {α : Type} (e : En) : lf (none : Option α) e = none := rfl

/-! does it change what the caller's names hold? -/
mutual
def ioE : DE → Bool
  | .v _ | .mv _ | .c _ | .g _ _ => false
  | .pur e | .neg e | .not e | .fld e _ => ioE e
  | .bin _ a b | .cmp _ a b | .ix a b => ioE a || ioE b
  | .chn _ _ a b c => ioE a || ioE b || ioE c
  | .and es | .or es | .tup es | .lst es | .bi _ es => ioL es
  | .dct ks vs => ioL ks || ioL vs
  | .sl a lo hi => ioE a || ioP lo || ioP hi
  | .slp a lo hi => ioE a || ioP lo || ioP hi
  | .sl3 a lo hi st => ioE a || (ioP lo || (ioP hi || ioE st))
  | .call _ es => ioL es
  | .cio _ _ _ _ => true
  | .ctm _ _ _ => true
  | .mt _ a es => ioE a || ioL es
  | .comp e _ it ifs _ => ioE e || ioI it || ioL ifs
def ioL : DEs → Bool
  | .nil => false
  | .cons e es => ioE e || ioL es
def ioP : DO → Bool
  | .no => false
  | .so e => ioE e
def ioI : DI → Bool
  | .val e | .enu e | .rev e => ioE e
  | .rng es | .zip es | .rrg es => ioL es
end
/-- views that may no longer hold -/
def kil : List Nat → En → En
  | [], e => e
  | k :: ks, e => match e[k]? with
    | some (some d) => if pureD d then kil ks e else kil ks (e.set k none)
    | _ => kil ks e
mutual
def bindT : Tg → D → En → Option En
  | .n i, d, e => some (e.set i (some d))
  | .t ts, .tup xs, e => bindTs ts xs e
  | .t _, _, _ => none
def bindTs : List Tg → List D → En → Option En
  | [], [], e => some e
  | t :: ts, x :: xs, e => (bindT t x e).bind fun e1 => bindTs ts xs e1
  | _, _, _ => none
end
def wipeE : List Nat → En → En
  | [], e => e
  | v :: vs, e => (wipeE vs e).set v none
/-- the items of what is walked -/
def itemsD : D → Option (List D)
  | .lst xs => some xs
  | .tup xs => some xs
  | .dct ks _ => some (ks.map fun k => match k with | .inl i => .int i | .inr x => .str x)
  | .str x => some (x.cps.toList.map fun c => .str ⟨#[c]⟩)
  | _ => none
def enumL : Nat → List D → List D
  | _, [] => []
  | n, x :: xs => .tup [.int n, x] :: enumL (n + 1) xs
def zipL : List D → List D → List D
  | x :: xs, y :: ys => .tup [x, y] :: zipL xs ys
  | _, _ => []
def asInt : D → Option Int
  | .int i => some i
  | _ => none

/-- a comprehension's turns -/
def compL (bt : D → Option En) (tst : En → Option (Rs Bool)) (elt : En → Option (Rs D)) : List D → Option (List D)
  | [] => some []
  | x :: xs => match bt x with
    | none => none
    | some e => match tst e with
      | some (.ok true e1) => (match elt e1 with
        | some (.ok d _) => (compL bt tst elt xs).bind fun ds => if ds.length < LMX then some (d :: ds) else none
        | _ => none)
      | some (.ok false _) => compL bt tst elt xs
      | _ => none

section
variable (Φ : Nat → Fn)
mutual
def ev : DE → En → Option (Rs D)
  | .v i, e => (match e[i]? with | some (some d) => some (.ok d e) | _ => none)
  | .mv i, e => (match e[i]? with | some (some d) => some (.ok d (e.set i none)) | _ => none)
  | .pur a, e => bd (ev a e) fun d e1 => if pureD d then some (.ok d e1) else none
  | .c d, e => some (.ok d e)
  | .g _ d, e => some (.ok d e)
  | .bin o a b, e => bd (ev a e) fun x e1 => if ioE b && !pureD x then none else bd (ev b e1) fun y e2 => lf (binD o x y) e2
  | .neg a, e => bd (ev a e) fun x e1 => (match x with | .int i => some (.ok (.int (-i)) e1) | _ => none)
  | .cmp o a b, e => bd (ev a e) fun x e1 => if ioE b && !pureD x then none else bd (ev b e1) fun y e2 => lf ((cmpD o x y).map D.bl) e2
  | .chn o o' a b c, e => bd (ev a e) fun x e1 => if (ioE b || ioE c) && !pureD x then none else bd (ev b e1) fun y e2 =>
      (match cmpD o x y with
      | some true => if ioE c && !pureD y then none else bd (ev c e2) fun z e3 => lf ((cmpD o' y z).map D.bl) e3
      | some false => some (.ok (.bl false) e2)
      | none => none)
  | .and es, e => evAnd es e
  | .or es, e => evOr es e
  | .not a, e => bd (ev a e) fun x e1 => (match x with | .bl b => some (.ok (.bl (!b)) e1) | _ => none)
  | .tup es, e => bd (evL es e) fun ds e1 => if ds.length ≤ LMX then some (.ok (.tup ds) e1) else none
  | .lst es, e => bd (evL es e) fun ds e1 => if ds.length ≤ LMX then some (.ok (.lst ds) e1) else none
  | .dct ks vs, e => none
  | .ix a i, e => bd (ev a e) fun x e1 => if ioE i && !pureD x then none else bd (ev i e1) fun y e2 => lf (ixD x y) e2
  | .sl a lo hi, e => bd (ev a e) fun x e1 => if (ioP lo || ioP hi) && !pureD x then none else bd (evP lo e1) fun l e2 => bd (evP hi e2) fun h e3 => lf (slD x l h) e3
  | .slp a lo hi, e => bd (ev a e) fun x e1 => if (ioP lo || ioP hi) && !pureD x then none else bd (evP lo e1) fun l e2 => bd (evP hi e2) fun h e3 => lf (slDp x l h) e3
  | .sl3 a lo hi st, e => bd (ev a e) fun x e1 => if (ioP lo || (ioP hi || ioE st)) && !pureD x then none else bd (evP lo e1) fun l e2 => bd (evP hi e2) fun h e3 => bd (ev st e3) fun s e4 => (match s with | .int i => lf (slD3 x l h i) e4 | _ => none)
  | .fld a f, e => none
  | .call f es, e => bd (evL es e) fun ds e1 => (match Φ f ds with
      | some (.ret d []) => some (.ok d e1)
      | some (.exn c x []) => some (.exn c x e1)
      | _ => none)
  | .cio f i es kl, e => (match e[i]? with
    | some (some _) => bd (evL es e) fun ds e1 => (match e1[i]? with
      | some (some d0) => (match Φ f (d0 :: ds) with
        | some (.ret d [d1]) => some (.ok d (kil kl (e1.set i (some d1))))
        | some (.exn c x [d1]) => some (.exn c x (kil kl (e1.set i (some d1))))
        | _ => none)
      | _ => none)
    | _ => none)
  | .ctm f a es, e => bd (ev a e) fun d0 e1 => if ioL es && !pureD d0 then none else bd (evL es e1) fun ds e2 => (match Φ f (d0 :: ds) with
      | some (.ret d [_]) => some (.ok d e2)
      | some (.exn c x [_]) => some (.exn c x e2)
      | _ => none)
  | .bi b es, e => bd (evL es e) fun ds e1 => lf (biD b ds) e1
  | .mt m a es, e => bd (ev a e) fun x e1 => if ioL es && !pureD x then none else bd (evL es e1) fun ds e2 => lf (mtD m x ds) e2
  | .comp elt tg it ifs own, e => bd (evI it e) fun xs e1 =>
      lf ((compL (fun x => bindT tg x (wipeE own e1)) (fun e2 => evTs ifs e2) (fun e2 => ev elt e2) xs).map D.lst) e1
def evL : DEs → En → Option (Rs (List D))
  | .nil, e => some (.ok [] e)
  | .cons a es, e => bd (ev a e) fun d e1 => if ioL es && !pureD d then none else bd (evL es e1) fun ds e2 => some (.ok (d :: ds) e2)
def evAnd : DEs → En → Option (Rs D)
  | .nil, _ => none
  | .cons a .nil, e => bd (ev a e) fun x e1 => (match x with | .bl b => some (.ok (.bl b) e1) | _ => none)
  | .cons a es, e => bd (ev a e) fun x e1 => (match x with | .bl true => evAnd es e1 | .bl false => some (.ok (.bl false) e1) | _ => none)
def evOr : DEs → En → Option (Rs D)
  | .nil, _ => none
  | .cons a .nil, e => bd (ev a e) fun x e1 => (match x with | .bl b => some (.ok (.bl b) e1) | _ => none)
  | .cons a es, e => bd (ev a e) fun x e1 => (match x with | .bl false => evOr es e1 | .bl true => some (.ok (.bl true) e1) | _ => none)
def evTs : DEs → En → Option (Rs Bool)
  | .nil, e => some (.ok true e)
  | .cons a es, e => bd (ev a e) fun x e1 => (match x with | .bl true => evTs es e1 | .bl false => some (.ok false e1) | _ => none)
def evP : DO → En → Option (Rs (Option Int))
  | .no, e => some (.ok none e)
  | .so a, e => bd (ev a e) fun x e1 => (match x with | .int i => some (.ok (some i) e1) | _ => none)
def evI : DI → En → Option (Rs (List D))
  | .val a, e => bd (ev a e) fun x e1 => lf (itemsD x) e1
  | .rng es, e => bd (evL es e) fun ds e1 => lf ((rngD ds).map fun ns => ns.map D.int) e1
  | .rrg es, e => bd (evL es e) fun ds e1 => (match ds with
      | [.int _] | [.int _, .int _] => lf ((rngD ds).map fun ns => (ns.map D.int).reverse) e1
      | _ => none)
  | .enu a, e => bd (ev a e) fun x e1 => (match x with
      | .lst xs => some (.ok (enumL 0 xs) e1)
      | .tup xs => some (.ok (enumL 0 xs) e1)
      | _ => none)
  | .zip es, e => bd (evL es e) fun ds e1 => (match ds with
      | [.lst xs, .lst ys] => some (.ok (zipL xs ys) e1)
      | _ => none)
  | .rev a, e => bd (ev a e) fun x e1 => (match x with
      | .lst xs => some (.ok xs.reverse e1)
      | _ => none)
end

/-! ### statements -/
inductive AcV where
  | f (x : Str) | i (k : D)
def evAc : List Ac → En → Option (Rs (List AcV))
  | [], e => some (.ok [] e)
  | .f x :: p, e => bd (evAc p e) fun q e1 => some (.ok (.f x :: q) e1)
  | .i a :: p, e => bd (ev Φ a e) fun d e1 => bd (evAc p e1) fun q e2 => some (.ok (.i d :: q) e2)
end
/-- put a value at an index -/
def setD : D → D → D → Option D
  | .lst xs, .int i, v => (ixP xs.length i).map fun j => .lst (xs.set j v)
  | _, _, _ => none
def updD : List AcV → (D → Option D) → D → Option D
  | [], f, d => f d
  | .i k :: p, f, d => (ixD d k).bind fun c => (updD p f c).bind fun c' => setD d k c'
  | .f _ :: _, _, _ => none
def getP : List AcV → D → Option D
  | [], d => some d
  | .i k :: p, .lst xs => (ixD (.lst xs) k).bind fun c => getP p c
  | _, _ => none

/-- a list stands there -/
def chkP (i : Nat) (q : List AcV) (e : En) : Bool := match e[i]? with
  | some (some d) => (match getP q d with | some (.lst _) => true | _ => false)
  | _ => false
/-- a number stands there -/
def chkI (i : Nat) (q : List AcV) (k : D) (e : En) : Bool := match e[i]? with
  | some (some d) => (match getP q d with
    | some (.lst xs) => (match ixD (.lst xs) k with | some (.int _) => true | _ => false)
    | _ => false)
  | _ => false
/-- a for's turns -/
def forL (bt : D → En → Option En) (body : En → Option (Rs Ou)) : List D → En → Option (Rs Ou)
  | [], e => some (.ok .nx e)
  | x :: xs, e => match bt x e with
    | none => none
    | some e1 => match body e1 with
      | some (.ok .nx e2) => forL bt body xs e2
      | some (.ok .ct e2) => forL bt body xs e2
      | some (.ok .bk e2) => some (.ok .nx e2)
      | r => r
/-- a while's turns, n at most -/
def whN (c : En → Option (Rs D)) (body : En → Option (Rs Ou)) : Nat → En → Option (Rs Ou)
  | 0, _ => none
  | n + 1, e => match c e with
    | some (.ok (.bl true) e1) => (match body e1 with
      | some (.ok .nx e2) => whN c body n e2
      | some (.ok .ct e2) => whN c body n e2
      | some (.ok .bk e2) => some (.ok .nx e2)
      | r => r)
    | some (.ok (.bl false) e1) => some (.ok .nx e1)
    | some (.exn k x e1) => some (.exn k x e1)
    | _ => none
open Classical in
noncomputable def wh (c : En → Option (Rs D)) (body : En → Option (Rs Ou)) (e : En) : Option (Rs Ou) :=
  if h : ∃ n, whN c body n e ≠ none then whN c body (Classical.choose h) e else none

section
variable (Φ : Nat → Fn)
def updE (i : Nat) (p : List AcV) (f : D → Option D) (kl : List Nat) (e : En) : Option (Rs Ou) :=
  match e[i]? with
  | some (some d) => (updD p f d).map fun d' => .ok .nx (kil kl (e.set i (some d')))
  | _ => none
/-- the list that is changed: its path -/
def rcv (i : Nat) (p : List Ac) (e : En) : Option (Rs (List AcV)) :=
  match e[i]? with
  | some (some _) => bd (evAc Φ p e) fun q e1 => if chkP i q e1 then some (.ok q e1) else none
  | _ => none
def evU (i : Nat) (p : List Ac) (o : UO) (kl : List Nat) (e : En) : Option (Rs Ou) :=
  match o with
  | .app a => bd (rcv Φ i p e) fun q e1 => bd (ev Φ a e1) fun d e2 => updE i q (fun t => match t with | .lst xs => if xs.length < LMX then some (.lst (xs ++ [d])) else none | _ => none) kl e2
  | .ext a => bd (rcv Φ i p e) fun q e1 => bd (ev Φ a e1) fun d e2 => updE i q (fun t => match t, d with | .lst xs, .lst ys => if xs.length + ys.length ≤ LMX then some (.lst (xs ++ ys)) else none | _, _ => none) kl e2
  | .set j a => bd (ev Φ a e) fun d e1 => bd (rcv Φ i p e1) fun q e2 => bd (ev Φ j e2) fun k e3 => updE i q (fun t => setD t k d) kl e3
  | .aug b j a => bd (rcv Φ i p e) fun q e1 => bd (ev Φ j e1) fun k e2 => if !chkI i q k e2 then none else bd (ev Φ a e2) fun d e3 => updE i q (fun t => (ixD t k).bind fun x => (binD b x d).bind fun y => setD t k y) kl e3
  | .ins j a => bd (rcv Φ i p e) fun q e1 => bd (ev Φ j e1) fun k e2 => bd (ev Φ a e2) fun d e3 => if pureD d then updE i q (fun t => match t, k with | .lst xs, .int n => if xs.length < LMX ∧ 0 ≤ n ∧ n < 1000000 then some (.lst (xs.take n.toNat ++ [d] ++ xs.drop n.toNat)) else none | _, _ => none) kl e3 else none
  | .clr => bd (rcv Φ i p e) fun q e1 => updE i q (fun t => match t with | .lst _ => some (.lst []) | _ => none) kl e1
  | _ => none
mutual
noncomputable def evS : DS → En → Option (Rs Ou)
  | .asg tg a, e => bd (ev Φ a e) fun d e1 => (bindT tg d e1).map fun e2 => .ok .nx e2
  | .par i j a b, e => bd (ev Φ a e) fun x e1 => if ioE b && !pureD x then none else bd (ev Φ b e1) fun y e2 => some (.ok .nx ((e2.set i (some x)).set j (some y)))
  | .upd i p o kl, e => evU Φ i p o kl e
  | .aug i o a, e => (match e[i]? with
      | some (some x) => bd (ev Φ a e) fun y e1 => if pureD x then (binD o x y).map fun z => .ok .nx (e1.set i (some z)) else none
      | _ => none)
  | .ex a, e => bd (ev Φ a e) fun _ e1 => some (.ok .nx e1)
  | .ifs c a b, e => bd (ev Φ c e) fun x e1 => (match x with | .bl true => evSs a e1 | .bl false => evSs b e1 | _ => none)
  | .for tg it b, e => bd (evI Φ it e) fun xs e1 => forL (fun x e2 => bindT tg x e2) (fun e2 => evSs b e2) xs e1
  | .whl c b, e => wh (fun e1 => ev Φ c e1) (fun e1 => evSs b e1) e
  | .ret a, e => bd (ev Φ a e) fun d e1 => some (.ok (.rt d) e1)
  | .retN, e => some (.ok (.rt .non) e)
  | .brk, e => some (.ok .bk e)
  | .cnt, e => some (.ok .ct e)
  | .pas, e => some (.ok .nx e)
  | .rai c es, e => bd (evL Φ es e) fun ds e1 => (match ds with
      | [d] => some (.exn c (some d) e1)
      | _ => none)
noncomputable def evSs : DSs → En → Option (Rs Ou)
  | .nil, e => some (.ok .nx e)
  | .cons s ss, e => (match evS s e with
      | some (.ok .nx e1) => evSs ss e1
      | r => r)
end
end
def iosOf : List Nat → En → Option (List D)
  | [], _ => some []
  | i :: is, e => match e[i]? with
    | some (some d) => (iosOf is e).map (d :: ·)
    | _ => none
/-- a def: n names, the parameters first, the parameters at io changed -/
structure Df where
  n : Nat
  io : List Nat
  body : DSs
noncomputable def run (Φ : Nat → Fn) (f : Df) : Fn := fun ds =>
  match evSs Φ f.body (ds.map some ++ List.replicate (f.n - ds.length) none) with
  | some (.ok (.rt d) e) => (iosOf f.io e).map (Fr.ret d)
  | some (.ok .nx e) => (iosOf f.io e).map (Fr.ret .non)
  | some (.exn c x e) => (iosOf f.io e).map (Fr.exn c x)
  | _ => none
end Cy
end
section
set_option Elab.async false
set_option linter.all false
set_option maxRecDepth 100000
set_option maxHeartbeats 1000000
/-! Soundness, 1: how data stand in a heap; states; weakest readings. -/
namespace Cy
open PySem L2

/-! ### data in a heap -/
/-- the script -/
def SqF (K : PySem.W.Frag) (H : Hp) (a : Addr) (xs : List V) : Prop :=
  (∃ o, H a = some (.frz o (.lst xs))) ∨ ∃ (o : Obj) (its : Array Value) (n : Nat), K.lookup a = some o ∧ o.cls = .type "list" ∧ o.dict = none ∧ o.data = .seq its n ∧ its.size ≤ sizeLine ∧ Vals xs its.toList
theorem SqF.sq {K : PySem.W.Frag} {H : Hp} {a : Addr} {xs : List V} (h : SqF K H a xs) : SqL K H a xs := by
  rcases h with h | h
  · exact .inl (.inr h)
  · exact .inr h
theorem SqF.of {K : PySem.W.Frag} {H : Hp} {a : Addr} {xs : List V} (hO : Only H) (h : SqL K H a xs) : SqF K H a xs := by
  rcases h with (h | h) | h
  · rcases hO a with z | ⟨o, ys, z⟩
    · rw [h] at z; cases z
    · rw [h] at z; cases z
  · exact .inl h
  · exact .inr h
mutual
inductive Rep (K : PySem.W.Frag) (H : Hp) : V → D → List Addr → Prop
  | non : Rep K H .non .non []
  | bl (b : Bool) : Rep K H (.bl b) (.bl b) []
  | int (i : Int) : Rep K H (.int i) (.int i) []
  | str (x : Str) : Rep K H (.str x) (.str x) []
  | tup {p : Addr} {vs : List V} {ds : List D} {A : List Addr} : SqT K H p vs → Reps K H vs ds A → Rep K H (.ref p) (.tup ds) A
  | lst {p : Addr} {vs : List V} {ds : List D} {A : List Addr} : H p = some (.lst vs) → Reps K H vs ds A → Rep K H (.ref p) (.lst ds) (p :: A)
  | scr {p : Addr} {ns : List Int} : SqF K H p (ns.map V.int) → Rep K H (.ref p) (.scr ns) []
inductive Reps (K : PySem.W.Frag) (H : Hp) : List V → List D → List Addr → Prop
  | nil : Reps K H [] [] []
  | cons {v : V} {vs : List V} {d : D} {ds : List D} {A B : List Addr} : Rep K H v d A → Reps K H vs ds B → Reps K H (v :: vs) (d :: ds) (A ++ B)
end
/-- a list stands there -/
def MutH (H : Hp) (a : Addr) : Prop := ∃ xs, H a = some (.lst xs)

section
variable {K : PySem.W.Frag} {H H' : Hp}
theorem SqT.keep {a : Addr} {xs : List V} (k : ∀ a o, H a = some o → (∀ xs, o ≠ .lst xs) → H' a = some o) (h : SqT K H a xs) : SqT K H' a xs := by
  rcases h with (h | ⟨o, h⟩) | h
  · exact .inl (.inl (k _ _ h (fun _ e => nomatch e)))
  · exact .inl (.inr ⟨o, k _ _ h (fun _ e => nomatch e)⟩)
  · exact .inr h
theorem SqF.keep {a : Addr} {xs : List V} (k : ∀ a o, H a = some o → (∀ xs, o ≠ .lst xs) → H' a = some o) (h : SqF K H a xs) : SqF K H' a xs := by
  rcases h with ⟨o, h⟩ | h
  · exact .inl ⟨o, k _ _ h (fun _ e => nomatch e)⟩
  · exact .inr h
mutual
theorem Rep.keep (k : ∀ a o, H a = some o → (∀ xs, o ≠ .lst xs) → H' a = some o) : ∀ {d : D} {v : V} {A : List Addr}, Rep K H v d A → (∀ a ∈ A, ∀ o, H a = some o → H' a = some o) → Rep K H' v d A
  | _, _, _, .non, _ => .non
  | _, _, _, .bl b, _ => .bl b
  | _, _, _, .int i, _ => .int i
  | _, _, _, .str x, _ => .str x
  | _, _, _, .tup h r, g => .tup (SqT.keep k h) (Reps.keep k r g)
  | _, _, _, .lst h r, g => .lst (g _ (List.mem_cons_self ..) _ h) (Reps.keep k r fun a ha => g a (List.mem_cons_of_mem _ ha))
  | _, _, _, .scr h, _ => .scr (SqF.keep k h)
theorem Reps.keep (k : ∀ a o, H a = some o → (∀ xs, o ≠ .lst xs) → H' a = some o) : ∀ {ds : List D} {vs : List V} {A : List Addr}, Reps K H vs ds A → (∀ a ∈ A, ∀ o, H a = some o → H' a = some o) → Reps K H' vs ds A
  | _, _, _, .nil, _ => .nil
  | _, _, _, .cons r t, g => .cons (Rep.keep k r fun a ha => g a (List.mem_append_left _ ha)) (Reps.keep k t fun a ha => g a (List.mem_append_right _ ha))
end
theorem Rep.mono {d : D} {v : V} {A : List Addr} (e : Same H H') (r : Rep K H v d A) : Rep K H' v d A := r.keep (fun a o h _ => e a o h) fun a _ o h => e a o h
theorem Reps.mono {d : List D} {v : List V} {A : List Addr} (e : Same H H') (r : Reps K H v d A) : Reps K H' v d A := r.keep (fun a o h _ => e a o h) fun a _ o h => e a o h
mutual
theorem Rep.mut : ∀ {d : D} {v : V} {A : List Addr}, Rep K H v d A → ∀ a ∈ A, MutH H a
  | _, _, _, .non, _, h => nomatch h
  | _, _, _, .bl b, _, h => nomatch h
  | _, _, _, .int i, _, h => nomatch h
  | _, _, _, .str x, _, h => nomatch h
  | _, _, _, .tup _ r, a, h => Reps.mut r a h
  | _, _, _, .lst h1 r, a, h => by
    rcases List.mem_cons.mp h with e | h
    · exact ⟨_, e ▸ h1⟩
    · exact Reps.mut r a h
  | _, _, _, .scr _, _, h => nomatch h
theorem Reps.mut : ∀ {ds : List D} {vs : List V} {A : List Addr}, Reps K H vs ds A → ∀ a ∈ A, MutH H a
  | _, _, _, .nil, _, h => nomatch h
  | _, _, _, .cons r t, a, h => by
    rcases List.mem_append.mp h with h | h
    · exact Rep.mut r a h
    · exact Reps.mut t a h
end
mutual
theorem Rep.pure : ∀ {d : D} {v : V} {A : List Addr}, Rep K H v d A → pureD d = true → A = []
  | _, _, _, .non, _ => rfl
  | _, _, _, .bl b, _ => rfl
  | _, _, _, .int i, _ => rfl
  | _, _, _, .str x, _ => rfl
  | _, _, _, .tup _ r, h => Reps.pure r (by simpa only [pureD] using h)
  | _, _, _, .lst _ _, h => by simp [pureD] at h
  | _, _, _, .scr _, _ => rfl
theorem Reps.pure : ∀ {ds : List D} {vs : List V} {A : List Addr}, Reps K H vs ds A → pureDs ds = true → A = []
  | _, _, _, .nil, _ => rfl
  | _, _, _, .cons r t, h => by
    simp only [pureDs, Bool.and_eq_true] at h
    rw [Rep.pure r h.1, Reps.pure t h.2]; rfl
end
theorem Reps.length : ∀ {ds : List D} {vs : List V} {A : List Addr}, Reps K H vs ds A → vs.length = ds.length
  | _, _, _, .nil => rfl
  | _, _, _, .cons _ t => by rw [List.length_cons, List.length_cons, Reps.length t]
theorem Reps.get : ∀ {ds : List D} {vs : List V} {A : List Addr} {i : Nat} {d : D}, Reps K H vs ds A → ds[i]? = some d → ∃ v B, vs[i]? = some v ∧ Rep K H v d B ∧ B.Sublist A
  | _, _, _, _, _, .nil, h => by simp at h
  | _, _, _, 0, d, .cons r t, h => by
    simp at h; subst h
    exact ⟨_, _, rfl, r, List.sublist_append_left _ _⟩
  | _, _, _, i + 1, d, .cons r t, h => by
    obtain ⟨v, B, h1, h2, h3⟩ := Reps.get (i := i) t (by simpa using h)
    exact ⟨v, B, by simpa using h1, h2, h3.trans (List.sublist_append_right _ _)⟩
theorem Reps.append {ds es : List D} : ∀ {vs ws : List V} {A B : List Addr}, Reps K H vs ds A → Reps K H ws es B → Reps K H (vs ++ ws) (ds ++ es) (A ++ B) := by
  induction ds with
  | nil => intro vs ws A B r s; cases r; exact s
  | cons d ds ih =>
    intro vs ws A B r s
    cases r with
    | cons r t =>
      rw [List.append_assoc]
      exact .cons r (ih t s)
theorem Reps.drop : ∀ (n : Nat) {ds : List D} {vs : List V} {A : List Addr}, Reps K H vs ds A → ∃ B, Reps K H (vs.drop n) (ds.drop n) B ∧ B.Sublist A
  | 0, _, _, A, r => ⟨A, r, List.Sublist.refl _⟩
  | n + 1, _, _, _, .nil => ⟨[], .nil, List.Sublist.refl _⟩
  | n + 1, _, _, _, .cons _ t => by
    obtain ⟨B, h1, h2⟩ := Reps.drop n t
    exact ⟨B, h1, h2.trans (List.sublist_append_right _ _)⟩
theorem Reps.take : ∀ (n : Nat) {ds : List D} {vs : List V} {A : List Addr}, Reps K H vs ds A → ∃ B, Reps K H (vs.take n) (ds.take n) B ∧ B.Sublist A
  | 0, _, _, A, r => ⟨[], .nil, List.nil_sublist _⟩
  | n + 1, _, _, _, .nil => ⟨[], .nil, List.Sublist.refl _⟩
  | n + 1, _, _, _, .cons r t => by
    obtain ⟨B, h1, h2⟩ := Reps.take n t
    exact ⟨_, .cons r h1, List.Sublist.append (List.Sublist.refl _) h2⟩
theorem Reps.one {v : V} {d : D} {A : List Addr} (r : Rep K H v d A) : Reps K H [v] [d] A := by
  have h := Reps.cons r Reps.nil
  rwa [List.append_nil] at h
theorem Reps.one_inv {vs : List V} {d : D} {A : List Addr} (r : Reps K H vs [d] A) : ∃ v, vs = [v] ∧ Rep K H v d A := by
  cases r with
  | cons r t =>
    cases t
    exact ⟨_, rfl, by rwa [List.append_nil]⟩
theorem Reps.set : ∀ {ds : List D} {vs : List V} {A : List Addr} (i : Nat) {d : D} {v : V} {B : List Addr}, Reps K H vs ds A → Rep K H v d B → i < ds.length →
    ∃ A1 C A2, A = A1 ++ C ++ A2 ∧ Reps K H (vs.set i v) (ds.set i d) (A1 ++ B ++ A2) ∧ ∀ d0, ds[i]? = some d0 → ∃ v0, vs[i]? = some v0 ∧ Rep K H v0 d0 C
  | _, _, _, _, _, _, _, .nil, _, h => by simp at h
  | _, _, _, 0, _, _, B, .cons (A := A0) (B := B0) r t, s, _ => ⟨[], A0, B0, by simp, by simpa using Reps.cons s t, fun d0 h => by simp at h; subst h; exact ⟨_, rfl, r⟩⟩
  | _, _, _, i + 1, _, _, B, .cons (A := A0) (B := B0) r t, s, h => by
    obtain ⟨A1, C, A2, e, q, g⟩ := Reps.set i t s (by simpa using h)
    refine ⟨A0 ++ A1, C, A2, by rw [e]; simp, ?_, fun d0 h0 => ?_⟩
    · have z := Reps.cons r q
      simpa using z
    · obtain ⟨v0, a, b⟩ := g d0 (by simpa using h0)
      exact ⟨v0, by simpa using a, b⟩
theorem reps_ints : ∀ {ds : List D} {vs : List V} {A : List Addr} {ns : List Int}, Reps K H vs ds A → intsOf ds = some ns → vs = ns.map V.int ∧ A = []
  | _, _, _, ns, .nil, h => by
    simp [intsOf] at h; subst h; exact ⟨rfl, rfl⟩
  | d :: ds, _, _, ns, .cons r t, h => by
    cases r with
    | int i =>
      simp only [intsOf, Option.map_eq_some_iff] at h
      obtain ⟨ms, h1, rfl⟩ := h
      obtain ⟨rfl, rfl⟩ := reps_ints t h1
      exact ⟨rfl, rfl⟩
    | _ => simp [intsOf] at h
theorem reps_bls : ∀ {ds : List D} {vs : List V} {A : List Addr} {ns : List Bool}, Reps K H vs ds A → blsOf ds = some ns → vs = ns.map V.bl ∧ A = []
  | _, _, _, ns, .nil, h => by
    simp [blsOf] at h; subst h; exact ⟨rfl, rfl⟩
  | d :: ds, _, _, ns, .cons r t, h => by
    cases r with
    | bl i =>
      simp only [blsOf, Option.map_eq_some_iff] at h
      obtain ⟨ms, h1, rfl⟩ := h
      obtain ⟨rfl, rfl⟩ := reps_bls t h1
      exact ⟨rfl, rfl⟩
    | _ => simp [blsOf] at h
theorem reps_strs : ∀ {ds : List D} {vs : List V} {A : List Addr} {ns : List Str}, Reps K H vs ds A → strsOf ds = some ns → vs = ns.map V.str ∧ A = []
  | _, _, _, ns, .nil, h => by
    simp [strsOf] at h; subst h; exact ⟨rfl, rfl⟩
  | d :: ds, _, _, ns, .cons r t, h => by
    cases r with
    | str i =>
      simp only [strsOf, Option.map_eq_some_iff] at h
      obtain ⟨ms, h1, rfl⟩ := h
      obtain ⟨rfl, rfl⟩ := reps_strs t h1
      exact ⟨rfl, rfl⟩
    | _ => simp [strsOf] at h
/-- a list parted -/
theorem Reps.part : ∀ (n : Nat) {ds : List D} {vs : List V} {A : List Addr}, Reps K H vs ds A → ∃ B C, A = B ++ C ∧ Reps K H (vs.take n) (ds.take n) B ∧ Reps K H (vs.drop n) (ds.drop n) C
  | 0, _, _, A, r => ⟨[], A, rfl, .nil, r⟩
  | n + 1, _, _, _, .nil => ⟨[], [], rfl, .nil, .nil⟩
  | n + 1, _, _, _, .cons (A := A0) r t => by
    obtain ⟨B, C, h1, h2, h3⟩ := Reps.part n t
    exact ⟨A0 ++ B, C, by rw [h1, List.append_assoc], .cons r h2, h3⟩
theorem reps_of_ints : ∀ ns : List Int, Reps K H (ns.map V.int) (ns.map D.int) []
  | [] => .nil
  | n :: ns => .cons (A := []) (.int n) (reps_of_ints ns)
end

/-! ### states -/
abbrev Asg := Nat → List Addr
def OwA (own : List Nat) (As : Asg) (a : Addr) : Prop := ∃ i ∈ own, a ∈ As i
structure SR (K : PySem.W.Frag) (n : Nat) (own vw : List Nat) (Z P : Addr → Prop) (σ : L2.St) (H : Hp) (env : En) (As : Asg) : Prop where
  len : σ.length = n
  lenE : env.length = n
  rep : ∀ i d, env[i]? = some (some d) → ∃ v, σ[i]? = some (some v) ∧ Rep K H v d (As i)
  non : ∀ i, (∀ d, env[i]? ≠ some (some d)) → As i = []
  shr : ∀ i, i ∉ own → i ∉ vw → ∀ a ∈ As i, Z a
  nod : ∀ i ∈ own, (As i).Nodup
  noP : ∀ i ∈ own, ∀ a ∈ As i, ¬ P a
  dis : ∀ i ∈ own, ∀ j ∈ own, i ≠ j → ∀ a ∈ As i, a ∉ As j
  zp : ∀ a, Z a → P a
  ph : ∀ a, P a → H a ≠ none
/-- from one moment to a later one, within an expression -/
structure TR (own : List Nat) (io : Bool) (H : Hp) (As : Asg) (H' : Hp) (As' : Asg) : Prop where
  mono : ∀ a, H a ≠ none → H' a ≠ none
  keep : ∀ a o, H a = some o → (io = true → ¬ OwA own As a) → H' a = some o
  ow : ∀ a, OwA own As' a → OwA own As a ∨ H a = none
  al : ∀ j a, a ∈ As' j → (∃ i, a ∈ As i) ∨ H a = none
/-- of a value's lists: all its own, or at least none that may change unseen -/
def New (own : List Nat) (H : Hp) (As As' : Asg) (a : Addr) : Prop := (H a = none ∨ OwA own As a) ∧ ¬ OwA own As' a
def EF (own : List Nat) (Z : Addr → Prop) (fr sh : Bool) (H : Hp) (As As' : Asg) (A : List Addr) : Prop :=
  (fr = true → A.Nodup ∧ ∀ a ∈ A, New own H As As' a) ∧ (sh = true → ∀ a ∈ A, New own H As As' a ∨ Z a) ∧ ∀ a ∈ A, H a = none ∨ ∃ i, a ∈ As i
section
variable {K : PySem.W.Frag} {n : Nat} {own vw : List Nat} {Z P : Addr → Prop} {σ : L2.St} {H H1 H2 : Hp} {env env1 env2 : En} {As As1 As2 : Asg}
theorem TR.refl {io : Bool} : TR own io H As H As := ⟨fun _ h => h, fun _ _ h _ => h, fun _ h => .inl h, fun j _ h => .inl ⟨j, h⟩⟩
theorem TR.trans {i1 i2 io : Bool} (a : TR own i1 H As H1 As1) (b : TR own i2 H1 As1 H2 As2) (h1 : i1 = true → io = true) (h2 : i2 = true → io = true) : TR own io H As H2 As2 where
  mono := fun x h => b.mono x (a.mono x h)
  keep := fun x o h n => b.keep x o (a.keep x o h fun e => n (h1 e)) fun e c => by
    rcases a.ow x c with q | q
    · exact n (h2 e) q
    · rw [h] at q; cases q
  ow := fun x h => by
    rcases b.ow x h with q | q
    · exact a.ow x q
    · refine .inr ?_
      cases e : H x with
      | none => rfl
      | some o => exact absurd q (a.mono x (by rw [e]; simp))
  al := fun j x h => by
    rcases b.al j x h with ⟨i, q⟩ | q
    · exact a.al i x q
    · refine .inr ?_
      cases e : H x with
      | none => rfl
      | some o => exact absurd q (a.mono x (by rw [e]; simp))
theorem TR.back {i : Bool} (t : TR own i H As H1 As1) {a : Addr} (h : H1 a = none) : H a = none := by
  cases e : H a with
  | none => rfl
  | some o => exact absurd h (t.mono a (by rw [e]; simp))
theorem TR.weak {i io : Bool} (a : TR own i H As H1 As1) (h : i = true → io = true) : TR own io H As H1 As1 := ⟨a.mono, fun x o e n => a.keep x o e fun z => n (h z), a.ow, a.al⟩
/-- one state, more in the heap -/
theorem TR.grow {io : Bool} (e : Same H H1) : TR own io H As H1 As := ⟨fun a h => by
  cases q : H a with
  | none => exact absurd q h
  | some o => rw [e a o q]; simp, fun a o h _ => e a o h, fun _ h => .inl h, fun j _ h => .inl ⟨j, h⟩⟩
theorem SR.grow (S : SR K n own vw Z P σ H env As) (e : Same H H1) : SR K n own vw Z P σ H1 env As :=
  ⟨S.len, S.lenE, fun i d h => let ⟨v, a, b⟩ := S.rep i d h; ⟨v, a, b.mono e⟩, S.non, S.shr, S.nod, S.noP, S.dis, S.zp, fun a h => by
    have q := S.ph a h
    cases r : H a with
    | none => exact absurd r q
    | some o => rw [e a o r]; simp⟩
theorem SR.own_mut (S : SR K n own vw Z P σ H env As) {a : Addr} (h : OwA own As a) : MutH H a := by
  obtain ⟨i, _, ha⟩ := h
  by_cases q : ∃ d, env[i]? = some (some d)
  · obtain ⟨d, q⟩ := q
    obtain ⟨v, _, r⟩ := S.rep i d q
    exact r.mut a ha
  · rw [S.non i (fun d z => q ⟨d, z⟩)] at ha
    cases ha
theorem SR.own_some (S : SR K n own vw Z P σ H env As) {a : Addr} (h : OwA own As a) : H a ≠ none := by
  obtain ⟨xs, q⟩ := S.own_mut h
  rw [q]; simp
/-- a value made ahead of a step still stands behind it -/
theorem Rep.step {io : Bool} {v : V} {d : D} {A : List Addr} (S : SR K n own vw Z P σ H env As) (t : TR own io H As H1 As1) (r : Rep K H v d A) (p : io = true → pureD d = true) : Rep K H1 v d A := by
  refine r.keep (fun a o h n => t.keep a o h fun _ c => ?_) fun a ha o h => t.keep a o h fun e => ?_
  · obtain ⟨xs, q⟩ := S.own_mut c
    rw [h] at q
    exact n xs (Option.some.inj q)
  · rw [r.pure (p e)] at ha
    cases ha
theorem Reps.step {io : Bool} {v : List V} {d : List D} {A : List Addr} (S : SR K n own vw Z P σ H env As) (t : TR own io H As H1 As1) (r : Reps K H v d A) (p : io = true → pureDs d = true) : Reps K H1 v d A := by
  refine r.keep (fun a o h n => t.keep a o h fun _ c => ?_) fun a ha o h => t.keep a o h fun e => ?_
  · obtain ⟨xs, q⟩ := S.own_mut c
    rw [h] at q
    exact n xs (Option.some.inj q)
  · rw [r.pure (p e)] at ha
    cases ha
/-- what is new of a value stays so -/
theorem New.step {io : Bool} {a : Addr} (m : MutH H1 a) (t : TR own io H1 As1 H2 As2) (hn : New own H As As1 a) : New own H As As2 a := by
  refine ⟨hn.1, fun c => ?_⟩
  rcases t.ow a c with q | q
  · exact hn.2 q
  · obtain ⟨xs, e⟩ := m
    rw [e] at q; cases q
theorem New.back {i : Bool} {a : Addr} (t : TR own i H As H1 As1) (hn : New own H1 As1 As2 a) : New own H As As2 a := by
  refine ⟨?_, hn.2⟩
  rcases hn.1 with q | q
  · left
    cases e : H a with
    | none => rfl
    | some o => exact absurd q (t.mono a (by rw [e]; simp))
  · rcases t.ow a q with z | z
    · exact .inr z
    · exact .inl z
/-- what is new later is none of what was new ahead -/
theorem New.apart {a b : Addr} (m : MutH H1 a) (hn : New own H As As1 a) (n2 : New own H1 As1 As2 b) : a ≠ b := fun e => by
  subst e
  obtain ⟨xs, q⟩ := m
  rcases n2.1 with z | z
  · rw [q] at z; cases z
  · exact hn.2 z
theorem EF.pure {fr sh : Bool} : EF own Z fr sh H As As1 [] := ⟨fun _ => ⟨List.nodup_nil, (fun _ h => nomatch h)⟩, (fun _ _ h => nomatch h), (fun _ h => nomatch h)⟩
theorem EF.sub {fr sh : Bool} {A B : List Addr} (e : EF own Z fr sh H As As1 A) (s : B.Sublist A) : EF own Z fr sh H As As1 B :=
  ⟨fun h => ⟨(e.1 h).1.sublist s, fun a ha => (e.1 h).2 a (s.subset ha)⟩, fun h a ha => e.2.1 h a (s.subset ha), fun a ha => e.2.2 a (s.subset ha)⟩
theorem EF.step {io fr sh : Bool} {A : List Addr} (m : ∀ a ∈ A, MutH H1 a) (t : TR own io H1 As1 H2 As2) (e : EF own Z fr sh H As As1 A) : EF own Z fr sh H As As2 A :=
  ⟨fun h => ⟨(e.1 h).1, fun a ha => ((e.1 h).2 a ha).step (m a ha) t⟩, fun h a ha => (e.2.1 h a ha).imp (fun n => n.step (m a ha) t) id, e.2.2⟩
theorem EF.back {i fr sh : Bool} {A : List Addr} (t : TR own i H As H1 As1) (e : EF own Z fr sh H1 As1 As2 A) : EF own Z fr sh H As As2 A :=
  ⟨fun h => ⟨(e.1 h).1, fun a ha => ((e.1 h).2 a ha).back t⟩, fun h a ha => (e.2.1 h a ha).imp (fun n => n.back t) id, fun a ha => by
    rcases e.2.2 a ha with z | ⟨i, z⟩
    · exact .inl (t.back z)
    · exact (t.al i a z).symm⟩
theorem EF.weak {fr sh fr' sh' : Bool} {A : List Addr} (e : EF own Z fr sh H As As1 A) (h1 : fr' = true → fr = true) (h2 : sh' = true → sh = true) : EF own Z fr' sh' H As As1 A :=
  ⟨fun h => e.1 (h1 h), fun h => e.2.1 (h2 h), e.2.2⟩
/-- two values, one behind the other -/
theorem EF.app {i j f1 f2 s1 s2 : Bool} {A B : List Addr} (m : ∀ a ∈ A, MutH H1 a) (t1 : TR own i H As H1 As1) (t2 : TR own j H1 As1 H2 As2) (e1 : EF own Z f1 s1 H As As1 A) (e2 : EF own Z f2 s2 H1 As1 As2 B) :
    EF own Z (f1 && f2) (s1 && s2) H As As2 (A ++ B) := by
  refine ⟨fun h => ?_, fun h a ha => ?_, fun a ha => (List.mem_append.mp ha).elim (e1.2.2 a) ((e2.back t1).2.2 a)⟩
  · simp only [Bool.and_eq_true] at h
    obtain ⟨n1, g1⟩ := e1.1 h.1
    obtain ⟨n2, g2⟩ := e2.1 h.2
    refine ⟨List.nodup_append.mpr ⟨n1, n2, fun a ha b hb => (g1 a ha).apart (m a ha) (g2 b hb)⟩, fun a ha => ?_⟩
    rcases List.mem_append.mp ha with ha | ha
    · exact (g1 a ha).step (m a ha) t2
    · exact (g2 a ha).back t1
  · simp only [Bool.and_eq_true] at h
    rcases List.mem_append.mp ha with ha | ha
    · exact (e1.2.1 h.1 a ha).imp (fun n => n.step (m a ha) t2) id
    · exact (e2.2.1 h.2 a ha).imp (fun n => n.back t1) id
/-- a new list around -/
theorem EF.cons {fr sh : Bool} {A : List Addr} {p : Addr} (S : SR K n own vw Z P σ H1 env As1) (t : TR own false H As H1 As1 ∨ TR own true H As H1 As1) (m : ∀ a ∈ A, MutH H1 a) (hp : H1 p = none) (e : EF own Z fr sh H As As1 A) : EF own Z fr sh H As As1 (p :: A) := by
  have hH : H p = none := by
    cases q : H p with
    | none => rfl
    | some o => exact absurd hp ((t.elim (fun t => t.mono) (fun t => t.mono)) p (by rw [q]; simp))
  have np : New own H As As1 p := ⟨.inl hH, fun c => S.own_some c hp⟩
  refine ⟨fun h => ⟨List.nodup_cons.mpr ⟨fun c => ?_, (e.1 h).1⟩, fun a ha => ?_⟩, fun h a ha => ?_, fun a ha => ?_⟩
  · obtain ⟨xs, q⟩ := m p c
    rw [hp] at q; cases q
  · rcases List.mem_cons.mp ha with z | ha
    · exact z ▸ np
    · exact (e.1 h).2 a ha
  · rcases List.mem_cons.mp ha with z | ha
    · exact .inl (z ▸ np)
    · exact e.2.1 h a ha
  · rcases List.mem_cons.mp ha with z | ha
    · exact .inl (z ▸ hH)
    · exact e.2.2 a ha
end
theorem same_new {H : Hp} {p : Addr} {o : HO} (h : H p = none) : Same H (upd H p o) := fun a u e => by
  rw [upd_ne (ne_of_none e h)]
  exact e

/-! ### weakest readings -/
section
variable {X : Cx}
def WE (X : Cx) (e : Expr) : TE := fun σ H Q => ∀ pins s, Inv X pins σ H s → wpAny (model X.prog X.w) X.A (eval e X.env) (EP X pins σ Q) X.xe s
def WT (X : Cx) (e : Expr) : TT := fun σ H Q => ∀ pins s, Inv X pins σ H s → wpAny (model X.prog X.w) X.A (isTrue e X.env (eval e X.env)) (TP X pins σ Q) X.xe s
def WW (X : Cx) (e : Expr) : TT := fun σ H Q => ∀ whole pins s, Inv X pins σ H s → wpAny (model X.prog X.w) X.A (isTrue e X.env whole) (TP X pins σ Q) X.xe s
def WA (X : Cx) (es : List Expr) : TA := fun σ H Q => ∀ pos pins s, Inv X pins σ H s → wpAny (model X.prog X.w) X.A (spliced (backTo pos (starEach es X.env))) (AP X pins σ Q) X.xe s
def WS (X : Cx) (st : Stmt) : TS := fun D σ H => ∀ pins s, Inv X pins σ H s → wpAny (model X.prog X.w) X.A (exec st X.env) (SP X pins D) X.xe s
def WSs (X : Cx) (st : List Stmt) : TS := fun D σ H => ∀ pins s, Inv X pins σ H s → wpAny (model X.prog X.w) X.A (execs st X.env) (SP X pins D) X.xe s
def WO (X : Cx) (e : Option Expr) : TO := fun σ H Q => ∀ pins s, Inv X pins σ H s → wpAny (model X.prog X.w) X.A (evalPart e X.env) (fun u s' => ∃ o H', Inv X pins σ H' s' ∧ IsPart u o ∧ Q o H') X.xe s
theorem we {e : Expr} : PE X e (WE X e) := ⟨fun pins s σ H Q I h => h pins s I⟩
theorem wt {e : Expr} : PT X e (WT X e) := ⟨fun pins s σ H Q I h => h pins s I⟩
theorem ww {e : Expr} : PW X e (WW X e) := ⟨fun whole pins s σ H Q I h => h whole pins s I⟩
theorem wa {es : List Expr} : PA X es (WA X es) := ⟨fun pos pins s σ H Q I h => h pos pins s I⟩
theorem ws {st : Stmt} : PS X st (WS X st) := ⟨fun pins s σ H D I h => h pins s I⟩
theorem wss {st : List Stmt} : PSs X st (WSs X st) := ⟨fun pins s σ H D I h => h pins s I⟩
theorem wo {e : Option Expr} : PO X e (WO X e) := ⟨fun pins s σ H Q I h => h pins s I⟩
theorem _root_.L2.PE.we {e : Expr} {t : TE} {σ : L2.St} {H : Hp} {Q : VK} (h : PE X e t) (q : t σ H Q) : WE X e σ H Q := fun pins s I => h.run pins s σ H Q I q
theorem _root_.L2.PT.we {e : Expr} {t : TT} {σ : L2.St} {H : Hp} {Q : Bool → Hp → Prop} (h : PT X e t) (q : t σ H Q) : WT X e σ H Q := fun pins s I => h.run pins s σ H Q I q
theorem _root_.L2.PW.we {e : Expr} {t : TT} {σ : L2.St} {H : Hp} {Q : Bool → Hp → Prop} (h : PW X e t) (q : t σ H Q) : WW X e σ H Q := fun wh pins s I => h.run wh pins s σ H Q I q
theorem _root_.L2.PA.we {e : List Expr} {t : TA} {σ : L2.St} {H : Hp} {Q : List V → Hp → Prop} (h : PA X e t) (q : t σ H Q) : WA X e σ H Q := fun pos pins s I => h.run pos pins s σ H Q I q
theorem _root_.L2.PS.we {e : Stmt} {t : TS} {σ : L2.St} {H : Hp} {D : Ends} (h : PS X e t) (q : t D σ H) : WS X e D σ H := fun pins s I => h.run pins s σ H D I q
theorem _root_.L2.PSs.we {e : List Stmt} {t : TS} {σ : L2.St} {H : Hp} {D : Ends} (h : PSs X e t) (q : t D σ H) : WSs X e D σ H := fun pins s I => h.run pins s σ H D I q
theorem _root_.L2.PO.we {e : Option Expr} {t : TO} {σ : L2.St} {H : Hp} {Q : Option Int → Hp → Prop} (h : PO X e t) (q : t σ H Q) : WO X e σ H Q := fun pins s I => h.run pins s σ H Q I q
end
end Cy
end
section
set_option Elab.async false
set_option linter.all false
set_option maxRecDepth 100000
set_option maxHeartbeats 1000000
/-! Soundness, 2: operations on values. -/
namespace Cy
open PySem L2 PyProof.Rows Bits

/-- a value made of others: nothing changed; its lists are some of theirs, or a new one around some of theirs -/
def VO (H : Hp) (A : List Addr) (H' : Hp) (A' : List Addr) (pu : Bool) : Prop :=
  Same H H' ∧ ∃ B, B.Sublist A ∧ (pu = true → B = []) ∧ (A' = B ∨ ∃ p, H p = none ∧ A' = p :: B)
theorem VO.nil {H : Hp} {A : List Addr} {pu : Bool} : VO H A H [] pu := ⟨Same.refl H, [], List.nil_sublist _, fun _ => rfl, .inl rfl⟩
theorem VO.grow {H H' : Hp} {A : List Addr} {pu : Bool} (e : Same H H') : VO H A H' [] pu := ⟨e, [], List.nil_sublist _, fun _ => rfl, .inl rfl⟩
theorem VO.sub {H : Hp} {A B : List Addr} (h : B.Sublist A) : VO H A H B false := ⟨Same.refl H, B, h, fun e => (Bool.noConfusion e), .inl rfl⟩
theorem VO.new {H : Hp} {A B : List Addr} {p : Addr} {o : HO} (hp : H p = none) (h : B.Sublist A) : VO H A (upd H p o) (p :: B) false := ⟨same_new hp, B, h, fun e => (Bool.noConfusion e), .inr ⟨p, hp, rfl⟩⟩
theorem VO.new0 {H : Hp} {A : List Addr} {p : Addr} {o : HO} {pu : Bool} (hp : H p = none) : VO H A (upd H p o) [p] pu := ⟨same_new hp, [], List.nil_sublist _, fun _ => rfl, .inr ⟨p, hp, rfl⟩⟩
theorem VO.newT {H : Hp} {A B : List Addr} {p : Addr} {o : HO} (hp : H p = none) (h : B.Sublist A) : VO H A (upd H p o) B false := ⟨same_new hp, B, h, fun e => (Bool.noConfusion e), .inl rfl⟩

theorem fin {K : PySem.W.Frag} {n : Nat} {own vw : List Nat} {Z P : Addr → Prop} {σ : L2.St} {H H1 H' : Hp} {env1 : En} {As As1 : Asg} {io f s pu : Bool} {A A' : List Addr}
    (S1 : SR K n own vw Z P σ H1 env1 As1) (t : TR own io H As H1 As1) (m : ∀ a ∈ A, MutH H1 a) (e : EF own Z f s H As As1 A) (vo : VO H1 A H' A' pu) :
    SR K n own vw Z P σ H' env1 As1 ∧ TR own io H As H' As1 ∧ EF own Z (f || pu) (s || f || pu) H As As1 A' := by
  obtain ⟨sm, B, hb, hp, hA⟩ := vo
  refine ⟨S1.grow sm, t.trans (TR.grow (io := io) sm) id id, ?_⟩
  have eB : EF own Z (f || pu) (s || f || pu) H As As1 B := by
    by_cases hpu : pu = true
    · rw [hp hpu]; exact EF.pure
    · have hpu : pu = false := by simpa using hpu
      subst hpu
      have e2 := e.sub hb
      refine ⟨fun h => e2.1 (by simpa using h), fun h a ha => ?_, e2.2.2⟩
      simp only [Bool.or_false, Bool.or_eq_true] at h
      rcases h with h | h
      · exact e2.2.1 h a ha
      · exact .inl ((e2.1 h).2 a ha)
  rcases hA with rfl | ⟨p, hp1, rfl⟩
  · exact eB
  · refine EF.cons S1 ?_ (fun a ha => m a (hb.subset ha)) hp1 eB
    cases io
    · exact .inl t
    · exact .inr t

theorem BIG_log {i : Int} (h : i.natAbs < BIG) : Builtin.Int.intBits i ≤ 1000000 := by
  unfold Builtin.Int.intBits
  split
  · omega
  · rename_i h0
    have h1 : i.natAbs ≠ 0 := by
      intro e
      apply h0
      have : i = 0 := by omega
      simp [this]
    have := (Nat.log2_lt h1).mpr (show i.natAbs < 2 ^ 1000000 from h)
    omega
theorem line_LMX {n : Nat} (h : n ≤ LMX) : n ≤ sizeLine := Nat.le_trans h (by rw [sizeLine_eq]; decide)
theorem line_ltLMX {n : Nat} (h : n < LMX) : n < sizeLine := Nat.lt_of_lt_of_le h (by rw [sizeLine_eq]; decide)

/-- is what an operation gives always without lists of others? -/
def pureOp : BO → Bool
  | .cat => false
  | _ => true
def opOf : BO → Operator
  | .add => .Add | .cat => .Add | .rep => .Mult | .sub => .Sub | .mul => .Mult | .fdiv => .FloorDiv | .mod => .Mod | .pow => .Pow
  | .shl => .LShift | .shr => .RShift | .band => .BitAnd | .bor => .BitOr | .bxor => .BitXor
/-- an operation by data -/
def rBin (K : PySem.W.Frag) (o : BO) : R2 := fun x y H Q => ∃ dx dy A B d, Rep K H x dx A ∧ Rep K H y dy B ∧ binD o dx dy = some d ∧ ∀ v H' A', VO H (A ++ B) H' A' (pureOp o) → Rep K H' v d A' → Q v H'
section
variable {X : Cx}
theorem reps_rep {K : PySem.W.Frag} {H : Hp} {ds : List D} {vs : List V} (h : Reps K H vs ds []) : ∀ n : Nat, Reps K H (List.replicate n vs).flatten (List.replicate n ds).flatten []
  | 0 => .nil
  | n + 1 => by
    rw [List.replicate_succ, List.replicate_succ, List.flatten_cons, List.flatten_cons]
    have := Reps.append h (reps_rep h n)
    rwa [List.append_nil] at this
theorem flat_len {α : Type} (xs : List α) : ∀ n : Nat, (List.replicate n xs).flatten.length = xs.length * n
  | 0 => by simp
  | n + 1 => by rw [List.replicate_succ, List.flatten_cons, List.length_append, flat_len xs n, Nat.mul_succ, Nat.add_comm]
theorem op_bin (o : BO) : OpR X (binaryOp (opOf o)) (rBin X.K o) := by
  intro pins s σ H x y v u Q I rx ry h
  obtain ⟨dx, dy, A, B, d, r1, r2, e, k⟩ := h
  cases o with
  | add =>
    cases r1 with
    | int i =>
      cases r2 with
      | int j =>
        simp only [binD, Option.some.injEq] at e; subst e
        exact op_add pins s σ H _ _ v u Q I rx ry ⟨_, _, rfl, rfl, k _ _ [] .nil (.int _)⟩
      | _ => simp [binD] at e
    | str i =>
      cases r2 with
      | str j =>
        simp only [binD] at e
        split at e
        · rename_i hz
          simp only [Option.some.injEq] at e; subst e
          exact op_add_str pins s σ H _ _ v u Q I rx ry ⟨_, _, rfl, rfl, line_LMX hz, k _ _ [] .nil (.str _)⟩
        · cases e
      | _ => simp [binD] at e
    | _ => cases r2 <;> simp [binD] at e
  | cat =>
    cases r1 with
    | @lst p vs ds A1 h1 r1 =>
      cases r2 with
      | @lst q ws es B1 h2 r2 =>
        simp only [binD] at e
        split at e
        · rename_i hz
          simp only [Option.some.injEq] at e; subst e
          refine op_cat pins s σ H _ _ v u Q I rx ry ⟨_, _, _, _, rfl, rfl, h1, h2, ?_, fun n hn => ?_⟩
          · rw [r1.length, r2.length]; exact line_LMX hz
          · refine k _ _ (n :: (A1 ++ B1)) (VO.new hn ?_) (.lst upd_same ((r1.append r2).mono (same_new hn)))
            exact List.Sublist.append (List.sublist_cons_self _ _) (List.sublist_cons_self _ _)
        · cases e
      | _ => simp [binD] at e
    | @tup p vs ds A1 h1 r1 =>
      cases r2 with
      | @tup q ws es B1 h2 r2 =>
        simp only [binD] at e
        split at e
        · rename_i hz
          simp only [Option.some.injEq] at e; subst e
          refine op_catA pins s σ H _ _ v u Q I rx ry ⟨_, _, _, _, rfl, rfl, h1, h2, ?_, fun hv => ?_, fun hv hw => ?_, fun hv hw n hn => ?_⟩
          · rw [r1.length, r2.length]; exact line_LMX hz
          · subst hv
            cases r1
            exact k _ _ ([] ++ B) (VO.sub (List.Sublist.refl _)) (.tup h2 r2)
          · subst hw
            cases r2
            exact k _ _ (A ++ []) (VO.sub (List.Sublist.refl _)) (by rw [List.append_nil, List.append_nil]; exact .tup h1 r1)
          · exact k _ _ (A ++ B) (VO.newT hn (List.Sublist.refl _)) (.tup (SqT.of upd_same) ((r1.append r2).mono (same_new hn)))
        · cases e
      | _ => simp [binD] at e
    | _ => cases r2 <;> simp [binD] at e
  | rep =>
    cases r2 with
    | int kk =>
      cases r1 with
      | @lst p vs ds A1 h1 r1 =>
        simp only [binD] at e
        split at e
        · rename_i hz
          simp only [Option.some.injEq] at e; subst e
          obtain ⟨z0, z1, z2, z3⟩ := hz
          obtain rfl := r1.pure z3
          have hl := r1.length
          refine op_rep pins s σ H _ _ v u Q I rx ry ⟨_, _, _, rfl, rfl, h1, by omega, by omega, ?_, fun n hn => ?_⟩
          · rw [hl, sizeLine_eq]
            have : ds.length * kk.toNat ≤ 10 * 100000 := Nat.mul_le_mul (by omega) (by omega)
            omega
          · exact k _ _ [n] (VO.new0 hn) (.lst upd_same ((reps_rep r1 _).mono (same_new hn)))
        · cases e
      | @tup p vs ds A1 h1 r1 =>
        simp only [binD] at e
        split at e
        · rename_i hz
          simp only [Option.some.injEq] at e; subst e
          obtain ⟨z0, z1, z4, z2, z3⟩ := hz
          obtain rfl := r1.pure z3
          have hl := r1.length
          refine op_repT pins s σ H _ _ v u Q I rx ry ⟨_, _, _, rfl, rfl, h1, ?_, by omega, by omega, by omega, fun n hn => ?_⟩
          · intro hv; subst hv; simp at hl; omega
          · exact k _ _ [] (VO.grow (same_new hn)) (.tup (SqT.of upd_same) ((reps_rep r1 _).mono (same_new hn)))
        · cases e
      | _ => simp [binD] at e
    | _ => cases r1 <;> simp [binD] at e
  | sub =>
    cases r1 with
    | int i =>
      cases r2 with
      | int j =>
        simp only [binD, Option.some.injEq] at e; subst e
        exact op_sub pins s σ H _ _ v u Q I rx ry ⟨_, _, rfl, rfl, k _ _ [] .nil (.int _)⟩
      | _ => simp [binD] at e
    | _ => cases r2 <;> simp [binD] at e
  | mul =>
    cases r1 with
    | int i =>
      cases r2 with
      | int j =>
        simp only [binD] at e
        split at e
        · rename_i hz
          simp only [Option.some.injEq] at e; subst e
          refine op_mulX pins s σ H _ _ v u Q I rx ry ⟨_, _, rfl, rfl, ?_, k _ _ [] .nil (.int _)⟩
          have a := BIG_log hz.1
          have b := BIG_log hz.2
          unfold CMulX
          omega
        · cases e
      | _ => simp [binD] at e
    | _ => cases r2 <;> simp [binD] at e
  | fdiv =>
    cases r1 with
    | int i =>
      cases r2 with
      | int j =>
        simp only [binD] at e
        split at e
        · rename_i hz
          simp only [Option.some.injEq] at e; subst e
          exact op_fdivW pins s σ H _ _ v u Q I rx ry ⟨_, _, rfl, rfl, wide_div (b := 8000) hz.1 hz.2 (by decide) (by decide), k _ _ [] .nil (.int _)⟩
        · cases e
      | _ => simp [binD] at e
    | _ => cases r2 <;> simp [binD] at e
  | mod =>
    cases r1 with
    | int i =>
      cases r2 with
      | int j =>
        simp only [binD] at e
        split at e
        · rename_i hz
          simp only [Option.some.injEq] at e; subst e
          exact op_mod pins s σ H _ _ v u Q I rx ry ⟨_, _, rfl, rfl, hz, k _ _ [] .nil (.int _)⟩
        · cases e
      | _ => simp [binD] at e
    | _ => cases r2 <;> simp [binD] at e
  | pow =>
    cases r1 with
    | int i =>
      cases r2 with
      | int j =>
        simp only [binD] at e
        split at e
        · rename_i hz
          simp only [Option.some.injEq] at e; subst e
          exact op_pow pins s σ H _ _ v u Q I rx ry ⟨_, _, rfl, rfl, ⟨hz.1, by omega, by omega⟩, k _ _ [] .nil (.int _)⟩
        · cases e
      | _ => simp [binD] at e
    | _ => cases r2 <;> simp [binD] at e
  | shl =>
    cases r1 with
    | int i =>
      cases r2 with
      | int j =>
        simp only [binD] at e
        split at e
        · rename_i hz
          simp only [Option.some.injEq] at e; subst e
          refine op_shlW pins s σ H _ _ v u Q I rx ry ⟨_, _, rfl, rfl, ⟨hz.1, ?_⟩, k _ _ [] .nil (.int _)⟩
          have a := BIG_log hz.2.2
          omega
        · cases e
      | _ => simp [binD] at e
    | _ => cases r2 <;> simp [binD] at e
  | shr =>
    cases r1 with
    | int i =>
      cases r2 with
      | int j =>
        simp only [binD] at e
        split at e
        · rename_i hz
          simp only [Option.some.injEq] at e; subst e
          exact op_shr pins s σ H _ _ v u Q I rx ry ⟨_, _, rfl, rfl, hz, k _ _ [] .nil (.int _)⟩
        · cases e
      | _ => simp [binD] at e
    | _ => cases r2 <;> simp [binD] at e
  | band =>
    cases r1 with
    | int i =>
      cases r2 with
      | int j =>
        simp only [binD] at e
        split at e
        · rename_i hz
          simp only [Option.some.injEq] at e; subst e
          exact op_and pins s σ H _ _ v u Q I rx ry ⟨_, _, rfl, rfl, by dsimp only; rw [bitAnd_pp hz.1 hz.2]; exact k _ _ [] .nil (.int _)⟩
        · cases e
      | _ => simp [binD] at e
    | _ => cases r2 <;> simp [binD] at e
  | bor =>
    cases r1 with
    | int i =>
      cases r2 with
      | int j =>
        simp only [binD] at e
        split at e
        · rename_i hz
          simp only [Option.some.injEq] at e; subst e
          exact op_or pins s σ H _ _ v u Q I rx ry ⟨_, _, rfl, rfl, by dsimp only; rw [bitOr_pp hz.1 hz.2]; exact k _ _ [] .nil (.int _)⟩
        · cases e
      | _ => simp [binD] at e
    | _ => cases r2 <;> simp [binD] at e
  | bxor =>
    cases r1 with
    | int i =>
      cases r2 with
      | int j =>
        simp only [binD] at e
        split at e
        · rename_i hz
          simp only [Option.some.injEq] at e; subst e
          exact op_xor pins s σ H _ _ v u Q I rx ry ⟨_, _, rfl, rfl, by dsimp only; rw [bitXor_pp hz.1 hz.2]; exact k _ _ [] .nil (.int _)⟩
        · cases e
      | _ => simp [binD] at e
    | _ => cases r2 <;> simp [binD] at e

/-! ### comparisons -/
mutual
def toPy : D → PyData
  | .non => .none
  | .bl b => .bool b
  | .int i => .int i
  | .str x => .str x
  | .tup xs => .tuple (toPys xs)
  | .lst xs => .list (toPys xs)
  | .scr _ | .dct _ _ | .obj _ _ _ => .dict []
def toPys : List D → List PyData
  | [] => []
  | x :: xs => toPy x :: toPys xs
end
theorem strOk_of {x : Str} (h : strOkB x = true) : PyData.strOk x = true := by
  unfold strOkB at h
  unfold PyData.strOk
  simp only [Bool.and_eq_true, List.all_eq_true, decide_eq_true_eq] at h
  simp only [Array.all_eq_true, decide_eq_true_eq]
  intro i hi
  exact h.1 _ (by simp)
mutual
theorem Rep.dp {K : PySem.W.Frag} {H : Hp} : ∀ {d : D} {v : V} {A : List Addr} (n : Nat), Rep K H v d A → shp n d = true → Dp K H v (toPy d)
  | _, _, _, _, .non, _ => by simp only [toPy]; exact .non
  | _, _, _, _, .bl b, _ => by simp only [toPy]; exact .bl b
  | _, _, _, _, .int i, _ => by simp only [toPy]; exact .int i
  | _, _, _, _, .str x, _ => by simp only [toPy]; exact .str x
  | _, _, _, 0, .tup _ _, h => by simp [shp] at h
  | _, _, _, 0, .lst _ _, h => by simp [shp] at h
  | _, _, _, n + 1, .tup h1 r, h => by
    simp only [shp] at h
    simp only [toPy]
    exact .tup h1 (Reps.dp n r h)
  | _, _, _, n + 1, .lst h1 r, h => by
    simp only [shp] at h
    simp only [toPy]
    exact .lst (SqL.of h1) (Reps.dp n r h)
  | _, _, _, _, .scr _, h => by simp [shp] at h
theorem Reps.dp {K : PySem.W.Frag} {H : Hp} : ∀ {d : List D} {v : List V} {A : List Addr} (n : Nat), Reps K H v d A → shps n d = true → DpAll K H v (toPys d)
  | _, _, _, _, .nil, _ => by simp only [toPys]; exact .nil
  | _, _, _, n, .cons r t, h => by
    simp only [shps, Bool.and_eq_true] at h
    simp only [toPys]
    exact .cons (Rep.dp n r h.1) (Reps.dp n t h.2)
end
mutual
theorem shp_lay : ∀ (n : Nat) (d : D), shp n d = true → (toPy d).canLay0 = true ∧ (toPy d).depth ≤ n
  | n, .non, _ => by simp [toPy, PyData.canLay0, PyData.depth]
  | n, .bl b, _ => by simp [toPy, PyData.canLay0, PyData.depth]
  | n, .int i, _ => by simp [toPy, PyData.canLay0, PyData.depth]
  | n, .str x, h => by
    have h : strOkB x = true := by simpa [shp] using h
    simp [toPy, PyData.canLay0, PyData.depth, strOk_of h]
  | 0, .tup xs, h => by simp [shp] at h
  | 0, .lst xs, h => by simp [shp] at h
  | n + 1, .tup xs, h => by
    simp only [shp] at h
    obtain ⟨a, b⟩ := shps_lay n xs h
    simp only [toPy, PyData.canLay0, PyData.depth]
    exact ⟨a, by omega⟩
  | n + 1, .lst xs, h => by
    simp only [shp] at h
    obtain ⟨a, b⟩ := shps_lay n xs h
    simp only [toPy, PyData.canLay0, PyData.depth]
    exact ⟨a, by omega⟩
  | _, .scr _, h => by simp [shp] at h
  | _, .dct _ _, h => by simp [shp] at h
  | _, .obj _ _ _, h => by simp [shp] at h
theorem shps_lay : ∀ (n : Nat) (d : List D), shps n d = true → PyData.canLayAll0 (toPys d) = true ∧ PyData.depthAll (toPys d) ≤ n
  | n, [], _ => by simp [toPys, PyData.canLayAll0, PyData.depthAll]
  | n, x :: xs, h => by
    simp only [shps, Bool.and_eq_true] at h
    obtain ⟨a, b⟩ := shp_lay n x h.1
    obtain ⟨c, d⟩ := shps_lay n xs h.2
    simp only [toPys, PyData.canLayAll0, PyData.depthAll, a, c]
    exact ⟨rfl, Nat.max_le.mpr ⟨b, d⟩⟩
end
theorem shaped_of {d : D} (h : shp 60 d = true) : SeqAt.shaped (toPy d) = true := by
  obtain ⟨a, b⟩ := shp_lay 60 d h
  unfold SeqAt.shaped
  rw [a]
  simp only [Bool.true_and, decide_eq_true_eq]
  omega
mutual
theorem eqv_toPy : ∀ (n m : Nat) (d e : D), shp n d = true → shp m e = true → PyData.eqv (toPy d) (toPy e) = eqD d e
  | _, _, .scr _, _, h, _ => by simp [shp] at h
  | _, _, .dct _ _, _, h, _ => by simp [shp] at h
  | _, _, .obj _ _ _, _, h, _ => by simp [shp] at h
  | _, _, _, .scr _, _, h => by simp [shp] at h
  | _, _, _, .dct _ _, _, h => by simp [shp] at h
  | _, _, _, .obj _ _ _, _, h => by simp [shp] at h
  | _, _, .non, .non, _, _ => by simp [toPy, PyData.eqv, eqD]
  | _, _, .non, .bl _, _, _ => by simp [toPy, PyData.eqv, eqD]
  | _, _, .non, .int _, _, _ => by simp [toPy, PyData.eqv, eqD]
  | _, _, .non, .str _, _, _ => by simp [toPy, PyData.eqv, eqD]
  | _, _, .non, .tup _, _, _ => by simp [toPy, PyData.eqv, eqD]
  | _, _, .non, .lst _, _, _ => by simp [toPy, PyData.eqv, eqD]
  | _, _, .bl _, .non, _, _ => by simp [toPy, PyData.eqv, eqD]
  | _, _, .bl _, .bl _, _, _ => by simp [toPy, PyData.eqv, eqD]
  | _, _, .bl _, .int _, _, _ => by simp [toPy, PyData.eqv, eqD, b2i]
  | _, _, .bl _, .str _, _, _ => by simp [toPy, PyData.eqv, eqD]
  | _, _, .bl _, .tup _, _, _ => by simp [toPy, PyData.eqv, eqD]
  | _, _, .bl _, .lst _, _, _ => by simp [toPy, PyData.eqv, eqD]
  | _, _, .int _, .non, _, _ => by simp [toPy, PyData.eqv, eqD]
  | _, _, .int _, .bl _, _, _ => by simp [toPy, PyData.eqv, eqD, b2i]
  | _, _, .int _, .int _, _, _ => by simp [toPy, PyData.eqv, eqD]
  | _, _, .int _, .str _, _, _ => by simp [toPy, PyData.eqv, eqD]
  | _, _, .int _, .tup _, _, _ => by simp [toPy, PyData.eqv, eqD]
  | _, _, .int _, .lst _, _, _ => by simp [toPy, PyData.eqv, eqD]
  | _, _, .str _, .non, _, _ => by simp [toPy, PyData.eqv, eqD]
  | _, _, .str _, .bl _, _, _ => by simp [toPy, PyData.eqv, eqD]
  | _, _, .str _, .int _, _, _ => by simp [toPy, PyData.eqv, eqD]
  | _, _, .str _, .str _, _, _ => by simp [toPy, PyData.eqv, eqD]
  | _, _, .str _, .tup _, _, _ => by simp [toPy, PyData.eqv, eqD]
  | _, _, .str _, .lst _, _, _ => by simp [toPy, PyData.eqv, eqD]
  | _, _, .tup _, .non, _, _ => by simp [toPy, PyData.eqv, eqD]
  | _, _, .tup _, .bl _, _, _ => by simp [toPy, PyData.eqv, eqD]
  | _, _, .tup _, .int _, _, _ => by simp [toPy, PyData.eqv, eqD]
  | _, _, .tup _, .str _, _, _ => by simp [toPy, PyData.eqv, eqD]
  | _, _, .tup _, .lst _, _, _ => by simp [toPy, PyData.eqv, eqD]
  | _, _, .lst _, .non, _, _ => by simp [toPy, PyData.eqv, eqD]
  | _, _, .lst _, .bl _, _, _ => by simp [toPy, PyData.eqv, eqD]
  | _, _, .lst _, .int _, _, _ => by simp [toPy, PyData.eqv, eqD]
  | _, _, .lst _, .str _, _, _ => by simp [toPy, PyData.eqv, eqD]
  | _, _, .lst _, .tup _, _, _ => by simp [toPy, PyData.eqv, eqD]
  | 0, _, .tup _, .tup _, h, _ => by simp [shp] at h
  | 0, _, .lst _, .lst _, h, _ => by simp [shp] at h
  | _ + 1, 0, .tup _, .tup _, _, h => by simp [shp] at h
  | _ + 1, 0, .lst _, .lst _, _, h => by simp [shp] at h
  | n + 1, m + 1, .tup xs, .tup ys, h1, h2 => by
    simp only [shp] at h1 h2
    simp only [toPy, PyData.eqv, eqD]
    exact eqvs_toPy n m xs ys h1 h2
  | n + 1, m + 1, .lst xs, .lst ys, h1, h2 => by
    simp only [shp] at h1 h2
    simp only [toPy, PyData.eqv, eqD]
    exact eqvs_toPy n m xs ys h1 h2
theorem eqvs_toPy : ∀ (n m : Nat) (d e : List D), shps n d = true → shps m e = true → PyData.eqvAll (toPys d) (toPys e) = eqDs d e
  | _, _, [], [], _, _ => by simp [toPys, PyData.eqvAll, eqDs]
  | _, _, [], _ :: _, _, _ => by simp [toPys, PyData.eqvAll, eqDs]
  | _, _, _ :: _, [], _, _ => by simp [toPys, PyData.eqvAll, eqDs]
  | n, m, x :: xs, y :: ys, h1, h2 => by
    simp only [shps, Bool.and_eq_true] at h1 h2
    simp only [toPys, PyData.eqvAll, eqDs, eqv_toPy n m x y h1.1 h2.1, eqvs_toPy n m xs ys h1.2 h2.2]
end
theorem Rep.flat {K : PySem.W.Frag} {H : Hp} {v : V} {d : D} {A : List Addr} (r : Rep K H v d A) (h : flatD d = true) : flatV v = true := by
  cases r <;> first | rfl | simp [flatD] at h
theorem Reps.flat {K : PySem.W.Frag} {H : Hp} : ∀ {d : List D} {v : List V} {A : List Addr}, Reps K H v d A → d.all flatD = true → v.all flatV = true
  | _, _, _, .nil, _ => rfl
  | _, _, _, .cons r t, h => by
    simp only [List.all_cons, Bool.and_eq_true] at h ⊢
    exact ⟨r.flat h.1, Reps.flat t h.2⟩
theorem eqV_D {K : PySem.W.Frag} {H : Hp} {v w : V} {d e : D} {A B : List Addr} (r : Rep K H v d A) (q : Rep K H w e B) (h1 : flatD d = true) (h2 : flatD e = true) : eqV v w = eqD d e := by
  cases r <;> cases q <;> first | rfl | (simp [flatD] at h1; done) | (simp [flatD] at h2; done) | simp [eqV, eqD, b2i]
theorem inV_D {K : PySem.W.Frag} {H : Hp} {v : V} {d : D} {A : List Addr} (r : Rep K H v d A) (h1 : flatD d = true) : ∀ {e : List D} {w : List V} {B : List Addr}, Reps K H w e B → e.all flatD = true → inV v w = inD d e
  | _, _, _, .nil, _ => rfl
  | _, _, _, .cons q t, h => by
    simp only [List.all_cons, Bool.and_eq_true] at h
    have := inV_D r h1 t h.2
    unfold inV inD at this ⊢
    rw [List.any_cons, List.any_cons, this, eqV_D q r h.1 h1]
def copOf : CO → CmpOp
  | .lt => .Lt | .le => .LtE | .gt => .Gt | .ge => .GtE | .eq => .Eq | .ne => .NotEq | .isN => .Is | .notN => .IsNot | .isT => .Is | .notT => .IsNot | .inn => .In | .nin => .NotIn
def rCmp (K : PySem.W.Frag) (o : CO) : R2 := fun x y H Q => ∃ dx dy A B b, Rep K H x dx A ∧ Rep K H y dy B ∧ cmpD o dx dy = some b ∧ Q (.bl b) H
theorem dec_eq_beq (a b : Bool) : decide (a = b) = (a == b) := by cases a <;> cases b <;> rfl
theorem one_sign {x : Str} (h : x.cps.size = 1) : x = ⟨#[x.cps.getD 0 0]⟩ := by
  obtain ⟨⟨l⟩⟩ := x
  match l, h with
  | [c], _ => rfl
theorem op_cmp (hu : X.A.units + 64 < cLine) (o : CO) : OpR X (compareOp (copOf o)) (rCmp X.K o) := by
  intro pins s σ H x y v u Q I rx ry h
  obtain ⟨dx, dy, A, B, b, r1, r2, e, k⟩ := h
  cases o with
  | lt => cases r1 <;> cases r2 <;> simp [cmpD] at e <;> (subst e; exact op_lt pins s σ H _ _ v u Q I rx ry ⟨_, _, rfl, rfl, k⟩)
  | le => cases r1 <;> cases r2 <;> simp [cmpD] at e <;> (subst e; exact op_le pins s σ H _ _ v u Q I rx ry ⟨_, _, rfl, rfl, k⟩)
  | gt => cases r1 <;> cases r2 <;> simp [cmpD] at e <;> (subst e; exact op_gt pins s σ H _ _ v u Q I rx ry ⟨_, _, rfl, rfl, k⟩)
  | ge => cases r1 <;> cases r2 <;> simp [cmpD] at e <;> (subst e; exact op_ge pins s σ H _ _ v u Q I rx ry ⟨_, _, rfl, rfl, k⟩)
  | eq =>
    simp only [cmpD] at e
    split at e
    · rename_i hz
      simp only [Bool.and_eq_true] at hz
      simp only [Option.some.injEq] at e; subst e
      refine op_eqD hu pins s σ H _ _ v u Q I rx ry ⟨_, _, r1.dp 60 hz.1, r2.dp 60 hz.2, shaped_of hz.1, shaped_of hz.2, ?_⟩
      rw [eqv_toPy 60 60 _ _ hz.1 hz.2]; exact k
    · cases e
  | ne =>
    simp only [cmpD] at e
    split at e
    · rename_i hz
      simp only [Bool.and_eq_true] at hz
      simp only [Option.some.injEq] at e; subst e
      refine op_neD hu pins s σ H _ _ v u Q I rx ry ⟨_, _, r1.dp 60 hz.1, r2.dp 60 hz.2, shaped_of hz.1, shaped_of hz.2, ?_⟩
      rw [eqv_toPy 60 60 _ _ hz.1 hz.2]; exact k
    · cases e
  | isN =>
    cases r2 with
    | non =>
      simp only [cmpD, Option.some.injEq] at e; subst e
      refine op_isN pins s σ H _ _ v u Q I rx ry ⟨rfl, ?_⟩
      have e2 : decide (x = V.non) = isNonD dx := by cases r1 <;> rfl
      rw [e2]; exact k
    | _ => cases r1 <;> simp [cmpD] at e
  | notN =>
    cases r2 with
    | non =>
      simp only [cmpD, Option.some.injEq] at e; subst e
      refine op_notN pins s σ H _ _ v u Q I rx ry ⟨rfl, ?_⟩
      have e2 : decide (x = V.non) = isNonD dx := by cases r1 <;> rfl
      rw [e2]; exact k
    | _ => cases r1 <;> simp [cmpD] at e
  | isT =>
    cases r1 <;> cases r2 <;> simp only [cmpD, Option.some.injEq, reduceCtorEq] at e
    subst e
    exact op_isBl pins s σ H _ _ v u Q I rx ry ⟨_, _, rfl, rfl, by rw [dec_eq_beq]; exact k⟩
  | notT =>
    cases r1 <;> cases r2 <;> simp only [cmpD, Option.some.injEq, reduceCtorEq] at e
    subst e
    exact op_notBl pins s σ H _ _ v u Q I rx ry ⟨_, _, rfl, rfl, by rw [dec_eq_beq]; exact k⟩
  | inn =>
    cases r2 with
    | @lst p vs ds A1 h1 r2 =>
      have e : (if (flatD dx && ds.all flatD) = true then some (inD dx ds) else none) = some b := by cases r1 <;> exact e
      split at e
      · rename_i hz
        simp only [Bool.and_eq_true] at hz
        simp only [Option.some.injEq] at e; subst e
        refine op_in_seq pins s σ H _ _ v u Q I rx ry ⟨_, _, rfl, .inl (SqL.of h1), r1.flat hz.1, r2.flat hz.2, ?_⟩
        rw [if_neg Bool.false_ne_true, inV_D r1 hz.1 r2 hz.2]; exact k
      · cases e
    | @tup p vs ds A1 h1 r2 =>
      have e : (if (flatD dx && ds.all flatD) = true then some (inD dx ds) else none) = some b := by cases r1 <;> exact e
      split at e
      · rename_i hz
        simp only [Bool.and_eq_true] at hz
        simp only [Option.some.injEq] at e; subst e
        refine op_in_seq pins s σ H _ _ v u Q I rx ry ⟨_, _, rfl, .inr h1, r1.flat hz.1, r2.flat hz.2, ?_⟩
        rw [if_neg Bool.false_ne_true, inV_D r1 hz.1 r2 hz.2]; exact k
      · cases e
    | str z =>
      cases r1 with
      | str x =>
        simp only [cmpD] at e
        split at e
        · rename_i hz
          simp only [Option.some.injEq] at e; subst e
          refine op_in_sign pins s σ H _ _ v u Q I rx ry ⟨_, _, congrArg V.str (one_sign hz), rfl, k⟩
        · cases e
      | _ => simp [cmpD] at e
    | _ => cases r1 <;> simp [cmpD] at e
  | nin =>
    cases r2 with
    | @lst p vs ds A1 h1 r2 =>
      have e : (if (flatD dx && ds.all flatD) = true then some (!inD dx ds) else none) = some b := by cases r1 <;> exact e
      split at e
      · rename_i hz
        simp only [Bool.and_eq_true] at hz
        simp only [Option.some.injEq] at e; subst e
        refine op_notIn_seq pins s σ H _ _ v u Q I rx ry ⟨_, _, rfl, .inl (SqL.of h1), r1.flat hz.1, r2.flat hz.2, ?_⟩
        rw [if_pos rfl, inV_D r1 hz.1 r2 hz.2]; exact k
      · cases e
    | @tup p vs ds A1 h1 r2 =>
      have e : (if (flatD dx && ds.all flatD) = true then some (!inD dx ds) else none) = some b := by cases r1 <;> exact e
      split at e
      · rename_i hz
        simp only [Bool.and_eq_true] at hz
        simp only [Option.some.injEq] at e; subst e
        refine op_notIn_seq pins s σ H _ _ v u Q I rx ry ⟨_, _, rfl, .inr h1, r1.flat hz.1, r2.flat hz.2, ?_⟩
        rw [if_pos rfl, inV_D r1 hz.1 r2 hz.2]; exact k
      · cases e
    | str z =>
      cases r1 with
      | str x =>
        simp only [cmpD] at e
        split at e
        · rename_i hz
          simp only [Option.some.injEq] at e; subst e
          refine op_notIn_sign pins s σ H _ _ v u Q I rx ry ⟨_, _, congrArg V.str (one_sign hz), rfl, k⟩
        · cases e
      | _ => simp [cmpD] at e
    | _ => cases r1 <;> simp [cmpD] at e

/-! ### subscripts, slices -/
theorem ixP_N (n : Nat) (i : Int) : ixP n i = ixN n i := by
  unfold ixP ixN
  split
  · rfl
  · by_cases h : 0 ≤ i + n
    · rw [if_pos h, if_pos (by omega)]
    · rw [if_neg h, if_neg (by omega)]
theorem sIxD_eq (n d : Nat) (o : Option Int) : sIxD n d o = HT.sIx n d o := by
  cases o <;> rfl
def rIxD (K : PySem.W.Frag) : R2 := fun x y H Q => ∃ dx dy A B d, Rep K H x dx A ∧ Rep K H y dy B ∧ ixD dx dy = some d ∧ ∀ v A', A'.Sublist A → Rep K H v d A' → Q v H
theorem get_of {K : PySem.W.Frag} {H : Hp} {ds : List D} {vs : List V} {A : List Addr} {i : Int} {d : D} (r : Reps K H vs ds A) (e : ((ixP ds.length i).bind fun j => ds[j]?) = some d) : ∃ v B, atI vs i = some v ∧ Rep K H v d B ∧ B.Sublist A := by
  unfold atI
  rw [r.length, ← ixP_N]
  cases q : ixP ds.length i with
  | none => rw [q] at e; cases e
  | some j =>
    rw [q] at e
    exact r.get e
theorem ix_D : IxR X (rIxD X.K) := by
  intro value slice pins s σ H x y v u Q I rx ry h hs
  obtain ⟨dx, dy, A, B, d, r1, r2, e, k⟩ := h
  cases r2 with
  | int i =>
    cases r1 with
    | lst h1 r1 =>
      obtain ⟨w, C, g, rw, sb⟩ := get_of r1 e
      exact ix_list value slice pins s σ H _ _ v u Q I rx ry ⟨_, _, _, _, rfl, rfl, SqL.of h1, g, k _ _ (sb.trans (List.sublist_cons_self _ _)) rw⟩ hs
    | tup h1 r1 =>
      obtain ⟨w, C, g, rw, sb⟩ := get_of r1 e
      exact ix_tup value slice pins s σ H _ _ v u Q I rx ry ⟨_, _, _, _, rfl, rfl, h1, g, k _ _ sb rw⟩ hs
    | @scr p ns h1 =>
      have e : ((ixP (ns.map D.int).length i).bind fun j => (ns.map D.int)[j]?) = some d := by
        simp only [ixD] at e
        simpa [List.getElem?_map] using e
      obtain ⟨w, C, g, rw, sb⟩ := get_of (reps_of_ints ns) e
      exact ix_list value slice pins s σ H _ _ v u Q I rx ry ⟨_, _, _, _, rfl, rfl, h1.sq, g, k _ _ sb rw⟩ hs
    | str z =>
      simp only [ixD] at e
      split at e
      · rename_i hz
        cases q : ixP z.cps.toList.length i with
        | none => rw [q] at e; cases e
        | some j =>
          rw [q] at e
          simp only [Option.bind_some, Option.map_eq_some_iff] at e
          obtain ⟨c, hc, rfl⟩ := e
          refine ix_str value slice pins s σ H _ _ v u Q I rx ry ⟨_, _, c, rfl, rfl, line_LMX hz, ?_, k _ _ (List.Sublist.refl _) (.str _)⟩ hs
          unfold atI
          rw [← ixP_N, q]; exact hc
      · cases e
    | _ => simp [ixD] at e
  | _ => cases r1 <;> simp [ixD, keyD] at e
end
end Cy
end
section
set_option Elab.async false
set_option linter.all false
set_option maxRecDepth 100000
set_option maxHeartbeats 1000000
/-! Soundness, 3: slices, built-ins. -/
namespace Cy
open PySem L2 PyProof.Rows

def rSlD (K : PySem.W.Frag) : V → Option Int → Option Int → Hp → VK → Prop := fun x lo hi H Q => ∃ dx A d, Rep K H x dx A ∧ slD dx lo hi = some d ∧ ∀ v H' A', VO H A H' A' false → Rep K H' v d A' → Q v H'
theorem cut_reps {K : PySem.W.Frag} {H : Hp} {ds : List D} {vs : List V} {A : List Addr} (r : Reps K H vs ds A) (lo hi : Option Int) : ∃ B, Reps K H (cutV vs lo hi) (cutD ds lo hi) B ∧ B.Sublist A := by
  unfold cutV cutD
  rw [sIxD_eq, sIxD_eq, r.length]
  obtain ⟨B, r1, s1⟩ := r.drop (HT.sIx ds.length 0 lo)
  obtain ⟨C, r2, s2⟩ := r1.take (HT.sIx ds.length ds.length hi - HT.sIx ds.length 0 lo)
  exact ⟨C, r2, s2.trans s1⟩
theorem cutV_whole {xs : List V} {lo hi : Option Int} (h : HT.sIx xs.length 0 lo = 0 ∧ HT.sIx xs.length xs.length hi = xs.length) : cutV xs lo hi = xs := by
  unfold cutV
  rw [h.1, h.2]
  simp
section
variable {X : Cx}
theorem sl_D : SlR X (rSlD X.K) := by
  intro pins s σ H x v vl vu lo hi sl Q I rx hs pl pu h
  obtain ⟨dx, A, d, r, e, k⟩ := h
  cases r with
  | lst h1 r =>
    simp only [slD, Option.some.injEq] at e; subst e
    obtain ⟨B, rb, sb⟩ := cut_reps r lo hi
    exact sl_list pins s σ H _ v vl vu lo hi sl Q I rx hs pl pu ⟨_, _, rfl, SqL.of h1, fun p hp => k _ _ (p :: B) (VO.new hp (sb.trans (List.sublist_cons_self _ _))) (.lst upd_same (rb.mono (same_new hp)))⟩
  | tup h1 r =>
    simp only [slD, Option.some.injEq] at e; subst e
    obtain ⟨B, rb, sb⟩ := cut_reps r lo hi
    refine sl_tupA pins s σ H _ v vl vu lo hi sl Q I rx hs pl pu ⟨_, _, rfl, h1, fun hw => ?_, fun _ p hp => ?_⟩
    · have h2 := h1
      rw [← cutV_whole hw] at h2
      exact k _ _ B (VO.sub sb) (.tup h2 rb)
    · exact k _ _ B (VO.newT hp sb) (.tup (SqT.of upd_same) (rb.mono (same_new hp)))
  | str z =>
    simp only [slD] at e
    split at e
    · rename_i hz
      simp only [Option.some.injEq] at e; subst e
      refine sl_str pins s σ H _ v vl vu lo hi sl Q I rx hs pl pu ⟨_, rfl, line_LMX hz, ?_⟩
      refine k _ _ [] VO.nil ?_
      have e2 : cutS z lo hi = ⟨(cutD z.cps.toList lo hi).toArray⟩ := by
        unfold cutS cutD
        rw [sIxD_eq, sIxD_eq]
        rfl
      rw [e2]; exact .str _
    · cases e
  | _ => simp [slD] at e

def rSlDp (K : PySem.W.Frag) : V → Option Int → Option Int → Hp → VK → Prop := fun x lo hi H Q => ∃ dx A d, Rep K H x dx A ∧ slDp dx lo hi = some d ∧ ∀ v H' A', VO H A H' A' true → Rep K H' v d A' → Q v H'
theorem sl_Dp : SlR X (rSlDp X.K) := by
  intro pins s σ H x v vl vu lo hi sl Q I rx hs pl pu h
  obtain ⟨dx, A, d, r, e, k⟩ := h
  cases r with
  | lst h1 r =>
    simp only [slDp] at e
    split at e
    rotate_left
    · cases e
    rename_i hst
    simp only [Option.some.injEq] at e; subst e
    have hA := Reps.pure r hst
    subst hA
    obtain ⟨B, rb, sb⟩ := cut_reps r lo hi
    have hB := List.sublist_nil.mp sb
    subst hB
    exact sl_list pins s σ H _ v vl vu lo hi sl Q I rx hs pl pu ⟨_, _, rfl, SqL.of h1, fun p hp => k _ _ [p] (VO.new0 hp) (.lst upd_same (rb.mono (same_new hp)))⟩
  | _ => simp [slDp] at e

/-! ### slices with a step -/
theorem reps_pick {K : PySem.W.Frag} {H : Hp} {ds : List D} {vs : List V} (r : Reps K H vs ds []) : ∀ ks : List Nat, Reps K H (ks.filterMap fun k => vs[k]?) (ks.filterMap fun k => ds[k]?) []
  | [] => .nil
  | k :: ks => by
    have ih := reps_pick r ks
    simp only [List.filterMap_cons]
    cases h : ds[k]? with
    | none =>
      have : vs[k]? = none := by
        rw [List.getElem?_eq_none_iff] at h ⊢
        rw [r.length]; exact h
      rw [this]; exact ih
    | some d =>
      obtain ⟨v, B, h1, h2, h3⟩ := r.get h
      rw [h1]
      have : B = [] := List.sublist_nil.mp h3
      subst this
      exact Reps.cons (A := []) h2 ih
theorem vals_pick {vs : List V} {us : List Value} (r : Vals vs us) : ∀ ks : List Nat, Vals (ks.filterMap fun k => vs[k]?) (ks.filterMap fun k => us[k]?)
  | [] => .nil
  | k :: ks => by
    have ih := vals_pick r ks
    simp only [List.filterMap_cons]
    cases h : vs[k]? with
    | none =>
      have : us[k]? = none := by
        rw [List.getElem?_eq_none_iff] at h ⊢
        rw [← r.length]; exact h
      rw [this]; exact ih
    | some v =>
      obtain ⟨u, h1, h2⟩ := r.get h
      rw [h1]
      exact .cons h2 ih
/-- xs[lo:hi:st] of a list without lists: a new list -/
def rSl3 (K : PySem.W.Frag) : V → Option Int → Option Int → Int → Hp → VK → Prop := fun x lo hi st H Q => ∃ dx A d, Rep K H x dx A ∧ slD3 dx lo hi st = some d ∧ ∀ v H' A', VO H A H' A' true → Rep K H' v d A' → Q v H'
def IsSt (X : Cx) (r : V → Option Int → Option Int → Int → Hp → VK → Prop) : Prop :=
  ∀ (pins : List (Addr × Obj)) (s : Shared) (σ : L2.St) (H : Hp) (x : V) (v vl vu vk : Value) (lo hi : Option Int) (st : Int) (sl : Addr) (Q : VK), Inv X pins σ H s → RelV x v → s.heap.IsSliceOf sl vl vu vk → IsPart vl lo → IsPart vu hi → IsPart vk (some st) → r x lo hi st H Q →
    ∃ T id, typeLookup (.type T) "__getitem__" = pure (some (.builtin id)) ∧ s.TypeIs v T ∧ wpAny (model X.prog X.w) X.A (getItem v (.ref sl)) (EP X pins σ Q) X.xe s
section
variable {X : Cx}
theorem sl3_D : IsSt X (rSl3 X.K) := by
  intro pins s σ H x v vl vu vk lo hi st sl Q I rx hs pl pu pk h
  obtain ⟨dx, A, d, r, e, k⟩ := h
  cases r with
  | lst h1 r =>
    simp only [slD3] at e
    split at e
    rotate_left
    · cases e
    rename_i hst
    simp only [Option.some.injEq] at e; subst e
    have hA := Reps.pure r hst.2
    subst hA
    cases rx
    obtain ⟨its, rv, ht, hz⟩ := I.list (SqL.of h1)
    have hlen := rv.length
    have hlr := r.length
    refine ⟨"list", _, slot_list_getitem.lookup, ht.isList.typeIs, ?_⟩
    refine wpAny_getItem_list_slice ht.isList hs pl pu pk (by simp [hst.1]) ?_ (by rw [List.size_toArray] <;> omega)
    have e2 : slicePick its.toArray lo hi (some st) = ((sliceRange (sliceBounds lo hi (some st) its.length).1 (sliceBounds lo hi (some st) its.length).2.1 (sliceBounds lo hi (some st) its.length).2.2).filterMap fun k => its[k]?).toArray := by
      unfold slicePick
      rw [List.size_toArray]
      simp only [List.getElem?_toArray]
    have le := slicePick_size_le its.toArray lo hi (some st)
    rw [e2]
    rw [e2, List.size_toArray, List.size_toArray] at le
    have vp := vals_pick rv (sliceRange (sliceBounds lo hi (some st) its.length).1 (sliceBounds lo hi (some st) its.length).2.1 (sliceBounds lo hi (some st) its.length).2.2)
    have rp := reps_pick r (sliceRange (sliceBounds lo hi (some st) its.length).1 (sliceBounds lo hi (some st) its.length).2.1 (sliceBounds lo hi (some st) its.length).2.2)
    refine ⟨.ref s.heap.objs.size, _, I.laid (t' := s.toks) (o := .lst _) (fun b ob q => Heap.get?_push_of_some _ q) (Nat.le_refl _) ⟨?_, _, 0, vp, Heap.get?_push_size _ rfl⟩, rfl, k _ _ [s.heap.objs.size] (VO.new0 (I.hok.fresh (Nat.le_refl _))) ?_⟩
    · rw [vp.length]; omega
    · have e3 : its.length = _ := hlen.symm.trans hlr
      refine .lst upd_same ?_
      unfold cut3
      rw [← e3]
      exact rp.mono (same_new (I.hok.fresh (Nat.le_refl _)))
  | _ => simp [slD3] at e
theorem pe_slice3 {r : V → Option Int → Option Int → Int → Hp → VK → Prop} (hr : IsSt X r) {e : Expr} {lo hi : Option Expr} {st : Expr} {p2 pos : Pos} {te tk : TE} {tl th : TO} (he : PE X e te) (hl : PO X lo tl) (hu : PO X hi th) (hk : PE X st tk) :
    PE X (.Subscript e (.Slice lo hi (some st) p2) pos) (fun σ H Q => te σ H fun x H1 => tl σ H1 fun l H2 => th σ H2 fun u H3 => tk σ H3 fun y H4 => ∃ i, y = .int i ∧ r x l u i H4 Q) := by
  refine ⟨fun pins s σ H Q I h => ?_⟩
  refine Subscript_ (thn (he.run pins s σ H _ I h) fun v s1 ⟨x, H1, I1, r1, q1⟩ => ?_)
  refine wpAny_Slice (thn (hl.run pins s1 σ H1 _ I1 q1) fun vl s2 ⟨l, H2, I2, pl, q2⟩ => thn (hu.run pins s2 σ H2 _ I2 q2) fun vu s3 ⟨u, H3, I3, pu, q3⟩ => ?_)
  rw [evalPart_some]
  refine thn (hk.run pins s3 σ H3 _ I3 q3) fun vk s4 ⟨y, H4, I4, r4, q4⟩ => ?_
  obtain ⟨i, rfl, q5⟩ := q4
  obtain ⟨t, rfl⟩ := r4
  have I5 : Inv X pins σ H4 { s4 with heap := s4.heap.push { cls := .type "slice", data := .fields #[vl, vu, .int i t] } } := I4.kept (t' := s4.toks) fun b ob q => Heap.get?_push_of_some _ q
  obtain ⟨T, id, hT, ht, hg⟩ := hr pins { s4 with heap := s4.heap.push { cls := .type "slice", data := .fields #[vl, vu, .int i t] } } σ H4 x v vl vu (.int i t) l u i s4.heap.objs.size Q I5 r1 (Heap.IsSliceOf.new ..) pl pu (.int i t) q5
  show wpAny (model X.prog X.w) X.A (subscriptTail e (.Slice lo hi (some st) p2) v (.ref s4.heap.objs.size)) (EP X pins σ Q) X.xe { s4 with heap := s4.heap.push { cls := .type "slice", data := .fields #[vl, vu, .int i t] } }
  exact tail_any (ops := [v, .ref s4.heap.objs.size]) ht hT hg (by with_unfolding_all rfl)
end
/-! ### built-ins -/
def pureBi : Bi → Bool
  | .tuple => false
  | .list => false
  | _ => true
def rBi (K : PySem.W.Frag) (b : Bi) : List V → Hp → VK → Prop := fun vs H Q => ∃ ds A d, Reps K H vs ds A ∧ biD b ds = some d ∧ ∀ v H' A', VO H A H' A' (pureBi b) → Rep K H' v d A' → Q v H'
theorem minL_spec : ∀ (ms : List Int) (m : Int), minL m ms ∈ m :: ms ∧ ∀ y ∈ m :: ms, minL m ms ≤ y
  | [], m => ⟨by simp [minL], fun y h => by simp at h; subst h; simp [minL]⟩
  | x :: xs, m => by
    obtain ⟨a, b⟩ := minL_spec xs (if x < m then x else m)
    simp only [minL]
    refine ⟨?_, fun y h => ?_⟩
    · rcases List.mem_cons.mp a with e | e
      · rw [e]; split <;> simp
      · simp [e]
    · have b0 := b _ (List.mem_cons_self ..)
      rcases List.mem_cons.mp h with e | h
      · subst e; split at b0 <;> split <;> omega
      · rcases List.mem_cons.mp h with e | h
        · subst e; split at b0 <;> split <;> omega
        · exact b y (List.mem_cons_of_mem _ h)
theorem maxL_spec : ∀ (ms : List Int) (m : Int), maxL m ms ∈ m :: ms ∧ ∀ y ∈ m :: ms, y ≤ maxL m ms
  | [], m => ⟨by simp [maxL], fun y h => by simp at h; subst h; simp [maxL]⟩
  | x :: xs, m => by
    obtain ⟨a, b⟩ := maxL_spec xs (if m < x then x else m)
    simp only [maxL]
    refine ⟨?_, fun y h => ?_⟩
    · rcases List.mem_cons.mp a with e | e
      · rw [e]; split <;> simp
      · simp [e]
    · have b0 := b _ (List.mem_cons_self ..)
      rcases List.mem_cons.mp h with e | h
      · subst e; split at b0 <;> split <;> omega
      · rcases List.mem_cons.mp h with e | h
        · subst e; split at b0 <;> split <;> omega
        · exact b y (List.mem_cons_of_mem _ h)
theorem ins_perm (x : Int) : ∀ l : List Int, (ins x l).Perm (x :: l)
  | [] => by simp [ins]
  | y :: ys => by
    simp only [ins]
    split
    · exact List.Perm.refl _
    · exact ((ins_perm x ys).cons y).trans (List.Perm.swap ..)
theorem isort_perm : ∀ l : List Int, (isort l).Perm l
  | [] => by simp [isort]
  | x :: xs => by
    simp only [isort]
    exact (ins_perm x _).trans ((isort_perm xs).cons x)
theorem ins_sorted (x : Int) : ∀ l : List Int, l.Pairwise (· ≤ ·) → (ins x l).Pairwise (· ≤ ·)
  | [], _ => by simp [ins]
  | y :: ys, h => by
    simp only [ins]
    split
    · rename_i hx
      refine List.pairwise_cons.mpr ⟨fun z hz => ?_, h⟩
      rcases List.mem_cons.mp hz with e | hz
      · subst e; exact hx
      · have := (List.pairwise_cons.mp h).1 z hz
        omega
    · rename_i hx
      obtain ⟨h1, h2⟩ := List.pairwise_cons.mp h
      refine List.pairwise_cons.mpr ⟨fun z hz => ?_, ins_sorted x ys h2⟩
      rcases List.mem_cons.mp ((ins_perm x ys).mem_iff.mp hz) with e | hz
      · subst e; omega
      · exact h1 z hz
theorem isort_sorted : ∀ l : List Int, (isort l).Pairwise (· ≤ ·)
  | [] => by simp [isort]
  | x :: xs => by
    simp only [isort]
    exact ins_sorted x _ (isort_sorted xs)
theorem isort_uniq {a b : List Int} (h : a.Perm b) (s : a.Pairwise (· ≤ ·)) : a = isort b :=
  List.Perm.eq_of_pairwise (fun x y _ _ h1 h2 => Int.le_antisymm h1 h2) s (isort_sorted b) (h.trans (isort_perm b).symm)

theorem two_reps {K : PySem.W.Frag} {H : Hp} {vs : List V} {d e : D} {A : List Addr} (r : Reps K H vs [d, e] A) : ∃ v w B C, vs = [v, w] ∧ A = B ++ C ∧ Rep K H v d B ∧ Rep K H w e C := by
  cases r with
  | cons r t =>
    cases t with
    | cons q t =>
      cases t
      exact ⟨_, _, _, _, rfl, rfl, r, by rwa [List.append_nil]⟩
theorem bi_len : CallR X (.builtin "len") (rBi X.K .len) := by
  intro pins s σ H vs us Q I rv h
  obtain ⟨ds, A, d, r, e, k⟩ := h
  match ds, r, e with
  | [d0], r, e =>
    obtain ⟨v, rfl, q⟩ := r.one_inv
    cases q with
    | lst h1 q =>
      simp only [biD, Option.some.injEq] at e; subst e
      rw [← q.length] at k
      exact call_len pins s σ H _ us Q I rv ⟨_, _, rfl, .inl ⟨_, SqL.of h1, rfl⟩, k _ _ [] VO.nil (.int _)⟩
    | tup h1 q =>
      simp only [biD, Option.some.injEq] at e; subst e
      rw [← q.length] at k
      exact call_len pins s σ H _ us Q I rv ⟨_, _, rfl, .inr ⟨_, h1, rfl⟩, k _ _ [] VO.nil (.int _)⟩
    | @scr p ns h1 =>
      simp only [biD, Option.some.injEq] at e; subst e
      exact call_len pins s σ H _ us Q I rv ⟨_, _, rfl, .inl ⟨_, h1.sq, rfl⟩, k _ _ [] VO.nil (by rw [List.length_map]; exact .int _)⟩
    | str z =>
      simp only [biD] at e
      split at e
      · rename_i hz
        simp only [Option.some.injEq] at e; subst e
        exact call_len pins s σ H _ us Q I rv ⟨_, _, rfl, ⟨line_LMX hz, rfl⟩, k _ _ [] VO.nil (.int _)⟩
      · cases e
    | _ => simp [biD] at e
  | [], _, e => simp [biD] at e
  | _ :: _ :: _, _, e => simp [biD] at e
theorem bi_abs : CallR X (.builtin "abs") (rBi X.K .abs) := by
  intro pins s σ H vs us Q I rv h
  obtain ⟨ds, A, d, r, e, k⟩ := h
  match ds, r, e with
  | [.int i], r, e =>
    obtain ⟨v, rfl, q⟩ := r.one_inv
    cases q
    simp only [biD, Option.some.injEq] at e; subst e
    refine call_abs pins s σ H _ us Q I rv ⟨i, rfl, ?_⟩
    have e2 : (if i < 0 then -i else i) = (i.natAbs : Int) := by split <;> omega
    rw [e2]
    exact k _ _ [] VO.nil (.int _)
theorem bi_sum (hc : X.calm = true) : CallR X (.builtin "sum") (rBi X.K .sum) := by
  intro pins s σ H vs us Q I rv h
  obtain ⟨ds, A, d, r, e, k⟩ := h
  match ds, r, e with
  | [.lst xs], r, e =>
    obtain ⟨v, rfl, q⟩ := r.one_inv
    cases q with
    | lst h1 q =>
      simp only [biD, Option.map_eq_some_iff] at e
      obtain ⟨ns, e9, rfl⟩ := e
      obtain ⟨rfl, rfl⟩ := reps_ints q e9
      exact cr_sum hc pins s σ H _ us Q I rv ⟨_, _, rfl, SqL.of h1, k _ _ [] VO.nil (.int _)⟩
theorem bi_min (hc : X.calm = true) : CallR X (.builtin "min") (rBi X.K .min) := by
  intro pins s σ H vs us Q I rv h
  obtain ⟨ds, A, d, r, e, k⟩ := h
  match ds, r, e with
  | [.lst xs], r, e =>
    obtain ⟨v, rfl, q⟩ := r.one_inv
    cases q with
    | lst h1 q =>
      simp only [biD, Option.bind_eq_some_iff] at e
      obtain ⟨ns, e9, e2⟩ := e
      obtain ⟨rfl, rfl⟩ := reps_ints q e9
      match ns, e2 with
      | m :: ms, e2 =>
        simp only [Option.some.injEq] at e2; subst e2
        refine cr_min hc pins s σ H _ us Q I rv ⟨_, _, rfl, SqL.of h1, by simp, fun m' h1 h2 => ?_⟩
        obtain ⟨a, b⟩ := minL_spec ms m
        have : m' = minL m ms := Int.le_antisymm (h2 _ a) (b _ h1)
        subst this
        exact k _ _ [] VO.nil (.int _)
  | [.int i, .int j], r, e =>
    obtain ⟨v, w, B, C, rfl, rfl, r1, r2⟩ := two_reps r
    cases r1
    cases r2
    simp only [biD, Option.some.injEq] at e; subst e
    exact call_min2 hc pins s σ H _ us Q I rv ⟨_, _, rfl, k _ _ [] VO.nil (.int _)⟩
theorem bi_max (hc : X.calm = true) : CallR X (.builtin "max") (rBi X.K .max) := by
  intro pins s σ H vs us Q I rv h
  obtain ⟨ds, A, d, r, e, k⟩ := h
  match ds, r, e with
  | [.lst xs], r, e =>
    obtain ⟨v, rfl, q⟩ := r.one_inv
    cases q with
    | lst h1 q =>
      simp only [biD, Option.bind_eq_some_iff] at e
      obtain ⟨ns, e9, e2⟩ := e
      obtain ⟨rfl, rfl⟩ := reps_ints q e9
      match ns, e2 with
      | m :: ms, e2 =>
        simp only [Option.some.injEq] at e2; subst e2
        refine cr_max hc pins s σ H _ us Q I rv ⟨_, _, rfl, SqL.of h1, by simp, fun m' h1 h2 => ?_⟩
        obtain ⟨a, b⟩ := maxL_spec ms m
        have : m' = maxL m ms := Int.le_antisymm (b _ h1) (h2 _ a)
        subst this
        exact k _ _ [] VO.nil (.int _)
  | [.int i, .int j], r, e =>
    obtain ⟨v, w, B, C, rfl, rfl, r1, r2⟩ := two_reps r
    cases r1
    cases r2
    simp only [biD, Option.some.injEq] at e; subst e
    exact call_max2 hc pins s σ H _ us Q I rv ⟨_, _, rfl, k _ _ [] VO.nil (.int _)⟩
theorem bi_all (hc : X.calm = true) : CallR X (.builtin "all") (rBi X.K .all) := by
  intro pins s σ H vs us Q I rv h
  obtain ⟨ds, A, d, r, e, k⟩ := h
  match ds, r, e with
  | [.lst xs], r, e =>
    obtain ⟨v, rfl, q⟩ := r.one_inv
    cases q with
    | lst h1 q =>
      simp only [biD, Option.map_eq_some_iff] at e
      obtain ⟨ns, e9, rfl⟩ := e
      obtain ⟨rfl, rfl⟩ := reps_bls q e9
      exact cr_all hc pins s σ H _ us Q I rv ⟨_, _, rfl, SqL.of h1, k _ _ [] VO.nil (.bl _)⟩
theorem bi_any (hc : X.calm = true) : CallR X (.builtin "any") (rBi X.K .any) := by
  intro pins s σ H vs us Q I rv h
  obtain ⟨ds, A, d, r, e, k⟩ := h
  match ds, r, e with
  | [.lst xs], r, e =>
    obtain ⟨v, rfl, q⟩ := r.one_inv
    cases q with
    | lst h1 q =>
      simp only [biD, Option.map_eq_some_iff] at e
      obtain ⟨ns, e9, rfl⟩ := e
      obtain ⟨rfl, rfl⟩ := reps_bls q e9
      exact cr_any hc pins s σ H _ us Q I rv ⟨_, _, rfl, SqL.of h1, k _ _ [] VO.nil (.bl _)⟩
theorem bi_tuple : CallR X (.type "tuple") (rBi X.K .tuple) := by
  intro pins s σ H vs us Q I rv h
  obtain ⟨ds, A, d, r, e, k⟩ := h
  match ds, r, e with
  | [.lst xs], r, e =>
    obtain ⟨v, rfl, q⟩ := r.one_inv
    cases q with
    | lst h1 q =>
      simp only [biD, Option.some.injEq] at e; subst e
      exact call_tuple_of pins s σ H _ us Q I rv ⟨_, _, rfl, .inl ⟨SqL.of h1, fun p hp => k _ _ _ (VO.newT hp (List.sublist_cons_self _ _)) (.tup (SqT.of upd_same) (q.mono (same_new hp)))⟩⟩
  | [.tup xs], r, e =>
    obtain ⟨v, rfl, q⟩ := r.one_inv
    cases q with
    | tup h1 q =>
      simp only [biD, Option.some.injEq] at e; subst e
      exact call_tuple_of pins s σ H _ us Q I rv ⟨_, _, rfl, .inr ⟨h1, k _ _ _ (VO.sub (List.Sublist.refl _)) (.tup h1 q)⟩⟩
theorem bi_list : CallR X (.type "list") (rBi X.K .list) := by
  intro pins s σ H vs us Q I rv h
  obtain ⟨ds, A, d, r, e, k⟩ := h
  match ds, r, e with
  | [.lst xs], r, e =>
    obtain ⟨v, rfl, q⟩ := r.one_inv
    cases q with
    | @lst p vs ds B h1 q =>
      simp only [biD, Option.some.injEq] at e; subst e
      exact call_list_of pins s σ H _ us Q I rv ⟨_, _, rfl, .inl (SqL.of h1), fun p hp => k _ _ (p :: B) (VO.new hp (List.sublist_cons_self _ _)) (.lst upd_same (q.mono (same_new hp)))⟩
  | [.tup xs], r, e =>
    obtain ⟨v, rfl, q⟩ := r.one_inv
    cases q with
    | tup h1 q =>
      simp only [biD, Option.some.injEq] at e; subst e
      exact call_list_of pins s σ H _ us Q I rv ⟨_, _, rfl, .inr h1, fun p hp => k _ _ (p :: A) (VO.new hp (List.Sublist.refl _)) (.lst upd_same (q.mono (same_new hp)))⟩
theorem bi_str : CallR X (.type "str") (rBi X.K .str) := by
  intro pins s σ H vs us Q I rv h
  obtain ⟨ds, A, d, r, e, k⟩ := h
  match ds, r, e with
  | [.int i], r, e =>
    obtain ⟨v, rfl, q⟩ := r.one_inv
    cases q
    simp only [biD] at e
    split at e
    · rename_i hz
      simp only [Option.some.injEq] at e; subst e
      exact call_str_int pins s σ H _ us Q I rv ⟨i, rfl, hz, k _ _ [] VO.nil (.str _)⟩
    · cases e
  | [.str x], r, e =>
    obtain ⟨v, rfl, q⟩ := r.one_inv
    cases q
    simp only [biD, Option.some.injEq] at e; subst e
    obtain ⟨u, rfl, t, rfl⟩ := vals1 rv
    exact PySem.P.str_of_str ⟨.str x, H, I, ⟨t, rfl⟩, k _ _ [] VO.nil (.str _)⟩
  | [.non], r, e =>
    obtain ⟨v, rfl, q⟩ := r.one_inv
    cases q
    simp only [biD, Option.some.injEq] at e; subst e
    obtain ⟨u, rfl, t⟩ := vals1 rv
    cases t
    exact PySem.P.str_of_none ⟨.str _, H, I.tok _, ⟨_, rfl⟩, k _ _ [] VO.nil (.str _)⟩
theorem bi_listp : CallR X (.type "list") (rBi X.K .listp) := by
  intro pins s σ H vs us Q I rv h
  obtain ⟨ds, A, d, r, e, k⟩ := h
  match ds, r, e with
  | [.lst xs], r, e =>
    obtain ⟨v, rfl, q⟩ := r.one_inv
    cases q with
    | @lst p vs ds B h1 q =>
      simp only [biD] at e
      split at e
      · rename_i hp
        simp only [Option.some.injEq] at e; subst e
        have hB := Reps.pure q hp
        subst hB
        exact call_list_of pins s σ H _ us Q I rv ⟨_, _, rfl, .inl (SqL.of h1), fun p hp => k _ _ [p] (VO.new0 hp) (.lst upd_same (q.mono (same_new hp)))⟩
      · cases e
  | [.tup xs], r, e =>
    obtain ⟨v, rfl, q⟩ := r.one_inv
    cases q with
    | tup h1 q =>
      simp only [biD] at e
      split at e
      · rename_i hp
        simp only [Option.some.injEq] at e; subst e
        have hB := Reps.pure q hp
        subst hB
        exact call_list_of pins s σ H _ us Q I rv ⟨_, _, rfl, .inr h1, fun p hp => k _ _ [p] (VO.new0 hp) (.lst upd_same (q.mono (same_new hp)))⟩
      · cases e
theorem bi_sorted : CallR X (.builtin "sorted") (rBi X.K .sorted) := by
  intro pins s σ H vs us Q I rv h
  obtain ⟨ds, A, d, r, e, k⟩ := h
  match ds, r, e with
  | [.lst xs], r, e =>
    obtain ⟨v, rfl, q⟩ := r.one_inv
    cases q with
    | lst h1 q =>
      simp only [biD, Option.map_eq_some_iff] at e
      obtain ⟨ns, e9, rfl⟩ := e
      obtain ⟨rfl, rfl⟩ := reps_ints q e9
      refine cr_sortedI pins s σ H _ us Q I rv ⟨_, _, rfl, SqL.of h1, fun ns' p h1 h2 hp => ?_⟩
      rw [isort_uniq h1 h2]
      exact k _ _ [p] (VO.new0 hp) (.lst upd_same (reps_of_ints _))
theorem bi_int : CallR X (.type "int") (rBi X.K .int) := by
  intro pins s σ H vs us Q I rv h
  obtain ⟨ds, A, d, r, e, k⟩ := h
  match ds, r, e with
  | [.int i], r, e =>
    obtain ⟨v, rfl, q⟩ := r.one_inv
    cases q
    simp only [biD, Option.some.injEq] at e; subst e
    exact call_int1 pins s σ H _ us Q I rv (.inl ⟨_, rfl, k _ _ [] VO.nil (.int _)⟩)
  | [.bl b], r, e =>
    obtain ⟨v, rfl, q⟩ := r.one_inv
    cases q
    simp only [biD, Option.some.injEq] at e; subst e
    exact call_int1 pins s σ H _ us Q I rv (.inr ⟨_, rfl, k _ _ [] VO.nil (.int _)⟩)

/-! ### isinstance of a built-in class -/
def tyStr : TyN → String
  | .int => "int" | .bool => "bool" | .list => "list" | .tuple => "tuple" | .dict => "dict" | .str => "str"
theorem rep_ty {K : PySem.W.Frag} {H : Hp} {v : V} {d : D} {A : List Addr} (r : Rep K H v d A) : ∃ t : String, TyX K H v (.type t) ∧ ∀ T b, isiD T d = some b → PySem.W.kitOne K (.type t) (.type (tyStr T)) = some b := by
  cases r with
  | non => exact ⟨_, .base .non, fun T b e => by cases T <;> simp only [isiD, Option.some.injEq] at e <;> subst e <;> exact kit_ty (by decide +kernel)⟩
  | bl x => exact ⟨_, .base (.bl x), fun T b e => by cases T <;> simp only [isiD, Option.some.injEq] at e <;> subst e <;> exact kit_ty (by decide +kernel)⟩
  | int x => exact ⟨_, .base (.int x), fun T b e => by cases T <;> simp only [isiD, Option.some.injEq] at e <;> subst e <;> exact kit_ty (by decide +kernel)⟩
  | str x => exact ⟨_, .base (.str x), fun T b e => by cases T <;> simp only [isiD, Option.some.injEq] at e <;> subst e <;> exact kit_ty (by decide +kernel)⟩
  | lst h1 r => exact ⟨_, .base (.lst h1), fun T b e => by cases T <;> simp only [isiD, Option.some.injEq] at e <;> subst e <;> exact kit_ty (by decide +kernel)⟩
  | @tup p vs ds A h1 r =>
    have ty : TyX K H (.ref p) (.type "tuple") := by
      rcases h1 with (h1 | ⟨o, h1⟩) | ⟨o, its, n, h1, h2, _⟩
      · exact .base (.tup h1)
      · exact .fTuple h1
      · exact .kTuple h1 h2
    exact ⟨_, ty, fun T b e => by cases T <;> simp only [isiD, Option.some.injEq] at e <;> subst e <;> exact kit_ty (by decide +kernel)⟩
  | @scr p ns h1 =>
    have ty : TyX K H (.ref p) (.type "list") := by
      rcases h1 with ⟨o, h1⟩ | ⟨o, its, n, h1, h2, _⟩
      · exact .base (.frz h1)
      · exact .kList h1 h2
    exact ⟨_, ty, fun T b e => by cases T <;> simp only [isiD, Option.some.injEq] at e <;> subst e <;> exact kit_ty (by decide +kernel)⟩
theorem bi_isi (T : TyN) {pins : List (Addr × Obj)} {s : Shared} {σ : L2.St} {H : Hp} {v : V} {us : List Value} {Q : VK} {d : D} {A : List Addr} {b : Bool} (I : Inv X pins σ H s) (rv : Vals [v, .ty (tyStr T)] us) (r : Rep X.K H v d A) (e : isiD T d = some b) (k : Q (.bl b) H) :
    wpAny (model X.prog X.w) X.A (call (.builtin "isinstance") us) (EP X pins σ Q) X.xe s := by
  obtain ⟨t, ty, f⟩ := rep_ty r
  exact call_isi pins s σ H _ us Q I rv ⟨_, _, _, _, _, rfl, .ty _, ty, f T b e, k⟩
end
end Cy
end
section
set_option Elab.async false
set_option linter.all false
set_option maxRecDepth 100000
set_option maxHeartbeats 1000000
/-! Matching a row's syntax; what is static of an expression. -/
namespace Cy
open PySem L2 PyProof.Rows

/-! ### taking an expression apart -/
def asName : Expr → Option Str
  | .Name x _ => some x
  | _ => none
def asConst : Expr → Option Const
  | .Constant c _ _ => some c
  | _ => none
def asBin : Expr → Option (Expr × Operator × Expr)
  | .BinOp a o b _ => some (a, o, b)
  | _ => none
def asUn : Expr → Option (UnaryOp × Expr)
  | .UnaryOp o a _ => some (o, a)
  | _ => none
def asCmp1 : Expr → Option (Expr × CmpOp × Expr)
  | .Compare a [o] [b] _ => some (a, o, b)
  | _ => none
def asCmp2 : Expr → Option (Expr × CmpOp × CmpOp × Expr × Expr)
  | .Compare a [o, o'] [b, c] _ => some (a, o, o', b, c)
  | _ => none
def asBool : Expr → Option (BoolOp × List Expr)
  | .BoolOp o vs _ => some (o, vs)
  | _ => none
def asTup : Expr → Option (List Expr)
  | .Tuple es _ _ => some es
  | _ => none
def asLst : Expr → Option (List Expr)
  | .List es _ => some es
  | _ => none
def asIx : Expr → Option (Expr × Expr)
  | .Subscript a i _ => some (a, i)
  | _ => none
def asSl : Expr → Option (Expr × Option Expr × Option Expr)
  | .Subscript a (.Slice lo hi none _) _ => some (a, lo, hi)
  | _ => none
def asSl3 : Expr → Option (Expr × Option Expr × Option Expr × Expr)
  | .Subscript a (.Slice lo hi (some st) _) _ => some (a, lo, hi, st)
  | _ => none
/-- a call of a name, without keywords, an argument at least -/
def asCall : Expr → Option (Str × List Expr)
  | .Call (.Name x _) (e :: es) [] _ => some (x, e :: es)
  | _ => none
/-- a method's call on one line -/
def asMeth : Expr → Option (Expr × Str × List Expr)
  | .Call (.Attribute o x apos) es [] pos => if apos.endLine == pos.line then some (o, x, es) else none
  | _ => none
def asComp : Expr → Option (Expr × Expr × Expr × List Expr × Scope)
  | .ListComp e [⟨t, i, fs, 0⟩] sc _ => some (e, t, i, fs, sc)
  | _ => none
/-- no star, no slice, no set display -/
def plainX : Expr → Bool
  | .Starred _ _ | .Slice _ _ _ _ | .Set _ _ _ => false
  | _ => true

structure Ct where
  N : List Str
  calls : List Str
  sigs : List (Bool × Bool)
  gl : List (Str × D)
  bn : List Str
def okN (x : Str) : Bool := !(x == ("__debug__" : Str)) && !(x == ("__classdict__" : Str))
def visB (sc : Scope) (x : Str) : Bool := match sc.names.lookup x with
  | some .local | some .cell | some .free => true
  | _ => false
def gloB (sc : Scope) (x : Str) : Bool := match sc.names.lookup x with
  | some .globalImplicit => true
  | _ => false
def locB (sc : Scope) (x : Str) : Bool := match sc.names.lookup x with
  | some .local | some .cell => true
  | _ => false
def isLoc (sc : Scope) (x : Str) : Bool := match sc.names.lookup x with
  | some .local => true
  | _ => false
def mC : D → Const → Bool
  | .non, .none => true
  | .bl a, .bool b => a == b
  | .int i, .int j => i == j
  | .str x, .str y => x == y
  | _, _ => false
def strEq (x y : Str) : Bool := decide (x = y)
def nameAt (C : Ct) (i : Nat) (x : Str) : Bool := match C.N[i]? with
  | some y => strEq x y
  | none => false
def biN : Bi → Str
  | .len => "len" | .abs => "abs" | .sum => "sum" | .min => "min" | .max => "max" | .all => "all" | .any => "any" | .tuple => "tuple" | .list => "list" | .listp => "list"
  | .lrng => "list" | .sorted => "sorted" | .int => "int" | .str => "str" | .isi _ => "isinstance" | .dict => "dict" | .set => "set"
def tyNm : TyN → Str
  | .int => "int" | .bool => "bool" | .list => "list" | .tuple => "tuple" | .dict => "dict" | .str => "str"
def inB (x : Str) (l : List Str) : Bool := l.any fun y => strEq x y
def gloOk (C : Ct) (sc : Scope) (x : Str) : Bool := gloB sc x && inB x C.bn && !(x == ("__name__" : Str)) && okN x

def scEq : D → D → Bool
  | .int i, .int j => i == j
  | .str x, .str y => x == y
  | _, _ => false
def glIn (C : Ct) (x : Str) (d : D) : Bool := C.gl.any fun p => strEq p.1 x && scEq p.2 d
mutual
/-- the slots of a target -/
def tgs : Tg → List Nat
  | .n i => [i]
  | .t ts => tgsL ts
def tgsL : List Tg → List Nat
  | [] => []
  | t :: ts => tgs t ++ tgsL ts
end
mutual
/-- a target: st the scope that says which names are stored how -/
def mT (C : Ct) (st : Scope) : Tg → Expr → Bool
  | .n i, e => (match asName e with | some x => nameAt C i x && locB st x | none => false)
  | .t ts, e => (match asTup e with | some es => mTs C st ts es && decide (ts.length = es.length) | none => false)
def mTs (C : Ct) (st : Scope) : List Tg → List Expr → Bool
  | [], [] => true
  | t :: ts, e :: es => mT C st t e && plainX e && mTs C st ts es
  | _, _ => false
end
def ownP (C : Ct) (own : List Nat) : List (Str × Nat) := own.map fun i => (C.N.getD i "", i)
mutual
def mE (C : Ct) (sc : Scope) : DE → Expr → Bool
  | .v i, e => (match asName e with | some x => nameAt C i x && visB sc x && okN x | none => false)
  | .mv i, e => (match asName e with | some x => nameAt C i x && visB sc x && okN x | none => false)
  | .pur a, e => mE C sc a e
  | .c d, e => (match asConst e with | some k => mC d k | none => false)
  | .g x d, e => (match asName e with | some y => strEq x y && gloB sc y && okN y && glIn C x d | none => false)
  | .bin o a b, e => (match asBin e with | some (l, op, r) => (op == opOf o) && mE C sc a l && mE C sc b r | none => false)
  | .neg a, e => (match asUn e with | some (.USub, x) => mE C sc a x | _ => false)
  | .cmp o a b, e => (match asCmp1 e with | some (l, op, r) => (op == copOf o) && mE C sc a l && mE C sc b r | none => false)
  | .chn o o' a b c, e => (match asCmp2 e with | some (x, op, op', y, z) => (op == copOf o) && (op' == copOf o') && mE C sc a x && mE C sc b y && mE C sc c z | none => false)
  | .and es, e => (match asBool e with | some (.And, vs) => mL C sc es vs | _ => false)
  | .or es, e => (match asBool e with | some (.Or, vs) => mL C sc es vs | _ => false)
  | .not a, e => (match asUn e with | some (.Not, x) => mE C sc a x | _ => false)
  | .tup es, e => (match asTup e with | some vs => mL C sc es vs | none => false)
  | .lst es, e => (match asLst e with | some vs => mL C sc es vs | none => false)
  | .dct _ _, _ => false
  | .ix a i, e => (match asIx e with | some (x, y) => mE C sc a x && mE C sc i y | none => false)
  | .sl a lo hi, e => (match asSl e with | some (x, l, h) => mE C sc a x && mP C sc lo l && mP C sc hi h | none => false)
  | .slp a lo hi, e => (match asSl e with | some (x, l, h) => mE C sc a x && mP C sc lo l && mP C sc hi h | none => false)
  | .sl3 a lo hi st, e => (match asSl3 e with | some (x, l, h, s) => mE C sc a x && mP C sc lo l && mP C sc hi h && mE C sc st s | none => false)
  | .fld _ _, _ => false
  | .call f es, e => (match asCall e with | some (x, vs) => (match C.calls[f]? with | some y => strEq x y | none => false) && gloB sc x && okN x && mL C sc es vs | none => false)
  | .cio f i es _, e => (match asCall e with
    | some (x, v :: vs) => (match C.calls[f]? with | some y => strEq x y | none => false) && gloB sc x && okN x && (match asName v with | some z => nameAt C i z && visB sc z && okN z | none => false) && mL C sc es vs
    | _ => false)
  | .ctm f a es, e => (match asCall e with
    | some (x, v :: vs) => (match C.calls[f]? with | some y => strEq x y | none => false) && gloB sc x && okN x && mE C sc a v && mL C sc es vs
    | _ => false)
  | .bi b es, e => (match b with
    | .isi t => (match es with
      | .cons a .nil => (match asCall e with
        | some (x, [u, w]) => strEq x "isinstance" && gloOk C sc x && mE C sc a u && (match asName w with | some y => strEq y (tyNm t) && gloOk C sc y | none => false)
        | _ => false)
      | _ => false)
    | .lrng => (match asCall e with
      | some (x, [u]) => strEq x "list" && gloOk C sc x && (match asCall u with
        | some (y, vs) => strEq y "range" && gloOk C sc y && mL C sc es vs && decide (vs.length ≤ 2)
        | none => false)
      | _ => false)
    | .dict | .set => false
    | _ => (match asCall e with | some (x, vs) => strEq x (biN b) && gloOk C sc x && mL C sc es vs | none => false))
  | .mt m a es, e => (match m, es with
    | .bitlen, .nil => (match asMeth e with | some (o, x, []) => strEq x "bit_length" && mE C sc a o | _ => false)
    | .join, .cons b .nil => (match asMeth e with | some (o, x, [y]) => strEq x "join" && mE C sc a o && mE C sc b y | _ => false)
    | _, _ => false)
  | .comp elt tg it ifs own, e => (match asComp e with
    | some (x, t, i, fs, s) => blkC C.N sc s (ownP C own) && mT C s tg t && mI C sc it t i && mL C (relS s sc) ifs fs && decide (fs.length ≤ 1) && mE C (relS s sc) elt x && (tgs tg).all (fun j => own.contains j) && plainX i
    | none => false)
def mL (C : Ct) (sc : Scope) : DEs → List Expr → Bool
  | .nil, [] => true
  | .cons a es, e :: vs => mE C sc a e && mL C sc es vs
  | _, _ => false
def mP (C : Ct) (sc : Scope) : DO → Option Expr → Bool
  | .no, none => true
  | .so a, some e => mE C sc a e
  | _, _ => false
/-- what is walked, to a target -/
def mI (C : Ct) (sc : Scope) : DI → Expr → Expr → Bool
  | .val a, _, e => mE C sc a e
  | .rng es, _, e => (match asCall e with | some (x, vs) => strEq x "range" && gloOk C sc x && mL C sc es vs | none => false)
  | .enu a, t, e => (match asTup t, asCall e with | some _, some (x, [v]) => strEq x "enumerate" && gloOk C sc x && mE C sc a v | _, _ => false)
  | .zip es, t, e => (match asTup t, asCall e with | some _, some (x, [v, w]) => strEq x "zip" && gloOk C sc x && mL C sc es [v, w] | _, _ => false)
  | .rev a, _, e => (match asCall e with | some (x, [v]) => strEq x "reversed" && gloOk C sc x && mE C sc a v | _ => false)
  | .rrg es, _, e => (match asCall e with
    | some (x, [v]) => strEq x "reversed" && gloOk C sc x && (match asCall v with
      | some (y, vs) => strEq y "range" && gloOk C sc y && mL C sc es vs && decide (vs.length ≤ 2)
      | none => false)
    | _ => false)
end

/-! ### static: is what it gives all new (frE), or of what is shared alone (shE); are its calls as they must be (okE) -/
mutual
def frE (sg : List (Bool × Bool)) : DE → Bool
  | .v _ => false
  | .bin .cat a b => frE sg a && frE sg b
  | .tup es | .lst es => frL sg es
  | .ix a _ => frE sg a
  | .sl a _ _ => frE sg a
  | .call f _ | .cio f _ _ _ | .ctm f _ _ => (match sg[f]? with | some (_, b) => b | none => false)
  | .bi .tuple es | .bi .list es => frL sg es
  | .comp e _ _ _ _ => frE sg e
  | .dct _ _ | .fld _ _ => false
  | .sl3 _ _ _ _ | .slp _ _ _ => true
  | .mv _ | .pur _ | .c _ | .g _ _ | .bin _ _ _ | .neg _ | .cmp _ _ _ | .chn _ _ _ _ _ | .and _ | .or _ | .not _ | .bi _ _ | .mt _ _ _ => true
def frL (sg : List (Bool × Bool)) : DEs → Bool
  | .nil => true
  | .cons a es => frE sg a && frL sg es
end
def frI (sg : List (Bool × Bool)) : DI → Bool
  | .val a | .enu a | .rev a => frE sg a
  | .rng _ | .rrg _ => true
  | .zip es => frL sg es
mutual
def shE (sg : List (Bool × Bool)) (nsh : List Nat) : DE → Bool
  | .v i => !nsh.contains i
  | .bin .cat a b => shE sg nsh a && shE sg nsh b
  | .tup es | .lst es => shL sg nsh es
  | .ix a _ => shE sg nsh a
  | .sl a _ _ => shE sg nsh a
  | .call f es => (match sg[f]? with | some (_, b) => b | none => false) || shL sg nsh es
  | .cio f _ _ _ | .ctm f _ _ => (match sg[f]? with | some (_, b) => b | none => false)
  | .bi .tuple es | .bi .list es => shL sg nsh es
  | .comp e tg it _ _ => frE sg e || shE sg (if shI sg nsh it then nsh else nsh ++ tgs tg) e
  | .dct _ _ | .fld _ _ => false
  | .sl3 _ _ _ _ | .slp _ _ _ => true
  | .mv _ | .pur _ | .c _ | .g _ _ | .bin _ _ _ | .neg _ | .cmp _ _ _ | .chn _ _ _ _ _ | .and _ | .or _ | .not _ | .bi _ _ | .mt _ _ _ => true
def shL (sg : List (Bool × Bool)) (nsh : List Nat) : DEs → Bool
  | .nil => true
  | .cons a es => (frE sg a || shE sg nsh a) && shL sg nsh es
def shI (sg : List (Bool × Bool)) (nsh : List Nat) : DI → Bool
  | .val a | .enu a | .rev a => frE sg a || shE sg nsh a
  | .rng _ | .rrg _ => true
  | .zip es => shL sg nsh es
end
mutual
def okE (sg : List (Bool × Bool)) (own vw : List Nat) : DE → Bool
  | .v _ | .c _ | .g _ _ => true
  | .mv i => own.contains i
  | .pur e | .neg e | .not e => okE sg own vw e
  | .fld _ _ | .dct _ _ => false
  | .bin _ a b | .cmp _ a b | .ix a b => okE sg own vw a && okE sg own vw b
  | .chn _ _ a b c => okE sg own vw a && okE sg own vw b && okE sg own vw c
  | .and es | .or es | .tup es | .lst es | .bi _ es => okL sg own vw es
  | .sl a lo hi => okE sg own vw a && okP sg own vw lo && okP sg own vw hi
  | .slp a lo hi => okE sg own vw a && okP sg own vw lo && okP sg own vw hi
  | .sl3 a lo hi st => okE sg own vw a && okP sg own vw lo && okP sg own vw hi && okE sg own vw st
  | .call f es => okL sg own vw es && (match sg[f]? with | some (io, _) => !io | none => false)
  | .cio f i es kl => okL sg own vw es && own.contains i && !ioL es && shL sg (own ++ vw) es && vw.all (fun j => kl.contains j) && (match sg[f]? with | some (io, fr) => io && fr | none => false)
  | .ctm f a es => okE sg own vw a && okL sg own vw es && frE sg a && !ioL es && shL sg (own ++ vw) es && vw.isEmpty && (match sg[f]? with | some (io, fr) => io && fr | none => false)
  | .mt _ a es => okE sg own vw a && okL sg own vw es
  | .comp e tg it ifs own' => okI sg own vw it && !ioE e && !ioL ifs && okE sg [] (own ++ vw ++ (if shI sg (own ++ vw) it then [] else tgs tg)) e && okL sg [] (own ++ vw ++ (if shI sg (own ++ vw) it then [] else tgs tg)) ifs && decide (tgs tg).Nodup
def okL (sg : List (Bool × Bool)) (own vw : List Nat) : DEs → Bool
  | .nil => true
  | .cons a es => okE sg own vw a && okL sg own vw es
def okP (sg : List (Bool × Bool)) (own vw : List Nat) : DO → Bool
  | .no => true
  | .so a => okE sg own vw a
def okI (sg : List (Bool × Bool)) (own vw : List Nat) : DI → Bool
  | .val a | .enu a | .rev a => okE sg own vw a
  | .rng es | .rrg es | .zip es => okL sg own vw es
end

/-! ### from matching -/
theorem asName_eq {e : Expr} {x : Str} (h : asName e = some x) : ∃ p, e = .Name x p := by
  cases e <;> simp [asName] at h
  subst h; exact ⟨_, rfl⟩
theorem asConst_eq {e : Expr} {x : Const} (h : asConst e = some x) : ∃ j p, e = .Constant x j p := by
  cases e <;> simp [asConst] at h
  subst h; exact ⟨_, _, rfl⟩
theorem asBin_eq {e a b : Expr} {o : Operator} (h : asBin e = some (a, o, b)) : ∃ p, e = .BinOp a o b p := by
  cases e <;> simp [asBin] at h
  obtain ⟨rfl, rfl, rfl⟩ := h; exact ⟨_, rfl⟩
theorem asUn_eq {e a : Expr} {o : UnaryOp} (h : asUn e = some (o, a)) : ∃ p, e = .UnaryOp o a p := by
  cases e <;> simp [asUn] at h
  obtain ⟨rfl, rfl⟩ := h; exact ⟨_, rfl⟩
theorem asCmp1_eq {e a b : Expr} {o : CmpOp} (h : asCmp1 e = some (a, o, b)) : ∃ p, e = .Compare a [o] [b] p := by
  unfold asCmp1 at h
  split at h
  · simp only [Option.some.injEq, Prod.mk.injEq] at h
    obtain ⟨rfl, rfl, rfl⟩ := h; exact ⟨_, rfl⟩
  · cases h
theorem asCmp2_eq {e a b c : Expr} {o o' : CmpOp} (h : asCmp2 e = some (a, o, o', b, c)) : ∃ p, e = .Compare a [o, o'] [b, c] p := by
  unfold asCmp2 at h
  split at h
  · simp only [Option.some.injEq, Prod.mk.injEq] at h
    obtain ⟨rfl, rfl, rfl, rfl, rfl⟩ := h; exact ⟨_, rfl⟩
  · cases h
theorem asBool_eq {e : Expr} {o : BoolOp} {vs : List Expr} (h : asBool e = some (o, vs)) : ∃ p, e = .BoolOp o vs p := by
  cases e <;> simp [asBool] at h
  obtain ⟨rfl, rfl⟩ := h; exact ⟨_, rfl⟩
theorem asTup_eq {e : Expr} {vs : List Expr} (h : asTup e = some vs) : ∃ k p, e = .Tuple vs k p := by
  cases e <;> simp [asTup] at h
  subst h; exact ⟨_, _, rfl⟩
theorem asLst_eq {e : Expr} {vs : List Expr} (h : asLst e = some vs) : ∃ p, e = .List vs p := by
  cases e <;> simp [asLst] at h
  subst h; exact ⟨_, rfl⟩
theorem asIx_eq {e a i : Expr} (h : asIx e = some (a, i)) : ∃ p, e = .Subscript a i p := by
  cases e <;> simp [asIx] at h
  obtain ⟨rfl, rfl⟩ := h; exact ⟨_, rfl⟩
theorem asSl3_eq {e a st : Expr} {lo hi : Option Expr} (h : asSl3 e = some (a, lo, hi, st)) : ∃ p q, e = .Subscript a (.Slice lo hi (some st) q) p := by
  unfold asSl3 at h
  split at h
  · simp only [Option.some.injEq, Prod.mk.injEq] at h
    obtain ⟨rfl, rfl, rfl, rfl⟩ := h; exact ⟨_, _, rfl⟩
  · cases h
theorem asSl_eq {e a : Expr} {lo hi : Option Expr} (h : asSl e = some (a, lo, hi)) : ∃ p q, e = .Subscript a (.Slice lo hi none q) p := by
  unfold asSl at h
  split at h
  · simp only [Option.some.injEq, Prod.mk.injEq] at h
    obtain ⟨rfl, rfl, rfl⟩ := h; exact ⟨_, _, rfl⟩
  · cases h
theorem asCall_eq {e : Expr} {x : Str} {vs : List Expr} (h : asCall e = some (x, vs)) : ∃ v ws p q, vs = v :: ws ∧ e = .Call (.Name x p) (v :: ws) [] q := by
  unfold asCall at h
  split at h
  · simp only [Option.some.injEq, Prod.mk.injEq] at h
    obtain ⟨rfl, rfl⟩ := h; exact ⟨_, _, _, _, rfl, rfl⟩
  · cases h
theorem asMeth_eq {e o : Expr} {x : Str} {vs : List Expr} (h : asMeth e = some (o, x, vs)) : ∃ ap p, e = .Call (.Attribute o x ap) vs [] p ∧ (ap.endLine == p.line) = true := by
  unfold asMeth at h
  split at h
  · split at h
    · rename_i hl
      simp only [Option.some.injEq, Prod.mk.injEq] at h
      obtain ⟨rfl, rfl, rfl⟩ := h; exact ⟨_, _, rfl, hl⟩
    · cases h
  · cases h
theorem asComp_eq {e x t i : Expr} {fs : List Expr} {sc : Scope} (h : asComp e = some (x, t, i, fs, sc)) : ∃ p, e = .ListComp x [⟨t, i, fs, 0⟩] sc p := by
  unfold asComp at h
  split at h
  · simp only [Option.some.injEq, Prod.mk.injEq] at h
    obtain ⟨rfl, rfl, rfl, rfl, rfl⟩ := h; exact ⟨_, rfl⟩
  · cases h
theorem strEq_eq {x y : Str} (h : strEq x y = true) : x = y := of_decide_eq_true h
theorem nameAt_eq {C : Ct} {i : Nat} {x : Str} (h : nameAt C i x = true) : C.N[i]? = some x := by
  unfold nameAt at h
  split at h
  · rename_i y e
    rw [strEq_eq h]; exact e
  · cases h
theorem visB_eq {sc : Scope} {x : Str} (h : visB sc x = true) : Vis sc x := by
  unfold visB at h
  split at h
  · rename_i e; exact .inl e
  · rename_i e; exact .inr (.inl e)
  · rename_i e; exact .inr (.inr e)
  · cases h
theorem gloB_eq {sc : Scope} {x : Str} (h : gloB sc x = true) : sc.names.lookup x = some .globalImplicit := by
  unfold gloB at h
  split at h
  · assumption
  · cases h
theorem locB_eq {sc : Scope} {x : Str} (h : locB sc x = true) : sc.names.lookup x = some .local ∨ sc.names.lookup x = some .cell := by
  unfold locB at h
  split at h
  · rename_i e; exact .inl e
  · rename_i e; exact .inr e
  · cases h
theorem okN_eq {x : Str} (h : okN x = true) : (x == ("__debug__" : Str)) = false ∧ (x == ("__classdict__" : Str)) = false := by
  unfold okN at h
  simpa using h
theorem inB_eq {x : Str} {l : List Str} (h : inB x l = true) : x ∈ l := by
  unfold inB at h
  obtain ⟨y, h1, h2⟩ := List.any_eq_true.mp h
  rw [strEq_eq h2]; exact h1
theorem plain_ix {b : Expr} (h : plainX b = true) : PlainIx b := by
  intro o i
  cases b <;> first | rfl | simp [plainX] at h
theorem plain_mark {b : Expr} {op : CmpOp} (h : plainX b = true) : behindInMarks op b = false := by
  cases b <;> first | rfl | simp [plainX] at h
theorem plain_marks {b c : Expr} {op op' : CmpOp} (h : plainX c = true) : lastMarks [op, op'] [b, c] = false := by
  show lastMarks [op'] [c] = false
  exact plain_mark h
theorem plain_fold {e : Expr} {env : PySem.Env} (h : plainX e = true) (x : Value) : foldedSetIterable e env x = pure x := by
  cases e <;> first | rfl | simp [plainX] at h
theorem plain_star {e : Expr} {es : List Expr} {env : PySem.Env} (h : plainX e = true) : starEach (e :: es) env = (false, eval e env) :: starEach es env := by
  cases e <;> first | rfl | simp [plainX] at h
theorem plain_asg {e : Expr} {es : List Expr} {env : PySem.Env} (h : plainX e = true) : assignEach (e :: es) env = (false, assign e env) :: assignEach es env := by
  cases e <;> first | rfl | simp [plainX] at h
theorem plain_any {env : PySem.Env} {pos : Pos} : ∀ {es : List Expr}, es.all plainX = true → (backTo pos (starEach es env)).any (·.1) = false
  | [], _ => rfl
  | e :: es, h => by
    simp only [List.all_cons, Bool.and_eq_true] at h
    rw [plain_star h.1]
    have := plain_any (env := env) (pos := pos) h.2
    simpa [backTo] using this
theorem base_of {o : Expr} {m : Str} {env : PySem.Env} (h : ∀ x p q, o ≠ .Call (.Name x p) [] [] q) : attributeBase o m env (eval o env) = eval o env := by
  unfold attributeBase
  split
  · rename_i x p q
    exact absurd rfl (h _ _ _)
  · rfl
mutual
theorem mE_plain {C : Ct} {sc : Scope} : ∀ {e : DE} {x : Expr}, mE C sc e x = true → plainX x = true ∧ ∀ y p q, x ≠ .Call (.Name y p) [] [] q
  | .pur a, x, h => mE_plain (e := a) (by simpa only [mE] using h)
  | .v i, x, h => by
    simp only [mE] at h
    split at h
    · rename_i e; obtain ⟨p, rfl⟩ := asName_eq e; exact ⟨rfl, fun _ _ _ => by simp⟩
    · cases h
  | .mv i, x, h => by
    simp only [mE] at h
    split at h
    · rename_i e; obtain ⟨p, rfl⟩ := asName_eq e; exact ⟨rfl, fun _ _ _ => by simp⟩
    · cases h
  | .c d, x, h => by
    simp only [mE] at h
    split at h
    · rename_i e; obtain ⟨j, p, rfl⟩ := asConst_eq e; exact ⟨rfl, fun _ _ _ => by simp⟩
    · cases h
  | .g y d, x, h => by
    simp only [mE] at h
    split at h
    · rename_i e; obtain ⟨p, rfl⟩ := asName_eq e; exact ⟨rfl, fun _ _ _ => by simp⟩
    · cases h
  | .bin o a b, x, h => by
    simp only [mE] at h
    split at h
    · rename_i e; obtain ⟨p, rfl⟩ := asBin_eq e; exact ⟨rfl, fun _ _ _ => by simp⟩
    · cases h
  | .neg a, x, h => by
    simp only [mE] at h
    split at h
    · rename_i e; obtain ⟨p, rfl⟩ := asUn_eq e; exact ⟨rfl, fun _ _ _ => by simp⟩
    · cases h
  | .not a, x, h => by
    simp only [mE] at h
    split at h
    · rename_i e; obtain ⟨p, rfl⟩ := asUn_eq e; exact ⟨rfl, fun _ _ _ => by simp⟩
    · cases h
  | .cmp o a b, x, h => by
    simp only [mE] at h
    split at h
    · rename_i e; obtain ⟨p, rfl⟩ := asCmp1_eq e; exact ⟨rfl, fun _ _ _ => by simp⟩
    · cases h
  | .chn o o' a b c, x, h => by
    simp only [mE] at h
    split at h
    · rename_i e; obtain ⟨p, rfl⟩ := asCmp2_eq e; exact ⟨rfl, fun _ _ _ => by simp⟩
    · cases h
  | .and es, x, h => by
    simp only [mE] at h
    split at h
    · rename_i e; obtain ⟨p, rfl⟩ := asBool_eq e; exact ⟨rfl, fun _ _ _ => by simp⟩
    · cases h
  | .or es, x, h => by
    simp only [mE] at h
    split at h
    · rename_i e; obtain ⟨p, rfl⟩ := asBool_eq e; exact ⟨rfl, fun _ _ _ => by simp⟩
    · cases h
  | .tup es, x, h => by
    simp only [mE] at h
    split at h
    · rename_i e; obtain ⟨k, p, rfl⟩ := asTup_eq e; exact ⟨rfl, fun _ _ _ => by simp⟩
    · cases h
  | .lst es, x, h => by
    simp only [mE] at h
    split at h
    · rename_i e; obtain ⟨p, rfl⟩ := asLst_eq e; exact ⟨rfl, fun _ _ _ => by simp⟩
    · cases h
  | .dct _ _, x, h => by simp [mE] at h
  | .ix a i, x, h => by
    simp only [mE] at h
    split at h
    · rename_i e; obtain ⟨p, rfl⟩ := asIx_eq e; exact ⟨rfl, fun _ _ _ => by simp⟩
    · cases h
  | .sl a lo hi, x, h => by
    simp only [mE] at h
    split at h
    · rename_i e; obtain ⟨p, q, rfl⟩ := asSl_eq e; exact ⟨rfl, fun _ _ _ => by simp⟩
    · cases h
  | .slp a lo hi, x, h => by
    simp only [mE] at h
    split at h
    · rename_i e; obtain ⟨p, q, rfl⟩ := asSl_eq e; exact ⟨rfl, fun _ _ _ => by simp⟩
    · cases h
  | .sl3 a lo hi st, x, h => by
    simp only [mE] at h
    split at h
    · rename_i e; obtain ⟨p, q, rfl⟩ := asSl3_eq e; exact ⟨rfl, fun _ _ _ => by simp⟩
    · cases h
  | .fld _ _, x, h => by simp [mE] at h
  | .call f es, x, h => by
    simp only [mE] at h
    split at h
    · rename_i e; obtain ⟨v, ws, p, q, rfl, rfl⟩ := asCall_eq e; exact ⟨rfl, fun _ _ _ => by simp⟩
    · cases h
  | .cio f i es kl, x, h => by
    simp only [mE] at h
    split at h
    · rename_i e; obtain ⟨v, ws, p, q, _, rfl⟩ := asCall_eq e; exact ⟨rfl, fun _ _ _ => by simp⟩
    · cases h
  | .ctm f a es, x, h => by
    simp only [mE] at h
    split at h
    · rename_i e; obtain ⟨v, ws, p, q, _, rfl⟩ := asCall_eq e; exact ⟨rfl, fun _ _ _ => by simp⟩
    · cases h
  | .bi b es, x, h => by
    have key : ∃ y vs, asCall x = some (y, vs) := by
      cases hx : asCall x with
      | some p => exact ⟨p.1, p.2, rfl⟩
      | none =>
        exfalso
        cases b <;> unfold mE at h <;> dsimp only at h <;> first
          | (rw [hx] at h; exact Bool.false_ne_true h)
          | exact Bool.false_ne_true h
          | (split at h
             · rw [hx] at h; exact Bool.false_ne_true h
             · exact Bool.false_ne_true h)
    obtain ⟨y, vs, e⟩ := key
    obtain ⟨v, ws, p, q, _, rfl⟩ := asCall_eq e
    exact ⟨rfl, fun _ _ _ => by simp⟩
  | .mt m a es, x, h => by
    have key : ∃ p, asMeth x = some p := by
      cases hx : asMeth x with
      | some p => exact ⟨_, rfl⟩
      | none =>
        exfalso
        unfold mE at h
        split at h <;> first
          | (rw [hx] at h; exact Bool.false_ne_true h)
          | exact Bool.false_ne_true h
    obtain ⟨⟨o, m2, vs⟩, e⟩ := key
    obtain ⟨ap, p, rfl, _⟩ := asMeth_eq e
    exact ⟨rfl, fun _ _ _ => by simp⟩
  | .comp elt tg it ifs own, x, h => by
    simp only [mE] at h
    split at h
    · rename_i e; obtain ⟨p, rfl⟩ := asComp_eq e; exact ⟨rfl, fun _ _ _ => by simp⟩
    · cases h
end
theorem mL_plain {C : Ct} {sc : Scope} : ∀ {es : DEs} {xs : List Expr}, mL C sc es xs = true → xs.all plainX = true
  | .nil, [], _ => rfl
  | .nil, _ :: _, h => by simp [mL] at h
  | .cons a es, [], h => by simp [mL] at h
  | .cons a es, x :: xs, h => by
    simp only [mL, Bool.and_eq_true] at h
    simp only [List.all_cons, Bool.and_eq_true]
    exact ⟨(mE_plain h.1).1, mL_plain h.2⟩
end Cy
end
section
set_option Elab.async false
set_option linter.all false
set_option maxRecDepth 100000
set_option maxHeartbeats 2000000
/-! Soundness, 4: expressions. -/
namespace Cy
open PySem L2 PyProof.Rows

/-! ### what a def promises -/
/-- by data: nothing handed in changes -/
def spP (K : PySem.W.Frag) (fr : Bool) (F : Fn) : Sp := fun vs H Q _ => ∃ ds A d, Reps K H vs ds A ∧ F ds = some (.ret d []) ∧
  ∀ v H' A', Same H H' → Rep K H' v d A' → (fr = true → A'.Nodup ∧ ∀ a ∈ A', H a = none) → (∀ a ∈ A', H a = none ∨ a ∈ A) → Q v H'
/-- by data: the first thing handed in may change -/
def spI (K : PySem.W.Frag) (F : Fn) : Sp := fun vs H Q _ => ∃ v0 vs1 d0 ds1 A0 A1 d d1, vs = v0 :: vs1 ∧ Rep K H v0 d0 A0 ∧ Reps K H vs1 ds1 A1 ∧ A0.Nodup ∧ (∀ a ∈ A0, a ∉ A1) ∧ F (d0 :: ds1) = some (.ret d [d1]) ∧
  ∀ v H' A' A0', (∀ a, H a ≠ none → H' a ≠ none) → (∀ a o, H a = some o → a ∉ A0 → H' a = some o) → Rep K H' v0 d1 A0' → A0'.Nodup → (∀ a ∈ A0', a ∈ A0 ∨ H a = none) →
    Rep K H' v d A' → A'.Nodup → (∀ a ∈ A', (H a = none ∨ a ∈ A0) ∧ a ∉ A0') → Q v H'
def spD (K : PySem.W.Frag) (sg : Bool × Bool) (F : Fn) : Sp := if sg.1 = true then spI K F else spP K sg.2 F
structure CallOk (X : Cx) (k : Nat) (x : Str) (sg : Bool × Bool) (F : Fn) (fa : Addr) (fd : FuncData) (ps : List Str) : Prop where
  mg : X.mg x = some (.ref fa)
  kp : PySem.W.keepIn X.K (.ref fa) = true
  bi : Binds X.K fd ps []
  ok : FnOk X.prog X.w X.K X.mg X.base CX0 k fa fd ps (spD X.K sg F)
def ScV : V → D → Prop
  | .int i, .int j => i = j
  | .str x, .str y => x = y
  | _, _ => False
/-- what must be known of a body's surroundings -/
structure Fx (C : Ct) (Φ : Nat → Fn) (k : Nat) (X : Cx) : Prop where
  nN : X.N = C.N
  nd : C.N.Nodup
  calm : X.calm = true
  room : Room k X.A
  calls : ∀ f x s, C.calls[f]? = some x → C.sigs[f]? = some s → ∃ fa fd ps, CallOk X k x s (Φ f) fa fd ps
  bn : ∀ x ∈ C.bn, X.mg x = none
  gl : ∀ p ∈ C.gl, ∃ u v, X.mg p.1 = some u ∧ RelV v u ∧ ScV v p.2

section
variable {C : Ct} {Φ : Nat → Fn} {k : Nat} {X : Cx}
def SE (C : Ct) (Φ : Nat → Fn) (X : Cx) (own vw : List Nat) (e : DE) (ex : Expr) : Prop :=
  ∀ (Z P : Addr → Prop) (σ : L2.St) (H : Hp) (env : En) (As : Asg) (d : D) (env' : En), SR X.K C.N.length own vw Z P σ H env As → ev Φ e env = some (.ok d env') →
    ∀ Q : VK, (∀ v H' A As', SR X.K C.N.length own vw Z P σ H' env' As' → TR own (ioE e) H As H' As' → Rep X.K H' v d A → EF own Z (frE C.sigs e) (shE C.sigs (own ++ vw) e) H As As' A → Q v H') → WE X ex σ H Q
def SL (C : Ct) (Φ : Nat → Fn) (X : Cx) (own vw : List Nat) (es : DEs) (xs : List Expr) : Prop :=
  ∀ (Z P : Addr → Prop) (σ : L2.St) (H : Hp) (env : En) (As : Asg) (ds : List D) (env' : En), SR X.K C.N.length own vw Z P σ H env As → evL Φ es env = some (.ok ds env') →
    ∀ Q : List V → Hp → Prop, (∀ vs H' A As', SR X.K C.N.length own vw Z P σ H' env' As' → TR own (ioL es) H As H' As' → Reps X.K H' vs ds A → EF own Z (frL C.sigs es) (shL C.sigs (own ++ vw) es) H As As' A → Q vs H') → WA X xs σ H Q
/-- a bool's -/
def SB (C : Ct) (Φ : Nat → Fn) (X : Cx) (own vw : List Nat) (io : Bool) (m : En → Option (Rs D)) (W : L2.St → Hp → (Bool → Hp → Prop) → Prop) : Prop :=
  ∀ (Z P : Addr → Prop) (σ : L2.St) (H : Hp) (env : En) (As : Asg) (b : Bool) (env' : En), SR X.K C.N.length own vw Z P σ H env As → m env = some (.ok (.bl b) env') →
    ∀ Q : Bool → Hp → Prop, (∀ H' As', SR X.K C.N.length own vw Z P σ H' env' As' → TR own io H As H' As' → Q b H') → W σ H Q
def SP (C : Ct) (Φ : Nat → Fn) (X : Cx) (own vw : List Nat) (e : DO) (ex : Option Expr) : Prop :=
  ∀ (Z P : Addr → Prop) (σ : L2.St) (H : Hp) (env : En) (As : Asg) (d : Option Int) (env' : En), SR X.K C.N.length own vw Z P σ H env As → evP Φ e env = some (.ok d env') →
    ∀ Q : Option Int → Hp → Prop, (∀ H' As', SR X.K C.N.length own vw Z P σ H' env' As' → TR own (ioP e) H As H' As' → Q d H') → WO X ex σ H Q

theorem bd_inv {α β : Type} {r : Option (Rs α)} {f : α → En → Option (Rs β)} {b : β} {e' : En} (h : bd r f = some (.ok b e')) : ∃ a e, r = some (.ok a e) ∧ f a e = some (.ok b e') := by
  unfold bd at h
  split at h
  · exact ⟨_, _, rfl, h⟩
  · cases h
  · cases h
theorem lf_inv {α : Type} {o : Option α} {e e' : En} {a : α} (h : lf o e = some (.ok a e')) : o = some a ∧ e = e' := by
  unfold lf at h
  cases o with
  | none => cases h
  | some x =>
    simp only [Option.map_some, Option.some.injEq, Rs.ok.injEq] at h
    exact ⟨by rw [h.1], h.2⟩
theorem gd_inv {α : Type} {c : Bool} {o : Option α} {a : α} (h : (if c = true then none else o) = some a) : c = false ∧ o = some a := by
  cases c
  · exact ⟨rfl, by simpa using h⟩
  · simp at h
theorem guard_pure {i p : Bool} (h : (i && !p) = false) : i = true → p = true := by cases i <;> cases p <;> simp_all
theorem orl {a b : Bool} : a = true → (a || b) = true := fun h => by rw [h]; rfl
theorem orr {a b : Bool} : b = true → (a || b) = true := fun h => by rw [h]; exact Bool.or_true _
theorem EF.orr {own : List Nat} {Z : Addr → Prop} {f s : Bool} {H : Hp} {As As' : Asg} {A : List Addr} (e : EF own Z f s H As As' A) : EF own Z f (f || s) H As As' A :=
  ⟨e.1, fun h a ha => by
    rcases Bool.or_eq_true_iff.mp h with h | h
    · exact .inl ((e.1 h).2 a ha)
    · exact e.2.1 h a ha, e.2.2⟩
theorem EF.one {own : List Nat} {Z : Addr → Prop} {f s : Bool} {H : Hp} {As As' : Asg} {A : List Addr} (e : EF own Z f s H As As' A) (h : f = true) : EF own Z true true H As As' A :=
  ⟨fun _ => e.1 h, fun _ a ha => .inl ((e.1 h).2 a ha), e.2.2⟩

theorem se_var {own vw : List Nat} {i : Nat} {x : Str} {p : Pos} (F : Fx C Φ k X) (hn : C.N[i]? = some x) (hv : Vis X.env.scope x) (ho : okN x = true) : SE C Φ X own vw (.v i) (.Name x p) := by
  intro Z P σ H env As d env' S e Q q
  simp only [ev] at e
  split at e
  · rename_i d0 h0
    simp only [Option.some.injEq, Rs.ok.injEq] at e
    obtain ⟨rfl, rfl⟩ := e
    obtain ⟨v, h1, r⟩ := S.rep i _ h0
    refine (pe_var (i := i) (by rw [F.nN]; exact hn) hv (okN_eq ho).1 (okN_eq ho).2).we ⟨v, h1, q v H (As i) As S TR.refl r ⟨fun h => by simp [frE] at h, fun h a ha => .inr ?_, fun a ha => .inr ⟨i, ha⟩⟩⟩
    simp only [shE, Bool.not_eq_true', List.contains_eq_mem, decide_eq_false_iff_not, List.mem_append, not_or] at h
    exact S.shr i h.1 h.2 a ha
  · cases e
/-- a slot emptied -/
theorem SR.drop {K : PySem.W.Frag} {n : Nat} {own vw : List Nat} {Z P : Addr → Prop} {σ : L2.St} {H : Hp} {env : En} {As : Asg} (S : SR K n own vw Z P σ H env As) (i : Nat) :
    SR K n own vw Z P σ H (env.set i none) (fun j => if j = i then [] else As j) where
  len := S.len
  lenE := by rw [List.length_set]; exact S.lenE
  rep := fun j d h => by
    by_cases e : j = i
    · subst e
      rw [List.getElem?_set] at h
      simp at h
    · rw [List.getElem?_set_ne (fun z => e z.symm)] at h
      rw [if_neg e]; exact S.rep j d h
  non := fun j h => by
    by_cases e : j = i
    · rw [if_pos e]
    · rw [if_neg e]
      refine S.non j fun d z => h d ?_
      rw [List.getElem?_set_ne (fun z => e z.symm)]; exact z
  shr := fun j h1 h2 a ha => by
    by_cases e : j = i
    · rw [if_pos e] at ha; cases ha
    · rw [if_neg e] at ha; exact S.shr j h1 h2 a ha
  nod := fun j h => by
    by_cases e : j = i
    · rw [if_pos e]; exact List.nodup_nil
    · rw [if_neg e]; exact S.nod j h
  noP := fun j h a ha => by
    by_cases e : j = i
    · rw [if_pos e] at ha; cases ha
    · rw [if_neg e] at ha; exact S.noP j h a ha
  dis := fun j hj l hl hne a ha hb => by
    by_cases e : j = i
    · rw [if_pos e] at ha; cases ha
    · rw [if_neg e] at ha
      by_cases e2 : l = i
      · rw [if_pos e2] at hb; cases hb
      · rw [if_neg e2] at hb; exact S.dis j hj l hl hne a ha hb
  zp := S.zp
  ph := S.ph
theorem se_mv {own vw : List Nat} {i : Nat} {x : Str} {p : Pos} (F : Fx C Φ k X) (hn : C.N[i]? = some x) (hv : Vis X.env.scope x) (ho : okN x = true) (hi : i ∈ own) : SE C Φ X own vw (.mv i) (.Name x p) := by
  intro Z P σ H env As d env' S e Q q
  simp only [ev] at e
  split at e
  · rename_i d0 h0
    simp only [Option.some.injEq, Rs.ok.injEq] at e
    obtain ⟨rfl, rfl⟩ := e
    obtain ⟨v, h1, r⟩ := S.rep i _ h0
    have sub : ∀ a, OwA own (fun j => if j = i then [] else As j) a → OwA own As a ∧ a ∉ As i := fun a ⟨j, hj, ha⟩ => by
      dsimp only at ha
      by_cases e : j = i
      · rw [if_pos e] at ha; cases ha
      · rw [if_neg e] at ha; exact ⟨⟨j, hj, ha⟩, S.dis j hj i hi e a ha⟩
    refine (pe_var (i := i) (by rw [F.nN]; exact hn) hv (okN_eq ho).1 (okN_eq ho).2).we ⟨v, h1, q v H (As i) _ (S.drop i) ⟨fun _ h => h, fun _ _ h _ => h, fun a h => .inl (sub a h).1, fun j a h => by
      split at h
      · cases h
      · exact .inl ⟨j, h⟩⟩ r ?_⟩
    have nw : ∀ a ∈ As i, New own H As (fun j => if j = i then [] else As j) a := fun a ha => ⟨.inr ⟨i, hi, ha⟩, fun c => (sub a c).2 ha⟩
    exact ⟨fun _ => ⟨S.nod i hi, nw⟩, fun _ a ha => .inl (nw a ha), fun a ha => .inr ⟨i, ha⟩⟩
  · cases e
theorem se_c {own vw : List Nat} {d : D} {c : Const} {j : Nat} {p : Pos} (h : mC d c = true) : SE C Φ X own vw (.c d) (.Constant c j p) := by
  intro Z P σ H env As d' env' S e Q q
  simp only [ev, Option.some.injEq, Rs.ok.injEq] at e
  obtain ⟨rfl, rfl⟩ := e
  cases d <;> cases c <;> simp [mC] at h
  · exact pe_non.we (q _ _ [] As S TR.refl .non EF.pure)
  · subst h; exact pe_bl.we (q _ _ [] As S TR.refl (.bl _) EF.pure)
  · subst h; exact pe_int.we (q _ _ [] As S TR.refl (.int _) EF.pure)
  · subst h; exact pe_str.we (q _ _ [] As S TR.refl (.str _) EF.pure)
theorem se_g {own vw : List Nat} {d : D} {x : Str} {p : Pos} (F : Fx C Φ k X) (hg : X.env.scope.names.lookup x = some .globalImplicit) (ho : okN x = true) (h : glIn C x d = true) : SE C Φ X own vw (.g x d) (.Name x p) := by
  intro Z P σ H env As d' env' S e Q q
  simp only [ev, Option.some.injEq, Rs.ok.injEq] at e
  obtain ⟨rfl, rfl⟩ := e
  unfold glIn at h
  obtain ⟨pr, hm, hp⟩ := List.any_eq_true.mp h
  simp only [Bool.and_eq_true] at hp
  obtain ⟨u, v, m, rv, sv⟩ := F.gl pr hm
  have e1 := strEq_eq hp.1
  obtain ⟨px, pd⟩ := pr
  simp only at e1 sv hp m
  subst e1
  refine (pe_glob (v := v) hg m rv (okN_eq ho).1).we (q _ _ [] As S TR.refl ?_ EF.pure)
  cases v <;> cases pd <;> simp [ScV] at sv <;> cases d <;> simp [scEq] at hp
  · obtain ⟨_, rfl⟩ := hp; subst sv; exact .int _
  · obtain ⟨_, rfl⟩ := hp; subst sv; exact .str _
theorem se_pur {own vw : List Nat} {a : DE} {ex : Expr} (ha : SE C Φ X own vw a ex) : SE C Φ X own vw (.pur a) ex := by
  intro Z P σ H env As d env' S e Q q
  simp only [ev] at e
  obtain ⟨x, e1, h1, h2⟩ := bd_inv e
  split at h2
  · rename_i hp
    simp only [Option.some.injEq, Rs.ok.injEq] at h2
    obtain ⟨rfl, rfl⟩ := h2
    refine ha Z P σ H env As _ _ S h1 Q fun v H' A As' S' T r E => q v H' A As' S' T r ?_
    rw [r.pure hp]; exact EF.pure
  · cases h2
theorem se_bin {own vw : List Nat} {o : BO} {a b : DE} {l r : Expr} {p : Pos} (ha : SE C Φ X own vw a l) (hb : SE C Φ X own vw b r) : SE C Φ X own vw (.bin o a b) (.BinOp l (opOf o) r p) := by
  intro Z P σ H env As d env' S e Q q
  simp only [ev] at e
  obtain ⟨x, e1, h1, h2⟩ := bd_inv e
  obtain ⟨g, h2⟩ := gd_inv h2
  obtain ⟨y, e2, h3, h4⟩ := bd_inv h2
  obtain ⟨h5, rfl⟩ := lf_inv h4
  refine (pe_op (op_bin o) Cy.we Cy.we).we ?_
  refine ha Z P σ H env As _ _ S h1 _ fun v1 H1 A1 As1 S1 T1 r1 E1 => ?_
  refine hb Z P σ H1 e1 As1 _ _ S1 h3 _ fun v2 H2 A2 As2 S2 T2 r2 E2 => ?_
  have r1' := r1.step S1 T2 (guard_pure g)
  refine ⟨x, y, A1, A2, d, r1', r2, h5, fun v H' A' vo rd => ?_⟩
  have E := EF.app (fun a h => r1.mut a h) T1 T2 E1.orr E2.orr
  obtain ⟨S3, T3, E3⟩ := fin S2 (T1.trans T2 (orl (b := ioE b)) (orr (a := ioE a))) (fun a h => by
    rcases List.mem_append.mp h with h | h
    · exact r1'.mut a h
    · exact r2.mut a h) E vo
  refine q v H' A' As2 S3 T3 rd (E3.weak (fun h => ?_) (fun h => ?_))
  · cases o <;> simp [frE, pureOp] at h ⊢ <;> exact h
  · cases o <;> simp [shE, pureOp] at h ⊢ <;> simp [h.1, h.2]

theorem se_neg {own vw : List Nat} {a : DE} {x : Expr} {p : Pos} (ha : SE C Φ X own vw a x) : SE C Φ X own vw (.neg a) (.UnaryOp .USub x p) := by
  intro Z P σ H env As d env' S e Q q
  simp only [ev] at e
  obtain ⟨y, e1, h1, h2⟩ := bd_inv e
  split at h2
  · simp only [Option.some.injEq, Rs.ok.injEq] at h2
    obtain ⟨rfl, rfl⟩ := h2
    refine (pe_un un_neg Cy.we).we ?_
    refine ha Z P σ H env As _ _ S h1 _ fun v1 H1 A1 As1 S1 T1 r1 E1 => ?_
    cases r1
    exact ⟨_, rfl, q _ _ [] As1 S1 T1 (.int _) EF.pure⟩
  · cases h2
/-- a comparison's reading -/
theorem cmp_core {own vw : List Nat} {a b : DE} {l r : Expr} {o : CO} (hu : X.A.units + 64 < cLine) (ha : SE C Φ X own vw a l) (hb : SE C Φ X own vw b r) {Z P : Addr → Prop} {σ : L2.St} {H : Hp} {env env' : En} {As : Asg} {c : Bool}
    (S : SR X.K C.N.length own vw Z P σ H env As) (e : ev Φ (.cmp o a b) env = some (.ok (.bl c) env')) {Q : VK} (q : ∀ H' As', SR X.K C.N.length own vw Z P σ H' env' As' → TR own (ioE a || ioE b) H As H' As' → Q (.bl c) H') :
    tOp (rCmp X.K o) (WE X l) (WE X r) σ H Q := by
  simp only [ev] at e
  obtain ⟨x, e1, h1, h2⟩ := bd_inv e
  obtain ⟨g, h2⟩ := gd_inv h2
  obtain ⟨y, e2, h3, h4⟩ := bd_inv h2
  obtain ⟨h5, rfl⟩ := lf_inv h4
  simp only [Option.map_eq_some_iff, D.bl.injEq] at h5
  obtain ⟨c', h5, rfl⟩ := h5
  refine ha Z P σ H env As _ _ S h1 _ fun v1 H1 A1 As1 S1 T1 r1 E1 => ?_
  refine hb Z P σ H1 e1 As1 _ _ S1 h3 _ fun v2 H2 A2 As2 S2 T2 r2 E2 => ?_
  exact ⟨x, y, A1, A2, _, r1.step S1 T2 (guard_pure g), r2, h5, q H2 As2 S2 (T1.trans T2 (orl (b := ioE b)) (orr (a := ioE a)))⟩
theorem cmp_bl {o : CO} {a b : DE} {env env' : En} {d : D} (e : ev Φ (.cmp o a b) env = some (.ok d env')) : ∃ c, d = .bl c := by
  simp only [ev] at e
  obtain ⟨x, e1, h1, h2⟩ := bd_inv e
  obtain ⟨g, h2⟩ := gd_inv h2
  obtain ⟨y, e2, h3, h4⟩ := bd_inv h2
  obtain ⟨h5, rfl⟩ := lf_inv h4
  simp only [Option.map_eq_some_iff] at h5
  obtain ⟨c', h5, rfl⟩ := h5
  exact ⟨_, rfl⟩
theorem se_cmp {own vw : List Nat} {o : CO} {a b : DE} {l r : Expr} {p : Pos} (hu : X.A.units + 64 < cLine) (hp : plainX r = true) (ha : SE C Φ X own vw a l) (hb : SE C Φ X own vw b r) : SE C Φ X own vw (.cmp o a b) (.Compare l [copOf o] [r] p) := by
  intro Z P σ H env As d env' S e Q q
  obtain ⟨c, rfl⟩ := cmp_bl e
  refine (pe_cmpR (op_cmp hu o) Cy.we Cy.we (plain_mark hp)).we ?_
  exact cmp_core hu ha hb S e fun H' As' S' T' => q _ _ [] As' S' T' (.bl _) EF.pure
theorem sb_cmp {own vw : List Nat} {o : CO} {a b : DE} {l r : Expr} {p : Pos} (hu : X.A.units + 64 < cLine) (hp : plainX r = true) (ha : SE C Φ X own vw a l) (hb : SE C Φ X own vw b r) : SB C Φ X own vw (ioE (.cmp o a b)) (ev Φ (.cmp o a b)) (WT X (.Compare l [copOf o] [r] p)) := by
  intro Z P σ H env As c env' S e Q q
  refine (pt_cmpR (op_cmp hu o) Cy.we Cy.we (plain_mark hp)).we ?_
  exact cmp_core hu ha hb S e fun H' As' S' T' => ⟨c, rfl, q H' As' S' T'⟩
theorem chn_core {own vw : List Nat} {a b c : DE} {l m r : Expr} {o o' : CO} (hu : X.A.units + 64 < cLine) (ha : SE C Φ X own vw a l) (hb : SE C Φ X own vw b m) (hc : SE C Φ X own vw c r) {Z P : Addr → Prop} {σ : L2.St} {H : Hp} {env env' : En} {As : Asg} {d : D}
    (S : SR X.K C.N.length own vw Z P σ H env As) (e : ev Φ (.chn o o' a b c) env = some (.ok d env')) {Q : VK} (q : ∀ t H' As', d = .bl t → SR X.K C.N.length own vw Z P σ H' env' As' → TR own (ioE a || ioE b || ioE c) H As H' As' → Q (.bl t) H') :
    tChain (rCmp X.K o) (rCmp X.K o') (WE X l) (WE X m) (WE X r) σ H Q := by
  simp only [ev] at e
  obtain ⟨x, e1, h1, h2⟩ := bd_inv e
  obtain ⟨g, h2⟩ := gd_inv h2
  obtain ⟨y, e2, h3, h4⟩ := bd_inv h2
  refine ha Z P σ H env As _ _ S h1 _ fun v1 H1 A1 As1 S1 T1 r1 E1 => ?_
  refine hb Z P σ H1 e1 As1 _ _ S1 h3 _ fun v2 H2 A2 As2 S2 T2 r2 E2 => ?_
  have gp : ioE b = true → pureD x = true := fun z => guard_pure g (by rw [z]; rfl)
  have T12 := T1.trans T2 (io := ioE a || ioE b) (orl (b := ioE b)) (orr (a := ioE a))
  split at h4
  · rename_i h5
    obtain ⟨g2, h4⟩ := gd_inv h4
    obtain ⟨z, e3, h6, h7⟩ := bd_inv h4
    obtain ⟨h8, rfl⟩ := lf_inv h7
    simp only [Option.map_eq_some_iff] at h8
    obtain ⟨t, h8, rfl⟩ := h8
    refine ⟨x, y, A1, A2, _, r1.step S1 T2 gp, r2, h5, true, rfl, ?_⟩
    rw [if_pos rfl]
    refine hc Z P σ H2 e2 As2 _ _ S2 h6 _ fun v3 H3 A3 As3 S3 T3 r3 E3 => ?_
    exact ⟨y, z, A2, A3, _, r2.step S2 T3 (guard_pure g2), r3, h8, q _ H3 As3 rfl S3 (T12.trans T3 (orl (b := ioE c)) (orr (a := ioE a || ioE b)))⟩
  · rename_i h5
    simp only [Option.some.injEq, Rs.ok.injEq] at h4
    obtain ⟨rfl, rfl⟩ := h4
    refine ⟨x, y, A1, A2, _, r1.step S1 T2 gp, r2, h5, false, rfl, ?_⟩
    rw [if_neg Bool.false_ne_true]
    exact q _ H2 As2 rfl S2 (T12.weak (orl (b := ioE c)))
  · cases h4
theorem se_chn {own vw : List Nat} {o o' : CO} {a b c : DE} {l m r : Expr} {p : Pos} (hu : X.A.units + 64 < cLine) (hp : plainX r = true) (ha : SE C Φ X own vw a l) (hb : SE C Φ X own vw b m) (hc : SE C Φ X own vw c r) :
    SE C Φ X own vw (.chn o o' a b c) (.Compare l [copOf o, copOf o'] [m, r] p) := by
  intro Z P σ H env As d env' S e Q q
  refine (pe_chain (op_cmp hu o) (op_cmp hu o') Cy.we Cy.we Cy.we (plain_marks hp)).we ?_
  exact chn_core hu ha hb hc S e fun t H' As' ed S' T' => by subst ed; exact q _ _ [] As' S' T' (.bl _) EF.pure
theorem sb_chn {own vw : List Nat} {o o' : CO} {a b c : DE} {l m r : Expr} {p : Pos} (hu : X.A.units + 64 < cLine) (hp : plainX r = true) (ha : SE C Φ X own vw a l) (hb : SE C Φ X own vw b m) (hc : SE C Φ X own vw c r) :
    SB C Φ X own vw (ioE (.chn o o' a b c)) (ev Φ (.chn o o' a b c)) (WT X (.Compare l [copOf o, copOf o'] [m, r] p)) := by
  intro Z P σ H env As t env' S e Q q
  refine (pt_chain (op_cmp hu o) (op_cmp hu o') Cy.we Cy.we Cy.we (plain_marks hp)).we ?_
  exact chn_core hu ha hb hc S e fun t H' As' ed S' T' => by cases ed; exact ⟨_, rfl, q H' As' S' T'⟩
theorem se_not {own vw : List Nat} {a : DE} {x : Expr} {p : Pos} (ha : SE C Φ X own vw a x) : SE C Φ X own vw (.not a) (.UnaryOp .Not x p) := by
  intro Z P σ H env As d env' S e Q q
  simp only [ev] at e
  obtain ⟨y, e1, h1, h2⟩ := bd_inv e
  split at h2
  · simp only [Option.some.injEq, Rs.ok.injEq] at h2
    obtain ⟨rfl, rfl⟩ := h2
    refine (pe_not Cy.we).we ?_
    refine ha Z P σ H env As _ _ S h1 _ fun v1 H1 A1 As1 S1 T1 r1 E1 => ?_
    cases r1
    exact ⟨_, rfl, q _ _ [] As1 S1 T1 (.bl _) EF.pure⟩
  · cases h2
theorem sb_not {own vw : List Nat} {a : DE} {x : Expr} {p : Pos} (ha : SB C Φ X own vw (ioE a) (ev Φ a) (WT X x)) : SB C Φ X own vw (ioE (.not a)) (ev Φ (.not a)) (WT X (.UnaryOp .Not x p)) := by
  intro Z P σ H env As b env' S e Q q
  simp only [ev] at e
  obtain ⟨y, e1, h1, h2⟩ := bd_inv e
  split at h2
  · simp only [Option.some.injEq, Rs.ok.injEq, D.bl.injEq] at h2
    obtain ⟨rfl, rfl⟩ := h2
    refine (pt_not Cy.wt).we ?_
    exact ha Z P σ H env As _ _ S h1 _ q
  · cases h2
/-- a value that is a bool, as a test -/
theorem sb_val {own vw : List Nat} {a : DE} {x : Expr} (ht : ∀ whole, isTrue x X.env whole = (do let v ← whole; standAt x.pos; holding [v] (truthy v))) (ha : SE C Φ X own vw a x) : SB C Φ X own vw (ioE a) (ev Φ a) (WT X x) := by
  intro Z P σ H env As b env' S e Q q
  refine (pt_val Cy.we ht).we ?_
  refine ha Z P σ H env As _ _ S e _ fun v1 H1 A1 As1 S1 T1 r1 E1 => ?_
  cases r1
  exact ⟨_, rfl, q H1 As1 S1 T1⟩

/-! ### and, or -/
theorem evAnd_bl : ∀ {es : DEs} {env env' : En} {d : D}, evAnd Φ es env = some (.ok d env') → ∃ c, d = .bl c
  | .nil, _, _, _, h => by simp [evAnd] at h
  | .cons a .nil, env, env', d, h => by
    simp only [evAnd] at h
    obtain ⟨y, e1, h1, h2⟩ := bd_inv h
    split at h2
    · simp only [Option.some.injEq, Rs.ok.injEq] at h2; exact ⟨_, h2.1.symm⟩
    · cases h2
  | .cons a (.cons b es), env, env', d, h => by
    simp only [evAnd] at h
    obtain ⟨y, e1, h1, h2⟩ := bd_inv h
    split at h2
    · exact evAnd_bl h2
    · simp only [Option.some.injEq, Rs.ok.injEq] at h2; exact ⟨_, h2.1.symm⟩
    · cases h2
theorem evOr_bl : ∀ {es : DEs} {env env' : En} {d : D}, evOr Φ es env = some (.ok d env') → ∃ c, d = .bl c
  | .nil, _, _, _, h => by simp [evOr] at h
  | .cons a .nil, env, env', d, h => by
    simp only [evOr] at h
    obtain ⟨y, e1, h1, h2⟩ := bd_inv h
    split at h2
    · simp only [Option.some.injEq, Rs.ok.injEq] at h2; exact ⟨_, h2.1.symm⟩
    · cases h2
  | .cons a (.cons b es), env, env', d, h => by
    simp only [evOr] at h
    obtain ⟨y, e1, h1, h2⟩ := bd_inv h
    split at h2
    · exact evOr_bl h2
    · simp only [Option.some.injEq, Rs.ok.injEq] at h2; exact ⟨_, h2.1.symm⟩
    · cases h2
/-- each of a list: as a value, as a test -/
inductive Each (R : DE → Expr → Prop) : DEs → List Expr → Prop
  | nil : Each R .nil []
  | cons {a : DE} {es : DEs} {x : Expr} {xs : List Expr} : R a x → Each R es xs → Each R (.cons a es) (x :: xs)
theorem sv_and {own vw : List Nat} {p : Pos} : ∀ {es : DEs} {xs : List Expr}, Each (SE C Φ X own vw) es xs → SB C Φ X own vw (ioL es) (evAnd Φ es) (fun σ H Q => WE X (.BoolOp .And xs p) σ H fun v H' => ∃ b, v = .bl b ∧ Q b H')
  | .nil, _, .nil => fun Z P σ H env As b env' S e Q q => by simp [evAnd] at e
  | .cons a .nil, _, .cons h .nil => fun Z P σ H env As b env' S e Q q => by
    simp only [evAnd] at e
    obtain ⟨y, e1, h1, h2⟩ := bd_inv e
    split at h2
    · simp only [Option.some.injEq, Rs.ok.injEq, D.bl.injEq] at h2
      obtain ⟨rfl, rfl⟩ := h2
      refine (pe_one Cy.we).we ?_
      refine h Z P σ H env As _ _ S h1 _ fun v1 H1 A1 As1 S1 T1 r1 E1 => ?_
      cases r1
      exact ⟨_, rfl, q H1 As1 S1 (T1.weak (orl (b := ioL .nil)))⟩
    · cases h2
  | .cons a (.cons b es), _, .cons (xs := x2 :: xs) h t => fun Z P σ H env As bb env' S e Q q => by
    simp only [evAnd] at e
    obtain ⟨y, e1, h1, h2⟩ := bd_inv e
    refine (pe_and (b := x2) (rest := xs) Cy.we Cy.we).we ?_
    refine h Z P σ H env As _ _ S h1 _ fun v1 H1 A1 As1 S1 T1 r1 E1 => ?_
    split at h2
    · cases r1
      refine ⟨true, rfl, ?_⟩
      rw [if_pos rfl]
      exact sv_and t Z P σ H1 e1 As1 _ _ S1 h2 _ fun H2 As2 S2 T2 => q H2 As2 S2 (T1.trans T2 (orl (b := ioL (.cons b es))) (orr (a := ioE a)))
    · cases r1
      simp only [Option.some.injEq, Rs.ok.injEq, D.bl.injEq] at h2
      obtain ⟨rfl, rfl⟩ := h2
      refine ⟨false, rfl, ?_⟩
      rw [if_neg Bool.false_ne_true]
      exact ⟨_, rfl, q H1 As1 S1 (T1.weak (orl (b := ioL (.cons b es))))⟩
    · cases h2
theorem sv_or {own vw : List Nat} {p : Pos} : ∀ {es : DEs} {xs : List Expr}, Each (SE C Φ X own vw) es xs → SB C Φ X own vw (ioL es) (evOr Φ es) (fun σ H Q => WE X (.BoolOp .Or xs p) σ H fun v H' => ∃ b, v = .bl b ∧ Q b H')
  | .nil, _, .nil => fun Z P σ H env As b env' S e Q q => by simp [evOr] at e
  | .cons a .nil, _, .cons h .nil => fun Z P σ H env As b env' S e Q q => by
    simp only [evOr] at e
    obtain ⟨y, e1, h1, h2⟩ := bd_inv e
    split at h2
    · simp only [Option.some.injEq, Rs.ok.injEq, D.bl.injEq] at h2
      obtain ⟨rfl, rfl⟩ := h2
      refine (pe_one Cy.we).we ?_
      refine h Z P σ H env As _ _ S h1 _ fun v1 H1 A1 As1 S1 T1 r1 E1 => ?_
      cases r1
      exact ⟨_, rfl, q H1 As1 S1 (T1.weak (orl (b := ioL .nil)))⟩
    · cases h2
  | .cons a (.cons b es), _, .cons (xs := x2 :: xs) h t => fun Z P σ H env As bb env' S e Q q => by
    simp only [evOr] at e
    obtain ⟨y, e1, h1, h2⟩ := bd_inv e
    refine (pe_or (b := x2) (rest := xs) Cy.we Cy.we).we ?_
    refine h Z P σ H env As _ _ S h1 _ fun v1 H1 A1 As1 S1 T1 r1 E1 => ?_
    split at h2
    · cases r1
      refine ⟨false, rfl, ?_⟩
      rw [if_neg Bool.false_ne_true]
      exact sv_or t Z P σ H1 e1 As1 _ _ S1 h2 _ fun H2 As2 S2 T2 => q H2 As2 S2 (T1.trans T2 (orl (b := ioL (.cons b es))) (orr (a := ioE a)))
    · cases r1
      simp only [Option.some.injEq, Rs.ok.injEq, D.bl.injEq] at h2
      obtain ⟨rfl, rfl⟩ := h2
      refine ⟨true, rfl, ?_⟩
      rw [if_pos rfl]
      exact ⟨_, rfl, q H1 As1 S1 (T1.weak (orl (b := ioL (.cons b es))))⟩
    · cases h2
theorem st_and {own vw : List Nat} {p : Pos} : ∀ {es : DEs} {xs : List Expr}, Each (fun a x => SB C Φ X own vw (ioE a) (ev Φ a) (WT X x)) es xs → SB C Φ X own vw (ioL es) (evAnd Φ es) (WW X (.BoolOp .And xs p))
  | .nil, _, .nil => fun Z P σ H env As b env' S e Q q => by simp [evAnd] at e
  | .cons a .nil, _, .cons h .nil => fun Z P σ H env As b env' S e Q q => by
    simp only [evAnd] at e
    obtain ⟨y, e1, h1, h2⟩ := bd_inv e
    split at h2
    · simp only [Option.some.injEq, Rs.ok.injEq, D.bl.injEq] at h2
      obtain ⟨rfl, rfl⟩ := h2
      refine (pw_and1 Cy.wt).we ?_
      exact h Z P σ H env As _ _ S h1 _ fun H1 As1 S1 T1 => q H1 As1 S1 (T1.weak (orl (b := ioL .nil)))
    · cases h2
  | .cons a (.cons b es), _, .cons (xs := x2 :: xs) h t => fun Z P σ H env As bb env' S e Q q => by
    simp only [evAnd] at e
    obtain ⟨y, e1, h1, h2⟩ := bd_inv e
    refine (pw_and (b := x2) (rest := xs) Cy.wt Cy.ww).we ?_
    split at h2
    · refine h Z P σ H env As _ _ S h1 _ fun H1 As1 S1 T1 => ?_
      rw [if_pos rfl]
      exact st_and t Z P σ H1 e1 As1 _ _ S1 h2 _ fun H2 As2 S2 T2 => q H2 As2 S2 (T1.trans T2 (orl (b := ioL (.cons b es))) (orr (a := ioE a)))
    · simp only [Option.some.injEq, Rs.ok.injEq, D.bl.injEq] at h2
      obtain ⟨rfl, rfl⟩ := h2
      refine h Z P σ H env As _ _ S h1 _ fun H1 As1 S1 T1 => ?_
      rw [if_neg Bool.false_ne_true]
      exact q H1 As1 S1 (T1.weak (orl (b := ioL (.cons b es))))
    · cases h2
theorem st_or {own vw : List Nat} {p : Pos} : ∀ {es : DEs} {xs : List Expr}, Each (fun a x => SB C Φ X own vw (ioE a) (ev Φ a) (WT X x)) es xs → SB C Φ X own vw (ioL es) (evOr Φ es) (WW X (.BoolOp .Or xs p))
  | .nil, _, .nil => fun Z P σ H env As b env' S e Q q => by simp [evOr] at e
  | .cons a .nil, _, .cons h .nil => fun Z P σ H env As b env' S e Q q => by
    simp only [evOr] at e
    obtain ⟨y, e1, h1, h2⟩ := bd_inv e
    split at h2
    · simp only [Option.some.injEq, Rs.ok.injEq, D.bl.injEq] at h2
      obtain ⟨rfl, rfl⟩ := h2
      refine (pw_or1 Cy.wt).we ?_
      exact h Z P σ H env As _ _ S h1 _ fun H1 As1 S1 T1 => q H1 As1 S1 (T1.weak (orl (b := ioL .nil)))
    · cases h2
  | .cons a (.cons b es), _, .cons (xs := x2 :: xs) h t => fun Z P σ H env As bb env' S e Q q => by
    simp only [evOr] at e
    obtain ⟨y, e1, h1, h2⟩ := bd_inv e
    refine (pw_or (b := x2) (rest := xs) Cy.wt Cy.ww).we ?_
    split at h2
    · refine h Z P σ H env As _ _ S h1 _ fun H1 As1 S1 T1 => ?_
      rw [if_neg Bool.false_ne_true]
      exact st_or t Z P σ H1 e1 As1 _ _ S1 h2 _ fun H2 As2 S2 T2 => q H2 As2 S2 (T1.trans T2 (orl (b := ioL (.cons b es))) (orr (a := ioE a)))
    · simp only [Option.some.injEq, Rs.ok.injEq, D.bl.injEq] at h2
      obtain ⟨rfl, rfl⟩ := h2
      refine h Z P σ H env As _ _ S h1 _ fun H1 As1 S1 T1 => ?_
      rw [if_pos rfl]
      exact q H1 As1 S1 (T1.weak (orl (b := ioL (.cons b es))))
    · cases h2

/-! ### lists of expressions, displays, subscripts, slices -/
theorem sl_nil {own vw : List Nat} : SL C Φ X own vw .nil [] := by
  intro Z P σ H env As ds env' S e Q q
  simp only [evL, Option.some.injEq, Rs.ok.injEq] at e
  obtain ⟨rfl, rfl⟩ := e
  exact pa_nil.we (q [] H [] As S TR.refl .nil EF.pure)
theorem sl_cons {own vw : List Nat} {a : DE} {es : DEs} {x : Expr} {xs : List Expr} (hp : plainX x = true) (ha : SE C Φ X own vw a x) (hs : SL C Φ X own vw es xs) : SL C Φ X own vw (.cons a es) (x :: xs) := by
  intro Z P σ H env As ds env' S e Q q
  simp only [evL] at e
  obtain ⟨y, e1, h1, h2⟩ := bd_inv e
  obtain ⟨g, h2⟩ := gd_inv h2
  obtain ⟨ys, e2, h3, h4⟩ := bd_inv h2
  simp only [Option.some.injEq, Rs.ok.injEq] at h4
  obtain ⟨rfl, rfl⟩ := h4
  refine (pa_cons Cy.we Cy.wa (plain_star hp)).we ?_
  refine ha Z P σ H env As _ _ S h1 _ fun v1 H1 A1 As1 S1 T1 r1 E1 => ?_
  refine hs Z P σ H1 e1 As1 _ _ S1 h3 _ fun vs H2 A2 As2 S2 T2 r2 E2 => ?_
  exact q _ H2 _ As2 S2 (T1.trans T2 (orl (b := ioL es)) (orr (a := ioE a))) (.cons (r1.step S1 T2 (guard_pure g)) r2) (EF.app (fun a h => r1.mut a h) T1 T2 E1.orr E2)
theorem se_tup {own vw : List Nat} {es : DEs} {xs : List Expr} {j : Nat} {p : Pos} (hs : SL C Φ X own vw es xs) : SE C Φ X own vw (.tup es) (.Tuple xs j p) := by
  intro Z P σ H env As d env' S e Q q
  simp only [ev] at e
  obtain ⟨ys, e1, h1, h2⟩ := bd_inv e
  split at h2
  · rename_i hz
    simp only [Option.some.injEq, Rs.ok.injEq] at h2
    obtain ⟨rfl, rfl⟩ := h2
    refine (pe_tup Cy.wa).we ?_
    refine hs Z P σ H env As _ _ S h1 _ fun vs H1 A As1 S1 T1 r E => ⟨by rw [r.length]; exact line_LMX hz, fun n hn => ?_⟩
    have sm : Same H1 (upd H1 n (.tup vs)) := same_new hn
    exact q _ _ A As1 (S1.grow sm) (T1.trans (TR.grow (io := ioL es) sm) id id) (.tup (SqT.of upd_same) (r.mono sm)) E
  · cases h2
theorem se_lst {own vw : List Nat} {es : DEs} {xs : List Expr} {p : Pos} (hs : SL C Φ X own vw es xs) : SE C Φ X own vw (.lst es) (.List xs p) := by
  intro Z P σ H env As d env' S e Q q
  simp only [ev] at e
  obtain ⟨ys, e1, h1, h2⟩ := bd_inv e
  split at h2
  · rename_i hz
    simp only [Option.some.injEq, Rs.ok.injEq] at h2
    obtain ⟨rfl, rfl⟩ := h2
    refine (pe_lst Cy.wa).we ?_
    refine hs Z P σ H env As _ _ S h1 _ fun vs H1 A As1 S1 T1 r E => ⟨by rw [r.length]; exact line_LMX hz, fun n hn => ?_⟩
    have sm : Same H1 (upd H1 n (.lst vs)) := same_new hn
    refine q _ _ (n :: A) As1 (S1.grow sm) (T1.trans (TR.grow (io := ioL es) sm) id id) (.lst upd_same (r.mono sm)) (EF.cons S1 ?_ (fun a h => r.mut a h) hn E)
    revert T1
    cases ioL es <;> intro T1
    · exact .inl T1
    · exact .inr T1
  · cases h2
theorem se_ix {own vw : List Nat} {a b : DE} {l r : Expr} {p : Pos} (hp : plainX r = true) (ha : SE C Φ X own vw a l) (hb : SE C Φ X own vw b r) : SE C Φ X own vw (.ix a b) (.Subscript l r p) := by
  intro Z P σ H env As d env' S e Q q
  simp only [ev] at e
  obtain ⟨x, e1, h1, h2⟩ := bd_inv e
  obtain ⟨g, h2⟩ := gd_inv h2
  obtain ⟨y, e2, h3, h4⟩ := bd_inv h2
  obtain ⟨h5, rfl⟩ := lf_inv h4
  refine (pe_ix ix_D Cy.we Cy.we (plain_ix hp)).we ?_
  refine ha Z P σ H env As _ _ S h1 _ fun v1 H1 A1 As1 S1 T1 r1 E1 => ?_
  refine hb Z P σ H1 e1 As1 _ _ S1 h3 _ fun v2 H2 A2 As2 S2 T2 r2 E2 => ?_
  exact ⟨x, y, A1, A2, d, r1.step S1 T2 (guard_pure g), r2, h5, fun v A' sb rd => q v H2 A' As2 S2 (T1.trans T2 (orl (b := ioE b)) (orr (a := ioE a))) rd ((E1.step (fun a h => r1.mut a h) T2).sub sb)⟩
theorem sp_no {own vw : List Nat} : SP C Φ X own vw .no none := by
  intro Z P σ H env As d env' S e Q q
  simp only [evP, Option.some.injEq, Rs.ok.injEq] at e
  obtain ⟨rfl, rfl⟩ := e
  exact po_none.we (q H As S TR.refl)
theorem sp_so {own vw : List Nat} {a : DE} {x : Expr} (ha : SE C Φ X own vw a x) : SP C Φ X own vw (.so a) (some x) := by
  intro Z P σ H env As d env' S e Q q
  simp only [evP] at e
  obtain ⟨y, e1, h1, h2⟩ := bd_inv e
  split at h2
  · simp only [Option.some.injEq, Rs.ok.injEq] at h2
    obtain ⟨rfl, rfl⟩ := h2
    refine (po_some Cy.we).we ?_
    refine ha Z P σ H env As _ _ S h1 _ fun v1 H1 A1 As1 S1 T1 r1 E1 => ?_
    cases r1
    exact ⟨_, rfl, q H1 As1 S1 T1⟩
  · cases h2
theorem se_sl {own vw : List Nat} {a : DE} {lo hi : DO} {l : Expr} {x y : Option Expr} {p p2 : Pos} (ha : SE C Φ X own vw a l) (h1 : SP C Φ X own vw lo x) (h2 : SP C Φ X own vw hi y) : SE C Φ X own vw (.sl a lo hi) (.Subscript l (.Slice x y none p2) p) := by
  intro Z P σ H env As d env' S e Q q
  simp only [ev] at e
  obtain ⟨z, e1, k1, k2⟩ := bd_inv e
  obtain ⟨g, k2⟩ := gd_inv k2
  obtain ⟨i, e2, k3, k4⟩ := bd_inv k2
  obtain ⟨j, e3, k5, k6⟩ := bd_inv k4
  obtain ⟨k7, rfl⟩ := lf_inv k6
  refine (pe_slice sl_D Cy.we Cy.wo Cy.wo).we ?_
  refine ha Z P σ H env As _ _ S k1 _ fun v1 H1 A1 As1 S1 T1 r1 E1 => ?_
  refine h1 Z P σ H1 e1 As1 _ _ S1 k3 _ fun H2 As2 S2 T2 => ?_
  refine h2 Z P σ H2 e2 As2 _ _ S2 k5 _ fun H3 As3 S3 T3 => ?_
  have T23 := T2.trans T3 (io := ioP lo || ioP hi) (orl (b := ioP hi)) (orr (a := ioP lo))
  have r1' := r1.step S1 T23 (guard_pure g)
  refine ⟨z, A1, d, r1', k7, fun v H' A' vo rd => ?_⟩
  have T : TR own (ioE a || ioP lo || ioP hi) H As H3 As3 := T1.trans T23 (fun z => by rw [z]; rfl) (fun z => by rw [Bool.or_assoc, z]; exact Bool.or_true _)
  obtain ⟨S4, T4, E4⟩ := fin S3 T (fun a h => r1'.mut a h) (E1.step (fun a h => r1.mut a h) T23) vo
  exact q v H' A' As3 S4 T4 rd (E4.weak (fun h => by
    have h : frE C.sigs a = true := h
    rw [h]; rfl) (fun h => by
    have h : shE C.sigs (own ++ vw) a = true := h
    rw [h]; rfl))
theorem se_slp {own vw : List Nat} {a : DE} {lo hi : DO} {l : Expr} {x y : Option Expr} {p p2 : Pos} (ha : SE C Φ X own vw a l) (h1 : SP C Φ X own vw lo x) (h2 : SP C Φ X own vw hi y) : SE C Φ X own vw (.slp a lo hi) (.Subscript l (.Slice x y none p2) p) := by
  intro Z P σ H env As d env' S e Q q
  simp only [ev] at e
  obtain ⟨z, e1, k1, k2⟩ := bd_inv e
  obtain ⟨g, k2⟩ := gd_inv k2
  obtain ⟨i, e2, k3, k4⟩ := bd_inv k2
  obtain ⟨j, e3, k5, k6⟩ := bd_inv k4
  obtain ⟨k7, rfl⟩ := lf_inv k6
  refine (pe_slice sl_Dp Cy.we Cy.wo Cy.wo).we ?_
  refine ha Z P σ H env As _ _ S k1 _ fun v1 H1 A1 As1 S1 T1 r1 E1 => ?_
  refine h1 Z P σ H1 e1 As1 _ _ S1 k3 _ fun H2 As2 S2 T2 => ?_
  refine h2 Z P σ H2 e2 As2 _ _ S2 k5 _ fun H3 As3 S3 T3 => ?_
  have T23 := T2.trans T3 (io := ioP lo || ioP hi) (orl (b := ioP hi)) (orr (a := ioP lo))
  have r1' := r1.step S1 T23 (guard_pure g)
  refine ⟨z, A1, d, r1', k7, fun v H' A' vo rd => ?_⟩
  have T : TR own (ioE a || ioP lo || ioP hi) H As H3 As3 := T1.trans T23 (fun z => by rw [z]; rfl) (fun z => by rw [Bool.or_assoc, z]; exact Bool.or_true _)
  obtain ⟨S4, T4, E4⟩ := fin S3 T (fun a h => r1'.mut a h) (E1.step (fun a h => r1.mut a h) T23) vo
  exact q v H' A' As3 S4 T4 rd (E4.weak (fun _ => Bool.or_true _) (fun _ => Bool.or_true _))
theorem se_sl3 {own vw : List Nat} {a st : DE} {lo hi : DO} {l z : Expr} {x y : Option Expr} {p p2 : Pos} (ha : SE C Φ X own vw a l) (h1 : SP C Φ X own vw lo x) (h2 : SP C Φ X own vw hi y) (h3 : SE C Φ X own vw st z) : SE C Φ X own vw (.sl3 a lo hi st) (.Subscript l (.Slice x y (some z) p2) p) := by
  intro Z P σ H env As d env' S e Q q
  simp only [ev] at e
  obtain ⟨z, e1, k1, k2⟩ := bd_inv e
  obtain ⟨g, k2⟩ := gd_inv k2
  obtain ⟨i, e2, k3, k4⟩ := bd_inv k2
  obtain ⟨j, e3, k5, k6⟩ := bd_inv k4
  obtain ⟨w, e4, k7, k8⟩ := bd_inv k6
  split at k8
  rotate_left
  · cases k8
  obtain ⟨k9, rfl⟩ := lf_inv k8
  refine (pe_slice3 sl3_D Cy.we Cy.wo Cy.wo Cy.we).we ?_
  refine ha Z P σ H env As _ _ S k1 _ fun v1 H1 A1 As1 S1 T1 r1 E1 => ?_
  refine h1 Z P σ H1 e1 As1 _ _ S1 k3 _ fun H2 As2 S2 T2 => ?_
  refine h2 Z P σ H2 e2 As2 _ _ S2 k5 _ fun H3 As3 S3 T3 => ?_
  refine h3 Z P σ H3 e3 As3 _ _ S3 k7 _ fun v4 H4 A4 As4 S4 T4 r4 E4 => ?_
  cases r4
  have T34 := T3.trans T4 (io := ioP hi || ioE st) (orl (b := ioE st)) (orr (a := ioP hi))
  have T24 := T2.trans T34 (io := ioP lo || (ioP hi || ioE st)) (orl (b := ioP hi || ioE st)) (orr (a := ioP lo))
  have r1' := r1.step S1 T24 (guard_pure g)
  refine ⟨_, rfl, z, A1, d, r1', k9, fun v H' A' vo rd => ?_⟩
  have T : TR own (ioE (.sl3 a lo hi st)) H As H4 As4 := T1.trans T24 (orl (b := ioP lo || (ioP hi || ioE st))) (orr (a := ioE a))
  obtain ⟨S5, T5, E5⟩ := fin S4 T (fun a h => r1'.mut a h) (E1.step (fun a h => r1.mut a h) T24) vo
  exact q v H' A' As4 S5 T5 rd (E5.weak (fun _ => Bool.or_true _) (fun _ => Bool.or_true _))
end
end Cy
end
section
set_option Elab.async false
set_option linter.all false
set_option maxRecDepth 100000
set_option maxHeartbeats 2000000
/-! Soundness, 5: calls. -/
namespace Cy
open PySem L2 PyProof.Rows
section
variable {C : Ct} {Φ : Nat → Fn} {k : Nat} {X : Cx}

theorem se_call {own vw : List Nat} {f : Nat} {es : DEs} {y : Str} {fr : Bool} {x : Expr} {xs : List Expr} {p pos : Pos} (F : Fx C Φ k X) (hy : C.calls[f]? = some y) (hs : C.sigs[f]? = some (false, fr)) (hg : X.env.scope.names.lookup y = some .globalImplicit) (ho : okN y = true)
    (hp : (x :: xs).all plainX = true) (hl : SL C Φ X own vw es (x :: xs)) : SE C Φ X own vw (.call f es) (.Call (.Name y p) (x :: xs) [] pos) := by
  intro Z P σ H env As d env' S e Q q
  simp only [ev] at e
  obtain ⟨ds, e1, h1, h2⟩ := bd_inv e
  split at h2
  · rename_i d0 hF
    simp only [Option.some.injEq, Rs.ok.injEq] at h2
    obtain ⟨rfl, rfl⟩ := h2
    obtain ⟨fa, fd, ps, K⟩ := F.calls f y _ hy hs
    simp only [List.all_cons, Bool.and_eq_true] at hp
    refine (pe_call K.ok F.room hg K.mg K.kp K.bi .nil pass0 Cy.wa (okN_eq ho).1 (plain_star hp.1) (plain_any hp.2)).we ?_
    refine hl Z P σ H env As _ _ S h1 _ fun vs H1 A As1 S1 T1 r E => ?_
    show spD X.K (false, fr) (Φ f) (vs ++ []) H1 Q E0
    rw [List.append_nil]
    unfold spD
    rw [if_neg (by simp)]
    refine ⟨ds, A, _, r, hF, fun v H' A' sm rd hfr hal => ?_⟩
    have mA : ∀ a ∈ A, MutH H1 a := fun a h => r.mut a h
    have T2 : TR own (ioL es) H As H' As1 := T1.trans (TR.grow (io := ioL es) sm) id id
    have nw : ∀ a, H1 a = none → New own H As As1 a := fun a h => ⟨.inl (by
      cases q : H a with
      | none => rfl
      | some o => exact absurd h (T1.mono a (by rw [q]; simp))), fun c => S1.own_some c h⟩
    have hfr' : frE C.sigs (.call f es) = fr := by simp only [frE, hs]
    have hsh' : shE C.sigs (own ++ vw) (.call f es) = (fr || shL C.sigs (own ++ vw) es) := by simp only [shE, hs]
    refine q v H' A' As1 (S1.grow sm) T2 rd ⟨fun h => ?_, fun h a ha => ?_, fun a ha => ?_⟩
    · rw [hfr'] at h
      exact ⟨(hfr h).1, fun a ha => nw a ((hfr h).2 a ha)⟩
    · rw [hsh'] at h
      rcases hal a ha with z | z
      · exact .inl (nw a z)
      · rcases Bool.or_eq_true_iff.mp h with h | h
        · exact .inl (nw a ((hfr h).2 a ha))
        · exact E.2.1 h a z
    · rcases hal a ha with z | z
      · exact .inl (T1.back z)
      · exact E.2.2 a z
  · cases h2
  · cases h2

/-- views killed -/
theorem kil_get : ∀ {ks : List Nat} {e : En} {i : Nat} {d : D}, (kil ks e)[i]? = some (some d) → e[i]? = some (some d) ∧ (i ∈ ks → pureD d = true)
  | [], e, i, d, h => ⟨h, fun z => nomatch z⟩
  | k :: ks, e, i, d, h => by
    unfold kil at h
    split at h
    · rename_i d0 hk
      split at h
      · rename_i hp
        obtain ⟨a, b⟩ := kil_get h
        refine ⟨a, fun z => ?_⟩
        rcases List.mem_cons.mp z with z | z
        · subst z
          rw [hk] at a
          simp only [Option.some.injEq] at a
          subst a; exact hp
        · exact b z
      · obtain ⟨a, b⟩ := kil_get h
        by_cases hki : k = i
        · subst hki
          rw [List.getElem?_set] at a
          simp at a
        · rw [List.getElem?_set_ne hki] at a
          refine ⟨a, fun z => ?_⟩
          rcases List.mem_cons.mp z with z | z
          · exact absurd z.symm hki
          · exact b z
    · rename_i hk
      obtain ⟨a, b⟩ := kil_get h
      refine ⟨a, fun z => ?_⟩
      rcases List.mem_cons.mp z with z | z
      · subst z
        exact absurd a (hk d)
      · exact b z
theorem kil_len : ∀ {ks : List Nat} {e : En}, (kil ks e).length = e.length
  | [], e => rfl
  | k :: ks, e => by
    unfold kil
    split
    · split
      · exact kil_len
      · rw [kil_len, List.length_set]
    · exact kil_len
/-- the addresses behind a change of slot i -/
def AsC (As : Asg) (i : Nat) (A0 : List Addr) (e : En) : Asg := fun j => match e[j]? with
  | some (some _) => if j = i then A0 else As j
  | _ => []
theorem AsC_sub {As : Asg} {i : Nat} {A0 : List Addr} {e : En} {j : Nat} {a : Addr} (h : a ∈ AsC As i A0 e j) : (∃ d, e[j]? = some (some d)) ∧ (if j = i then a ∈ A0 else a ∈ As j) := by
  unfold AsC at h
  split at h
  · rename_i d hd
    refine ⟨⟨d, hd⟩, ?_⟩
    split
    · rename_i z; rwa [if_pos z] at h
    · rename_i z; rwa [if_neg z] at h
  · cases h
/-- an owned slot's data changed in place -/
theorem SR.change {K : PySem.W.Frag} {n : Nat} {own vw : List Nat} {Z P : Addr → Prop} {σ : L2.St} {H H' : Hp} {env : En} {As : Asg} {i : Nat} {d1 : D} {v0 : V} {A0 : List Addr} {kl : List Nat}
    (S : SR K n own vw Z P σ H env As) (hi : i ∈ own) (hn : i < n) (hv : σ[i]? = some (some v0)) (mono : ∀ a, H a ≠ none → H' a ≠ none) (keep : ∀ a o, H a = some o → a ∉ As i → H' a = some o)
    (r : Rep K H' v0 d1 A0) (nd : A0.Nodup) (hA : ∀ a ∈ A0, a ∈ As i ∨ (H a = none)) (hk : ∀ j ∈ vw, j ∈ kl) :
    SR K n own vw Z P σ H' (kil kl (env.set i (some d1))) (AsC As i A0 (kil kl (env.set i (some d1)))) ∧ TR own true H As H' (AsC As i A0 (kil kl (env.set i (some d1)))) := by
  have nP : ∀ a ∈ A0, ¬ P a := fun a ha hp => by
    rcases hA a ha with z | z
    · exact S.noP i hi a z hp
    · exact S.ph a hp z
  have nO : ∀ j ∈ own, j ≠ i → ∀ a ∈ A0, a ∉ As j := fun j hj hne a ha hb => by
    rcases hA a ha with z | z
    · exact S.dis i hi j hj (fun e => hne e.symm) a z hb
    · exact S.own_some ⟨j, hj, hb⟩ z
  refine ⟨⟨S.len, by rw [kil_len, List.length_set]; exact S.lenE, fun j d h => ?_, fun j h => ?_, fun j h1 h2 a ha => ?_, fun j hj => ?_, fun j hj a ha => ?_, fun j hj l hl hne a ha hb => ?_, S.zp, fun a h => mono a (S.ph a h)⟩, ?_⟩
  · have he : AsC As i A0 (kil kl (env.set i (some d1))) j = if j = i then A0 else As j := by
      unfold AsC; rw [h]
    obtain ⟨h1, h2⟩ := kil_get h
    rw [he]
    by_cases e : j = i
    · subst e
      rw [List.getElem?_set_self (by rw [S.lenE]; exact hn)] at h1
      simp only [Option.some.injEq] at h1
      subst h1
      rw [if_pos rfl]
      exact ⟨v0, hv, r⟩
    · rw [List.getElem?_set_ne (fun z => e z.symm)] at h1
      rw [if_neg e]
      obtain ⟨v, g1, g2⟩ := S.rep j d h1
      refine ⟨v, g1, g2.keep (fun a o ha hn2 => keep a o ha fun c => ?_) fun a ha o hao => keep a o hao fun c => ?_⟩
      · obtain ⟨xs, q⟩ := S.own_mut ⟨i, hi, c⟩
        rw [ha] at q
        exact hn2 xs (Option.some.inj q)
      · by_cases hj : j ∈ own
        · exact S.dis j hj i hi e a ha c
        · by_cases hw : j ∈ vw
          · rw [g2.pure (h2 (hk j hw))] at ha; cases ha
          · exact S.noP i hi a c (S.zp a (S.shr j hj hw a ha))
  · unfold AsC
    split
    · rename_i d hd; exact absurd hd (h d)
    · rfl
  · have q := (AsC_sub ha).2
    by_cases e : j = i
    · subst e; exact absurd hi h1
    · rw [if_neg e] at q; exact S.shr j h1 h2 a q
  · unfold AsC
    split
    · split
      · exact nd
      · exact S.nod j hj
    · exact List.nodup_nil
  · have q := (AsC_sub ha).2
    by_cases e : j = i
    · rw [if_pos e] at q; exact nP a q
    · rw [if_neg e] at q; exact S.noP j hj a q
  · have q1 := (AsC_sub ha).2
    have q2 := (AsC_sub hb).2
    by_cases e : j = i
    · rw [if_pos e] at q1
      by_cases e2 : l = i
      · exact hne (e.trans e2.symm)
      · rw [if_neg e2] at q2; exact nO l hl e2 a q1 q2
    · rw [if_neg e] at q1
      by_cases e2 : l = i
      · rw [if_pos e2] at q2; exact nO j hj e a q2 q1
      · rw [if_neg e2] at q2; exact S.dis j hj l hl hne a q1 q2
  · refine ⟨mono, fun a o h hn2 => keep a o h fun c => hn2 rfl ⟨i, hi, c⟩, fun a ⟨j, hj, ha⟩ => ?_, fun j a ha => ?_⟩
    rotate_left
    · have q := (AsC_sub ha).2
      by_cases e : j = i
      · rw [if_pos e] at q
        rcases hA a q with z | z
        · exact .inl ⟨i, z⟩
        · exact .inr z
      · rw [if_neg e] at q; exact .inl ⟨j, q⟩
    have q := (AsC_sub ha).2
    by_cases e : j = i
    · rw [if_pos e] at q
      rcases hA a q with z | z
      · exact .inl ⟨i, hi, z⟩
      · exact .inr z
    · rw [if_neg e] at q; exact .inl ⟨j, hj, q⟩

theorem se_cio {own vw : List Nat} {f i : Nat} {es : DEs} {kl : List Nat} {y x0 : Str} {xs : List Expr} {p p0 pos : Pos} (F : Fx C Φ k X) (hy : C.calls[f]? = some y) (hs : C.sigs[f]? = some (true, true)) (hg : X.env.scope.names.lookup y = some .globalImplicit) (ho : okN y = true)
    (hn : C.N[i]? = some x0) (hv : Vis X.env.scope x0) (ho0 : okN x0 = true) (hi : i ∈ own) (hk : ∀ j ∈ vw, j ∈ kl) (hio : ioL es = false) (hsh : shL C.sigs (own ++ vw) es = true) (hp : xs.all plainX = true) (hl : SL C Φ X own vw es xs) :
    SE C Φ X own vw (.cio f i es kl) (.Call (.Name y p) (.Name x0 p0 :: xs) [] pos) := by
  intro Z P σ H env As d env' S e Q q
  simp only [ev] at e
  split at e
  · rename_i d00 hd00
    obtain ⟨ds, e1, h1, h2⟩ := bd_inv e
    split at h2
    · rename_i d0 hd0
      split at h2
      · rename_i d d1 hF
        simp only [Option.some.injEq, Rs.ok.injEq] at h2
        obtain ⟨rfl, rfl⟩ := h2
        obtain ⟨fa, fd, ps, K⟩ := F.calls f y _ hy hs
        have hlt : i < C.N.length := by
          have := (List.getElem?_eq_some_iff.mp hn).1
          exact this
        obtain ⟨v0, hv0, _⟩ := S.rep i _ hd00
        refine (pe_call K.ok F.room hg K.mg K.kp K.bi .nil pass0 (pa_cons (pe_var (i := i) (by rw [F.nN]; exact hn) hv (okN_eq ho0).1 (okN_eq ho0).2) Cy.wa (plain_star rfl)) (okN_eq ho).1 (plain_star rfl) (plain_any hp)).we ?_
        refine ⟨v0, hv0, hl Z P σ H env As _ _ S h1 _ fun vs H1 A As1 S1 T1 r E => ?_⟩
        show spD X.K (true, true) (Φ f) ((v0 :: vs) ++ []) H1 Q E0
        rw [List.append_nil]
        unfold spD
        rw [if_pos rfl]
        obtain ⟨v0', hv0', r0⟩ := S1.rep i _ hd0
        rw [hv0] at hv0'
        simp only [Option.some.injEq] at hv0'
        subst hv0'
        refine ⟨v0, vs, d0, ds, As1 i, A, _, d1, rfl, r0, r, S1.nod i hi, fun a ha hb => ?_, hF, fun v H' A' A0' mono keep r1 nd1 hA1 rd nd hA => ?_⟩
        · rcases E.2.1 hsh a hb with z | z
          · exact z.2 ⟨i, hi, ha⟩
          · exact S1.noP i hi a ha (S1.zp a z)
        · obtain ⟨S2, T2⟩ := S1.change hi hlt hv0 mono keep r1 nd1 hA1 hk
          have nw : ∀ a ∈ A', New own H1 As1 (AsC As1 i A0' (kil kl (e1.set i (some d1)))) a := fun a ha => by
            obtain ⟨z1, z2⟩ := hA a ha
            refine ⟨z1.imp id fun z => ⟨i, hi, z⟩, fun ⟨j, hj, hb⟩ => ?_⟩
            have g := (AsC_sub hb).2
            by_cases ej : j = i
            · rw [if_pos ej] at g; exact z2 g
            · rw [if_neg ej] at g
              rcases z1 with z | z
              · exact S1.own_some ⟨j, hj, g⟩ z
              · exact S1.dis j hj i hi ej a g z
          have E2 : EF own Z true true H1 As1 (AsC As1 i A0' (kil kl (e1.set i (some d1)))) A' := ⟨fun _ => ⟨nd, nw⟩, fun _ a ha => .inl (nw a ha), fun a ha => (hA a ha).1.imp id fun z => ⟨i, z⟩⟩
          exact q v H' A' _ S2 (T1.trans T2 (fun _ => rfl) (fun _ => rfl)) rd ((E2.back T1).weak (fun _ => rfl) (fun _ => rfl))
      · cases h2
      · cases h2
    · cases h2
  · cases e
/-- what no name holds changed in place -/
theorem SR.aside {K : PySem.W.Frag} {n : Nat} {own : List Nat} {Z P : Addr → Prop} {σ : L2.St} {H H' : Hp} {env : En} {As : Asg} {A0 : List Addr}
    (S : SR K n own [] Z P σ H env As) (mono : ∀ a, H a ≠ none → H' a ≠ none) (keep : ∀ a o, H a = some o → a ∉ A0 → H' a = some o) (m : ∀ a ∈ A0, MutH H a) (h1 : ∀ a ∈ A0, ¬ OwA own As a) (h2 : ∀ a ∈ A0, ¬ Z a) :
    SR K n own [] Z P σ H' env As :=
  ⟨S.len, S.lenE, fun j d h => by
    obtain ⟨v, g1, g2⟩ := S.rep j d h
    refine ⟨v, g1, g2.keep (fun a o ha hn2 => keep a o ha fun c => ?_) fun a ha o hao => keep a o hao fun c => ?_⟩
    · obtain ⟨xs, q⟩ := m a c
      rw [ha] at q
      exact hn2 xs (Option.some.inj q)
    · by_cases hj : j ∈ own
      · exact h1 a c ⟨j, hj, ha⟩
      · exact h2 a c (S.shr j hj (fun z => nomatch z) a ha), S.non, S.shr, S.nod, S.noP, S.dis, S.zp, fun a h => mono a (S.ph a h)⟩
theorem se_ctm {own : List Nat} {f : Nat} {a : DE} {es : DEs} {y : Str} {x : Expr} {xs : List Expr} {p pos : Pos} (F : Fx C Φ k X) (hy : C.calls[f]? = some y) (hs : C.sigs[f]? = some (true, true)) (hg : X.env.scope.names.lookup y = some .globalImplicit) (ho : okN y = true)
    (hio : ioL es = false) (hsh : shL C.sigs (own ++ []) es = true) (hfr : frE C.sigs a = true) (hp1 : plainX x = true) (hp : xs.all plainX = true) (ha : SE C Φ X own [] a x) (hl : SL C Φ X own [] es xs) :
    SE C Φ X own [] (.ctm f a es) (.Call (.Name y p) (x :: xs) [] pos) := by
  intro Z P σ H env As d env' S e Q q
  simp only [ev] at e
  obtain ⟨d0, e0, h0, h01⟩ := bd_inv e
  obtain ⟨_, h01⟩ := gd_inv h01
  obtain ⟨ds, e1, h1, h2⟩ := bd_inv h01
  split at h2
  · rename_i d d1 hF
    simp only [Option.some.injEq, Rs.ok.injEq] at h2
    obtain ⟨rfl, rfl⟩ := h2
    obtain ⟨fa, fd, ps, K⟩ := F.calls f y _ hy hs
    refine (pe_call K.ok F.room hg K.mg K.kp K.bi .nil pass0 (pa_cons Cy.we Cy.wa (plain_star hp1)) (okN_eq ho).1 (plain_star hp1) (plain_any hp)).we ?_
    refine ha Z P σ H env As _ _ S h0 _ fun v0 H0 A0 As0 S0 T0 r0 E0' => ?_
    refine hl Z P σ H0 e0 As0 _ _ S0 h1 _ fun vs H1 A As1 S1 T1 r E => ?_
    show spD X.K (true, true) (Φ f) ((v0 :: vs) ++ []) H1 Q E0
    rw [List.append_nil]
    unfold spD
    rw [if_pos rfl]
    obtain ⟨nd0, nw0⟩ := E0'.1 hfr
    have m0 : ∀ b ∈ A0, MutH H0 b := fun b h => r0.mut b h
    have r0' := r0.step S0 T1 (fun z => by rw [hio] at z; cases z)
    have notZ : ∀ b ∈ A0, ¬ Z b := fun b hb hz => by
      rcases (nw0 b hb).1 with z | ⟨j, hj, z⟩
      · exact S.ph b (S.zp b hz) z
      · exact S.noP j hj b z (S.zp b hz)
    refine ⟨v0, vs, d0, ds, A0, A, _, d1, rfl, r0', r, nd0, fun b hb hb2 => ?_, hF, fun v H' A' A0' mono keep r1 nd1 hA1 rd nd hA => ?_⟩
    · rcases E.2.1 hsh b hb2 with z | z
      · exact (nw0 b hb).apart (m0 b hb) z rfl
      · exact notZ b hb z
    · have nw1 : ∀ b ∈ A0, New own H As As1 b := fun b hb => (nw0 b hb).step (m0 b hb) T1
      have S2 := S1.aside mono keep (fun b hb => r0'.mut b hb) (fun b hb => (nw1 b hb).2) notZ
      have T01 := T0.trans T1 (io := true) (fun _ => rfl) (fun _ => rfl)
      have T2 : TR own true H As H' As1 := ⟨fun b h => mono b (T01.mono b h), fun b o h hn => keep b o (T01.keep b o h hn) fun c => ?_, T01.ow, T01.al⟩
      have nw : ∀ b ∈ A', New own H As As1 b := fun b hb => by
        obtain ⟨z1, z2⟩ := hA b hb
        rcases z1 with z | z
        · refine ⟨.inl ?_, fun c => S1.own_some c z⟩
          cases g : H b with
          | none => rfl
          | some o => exact absurd z (T01.mono b (by rw [g]; simp))
        · exact nw1 b z
      exact q v H' A' As1 S2 T2 rd ⟨fun _ => ⟨nd, nw⟩, fun _ b hb => .inl (nw b hb), fun b hb => (nw b hb).1.imp id fun ⟨j, _, z⟩ => ⟨j, z⟩⟩
      -- what is kept is none of what was handed in
      rcases (nw0 b c).1 with z | z
      · rw [h] at z; cases z
      · exact hn rfl z
  · cases h2
  · cases h2
end
end Cy
end
section
set_option Elab.async false
set_option linter.all false
set_option maxRecDepth 100000
set_option maxHeartbeats 2000000
/-! Soundness, 6: built-ins, what is walked. -/
namespace Cy
open PySem L2 PyProof.Rows
section
variable {C : Ct} {Φ : Nat → Fn} {k : Nat} {X : Cx}

theorem gloOk_eq {sc : Scope} {x : Str} (h : gloOk C sc x = true) : sc.names.lookup x = some .globalImplicit ∧ x ∈ C.bn ∧ x ≠ "__name__" ∧ (x == ("__debug__" : Str)) = false := by
  unfold gloOk at h
  simp only [Bool.and_eq_true] at h
  obtain ⟨⟨⟨a, b⟩, c⟩, d⟩ := h
  refine ⟨gloB_eq a, inB_eq b, ?_, (okN_eq d).1⟩
  simpa using c
/-- what is behind a call of a built-in -/
theorem bi_fin {own vw : List Nat} {b : Bi} {es : DEs} {xs : List Expr} {σ : L2.St} {H : Hp} {env env' : En} {As : Asg} {d : D} {Z P : Addr → Prop} (hio : ioE (.bi b es) = ioL es) (hfr : frE C.sigs (.bi b es) = true → frL C.sigs es = true ∨ pureBi b = true)
    (hsh : shE C.sigs (own ++ vw) (.bi b es) = true → shL C.sigs (own ++ vw) es = true ∨ pureBi b = true)
    (hl : SL C Φ X own vw es xs) (S : SR X.K C.N.length own vw Z P σ H env As) (e : ev Φ (.bi b es) env = some (.ok d env')) {Q : VK}
    (q : ∀ v H' A As', SR X.K C.N.length own vw Z P σ H' env' As' → TR own (ioE (.bi b es)) H As H' As' → Rep X.K H' v d A → EF own Z (frE C.sigs (.bi b es)) (shE C.sigs (own ++ vw) (.bi b es)) H As As' A → Q v H') :
    WA X xs σ H fun vs H1 => rBi X.K b vs H1 Q := by
  simp only [ev] at e
  obtain ⟨ds, e1, h1, h2⟩ := bd_inv e
  obtain ⟨h3, rfl⟩ := lf_inv h2
  refine hl Z P σ H env As _ _ S h1 _ fun vs H1 A As1 S1 T1 r E => ?_
  refine ⟨ds, A, d, r, h3, fun v H' A' vo rd => ?_⟩
  obtain ⟨S3, T3, E3⟩ := fin S1 T1 (fun a h => r.mut a h) E vo
  refine q v H' A' As1 S3 (by rw [hio]; exact T3) rd (E3.weak (fun h => ?_) (fun h => ?_))
  · rcases hfr h with z | z
    · rw [z]; rfl
    · rw [z]; exact Bool.or_true _
  · rcases hsh h with z | z
    · rw [z]; rfl
    · rw [z]; exact Bool.or_true _
theorem se_bif {own vw : List Nat} {b : Bi} {id : String} {es : DEs} {x : Expr} {xs : List Expr} {p pos : Pos} {sc : Scope} (hX : X.env.scope = sc) (F : Fx C Φ k X) (hc : CallR X (.builtin id) (rBi X.K b)) (hb : bootBuiltins (biN b) = some (.builtin id)) (hg : gloOk C sc (biN b) = true)
    (hio : ioE (.bi b es) = ioL es) (hfr : frE C.sigs (.bi b es) = true → frL C.sigs es = true ∨ pureBi b = true) (hsh : shE C.sigs (own ++ vw) (.bi b es) = true → shL C.sigs (own ++ vw) es = true ∨ pureBi b = true)
    (hp : (x :: xs).all plainX = true) (hl : SL C Φ X own vw es (x :: xs)) : SE C Φ X own vw (.bi b es) (.Call (.Name (biN b) p) (x :: xs) [] pos) := by
  intro Z P σ H env As d env' S e Q q
  obtain ⟨g1, g2, g3, g4⟩ := gloOk_eq hg
  simp only [List.all_cons, Bool.and_eq_true] at hp
  refine (pe_callB hc (by show X.env.scope.names.lookup _ = _; rw [hX]; exact g1) (F.bn _ g2) hb Cy.wa g3 g4 (plain_star hp.1) (plain_any hp.2)).we ?_
  exact bi_fin hio hfr hsh hl S e q
theorem se_bit {own vw : List Nat} {b : Bi} {id : String} {es : DEs} {x : Expr} {xs : List Expr} {p pos : Pos} {sc : Scope} (hX : X.env.scope = sc) (F : Fx C Φ k X) (hc : CallR X (.type id) (rBi X.K b)) (hb : bootBuiltins (biN b) = some (.type id)) (hg : gloOk C sc (biN b) = true)
    (hio : ioE (.bi b es) = ioL es) (hfr : frE C.sigs (.bi b es) = true → frL C.sigs es = true ∨ pureBi b = true) (hsh : shE C.sigs (own ++ vw) (.bi b es) = true → shL C.sigs (own ++ vw) es = true ∨ pureBi b = true)
    (hp : (x :: xs).all plainX = true) (hl : SL C Φ X own vw es (x :: xs)) : SE C Φ X own vw (.bi b es) (.Call (.Name (biN b) p) (x :: xs) [] pos) := by
  intro Z P σ H env As d env' S e Q q
  obtain ⟨g1, g2, g3, g4⟩ := gloOk_eq hg
  simp only [List.all_cons, Bool.and_eq_true] at hp
  refine (pe_callTy hc (by show X.env.scope.names.lookup _ = _; rw [hX]; exact g1) (F.bn _ g2) hb Cy.wa g3 g4 (plain_star hp.1) (plain_any hp.2)).we ?_
  exact bi_fin hio hfr hsh hl S e q
theorem se_isi {own vw : List Nat} {t : TyN} {a : DE} {u : Expr} {p p2 pos : Pos} {sc : Scope} (hX : X.env.scope = sc) (F : Fx C Φ k X) (hg : gloOk C sc "isinstance" = true) (hg2 : gloOk C sc (tyNm t) = true) (hp : plainX u = true) (ha : SE C Φ X own vw a u) :
    SE C Φ X own vw (.bi (.isi t) (.cons a .nil)) (.Call (.Name "isinstance" p) [u, .Name (tyNm t) p2] [] pos) := by
  intro Z P σ H env As d env' S e Q q
  obtain ⟨g1, g2, g3, g4⟩ := gloOk_eq hg
  obtain ⟨f1, f2, f3, f4⟩ := gloOk_eq hg2
  simp only [ev, evL] at e
  obtain ⟨ds, e1, h1, h2⟩ := bd_inv e
  obtain ⟨d0, e0, h3, h4⟩ := bd_inv h1
  obtain ⟨_, h4⟩ := gd_inv h4
  obtain ⟨d9, e9, h5, h6⟩ := bd_inv h4
  simp only [Option.some.injEq, Rs.ok.injEq] at h5 h6
  obtain ⟨rfl, rfl⟩ := h5
  obtain ⟨rfl, rfl⟩ := h6
  obtain ⟨h7, rfl⟩ := lf_inv h2
  simp only [biD, Option.map_eq_some_iff] at h7
  obtain ⟨b, h8, rfl⟩ := h7
  have hc : CallR X (.builtin "isinstance") (fun vs H Q => ∃ v d A b, vs = [v, .ty (tyStr t)] ∧ Rep X.K H v d A ∧ isiD t d = some b ∧ Q (.bl b) H) := by
    intro pins s σ H vs us Q I rv ⟨v, d, A, b, ev, r, h, qq⟩
    subst ev
    exact bi_isi t I rv r h qq
  have hbt : bootBuiltins (tyNm t) = some (.type (tyStr t)) := by cases t <;> decide +kernel
  refine (pe_callB hc (by show X.env.scope.names.lookup _ = _; rw [hX]; exact g1) (F.bn _ g2) PyProof.Rows.boot_isinstance (pa_cons Cy.we (pa_cons (pe_bltn (v := .ty (tyStr t)) (by show X.env.scope.names.lookup _ = _; rw [hX]; exact f1) (F.bn _ f2) hbt rfl f3 f4) pa_nil (plain_star rfl)) (plain_star hp)) g3 g4 (plain_star hp) (plain_any (by rfl))).we ?_
  refine ha Z P σ H env As _ _ S h3 _ fun v1 H1 A1 As1 S1 T1 r1 E1 => ?_
  refine ⟨v1, d0, A1, b, rfl, r1, h8, q _ _ [] As1 S1 ?_ (.bl _) EF.pure⟩
  exact T1.weak fun z => by show (ioE a || false) = true; rw [z]; rfl
theorem bits_eq (i : Int) : (Builtin.Int.intBits i : Nat) = bitsI i := by
  unfold Builtin.Int.intBits bitsI
  by_cases h : i = 0
  · simp [h]
  · rw [if_neg (by simpa using h), if_neg h]
theorem few_arg {e : Expr} {env : PySem.Env} {cpos : Pos} (h : plainX e = true) : ((backTo cpos (starEach [e] env)).all (fun x => !x.1) && (backToKw cpos (keywordEach [] env)).all (fun x => x.1.isSome)
      && decide (([e] : List Expr).length + ([] : List Keyword).length + (if ([] : List Keyword).isEmpty then 0 else 1) < 30)) = true := by
  rw [plain_star h]
  rfl
theorem se_join {own vw : List Nat} {a b : DE} {o x : Expr} {ap pos : Pos} (hb : ∀ x p q, o ≠ .Call (.Name x p) [] [] q) (hp : plainX x = true) (hl : (ap.endLine == pos.line) = true) (ha : SE C Φ X own vw a o) (hx : SE C Φ X own vw b x) :
    SE C Φ X own vw (.mt .join a (.cons b .nil)) (.Call (.Attribute o "join" ap) [x] [] pos) := by
  intro Z P σ H env As d env' S e Q q
  simp only [ev, evL] at e
  obtain ⟨d0, e0, h3, h4⟩ := bd_inv e
  obtain ⟨g, h4⟩ := gd_inv h4
  obtain ⟨ds, e9, h5, h6⟩ := bd_inv h4
  obtain ⟨d1, e1, h7, h8⟩ := bd_inv h5
  obtain ⟨_, h8⟩ := gd_inv h8
  obtain ⟨d2, e2, h9, h10⟩ := bd_inv h8
  simp only [Option.some.injEq, Rs.ok.injEq] at h9 h10
  obtain ⟨rfl, rfl⟩ := h9
  obtain ⟨rfl, rfl⟩ := h10
  obtain ⟨h11, rfl⟩ := lf_inv h6
  refine (pe_bm PySem.F.plainAttrs_str PySem.F.slot_str_join PySem.F.type_str_join mt_join Cy.we (pa_cons Cy.we pa_nil (plain_star hp)) (base_of hb) (few_arg hp) hl (plain_star hp) rfl).we ?_
  refine ha Z P σ H env As _ _ S h3 _ fun v1 H1 A1 As1 S1 T1 r1 E1 => ?_
  cases r1 with
  | str a =>
    cases d1 with
    | lst xs =>
      simp only [mtD, Option.bind_eq_some_iff] at h11
      obtain ⟨ys, k1, k2⟩ := h11
      split at k2
      rotate_left
      · cases k2
      rename_i hz
      simp only [Option.some.injEq] at k2
      subst k2
      refine ⟨rfl, ?_⟩
      refine hx Z P σ H1 e0 As1 _ _ S1 h7 _ fun v2 H2 A2 As2 S2 T2 r2 E2 => ?_
      cases r2 with
      | lst h r =>
        obtain ⟨rfl, rfl⟩ := reps_strs r k1
        refine ⟨a, _, ys, rfl, rfl, .inl (SqL.of h), Nat.le_trans hz (by show (1000000 : Nat) ≤ 16777216; decide), ?_⟩
        rw [TL.join_eq]
        refine q _ H2 [] As2 S2 (T1.trans T2 (fun z => ?_) (fun z => ?_)) (.str _) EF.pure
        · show (ioE _ || (ioE b || false)) = true; rw [z]; rfl
        · show (ioE _ || (ioE b || false)) = true; rw [z]; simp
    | _ => simp [mtD] at h11
  | _ => cases d1 <;> simp [mtD] at h11
theorem se_bl {own vw : List Nat} {a : DE} {o : Expr} {ap pos : Pos} (hb : ∀ x p q, o ≠ .Call (.Name x p) [] [] q) (hl : (ap.endLine == pos.line) = true) (ha : SE C Φ X own vw a o) : SE C Φ X own vw (.mt .bitlen a .nil) (.Call (.Attribute o "bit_length" ap) [] [] pos) := by
  intro Z P σ H env As d env' S e Q q
  simp only [ev, evL] at e
  obtain ⟨d0, e0, h3, h4⟩ := bd_inv e
  obtain ⟨_, h4⟩ := gd_inv h4
  obtain ⟨d9, e9, h5, h6⟩ := bd_inv h4
  simp only [Option.some.injEq, Rs.ok.injEq] at h5
  obtain ⟨rfl, rfl⟩ := h5
  obtain ⟨h7, rfl⟩ := lf_inv h6
  refine (pe_bits Cy.we (base_of hb) hl).we ?_
  refine ha Z P σ H env As _ _ S h3 _ fun v1 H1 A1 As1 S1 T1 r1 E1 => ?_
  cases r1 <;> simp only [mtD, Option.some.injEq, reduceCtorEq] at h7
  subst h7
  refine ⟨_, rfl, ?_⟩
  rw [bits_eq]
  exact q _ _ [] As1 S1 (T1.weak fun z => by show (ioE a || false) = true; rw [z]; rfl) (.int _) EF.pure
theorem rgV_eq (a b : Int) : rgV a b = (rangeL a b).map V.int := by
  unfold rgV rangeL
  rw [List.map_map]; rfl
theorem rangeL_len (a b : Int) : (rangeL a b).length = (b - a).toNat := by unfold rangeL; rw [List.length_map, List.length_range]
/-- the ends of a range, made -/
theorem rg_core {own vw : List Nat} {es : DEs} {xs : List Expr} {p pos : Pos} {sc : Scope} {Z P : Addr → Prop} {σ : L2.St} {H : Hp} {env env' : En} {As : Asg} {ds : List D} {ns : List Int} (hX : X.env.scope = sc) (F : Fx C Φ k X) (hg : gloOk C sc "range" = true) (he : Each (SE C Φ X own vw) es xs) (hp : xs.all plainX = true) (hlen : xs.length ≤ 2)
    (hne : xs ≠ []) (S : SR X.K C.N.length own vw Z P σ H env As) (e : evL Φ es env = some (.ok ds env')) (hr : rngD ds = some ns) :
    ∃ t, PRg X (.Call (.Name "range" p) xs [] pos) t ∧ ∀ Q : Int → Int → Hp → Prop, (∀ a b H' As', ns = rangeL a b → a.natAbs < 4000000 → b.natAbs < 4000000 → SR X.K C.N.length own vw Z P σ H' env' As' → TR own (ioL es) H As H' As' → Q a b H') → t σ H Q := by
  obtain ⟨g1, g2, g3, g4⟩ := gloOk_eq hg
  have hg1 : Gl X "range" := by show X.env.scope.names.lookup _ = _; rw [hX]; exact g1
  cases he with
  | nil => exact absurd rfl hne
  | @cons a es x xs h1 t1 =>
    simp only [List.all_cons, Bool.and_eq_true] at hp
    cases t1 with
    | nil =>
      refine ⟨_, prg_1 hg1 (F.bn _ g2) Cy.we (plain_star hp.1), fun Q q => ?_⟩
      simp only [evL] at e
      obtain ⟨d0, e0, h3, h4⟩ := bd_inv e
      obtain ⟨_, h4⟩ := gd_inv h4
      obtain ⟨d9, e9, h5, h6⟩ := bd_inv h4
      simp only [Option.some.injEq, Rs.ok.injEq] at h5 h6
      obtain ⟨rfl, rfl⟩ := h5
      obtain ⟨rfl, rfl⟩ := h6
      refine h1 Z P σ H env As _ _ S h3 _ fun v1 H1 A1 As1 S1 T1 r1 E1 => ?_
      cases r1 <;> simp only [rngD, reduceCtorEq] at hr
      split at hr
      · rename_i hz
        simp only [Option.some.injEq] at hr
        exact ⟨_, rfl, q 0 _ H1 As1 hr.symm (by decide) hz S1 (T1.weak fun z => by show (ioE a || false) = true; rw [z]; rfl)⟩
      · cases hr
    | @cons b es2 x2 xs2 h2 t2 =>
      cases t2 with
      | nil =>
        simp only [List.all_cons, Bool.and_eq_true] at hp
        refine ⟨_, prg_2 hg1 (F.bn _ g2) Cy.we Cy.we (plain_star hp.1) (plain_star hp.2.1) (plain_any (by simpa using hp.2)), fun Q q => ?_⟩
        simp only [evL] at e
        obtain ⟨d0, e0, h3, h4⟩ := bd_inv e
        obtain ⟨gg, h4⟩ := gd_inv h4
        obtain ⟨dd, e9, h5, h6⟩ := bd_inv h4
        obtain ⟨d1, e1, h7, h8⟩ := bd_inv h5
        obtain ⟨_, h8⟩ := gd_inv h8
        obtain ⟨d2, e2, h9, h10⟩ := bd_inv h8
        simp only [Option.some.injEq, Rs.ok.injEq] at h6 h9 h10
        obtain ⟨rfl, rfl⟩ := h9
        obtain ⟨rfl, rfl⟩ := h10
        obtain ⟨rfl, rfl⟩ := h6
        refine h1 Z P σ H env As _ _ S h3 _ fun v1 H1 A1 As1 S1 T1 r1 E1 => ?_
        refine h2 Z P σ H1 e0 As1 _ _ S1 h7 _ fun v2 H2 A2 As2 S2 T2 r2 E2 => ?_
        cases r1 <;> cases r2 <;> simp only [rngD, reduceCtorEq] at hr
        split at hr
        · rename_i hz
          simp only [Option.some.injEq] at hr
          refine ⟨_, _, rfl, rfl, q _ _ H2 As2 hr.symm hz.1 hz.2 S2 (T1.trans T2 (fun z => ?_) (fun z => ?_))⟩
          · show (ioE a || (ioE b || false)) = true; rw [z]; rfl
          · show (ioE a || (ioE b || false)) = true; rw [z]; simp
        · cases hr
      | cons _ t3 =>
        exfalso
        simp only [List.length_cons] at hlen
        omega
theorem se_lrng {own vw : List Nat} {es : DEs} {xs : List Expr} {p p2 pos pos2 : Pos} {sc : Scope} (hX : X.env.scope = sc) (F : Fx C Φ k X) (hg : gloOk C sc "list" = true) (hg2 : gloOk C sc "range" = true) (he : Each (SE C Φ X own vw) es xs) (hp : xs.all plainX = true) (hlen : xs.length ≤ 2) (hne : xs ≠ []) :
    SE C Φ X own vw (.bi .lrng es) (.Call (.Name "list" p) [.Call (.Name "range" p2) xs [] pos2] [] pos) := by
  intro Z P σ H env As d env' S e Q q
  obtain ⟨g1, g2, g3, g4⟩ := gloOk_eq hg
  simp only [ev] at e
  obtain ⟨ds, e1, h1, h2⟩ := bd_inv e
  obtain ⟨h3, rfl⟩ := lf_inv h2
  simp only [biD, Option.bind_eq_some_iff] at h3
  obtain ⟨ns, h4, h5⟩ := h3
  split at h5
  · rename_i hz
    simp only [Option.some.injEq] at h5
    subst h5
    obtain ⟨t, ht, hq⟩ := rg_core (p := p2) (pos := pos2) hX F hg2 he hp hlen hne S h1 h4
    refine (pe_listRg F.calm (by show X.env.scope.names.lookup _ = _; rw [hX]; exact g1) (F.bn _ g2) ht (plain_star rfl)).we ?_
    refine hq _ fun a b H1 As1 en ha hb S1 T1 => ⟨⟨by omega, by omega, by omega, by omega, ?_⟩, fun n hn => ?_⟩
    · show (b - a).toNat ≤ 16777216; omega
    · have sm : Same H1 (upd H1 n (.lst (rgV a b))) := same_new hn
      refine q _ _ [n] As1 (S1.grow sm) (T1.trans (TR.grow (io := ioL es) sm) id id) (.lst upd_same ?_) (EF.cons S1 ?_ (fun a h => nomatch h) hn EF.pure)
      · rw [rgV_eq, en]; exact reps_of_ints _
      · revert T1
        show TR own (ioL es) _ _ _ _ → _
        cases ioL es <;> intro T1
        · exact .inl T1
        · exact .inr T1
  · cases h5

/-! ### what is walked -/
/-- what stood at H1 but lists, and the lists at A, stand at H -/
def Kept (H1 : Hp) (A : List Addr) (H : Hp) : Prop := (∀ a o, H1 a = some o → (∀ xs, o ≠ .lst xs) → H a = some o) ∧ ∀ a ∈ A, ∀ o, H1 a = some o → H a = some o
def ItOk (K : PySem.W.Frag) (J : It) (H1 : Hp) (A : List Addr) (xs : List D) : Prop :=
  Walk J xs.length (Kept H1 A) (fun i H x H' => Same H H' ∧ ∃ d B, xs[i]? = some d ∧ Rep K H' x d B ∧ B.Sublist A)
theorem Rep.kept {K : PySem.W.Frag} {H1 H : Hp} {A B : List Addr} {v : V} {d : D} (g : Kept H1 A H) (r : Rep K H1 v d B) (s : ∀ a ∈ B, a ∈ A) : Rep K H v d B := r.keep g.1 fun a ha => g.2 a (s a ha)
theorem Reps.kept {K : PySem.W.Frag} {H1 H : Hp} {A B : List Addr} {v : List V} {d : List D} (g : Kept H1 A H) (r : Reps K H1 v d B) (s : ∀ a ∈ B, a ∈ A) : Reps K H v d B := r.keep g.1 fun a ha => g.2 a (s a ha)
def WI (X : Cx) (tg iter : Expr) : TI := fun σ H R => ∀ pins s, Inv X pins σ H s → wpAny (model X.prog X.w) X.A (eval iter X.env) (fun v s1 => wpAny (model X.prog X.w) X.A (pyIter v) (PIE X pins σ tg R) X.xe s1) X.xe s
theorem wi {tg iter : Expr} : PI X tg iter (WI X tg iter) := ⟨fun pins s σ H R I h => h pins s I⟩
theorem _root_.L2.PI.we {tg iter : Expr} {t : TI} {σ : L2.St} {H : Hp} {R : It → Hp → Prop} (h : PI X tg iter t) (q : t σ H R) : WI X tg iter σ H R := fun pins s I => h.run pins s σ H R I q
def SI (C : Ct) (Φ : Nat → Fn) (X : Cx) (own vw : List Nat) (it : DI) (tg iter : Expr) : Prop :=
  ∀ (Z P : Addr → Prop) (σ : L2.St) (H : Hp) (env : En) (As : Asg) (xs : List D) (env' : En), SR X.K C.N.length own vw Z P σ H env As → evI Φ it env = some (.ok xs env') →
    ∀ R : It → Hp → Prop, (∀ J H' A As', SR X.K C.N.length own vw Z P σ H' env' As' → TR own (ioI it) H As H' As' → ItOk X.K J H' A xs → (∀ a ∈ A, MutH H' a) → EF own Z (frI C.sigs it) (shI C.sigs (own ++ vw) it) H As As' A → R J H') → WI X tg iter σ H R
theorem itok_list {K : PySem.W.Frag} {H1 : Hp} {p : Addr} {vs : List V} {ds : List D} {A : List Addr} (h : H1 p = some (.lst vs)) (r : Reps K H1 vs ds A) : ItOk K (Itl K p) H1 (p :: A) ds := by
  unfold ItOk
  rw [← r.length]
  refine walk_list.mono (fun H g => SqL.of (g.2 p (List.mem_cons_self ..) _ h)) fun i H x H' hi g y => ?_
  obtain ⟨rfl, hx⟩ := y
  refine ⟨Same.refl _, ?_⟩
  have hd : i < ds.length := by rw [← r.length]; exact hi
  obtain ⟨v, B, h1, h2, h3⟩ := r.get (i := i) (List.getElem?_eq_getElem hd)
  rw [hx] at h1
  simp only [Option.some.injEq] at h1
  subst h1
  exact ⟨_, B, List.getElem?_eq_getElem hd, h2.kept g fun a ha => List.mem_cons_of_mem _ (h3.subset ha), h3.trans (List.sublist_cons_self _ _)⟩
theorem itok_tup {K : PySem.W.Frag} {H1 : Hp} {p : Addr} {vs : List V} {ds : List D} {A : List Addr} (h : SqT K H1 p vs) (r : Reps K H1 vs ds A) : ItOk K (Itt K p) H1 A ds := by
  unfold ItOk
  rw [← r.length]
  refine walk_tup.mono (fun H g => SqT.keep g.1 h) fun i H x H' hi g y => ?_
  obtain ⟨rfl, hx⟩ := y
  refine ⟨Same.refl _, ?_⟩
  have hd : i < ds.length := by rw [← r.length]; exact hi
  obtain ⟨v, B, h1, h2, h3⟩ := r.get (i := i) (List.getElem?_eq_getElem hd)
  rw [hx] at h1
  simp only [Option.some.injEq] at h1
  subst h1
  exact ⟨_, B, List.getElem?_eq_getElem hd, h2.kept g fun a ha => h3.subset ha, h3⟩
theorem si_val {own vw : List Nat} {a : DE} {tg x : Expr} (ha : SE C Φ X own vw a x) : SI C Φ X own vw (.val a) tg x := by
  intro Z P σ H env As xs env' S e R q
  simp only [evI] at e
  obtain ⟨d0, e0, h1, h2⟩ := bd_inv e
  obtain ⟨h3, rfl⟩ := lf_inv h2
  cases d0 with
  | lst ds =>
    simp only [itemsD, Option.some.injEq] at h3
    subst h3
    refine (pi_list Cy.we).we ?_
    refine ha Z P σ H env As _ _ S h1 _ fun v1 H1 A1 As1 S1 T1 r1 E1 => ?_
    have m1 := r1.mut
    cases r1 with
    | lst h r => exact ⟨_, rfl, ⟨_, SqL.of h⟩, q _ H1 _ As1 S1 T1 (itok_list h r) m1 E1.orr⟩
  | tup ds =>
    simp only [itemsD, Option.some.injEq] at h3
    subst h3
    refine (pi_tup Cy.we).we ?_
    refine ha Z P σ H env As _ _ S h1 _ fun v1 H1 A1 As1 S1 T1 r1 E1 => ?_
    have m1 := r1.mut
    cases r1 with
    | tup h r => exact ⟨_, rfl, ⟨_, h⟩, q _ H1 _ As1 S1 T1 (itok_tup h r) m1 E1.orr⟩
  | str z =>
    simp only [itemsD, Option.some.injEq] at h3
    subst h3
    refine (pi_str Cy.we).we ?_
    refine ha Z P σ H env As _ _ S h1 _ fun v1 H1 A1 As1 S1 T1 r1 E1 => ?_
    cases r1
    refine ⟨_, rfl, q _ H1 [] As1 S1 T1 ?_ (fun a h => nomatch h) EF.pure⟩
    unfold ItOk
    rw [List.length_map, Array.length_toList]
    refine walk_str.mono (fun H g => trivial) fun i H x H' hi g y => ?_
    obtain ⟨rfl, c, hc, rfl⟩ := y
    refine ⟨Same.refl _, _, [], ?_, .str _, List.Sublist.refl _⟩
    rw [List.getElem?_map, Array.getElem?_toList, hc]; rfl
  | dct ks vs =>
    -- no such data stand in a heap as yet
    intro pins s I
    refine ha Z P σ H env As _ _ S h1 (fun _ _ => False) (fun v1 H1 A1 As1 S1 T1 r1 E1 => by cases r1) pins s I |> fun z => wpAny_mono z (fun _ _ h => ?_) fun _ _ h => h
    obtain ⟨_, _, _, _, h⟩ := h
    exact h.elim
  | _ => simp [itemsD] at h3
theorem itok_range {K : PySem.W.Frag} {H1 : Hp} (a b : Int) : ItOk K (Itr a (b - a).toNat) H1 [] ((rangeL a b).map D.int) := by
  unfold ItOk
  rw [List.length_map, rangeL_len]
  refine walk_range.mono (fun H g => trivial) fun i H x H' hi g y => ?_
  obtain ⟨rfl, rfl⟩ := y
  refine ⟨Same.refl _, .int (a + i), [], ?_, .int _, List.Sublist.refl _⟩
  unfold rangeL
  simp [hi]
end
end Cy
end
section
set_option Elab.async false
set_option linter.all false
set_option maxRecDepth 100000
set_option maxHeartbeats 2000000
/-! enumerate of a tuple, over the layer. -/
namespace PySem
theorem cyEnumMeets {q : Value} {ob : Obj} {G : Heap → Prop} (bg : Begins q ob G) :
    Meets (Builtin.«enumerate.__new__» ⟨[.type "enumerate", q], []⟩)
      (fun _ R z => G z.heap ∧ R (.ok (.ret (.ref (z.heap.push ob).objs.size)))
        { z with heap := (z.heap.push ob).push { cls := .type "enumerate", data := .fields #[.none, .bool false, .ref z.heap.objs.size, rawInt 0, .none, .none] } }) := by
  refine .of_wp fun pr wd ar R z hyp => ?_
  obtain ⟨g1, hyp⟩ := hyp
  obtain ⟨hp, gs, dr, tks, oss⟩ := z
  have hSub := sub_enumerate
  have hIt : ∀ {ar' : Around} {ex : Value → Shared → Prop} {Q : Value → Shared → Prop},
      Q (.ref hp.objs.size) ⟨hp.push ob, gs, dr, tks, oss⟩ → wpAny (model pr wd) ar' (pyIter q) Q ex ⟨hp, gs, dr, tks, oss⟩ := fun k => bg.iter pr wd _ _ ⟨hp, gs, dr, tks, oss⟩ _ g1 k
  wp_walk using hIt
  refine wpAny_stack_any fun stk => wpAny_pure ?_
  split
  · rename_i cc _ _ _ _ _
    cases (cc == Value.type "enumerate") <;> (wp_walk using hIt; exact ⟨_, rfl, hyp⟩)
  · wp_walk using hIt
    exact ⟨_, rfl, hyp⟩
theorem cyEnumCall {pr : Program} {wd : World} {ar : Around} {ex : Value → Shared → Prop} {z : Shared} {q : Value} {ob : Obj} {G : Heap → Prop} {Q : Value → Shared → Prop} (bg : Begins q ob G) (hg : G z.heap)
    (fin : ∀ hp, IsEnum hp (z.heap.objs.size + 1) z.heap.objs.size 0 .none → hp.get? z.heap.objs.size = some ob → (∀ c u, z.heap.get? c = some u → hp.get? c = some u) →
      Q (.ref (z.heap.objs.size + 1)) { z with heap := hp }) : wpAny (model pr wd) ar (call (.type "enumerate") [q]) Q ex z := by
  have sz : (z.heap.push ob).objs.size = z.heap.objs.size + 1 := Heap.size_push ..
  refine callType_new F.called_enumerate (by decide) (F.typeCall_enumerate_1 q) (F.newCall_enumerate_1 q) (fun it => F.args_object_init_2 it _) F.entry_enumerate_new (cyEnumMeets bg) ⟨hg, ?_⟩
  have en : IsEnum ((z.heap.push ob).push { cls := .type "enumerate", data := .fields #[.none, .bool false, .ref z.heap.objs.size, rawInt 0, .none, .none] }) (z.heap.objs.size + 1) z.heap.objs.size 0 .none := by
    have e0 := Heap.get?_push_size (z.heap.push ob) (o := { cls := .type "enumerate", data := .fields #[.none, .bool false, .ref z.heap.objs.size, rawInt 0, .none, .none] }) rfl
    rwa [sz] at e0
  show _ ∧ _
  rw [sz]
  exact ⟨⟨_, en, rfl⟩, fin _ en (Heap.get?_push_of_some _ (Heap.get?_push_size _ bg.free)) fun c u hc => Heap.get?_push_of_some _ (Heap.get?_push_of_some _ hc)⟩
end PySem
namespace Cy
open PySem L2 PyProof.Rows
/-- the tuple at a, its items in new pairs -/
def ItEt (K : PySem.W.Frag) (a : Addr) : It :=
  ⟨fun i H => ∃ ws v, SqT K H a ws ∧ ws[i]? = some v, fun i H p H' => ∃ n v, p = .ref n ∧ H n = none ∧ H' = upd H n (.tup [.int (i : Nat), v]) ∧ ∀ ws, SqT K H a ws → ws[i]? = some v,
    fun i H => ∃ ws, SqT K H a ws ∧ ws.length ≤ i⟩
theorem turnEt {P : Program} {w : World} {K : PySem.W.Frag} {elts : List Expr} {kk : Nat} {tp : Pos} (a en li : Addr) :
    Turn P w K (.Tuple elts kk tp) (ItEt K a) [en, li] en (fun i h => (∃ old, IsEnum h en li ((i : Nat) : Int) old) ∧ h.IsTupleIter li a i ∧ en ≠ li) where
  mem := List.mem_cons_self ..
  obj := by
    rintro i h ⟨⟨old, hE⟩, ⟨o, h1, _, h2⟩, _⟩ b hb
    rcases List.mem_cons.mp hb with rfl | hb
    · exact ⟨_, hE, fun _ z => nomatch z⟩
    · obtain rfl := List.mem_singleton.mp hb
      exact ⟨o, h1, fun v z => by rw [h2] at z; cases z⟩
  keep := by
    rintro i h h' ⟨⟨old, hE⟩, hT, hne⟩ kp
    exact ⟨⟨old, kp en (List.mem_cons_self ..) _ hE⟩, hT.at fun o q => kp li (by simp) o q, hne⟩
  item := by
    intro X eP eW eK hc i pins s σ H E I hf st hg
    subst eP eW eK
    obtain ⟨⟨old, hE⟩, hT, hne⟩ := st
    obtain ⟨ws, v, hq, hv⟩ := hg
    obtain ⟨us, rv, tu, hz⟩ := I.tuple hq
    obtain ⟨u, hu, ru⟩ := rv.get hv
    have aT : s.heap.IsTuple a us.toArray := tu
    have ltE : en < s.heap.objs.size := Heap.lt_size hE
    have ltI : li < s.heap.objs.size := let ⟨_, q, _⟩ := hT; Heap.lt_size q
    have nAI : a ≠ li := fun z => by
      obtain ⟨o1, q1, q2, q3⟩ := hT
      obtain ⟨o2, q4, q5, q6⟩ := aT
      rw [z, q1] at q4
      cases q4
      rw [q2] at q5; exact absurd q5 (by decide)
    have nAE : a ≠ en := fun z => by
      obtain ⟨o2, q4, q5, q6⟩ := aT
      rw [z, hE] at q4
      cases q4
      exact absurd (show Value.type "enumerate" = Value.type "tuple" from q5) (by decide)
    have dr := Draws.tuple (prog := X.prog) (w := X.w) (A := X.A.in1) (I.ok.hd hc) li a nAI us.toArray
    have hlt : i < us.toArray.size := by
      have h1 : us[i]? = some u := hu
      have := (List.getElem?_eq_some_iff.mp h1).1
      simpa using this
    refine wpAny_pyNext_enum_itemD dr hE ⟨hT, aT⟩ hlt hne (fun z => ?_) fun x h' tk hx hO hS hN hs hk => ?_
    · rcases List.mem_cons.mp z with z | z
      · exact hne z
      · exact nAE (List.mem_singleton.mp z).symm
    · have hx' : x = u := by
        have e1 : us[i]? = some x := by simpa using hx
        rw [hu] at e1
        exact (Option.some.inj e1).symm
      subst hx'
      refine ⟨_, rfl, wpAny_letOwnedTupleGo_enum (s := { s with heap := h', toks := tk + 1 }) hO fun h2 hE2 sb => ?_⟩
      have hN2 : h2.get? s.heap.objs.size = some { cls := .type "tuple", data := .seq #[.int i tk, x] } := (sb.2 _ (Nat.ne_of_gt ltE)).trans hN
      have fresh : H s.heap.objs.size = none := I.hok.fresh (Nat.le_refl _)
      have ob : ObjOk X.prog X.w (upd H s.heap.objs.size (.tup [.int (i : Nat), v])) h2 s.heap.objs.size (.tup [.int (i : Nat), v]) :=
        ⟨by show 2 ≤ sizeLine; decide, [.int i tk, x], .cons ⟨tk, rfl⟩ (.cons ru .nil), ⟨_, hN2, rfl, _, rfl⟩⟩
      have J : Inv X pins σ (upd H s.heap.objs.size (.tup [.int (i : Nat), v])) { s with heap := h2, toks := tk + 1 } := by
        refine I.turnedNew (ch := [en, li]) (fun b o hb q => ?_) hf (Nat.le_refl _) ob
        have b1 : b ≠ en := fun z => hb (by rw [z]; exact List.mem_cons_self ..)
        have b2 : b ≠ li := fun z => hb (by rw [z]; simp)
        exact (sb.2 b b1).trans (hk b o b1 b2 q)
      refine ⟨.ref s.heap.objs.size, _, J, rfl, ⟨_, v, rfl, fresh, rfl, fun ys hy => by rw [I.tuple_inj hy hq]; exact hv⟩, ⟨⟨x, ?_⟩, hS.1.at fun o q => (sb.2 li hne.symm).trans q, hne⟩, fun b hb => ?_⟩
      · have e1 : ((i + 1 : Nat) : Int) = (i : Int) + 1 := Int.natCast_succ i
        rw [e1]; exact hE2
      · have lb : b < s.heap.objs.size := by
          rcases List.mem_cons.mp hb with z | z
          · rw [z]; exact ltE
          · rw [List.mem_singleton.mp z]; exact ltI
        rw [upd_ne (Nat.ne_of_lt lb)]
        exact (hf b hb).1
  done := by
    intro X eP eW eK hc i pins s σ H E I hf st hg
    subst eP eW eK
    obtain ⟨⟨old, hE⟩, hT, hne⟩ := st
    obtain ⟨ws, hq, hl⟩ := hg
    obtain ⟨us, rv, tu, hz⟩ := I.tuple hq
    have aT : s.heap.IsTuple a us.toArray := tu
    obtain ⟨f0, f1, f2, f3, f4, f5⟩ := hf li (by simp)
    have el := rv.length
    have hT2 : s.TypeIs (.ref en) "enumerate" := ⟨_, hE, rfl⟩
    unfold pyNext
    refine wpAny_bind (wpAny_attempt (wpAny_callSpecial?_slot (name := Str.ofString "__next__") hT2 F.slot_enumerate_next
      (wpAny_call_entry F.slot_enumerate_next hT2 F.entry_enumerate_next ?_ (F.args_enumerate_next_1 _))))
    show wpAny _ _ (field (.ref en) 2 >>= _) _ _ _
    refine wpAny_bind (wpAny_field hE rfl (x := .ref li) rfl ?_)
    refine wpAny_bind (RZ.nextOf_tuple_end (I.ok.hd hc) hT aT (by simp; omega) fun hp x hb hx => ?_)
    obtain ⟨o, ho, hc2⟩ := hx
    refine wpAny_bind (wpAny_isInstance (T := "StopIteration") (b := true) ⟨o, ho, hc2⟩ isSubtype_stop ?_)
    exact wpAny_pure ⟨rfl, I.turned (t' := s.toks) (fun b o hb' q => hb b o hb' q) f0 f1 f3 f4 f5⟩
  self := fun A i s Q E st h => by
    obtain ⟨⟨_, hE⟩, _⟩ := st
    exact wpAny_pyIter_enum hE h
def iEnT (K : PySem.W.Frag) (ta : TA) : TI := fun σ H R => ta σ H fun vs H1 => ∃ a ws, vs = [.ref a] ∧ SqT K H1 a ws ∧ R (ItEt K a) H1
theorem pi_enT {X : Cx} {e : Expr} {ta : TA} {p pos tp : Pos} {elts : List Expr} {kk : Nat} (hg : Gl X "enumerate") (hm : X.mg "enumerate" = none) (ha : PA X [e] ta) (hs : starEach [e] X.env = [(false, eval e X.env)]) :
    PI X (.Tuple elts kk tp) (.Call (.Name "enumerate" p) [e] [] pos) (iEnT X.K ta) := by
  constructor
  intro pins s σ H R I h
  refine Call_ (ld_blt I hg hm boot_enumerate (PyProof.Rows.callWith_type1 (thn (ha.run pos pins s σ H _ I h) fun us s1 ⟨vs, H1, I1, r1, q1⟩ => ?_) hs rfl))
  obtain ⟨a, ws, rfl, hq, q⟩ := q1
  obtain ⟨u, rfl, ru⟩ := Vals.one r1
  cases ru
  obtain ⟨its, rv, tu, hz⟩ := I1.tuple hq
  refine cyEnumCall (begins_tuple a its.toArray) tu fun hp hE hO hk => wpAny_pyIter_enum hE ?_
  have J : Inv X pins σ H1 { s1 with heap := hp } := I1.kept (t' := s1.toks) hk
  refine ⟨s1.heap.objs.size + 1, [s1.heap.objs.size + 1, s1.heap.objs.size], _, _, H1, rfl, J, turnEt a (s1.heap.objs.size + 1) s1.heap.objs.size, ⟨⟨.none, hE⟩, ⟨_, hO, rfl, rfl⟩, Nat.succ_ne_self _⟩, fun b hb => ?_, q⟩
  have le : s1.heap.objs.size ≤ b := by
    rcases List.mem_cons.mp hb with z | z
    · rw [z]; exact Nat.le_succ _
    · rw [List.mem_singleton.mp z]; exact Nat.le_refl _
  exact I1.fpOk le (I1.hok.fresh le)
end Cy
end
section
set_option Elab.async false
set_option linter.all false
set_option maxRecDepth 100000
set_option maxHeartbeats 2000000
/-! Soundness, 7: ranges, enumerate, zip, reversed; targets. -/
namespace Cy
open PySem L2 PyProof.Rows
section
variable {C : Ct} {Φ : Nat → Fn} {k : Nat} {X : Cx}
theorem each_sl {own vw : List Nat} : ∀ {es : DEs} {xs : List Expr}, Each (SE C Φ X own vw) es xs → xs.all plainX = true → SL C Φ X own vw es xs
  | .nil, _, .nil, _ => sl_nil
  | .cons a es, _, .cons h t, hp => by
    simp only [List.all_cons, Bool.and_eq_true] at hp
    exact sl_cons hp.1 h (each_sl t hp.2)
theorem enumL_len : ∀ (n : Nat) (xs : List D), (enumL n xs).length = xs.length
  | _, [] => rfl
  | n, x :: xs => by simp [enumL, enumL_len (n + 1) xs]
theorem enumL_get : ∀ (n : Nat) (xs : List D) (i : Nat) (d : D), xs[i]? = some d → (enumL n xs)[i]? = some (.tup [.int ((n + i : Nat) : Int), d])
  | _, [], _, _, h => by simp at h
  | n, x :: xs, 0, d, h => by
    simp at h; subst h; simp [enumL]
  | n, x :: xs, i + 1, d, h => by
    have := enumL_get (n + 1) xs i d (by simpa using h)
    simp only [enumL, List.getElem?_cons_succ, this]
    have e : n + 1 + i = n + (i + 1) := by omega
    rw [e]
theorem zipL_len : ∀ (xs ys : List D), (zipL xs ys).length = min xs.length ys.length
  | [], _ => by simp [zipL]
  | _ :: _, [] => by simp [zipL]
  | x :: xs, y :: ys => by
    simp only [zipL, List.length_cons, zipL_len xs ys]
    omega
theorem zipL_get : ∀ (xs ys : List D) (i : Nat) (d e : D), xs[i]? = some d → ys[i]? = some e → (zipL xs ys)[i]? = some (.tup [d, e])
  | [], _, _, _, _, h, _ => by simp at h
  | _ :: _, [], _, _, _, _, h => by simp at h
  | x :: xs, y :: ys, 0, d, e, h, h2 => by
    simp at h h2; subst h h2; simp [zipL]
  | x :: xs, y :: ys, i + 1, d, e, h, h2 => by
    have := zipL_get xs ys i d e (by simpa using h) (by simpa using h2)
    simpa [zipL] using this
theorem pair_rep {K : PySem.W.Frag} {H : Hp} {n : Addr} {v w : V} {d e : D} {A B : List Addr} (hn : H n = none) (r : Rep K H v d A) (q : Rep K H w e B) : Rep K (upd H n (.tup [v, w])) (.ref n) (.tup [d, e]) (A ++ B) := by
  have h := (Reps.cons r (Reps.one q)).mono (same_new (o := .tup [v, w]) hn)
  exact .tup (SqT.of upd_same) h
theorem si_enu {own vw : List Nat} {a : DE} {x : Expr} {elts : List Expr} {kk : Nat} {tp p pos : Pos} {sc : Scope} (hX : X.env.scope = sc) (F : Fx C Φ k X) (hg : gloOk C sc "enumerate" = true) (hp : plainX x = true) (ha : SE C Φ X own vw a x) :
    SI C Φ X own vw (.enu a) (.Tuple elts kk tp) (.Call (.Name "enumerate" p) [x] [] pos) := by
  intro Z P σ H env As xs env' S e R q
  obtain ⟨g1, g2, g3, g4⟩ := gloOk_eq hg
  have hgl : Gl X "enumerate" := by show X.env.scope.names.lookup _ = _; rw [hX]; exact g1
  simp only [evI] at e
  obtain ⟨d0, e0, h1, h2⟩ := bd_inv e
  split at h2
  · rename_i ds
    simp only [Option.some.injEq, Rs.ok.injEq] at h2
    obtain ⟨rfl, rfl⟩ := h2
    refine (pi_enum hgl (F.bn _ g2) (pa_cons Cy.we pa_nil (plain_star hp)) (plain_star hp)).we ?_
    refine ha Z P σ H env As _ _ S h1 _ fun v1 H1 A1 As1 S1 T1 r1 E1 => ?_
    have m1 := r1.mut
    cases r1 with
    | @lst p vs ds A h r =>
      refine ⟨_, vs, rfl, SqL.of h, q _ H1 _ As1 S1 T1 ?_ m1 E1.orr⟩
      unfold ItOk
      rw [enumL_len, ← r.length]
      refine walk_enum.mono (fun H g => SqL.of (g.2 _ (List.mem_cons_self ..) _ h)) fun i H w H' hi g y => ?_
      obtain ⟨n, v, v2, rfl, hn, rfl, hv, hv2⟩ := y
      simp only [Option.some.injEq] at hv
      subst hv
      have hd : i < ds.length := by rw [← r.length]; exact hi
      obtain ⟨v', B, h1, h2, h3⟩ := r.get (i := i) (List.getElem?_eq_getElem hd)
      have hv2 : vs[i]? = some v2 := hv2
      rw [hv2] at h1
      simp only [Option.some.injEq] at h1
      subst h1
      refine ⟨same_new hn, _, [] ++ B, enumL_get 0 ds i _ (List.getElem?_eq_getElem hd), ?_, (h3.trans (List.sublist_cons_self _ _))⟩
      rw [Nat.zero_add]
      exact pair_rep hn (.int _) (h2.kept g fun a ha => List.mem_cons_of_mem _ (h3.subset ha))
  · rename_i ds
    simp only [Option.some.injEq, Rs.ok.injEq] at h2
    obtain ⟨rfl, rfl⟩ := h2
    refine (pi_enT hgl (F.bn _ g2) (pa_cons Cy.we pa_nil (plain_star hp)) (plain_star hp)).we ?_
    refine ha Z P σ H env As _ _ S h1 _ fun v1 H1 A1 As1 S1 T1 r1 E1 => ?_
    have m1 := r1.mut
    cases r1 with
    | @tup p vs ds A h r =>
      refine ⟨_, vs, rfl, h, q _ H1 _ As1 S1 T1 ?_ m1 E1.orr⟩
      unfold ItOk
      rw [enumL_len, ← r.length]
      refine ⟨fun i H hi g => ⟨vs, vs[i], SqT.keep g.1 h, by simp [hi]⟩, fun H g => ⟨vs, SqT.keep g.1 h, Nat.le_refl _⟩, fun i H w H' hi g y => ?_⟩
      obtain ⟨n, v2, rfl, hn, rfl, hv2⟩ := y
      have hv2 := hv2 vs (SqT.keep g.1 h)
      have hd : i < ds.length := by rw [← r.length]; exact hi
      obtain ⟨v', B, h1, h2, h3⟩ := r.get (i := i) (List.getElem?_eq_getElem hd)
      rw [hv2] at h1
      simp only [Option.some.injEq] at h1
      subst h1
      refine ⟨same_new hn, _, [] ++ B, enumL_get 0 ds i _ (List.getElem?_eq_getElem hd), ?_, h3⟩
      rw [Nat.zero_add]
      exact pair_rep hn (.int _) (h2.kept g fun a ha => h3.subset ha)
  · cases h2
theorem si_zip {own vw : List Nat} {es : DEs} {x y : Expr} {elts : List Expr} {kk : Nat} {tp p pos : Pos} {sc : Scope} (hX : X.env.scope = sc) (F : Fx C Φ k X) (hg : gloOk C sc "zip" = true) (hp : [x, y].all plainX = true) (hl : SL C Φ X own vw es [x, y]) :
    SI C Φ X own vw (.zip es) (.Tuple elts kk tp) (.Call (.Name "zip" p) [x, y] [] pos) := by
  intro Z P σ H env As xs env' S e R q
  obtain ⟨g1, g2, g3, g4⟩ := gloOk_eq hg
  have hgl : Gl X "zip" := by show X.env.scope.names.lookup _ = _; rw [hX]; exact g1
  simp only [List.all_cons, Bool.and_eq_true] at hp
  simp only [evI] at e
  obtain ⟨ds, e0, h1, h2⟩ := bd_inv e
  split at h2
  · rename_i as bs
    simp only [Option.some.injEq, Rs.ok.injEq] at h2
    obtain ⟨rfl, rfl⟩ := h2
    refine (pi_zip hgl (F.bn _ g2) Cy.wa (plain_star hp.1) (plain_any (by simpa using hp.2.1))).we ?_
    refine hl Z P σ H env As _ _ S h1 _ fun vs H1 A As1 S1 T1 r E => ?_
    have m1 := r.mut
    obtain ⟨v, w, B, D, rfl, rfl, r1, r2⟩ := two_reps r
    cases r1 with
    | @lst p1 vs1 ds1 A1 h1 r1 =>
      cases r2 with
      | @lst p2 vs2 ds2 A2 h2 r2 =>
        refine ⟨_, _, vs1, vs2, rfl, SqL.of h1, SqL.of h2, q _ H1 _ As1 S1 T1 ?_ m1 E⟩
        unfold ItOk
        rw [zipL_len, ← r1.length, ← r2.length]
        refine (walk_zip rfl).mono (fun H g => ⟨SqL.of (g.2 _ (by simp) _ h1), SqL.of (g.2 _ (by simp) _ h2)⟩) fun i H w H' hi g y => ?_
        obtain ⟨n, v1, v2, rfl, hn, rfl, hv1, hv2⟩ := y
        have hd1 : i < as.length := by rw [← r1.length]; omega
        have hd2 : i < bs.length := by rw [← r2.length]; omega
        obtain ⟨v', B1, k1, k2, k3⟩ := r1.get (i := i) (List.getElem?_eq_getElem hd1)
        obtain ⟨w', B2, k4, k5, k6⟩ := r2.get (i := i) (List.getElem?_eq_getElem hd2)
        have hv1 : vs1[i]? = some v1 := hv1
        have hv2 : vs2[i]? = some v2 := hv2
        rw [hv1] at k1
        rw [hv2] at k4
        simp only [Option.some.injEq] at k1 k4
        subst k1 k4
        refine ⟨same_new hn, _, B1 ++ B2, zipL_get as bs i _ _ (List.getElem?_eq_getElem hd1) (List.getElem?_eq_getElem hd2), pair_rep hn (k2.kept g fun a ha => ?_) (k5.kept g fun a ha => ?_), ?_⟩
        · exact List.mem_append_left _ (List.mem_cons_of_mem _ (k3.subset ha))
        · exact List.mem_append_right _ (List.mem_cons_of_mem _ (k6.subset ha))
        · exact List.Sublist.append (k3.trans (List.sublist_cons_self _ _)) (k6.trans (List.sublist_cons_self _ _))
  · cases h2
theorem si_rev {own vw : List Nat} {a : DE} {tg x : Expr} {p pos : Pos} {sc : Scope} (hX : X.env.scope = sc) (F : Fx C Φ k X) (hg : gloOk C sc "reversed" = true) (hp : plainX x = true) (ha : SE C Φ X own vw a x) :
    SI C Φ X own vw (.rev a) tg (.Call (.Name "reversed" p) [x] [] pos) := by
  intro Z P σ H env As xs env' S e R q
  obtain ⟨g1, g2, g3, g4⟩ := gloOk_eq hg
  have hgl : Gl X "reversed" := by show X.env.scope.names.lookup _ = _; rw [hX]; exact g1
  simp only [evI] at e
  obtain ⟨d0, e0, h1, h2⟩ := bd_inv e
  split at h2
  · rename_i ds
    simp only [Option.some.injEq, Rs.ok.injEq] at h2
    obtain ⟨rfl, rfl⟩ := h2
    refine (pi_reversed hgl (F.bn _ g2) (pa_cons Cy.we pa_nil (plain_star hp)) (plain_star hp)).we ?_
    refine ha Z P σ H env As _ _ S h1 _ fun v1 H1 A1 As1 S1 T1 r1 E1 => ?_
    have m1 := r1.mut
    cases r1 with
    | @lst p vs ds A h r =>
      refine ⟨_, vs, rfl, SqL.of h, q _ H1 _ As1 S1 T1 ?_ m1 E1.orr⟩
      unfold ItOk
      rw [List.length_reverse, ← r.length]
      refine walk_rev.mono (fun H g => SqL.of (g.2 _ (List.mem_cons_self ..) _ h)) fun i H w H' hi g y => ?_
      obtain ⟨rfl, hw⟩ := y
      have hd : vs.length - 1 - i < ds.length := by rw [← r.length]; omega
      obtain ⟨v', B, h1, h2, h3⟩ := r.get (i := vs.length - 1 - i) (List.getElem?_eq_getElem hd)
      rw [hw] at h1
      simp only [Option.some.injEq] at h1
      subst h1
      refine ⟨Same.refl _, _, B, ?_, h2.kept g fun a ha => List.mem_cons_of_mem _ (h3.subset ha), h3.trans (List.sublist_cons_self _ _)⟩
      rw [List.getElem?_reverse (by rw [← r.length]; exact hi)]
      have e1 : ds.length - 1 - i = vs.length - 1 - i := by rw [r.length]
      rw [e1]
      exact List.getElem?_eq_getElem hd
  · cases h2
theorem rangeN_len (a b : Int) : (rangeN a b).length = (a - b).toNat := by unfold rangeN; rw [List.length_map, List.length_range]
theorem evL_cons_inv {a : DE} {es : DEs} {env e2 : En} {ds : List D} (h : evL Φ (.cons a es) env = some (.ok ds e2)) : ∃ d ds' e1, ds = d :: ds' ∧ evL Φ es e1 = some (.ok ds' e2) := by
  simp only [evL] at h
  obtain ⟨d0, e0, h3, h4⟩ := bd_inv h
  obtain ⟨_, h4⟩ := gd_inv h4
  obtain ⟨dd, e9, h5, h6⟩ := bd_inv h4
  simp only [Option.some.injEq, Rs.ok.injEq] at h6
  obtain ⟨rfl, rfl⟩ := h6
  exact ⟨d0, dd, _, rfl, h5⟩
theorem evL_nil_inv {env e2 : En} {ds : List D} (h : evL Φ .nil env = some (.ok ds e2)) : ds = [] := by
  simp only [evL, Option.some.injEq, Rs.ok.injEq] at h
  exact h.1.symm
theorem si_rng {own vw : List Nat} {es : DEs} {tg : Expr} {xs : List Expr} {p pos : Pos} {sc : Scope} (hX : X.env.scope = sc) (F : Fx C Φ k X) (hg : gloOk C sc "range" = true) (he : Each (SE C Φ X own vw) es xs) (hp : xs.all plainX = true) :
    SI C Φ X own vw (.rng es) tg (.Call (.Name "range" p) xs [] pos) := by
  intro Z P σ H env As items env' S e R q
  obtain ⟨g1, g2, g3, g4⟩ := gloOk_eq hg
  have hgl : Gl X "range" := by show X.env.scope.names.lookup _ = _; rw [hX]; exact g1
  have hl := each_sl he hp
  simp only [evI] at e
  obtain ⟨ds, e0, h1, h2⟩ := bd_inv e
  obtain ⟨h3, rfl⟩ := lf_inv h2
  simp only [Option.map_eq_some_iff] at h3
  obtain ⟨ns, h3, rfl⟩ := h3
  cases he with
  | nil =>
    rw [evL_nil_inv h1] at h3
    simp [rngD] at h3
  | @cons a es x xs k1 t1 =>
    obtain ⟨d1, ds1, f1, rfl, h4⟩ := evL_cons_inv h1
    simp only [List.all_cons, Bool.and_eq_true] at hp
    cases t1 with
    | nil =>
      obtain rfl := evL_nil_inv h4
      refine (pi_range1 hgl (F.bn _ g2) Cy.wa (plain_star hp.1)).we ?_
      refine hl Z P σ H env As _ _ S h1 _ fun vs H1 A As1 S1 T1 r E => ?_
      obtain ⟨v, rfl, r1⟩ := r.one_inv
      cases d1 <;> simp only [rngD, reduceCtorEq] at h3
      rename_i b
      cases r1
      split at h3
      · rename_i hz
        simp only [Option.some.injEq] at h3
        subst h3
        have io := itok_range (K := X.K) (H1 := H1) 0 b
        rw [Int.sub_zero] at io
        exact ⟨b, rfl, by omega, by omega, q _ H1 [] As1 S1 T1 io (fun a h => nomatch h) EF.pure⟩
      · cases h3
    | @cons a2 es2 x2 xs2 k2 t2 =>
      obtain ⟨d2, ds2, f2, rfl, h5⟩ := evL_cons_inv h4
      simp only [List.all_cons, Bool.and_eq_true] at hp
      cases t2 with
      | nil =>
        obtain rfl := evL_nil_inv h5
        refine (pi_range2 hgl (F.bn _ g2) Cy.wa (by rw [plain_star hp.1, plain_star hp.2.1]; rfl) (plain_star hp.2.1)).we ?_
        refine hl Z P σ H env As _ _ S h1 _ fun vs H1 A As1 S1 T1 r E => ?_
        obtain ⟨v, w, B, Dd, rfl, rfl, r1, r2⟩ := two_reps r
        cases d1 <;> cases d2 <;> simp only [rngD, reduceCtorEq] at h3
        rename_i a0 b
        cases r1
        cases r2
        split at h3
        · rename_i hz
          simp only [Option.some.injEq] at h3
          subst h3
          exact ⟨a0, b, rfl, ⟨by omega, by omega, by omega, by omega⟩, q _ H1 [] As1 S1 T1 (itok_range a0 b) (fun a h => nomatch h) EF.pure⟩
        · cases h3
      | @cons a3 es3 x3 xs3 k3 t3 =>
        obtain ⟨d3, ds3, f3, rfl, h6⟩ := evL_cons_inv h5
        simp only [List.all_cons, Bool.and_eq_true] at hp
        cases t3 with
        | nil =>
          obtain rfl := evL_nil_inv h6
          refine (pi_range3 hgl (F.bn _ g2) Cy.wa (plain_star hp.1) (plain_any (by simp only [List.all_cons, List.all_nil, Bool.and_true, Bool.and_eq_true]; exact ⟨hp.2.1, hp.2.2.1⟩))).we ?_
          refine hl Z P σ H env As _ _ S h1 _ fun vs H1 A As1 S1 T1 r E => ?_
          cases r with
          | cons r1 r =>
            obtain ⟨v, w, B, Dd, rfl, rfl, r2, r3⟩ := two_reps r
            cases d1 <;> cases d2 <;> cases d3 <;> simp only [rngD, reduceCtorEq] at h3
            rename_i a0 b c
            cases r1
            cases r2
            cases r3
            split at h3
            · rename_i hz
              obtain ⟨z1, z2, rfl⟩ := hz
              simp only [Option.some.injEq] at h3
              subst h3
              refine ⟨a0, b, -1, (a0 - b).toNat, rfl, RgC.neg (by omega) (by omega) (by omega) (by omega), q _ H1 [] As1 S1 T1 ?_ (fun a h => nomatch h) EF.pure⟩
              unfold ItOk
              rw [List.length_map, rangeN_len]
              refine walk_rangeC.mono (fun H g => trivial) fun i H x H' hi g y => ?_
              obtain ⟨rfl, rfl⟩ := y
              refine ⟨Same.refl _, .int (a0 - i), [], ?_, ?_, List.Sublist.refl _⟩
              · unfold rangeN
                simp [hi]
              · have e1 : a0 + (i : Nat) * (-1 : Int) = a0 - (i : Int) := by omega
                dsimp only
                rw [e1]; exact .int _
            · cases h3
        | cons k4 t4 =>
          obtain ⟨d4, ds4, f4, rfl, h7⟩ := evL_cons_inv h6
          simp [rngD] at h3
theorem si_rrg {own vw : List Nat} {es : DEs} {tg : Expr} {xs : List Expr} {p p2 pos pos2 : Pos} {sc : Scope} (hX : X.env.scope = sc) (F : Fx C Φ k X) (hg : gloOk C sc "reversed" = true) (hg2 : gloOk C sc "range" = true) (he : Each (SE C Φ X own vw) es xs) (hp : xs.all plainX = true) (hlen : xs.length ≤ 2) (hne : xs ≠ []) :
    SI C Φ X own vw (.rrg es) tg (.Call (.Name "reversed" p) [.Call (.Name "range" p2) xs [] pos2] [] pos) := by
  intro Z P σ H env As items env' S e R q
  obtain ⟨g1, g2, g3, g4⟩ := gloOk_eq hg
  have hgl : Gl X "reversed" := by show X.env.scope.names.lookup _ = _; rw [hX]; exact g1
  simp only [evI] at e
  obtain ⟨ds, e0, h1, h2⟩ := bd_inv e
  have h2 : lf ((rngD ds).map fun ns => (ns.map D.int).reverse) e0 = some (.ok items env') := by
    split at h2
    · exact h2
    · exact h2
    · cases h2
  obtain ⟨h3, rfl⟩ := lf_inv h2
  simp only [Option.map_eq_some_iff] at h3
  obtain ⟨ns, h3, rfl⟩ := h3
  obtain ⟨t, ht, hq⟩ := rg_core (p := p2) (pos := pos2) hX F hg2 he hp hlen hne S h1 h3
  refine (pi_revR hgl (F.bn _ g2) ht (plain_star rfl)).we ?_
  refine hq _ fun a b H1 As1 en ha hb S1 T1 => ⟨by omega, by omega, by omega, by omega, q _ H1 [] As1 S1 T1 ?_ (fun a h => nomatch h) EF.pure⟩
  unfold ItOk
  rw [List.length_reverse, List.length_map, en, rangeL_len]
  refine walk_rangeC.mono (fun H g => trivial) fun i H x H' hi g y => ?_
  obtain ⟨rfl, rfl⟩ := y
  refine ⟨Same.refl _, .int (a + ((b - a).toNat : Nat) - 1 - i), [], ?_, ?_, List.Sublist.refl _⟩
  · rw [List.getElem?_reverse (by rw [List.length_map, rangeL_len]; exact hi), List.length_map, rangeL_len]
    unfold rangeL
    rw [List.getElem?_map, List.getElem?_map, List.getElem?_range (by omega)]
    simp only [Option.map_some, Option.some.injEq, D.int.injEq]
    omega
  · have e1 : a + (((b - a).toNat : Nat) : Int) - 1 + (i : Nat) * (-1 : Int) = a + ((b - a).toNat : Nat) - 1 - (i : Int) := by omega
    dsimp only
    rw [e1]; exact .int _
end
end Cy
end
section
set_option Elab.async false
set_option linter.all false
set_option maxRecDepth 100000
set_option maxHeartbeats 2000000
/-! Soundness, 8: targets, comprehensions. -/
namespace Cy
open PySem L2 PyProof.Rows
mutual
def gT (K : PySem.W.Frag) : Tg → TG
  | .n i => gName i
  | .t ts => gTup K ts.length (gTs K ts)
def gTs (K : PySem.W.Frag) : List Tg → TGs
  | [] => gNil
  | t :: ts => gCons (gT K t) (gTs K ts)
end
/-- which names may be stored here -/
def StOk (X : Cx) (st : Scope) : Prop := ∀ x, locB st x = true → Loc X.env.scope x ∧ (X.fn x = true ∨ X.env.scope.names.lookup x = some .local)
theorem asg_all {env : PySem.Env} : ∀ {es : List Expr}, es.all plainX = true → (assignEach es env).length = es.length ∧ (assignEach es env).findIdx? (·.1) = none
  | [], _ => ⟨rfl, rfl⟩
  | e :: es, h => by
    simp only [List.all_cons, Bool.and_eq_true] at h
    rw [plain_asg h.1]
    obtain ⟨a, b⟩ := asg_all (env := env) h.2
    refine ⟨by rw [List.length_cons, List.length_cons, a], ?_⟩
    rw [List.findIdx?_cons]
    simp [b]
section
variable {C : Ct} {Φ : Nat → Fn} {k : Nat} {X : Cx}
mutual
theorem pgT {st : Scope} (F : Fx C Φ k X) (hs : StOk X st) : ∀ {t : Tg} {e : Expr}, mT C st t e = true → PG X e (gT X.K t)
  | .n i, e, h => by
    simp only [mT] at h
    split at h
    · rename_i x hx
      obtain ⟨p, rfl⟩ := asName_eq hx
      simp only [Bool.and_eq_true] at h
      obtain ⟨a, b⟩ := hs x h.2
      simp only [gT]
      exact pg_name (by rw [F.nN]; exact F.nd) (by rw [F.nN]; exact nameAt_eq h.1) a b
    · cases h
  | .t ts, e, h => by
    simp only [mT] at h
    split at h
    · rename_i es hx
      obtain ⟨j, p, rfl⟩ := asTup_eq hx
      simp only [Bool.and_eq_true, decide_eq_true_eq] at h
      obtain ⟨g, hp⟩ := pgTs F hs h.1
      obtain ⟨a, b⟩ := asg_all (env := X.env) hp
      simp only [gT]
      exact pg_tup F.calm g (by rw [a, h.2]) b
    · cases h
theorem pgTs {st : Scope} (F : Fx C Φ k X) (hs : StOk X st) : ∀ {ts : List Tg} {es : List Expr}, mTs C st ts es = true → PGs X es (gTs X.K ts) ∧ es.all plainX = true
  | [], [], _ => by
    simp only [gTs]
    exact ⟨pgs_nil, rfl⟩
  | [], _ :: _, h => by simp [mTs] at h
  | _ :: _, [], h => by simp [mTs] at h
  | t :: ts, e :: es, h => by
    simp only [mTs, Bool.and_eq_true] at h
    obtain ⟨g, hp⟩ := pgTs F hs h.2
    simp only [gTs]
    refine ⟨pgs_cons (pgT F hs h.1.1) g (by rw [plain_asg h.1.2]; rfl), ?_⟩
    simp only [List.all_cons, Bool.and_eq_true]
    exact ⟨h.1.2, hp⟩
end
structure BR (K : PySem.W.Frag) (H : Hp) (ts : List Nat) (A : List Addr) (σ σ' : L2.St) (env env' : En) (B : Asg) : Prop where
  len : σ'.length = σ.length
  lenE : env'.length = env.length
  out : ∀ i, i ∉ ts → σ'[i]? = σ[i]? ∧ env'[i]? = env[i]?
  inn : ∀ i ∈ ts, ∃ v d, σ'[i]? = some (some v) ∧ env'[i]? = some (some d) ∧ Rep K H v d (B i)
  sub : ∀ i ∈ ts, ∀ a ∈ B i, a ∈ A
  nd : A.Nodup → (∀ i ∈ ts, (B i).Nodup) ∧ ∀ i ∈ ts, ∀ j ∈ ts, i ≠ j → ∀ a ∈ B i, a ∉ B j
mutual
theorem bind_ok {K : PySem.W.Frag} {H : Hp} : ∀ {tg : Tg} {v : V} {d : D} {A : List Addr} {σ : L2.St} {env env' : En} (r : Rep K H v d A) (hb : bindT tg d env = some env') (hl : σ.length = env.length) (hn : (tgs tg).Nodup) (hi : ∀ i ∈ tgs tg, i < env.length)
    {Q : L2.St → Hp → Prop}, (∀ σ' B, BR K H (tgs tg) A σ σ' env env' B → Q σ' H) → gT K tg v σ H Q
  | .n i, v, d, A, σ, env, env', r, hb, hl, hn, hi, Q, q => by
    simp only [bindT, Option.some.injEq] at hb
    subst hb
    simp only [gT]
    have hlt := hi i (by simp [tgs])
    refine q _ (fun _ => A) ⟨List.length_set .., List.length_set .., fun j hj => ?_, fun j hj => ?_, fun _ _ a ha => ha, fun h => ⟨fun _ _ => h, fun a ha b hb hne => ?_⟩⟩
    · have : i ≠ j := fun z => hj (by simp [tgs, z])
      exact ⟨List.getElem?_set_ne this, List.getElem?_set_ne this⟩
    · have : j = i := by simpa [tgs] using hj
      subst this
      exact ⟨v, d, List.getElem?_set_self (by rw [hl]; exact hlt), List.getElem?_set_self hlt, r⟩
    · have e1 : a = i := by simpa [tgs] using ha
      have e2 : b = i := by simpa [tgs] using hb
      exact absurd (e1.trans e2.symm) hne
  | .t ts, v, d, A, σ, env, env', r, hb, hl, hn, hi, Q, q => by
    cases r with
    | @tup p vs ds A h1 r =>
      simp only [bindT] at hb
      simp only [gT]
      have hlen : vs.length = ts.length := by
        rw [r.length]
        exact (bindTs_len hb).symm
      exact ⟨_, _, rfl, h1, hlen, binds_ok r hb hl (by simpa [tgs] using hn) (by simpa [tgs] using hi) (by simpa [tgs] using q)⟩
    | _ => simp [bindT] at hb
theorem bindTs_len : ∀ {ts : List Tg} {ds : List D} {env env' : En}, bindTs ts ds env = some env' → ts.length = ds.length
  | [], [], _, _, _ => rfl
  | [], _ :: _, _, _, h => by simp [bindTs] at h
  | _ :: _, [], _, _, h => by simp [bindTs] at h
  | t :: ts, d :: ds, env, env', h => by
    simp only [bindTs, Option.bind_eq_some_iff] at h
    obtain ⟨e1, _, h2⟩ := h
    rw [List.length_cons, List.length_cons, bindTs_len h2]
theorem binds_ok {K : PySem.W.Frag} {H : Hp} : ∀ {ts : List Tg} {vs : List V} {ds : List D} {A : List Addr} {σ : L2.St} {env env' : En} (r : Reps K H vs ds A) (hb : bindTs ts ds env = some env') (hl : σ.length = env.length) (hn : (tgsL ts).Nodup) (hi : ∀ i ∈ tgsL ts, i < env.length)
    {Q : L2.St → Hp → Prop}, (∀ σ' B, BR K H (tgsL ts) A σ σ' env env' B → Q σ' H) → gTs K ts vs σ H Q
  | [], _, _, A, σ, env, env', r, hb, hl, hn, hi, Q, q => by
    cases r with
    | nil =>
      simp only [bindTs, Option.some.injEq] at hb
      subst hb
      simp only [gTs]
      refine ⟨rfl, q σ (fun _ => []) ⟨rfl, rfl, fun _ _ => ⟨rfl, rfl⟩, (fun i h => by cases h), (fun i h => by cases h), fun _ => ⟨(fun i h => by cases h), (fun i h => by cases h)⟩⟩⟩
    | cons _ _ => simp [bindTs] at hb
  | t :: ts, _, _, A, σ, env, env', r, hb, hl, hn, hi, Q, q => by
    cases r with
    | nil => simp [bindTs] at hb
    | @cons v vs d ds A1 A2 r1 r2 =>
      simp only [bindTs, Option.bind_eq_some_iff] at hb
      obtain ⟨e1, hb1, hb2⟩ := hb
      simp only [tgsL] at hn hi q
      obtain ⟨n1, n2, n3⟩ := List.nodup_append.mp hn
      simp only [gTs]
      refine ⟨v, vs, rfl, bind_ok r1 hb1 hl n1 (fun i h => hi i (List.mem_append_left _ h)) fun σ1 B1 b1 => ?_⟩
      refine binds_ok r2 hb2 (by rw [b1.len, b1.lenE, hl]) n2 (fun i h => by rw [b1.lenE]; exact hi i (List.mem_append_right _ h)) fun σ2 B2 b2 => ?_
      have apart : ∀ i, i ∈ tgs t → i ∉ tgsL ts := fun i h1 h2 => n3 i h1 i h2 rfl
      refine q σ2 (fun i => if i ∈ tgs t then B1 i else B2 i) ⟨b2.len.trans b1.len, b2.lenE.trans b1.lenE, fun i h => ?_, fun i h => ?_, fun i h a ha => ?_, fun hA => ⟨fun i h => ?_, fun i hi' j hj hne a ha hb' => ?_⟩⟩
      · simp only [List.mem_append, not_or] at h
        obtain ⟨x1, x2⟩ := b1.out i h.1
        obtain ⟨y1, y2⟩ := b2.out i h.2
        exact ⟨y1.trans x1, y2.trans x2⟩
      · by_cases h1 : i ∈ tgs t
        · obtain ⟨v', d', g1, g2, g3⟩ := b1.inn i h1
          obtain ⟨y1, y2⟩ := b2.out i (apart i h1)
          rw [if_pos h1]
          exact ⟨v', d', y1.trans g1, y2.trans g2, g3⟩
        · rw [if_neg h1]
          exact b2.inn i ((List.mem_append.mp h).resolve_left h1)
      · try dsimp only at ha
        by_cases h1 : i ∈ tgs t
        · rw [if_pos h1] at ha; exact List.mem_append_left _ (b1.sub i h1 a ha)
        · rw [if_neg h1] at ha; exact List.mem_append_right _ (b2.sub i ((List.mem_append.mp h).resolve_left h1) a ha)
      · obtain ⟨a1, a2, a3⟩ := List.nodup_append.mp hA
        try dsimp only
        by_cases h1 : i ∈ tgs t
        · rw [if_pos h1]; exact (b1.nd a1).1 i h1
        · rw [if_neg h1]; exact (b2.nd a2).1 i ((List.mem_append.mp h).resolve_left h1)
      · try dsimp only at ha hb'
        obtain ⟨a1, a2, a3⟩ := List.nodup_append.mp hA
        by_cases h1 : i ∈ tgs t
        · rw [if_pos h1] at ha
          by_cases h2 : j ∈ tgs t
          · rw [if_pos h2] at hb'; exact (b1.nd a1).2 i h1 j h2 hne a ha hb'
          · rw [if_neg h2] at hb'
            exact a3 a (b1.sub i h1 a ha) a (b2.sub j ((List.mem_append.mp hj).resolve_left h2) a hb') rfl
        · rw [if_neg h1] at ha
          by_cases h2 : j ∈ tgs t
          · rw [if_pos h2] at hb'
            exact a3 a (b1.sub j h2 a hb') a (b2.sub i ((List.mem_append.mp hi').resolve_left h1) a ha) rfl
          · rw [if_neg h2] at hb'
            exact (b2.nd a2).2 i ((List.mem_append.mp hi').resolve_left h1) j ((List.mem_append.mp hj).resolve_left h2) hne a ha hb'
end
end
end Cy
end
section
set_option Elab.async false
set_option linter.all false
set_option maxRecDepth 100000
set_option maxHeartbeats 2000000
/-! Soundness, 9: comprehensions. -/
namespace Cy
open PySem L2 PyProof.Rows
/-- a block's context -/
def Blk (X : Cx) (scope : Scope) (X' : Cx) : Prop := ∃ (s : Shared) (H : Hp) (c : Addr) (cl : List (Str × Addr)) (fp : List Addr), X' = X.blk s H scope (compEnvC scope cl c X.env) fp
theorem Blk.scope {X X' : Cx} {sc : Scope} (h : Blk X sc X') : X'.env.scope = relS sc X.env.scope := by
  obtain ⟨s, H, c, cl, fp, rfl⟩ := h; rfl
theorem Blk.stok {X X' : Cx} {sc : Scope} (h : Blk X sc X') : StOk X' sc := by
  intro x hx
  have e := h.scope
  obtain ⟨s, H, c, cl, fp, rfl⟩ := h
  rcases locB_eq hx with z | z
  · have y := lookup_relS_keep (sc := X.env.scope) (by simp) z
    exact ⟨.inl (by rw [e]; exact y), .inr (by rw [e]; exact y)⟩
  · have y := lookup_relS_keep (sc := X.env.scope) (by simp) z
    refine ⟨.inr (by rw [e]; exact y), .inl ?_⟩
    show (sc.names.lookup x == some .cell) = true
    rw [z]; rfl
section
variable {C : Ct} {Φ : Nat → Fn} {k : Nat} {X : Cx}
theorem Fx.blk {X' : Cx} {sc : Scope} (F : Fx C Φ k X) (h : Blk X sc X') : Fx C Φ k X' ∧ X'.K = X.K ∧ X'.A = X.A := by
  obtain ⟨s, H, c, cl, fp, rfl⟩ := h
  refine ⟨⟨F.nN, F.nd, F.calm, F.room, fun f x sg h1 h2 => ?_, F.bn, F.gl⟩, rfl, rfl⟩
  obtain ⟨fa, fd, ps, q⟩ := F.calls f x sg h1 h2
  exact ⟨fa, fd, ps, q.mg, q.kp, q.bi, q.ok⟩
/-! slots wiped -/
theorem wipeE_length (σ : En) : ∀ vs : List Nat, (wipeE vs σ).length = σ.length
  | [] => rfl
  | v :: vs => by unfold wipeE; rw [List.length_set, wipeE_length σ vs]
theorem wipeE_some {σ : En} {i : Nat} {x : D} : ∀ {vs : List Nat}, (wipeE vs σ)[i]? = some (some x) → σ[i]? = some (some x) ∧ i ∉ vs
  | [], h => ⟨h, by simp⟩
  | v :: vs, h => by
    unfold wipeE at h
    by_cases hi : v = i
    · subst hi
      rw [List.getElem?_set] at h
      simp at h
    · rw [List.getElem?_set_ne hi] at h
      obtain ⟨h1, h2⟩ := wipeE_some h
      exact ⟨h1, by simp only [List.mem_cons, not_or]; exact ⟨fun e => hi e.symm, h2⟩⟩
theorem wipeE_out {σ : En} {i : Nat} : ∀ {vs : List Nat}, i ∉ vs → (wipeE vs σ)[i]? = σ[i]?
  | [], _ => rfl
  | v :: vs, h => by
    simp only [List.mem_cons, not_or] at h
    unfold wipeE
    rw [List.getElem?_set_ne (fun e => h.1 e.symm)]
    exact wipeE_out h.2
theorem wipe_in {σ : L2.St} {i : Nat} : ∀ {vs : List Nat}, i ∈ vs → (wipe σ vs)[i]? = if i < σ.length then some none else none
  | v :: vs, h => by
    unfold wipe
    by_cases e : v = i
    · subst e
      by_cases hl : v < σ.length
      · rw [List.getElem?_set_self (by rw [wipe_length]; exact hl), if_pos hl]
      · rw [if_neg hl, List.getElem?_eq_none (by rw [List.length_set, wipe_length]; omega)]
    · rw [List.getElem?_set_ne e]
      rcases List.mem_cons.mp h with z | z
      · exact absurd z.symm e
      · exact wipe_in z
theorem wipe_eq {σ σ2 : L2.St} {vs ts : List Nat} (hl : σ2.length = σ.length) (h : ∀ i, i ∉ ts → σ2[i]? = (wipe σ vs)[i]?) (hs : ∀ i ∈ ts, i ∈ vs) : wipe σ2 vs = wipe σ vs := by
  refine List.ext_getElem? fun i => ?_
  by_cases hi : i ∈ vs
  · rw [wipe_in hi, wipe_in hi, hl]
  · rw [wipe_out hi, wipe_out hi, h i (fun z => hi (hs i z)), wipe_out hi]
/-- the block's state -/
theorem SR.blkIn {K : PySem.W.Frag} {n : Nat} {ow vw os : List Nat} {b : Bool} {tg : Tg} {Z P : Addr → Prop} {σ σ2 : L2.St} {H1 H : Hp} {env env2 : En} {As B : Asg} {A B0 : List Addr}
    (S : SR K n ow vw Z P σ H1 env As) (sm : Same H1 H) (R : BR K H (tgs tg) B0 (wipe σ os) σ2 (wipeE os env) env2 B) (hB : ∀ a ∈ B0, a ∈ A) (mA : ∀ a ∈ A, MutH H1 a) :
    SR K n [] (ow ++ vw ++ (if b = true then [] else tgs tg)) (fun a => Z a ∨ (b = true ∧ a ∈ A)) (fun a => P a ∨ (b = true ∧ a ∈ A)) σ2 H env2 (fun j => if j ∈ tgs tg then B j else if j ∈ os then [] else As j) where
  len := by rw [R.len, wipe_length, S.len]
  lenE := by rw [R.lenE, wipeE_length, S.lenE]
  rep := fun i d h => by
    by_cases ht : i ∈ tgs tg
    · obtain ⟨v, d', h1, h2, h3⟩ := R.inn i ht
      rw [h] at h2
      simp only [Option.some.injEq] at h2
      subst h2
      rw [if_pos ht]
      exact ⟨v, h1, h3⟩
    · obtain ⟨o1, o2⟩ := R.out i ht
      rw [o2] at h
      obtain ⟨h1, h2⟩ := wipeE_some h
      obtain ⟨v, h3, h4⟩ := S.rep i d h1
      rw [if_neg ht, if_neg h2]
      exact ⟨v, by rw [o1, wipe_out h2]; exact h3, h4.mono sm⟩
  non := fun i h => by
    by_cases ht : i ∈ tgs tg
    · obtain ⟨v, d', h1, h2, h3⟩ := R.inn i ht
      exact absurd h2 (h d')
    · rw [if_neg ht]
      by_cases ho : i ∈ os
      · rw [if_pos ho]
      · rw [if_neg ho]
        refine S.non i fun d z => h d ?_
        rw [(R.out i ht).2, wipeE_out ho]; exact z
  shr := fun i _ h2 a ha => by
    simp only [List.mem_append, not_or] at h2
    by_cases ht : i ∈ tgs tg
    · rw [if_pos ht] at ha
      cases hb : b with
      | true => exact .inr ⟨rfl, hB a (R.sub i ht a ha)⟩
      | false =>
        rw [hb] at h2
        exact absurd ht (by simpa using h2.2)
    · rw [if_neg ht] at ha
      split at ha
      · cases ha
      · exact .inl (S.shr i h2.1.1 h2.1.2 a ha)
  nod := fun i h => nomatch h
  noP := fun i h => nomatch h
  dis := fun i h => nomatch h
  zp := fun a h => h.imp (S.zp a) id
  ph := fun a h => by
    have up : H1 a ≠ none → H a ≠ none := fun z => by
      cases q : H1 a with
      | none => exact absurd q z
      | some o => rw [sm a o q]; simp
    rcases h with h | ⟨_, h⟩
    · exact up (S.ph a h)
    · obtain ⟨xs, q⟩ := mA a h
      exact up (by rw [q]; simp)
/-- a clause's tests: the weakest reading -/
def WTs (X : Cx) (ifs : List Expr) : TT := fun σ H Q => ∀ pins s, Inv X pins σ H s →
  wpAny (model X.prog X.w) X.A (forIn ifs true fun c r => if r = true then do let ok ← isTrue c X.env (eval c X.env); pure (ForInStep.yield ok) else pure (ForInStep.yield r)) (TP X pins σ Q) X.xe s
theorem wts {ifs : List Expr} : PTs X ifs (WTs X ifs) := ⟨fun pins s σ H Q I h => h pins s I⟩
theorem _root_.L2.PTs.we {ifs : List Expr} {t : TT} {σ : L2.St} {H : Hp} {Q : Bool → Hp → Prop} (h : PTs X ifs t) (q : t σ H Q) : WTs X ifs σ H Q := fun pins s I => h.run pins s σ H Q I q
def STs (C : Ct) (Φ : Nat → Fn) (X : Cx) (own vw : List Nat) (ifs : DEs) (fs : List Expr) : Prop :=
  ∀ (Z P : Addr → Prop) (σ : L2.St) (H : Hp) (env : En) (As : Asg) (b : Bool) (env' : En), SR X.K C.N.length own vw Z P σ H env As → evTs Φ ifs env = some (.ok b env') →
    ∀ Q : Bool → Hp → Prop, (∀ H' As', SR X.K C.N.length own vw Z P σ H' env' As' → TR own (ioL ifs) H As H' As' → Q b H') → WTs X fs σ H Q
theorem sts_nil {own vw : List Nat} : STs C Φ X own vw .nil [] := by
  intro Z P σ H env As b env' S e Q q
  simp only [evTs, Option.some.injEq, Rs.ok.injEq] at e
  obtain ⟨rfl, rfl⟩ := e
  exact pts_nil.we (q H As S TR.refl)
theorem sts_one {own vw : List Nat} {a : DE} {x : Expr} (h : SB C Φ X own vw (ioE a) (ev Φ a) (WT X x)) : STs C Φ X own vw (.cons a .nil) [x] := by
  intro Z P σ H env As b env' S e Q q
  simp only [evTs] at e
  obtain ⟨y, e1, h1, h2⟩ := bd_inv e
  refine (pts_one Cy.wt).we ?_
  have w : ∀ {H' : Hp} {As' : Asg}, TR own (ioE a) H As H' As' → TR own (ioL (.cons a .nil)) H As H' As' := fun t => t.weak fun z => by show (ioE a || false) = true; rw [z]; rfl
  split at h2
  · simp only [Option.some.injEq, Rs.ok.injEq] at h2
    obtain ⟨rfl, rfl⟩ := h2
    exact h Z P σ H env As _ _ S h1 _ fun H' As' S' T' => q H' As' S' (w T')
  · simp only [Option.some.injEq, Rs.ok.injEq] at h2
    obtain ⟨rfl, rfl⟩ := h2
    exact h Z P σ H env As _ _ S h1 _ fun H' As' S' T' => q H' As' S' (w T')
  · cases h2
theorem Sublist.mem' {A B : List Addr} (h : B.Sublist A) : ∀ a ∈ B, a ∈ A := fun a ha => h.subset ha
/-- what a comprehension's turns have made: acc at D, of the data ds, its lists Aa -/
structure Acc (K : PySem.W.Frag) (H1 : Hp) (Dn : Addr) (f s : Bool) (Zb : Addr → Prop) (Asb : Addr → Prop) (ds : List D) (H : Hp) : Prop where
  sm : Same H1 H
  ex : ∃ acc Aa, H Dn = some (.lst acc) ∧ Reps K H acc ds Aa ∧ Dn ∉ Aa ∧ (f = true → Aa.Nodup ∧ ∀ a ∈ Aa, H1 a = none) ∧ (s = true → ∀ a ∈ Aa, H1 a = none ∨ Zb a) ∧ ∀ a ∈ Aa, H1 a = none ∨ Asb a
theorem compL_len {bt : D → Option En} {tst : En → Option (Rs Bool)} {elt : En → Option (Rs D)} : ∀ {xs ds : List D}, compL bt tst elt xs = some ds → ds.length ≤ LMX
  | [], ds, h => by
    simp only [compL, Option.some.injEq] at h
    subst h; exact Nat.zero_le _
  | x :: xs, ds, h => by
    simp only [compL] at h
    split at h
    · cases h
    · split at h
      · split at h
        · simp only [Option.bind_eq_some_iff] at h
          obtain ⟨d3, h1, h2⟩ := h
          split at h2
          · rename_i hl
            simp only [Option.some.injEq] at h2
            subst h2
            exact hl
          · cases h2
        · cases h
      · exact compL_len h
      · cases h
/-- the tests and the item, in any block's context -/
def tts (X : Cx) (scope : Scope) (fs : List Expr) : TT := fun σ H Q => ∀ X', Blk X scope X' → WTs X' fs σ H Q
def tes (X : Cx) (scope : Scope) (x : Expr) : TE := fun σ H Q => ∀ X', Blk X scope X' → WE X' x σ H Q
theorem ownP_map (C : Ct) (os : List Nat) : (ownP C os).map (·.2) = os := by
  unfold ownP
  rw [List.map_map]
  exact List.map_id' os
theorem comp_core {own vw os : List Nat} {elt : DE} {tg : Tg} {it : DI} {ifs : DEs} {x t i : Expr} {fs : List Expr} {scope : Scope} {pos : Pos} (F : Fx C Φ k X)
    (hbl : blkC C.N X.env.scope scope (ownP C os) = true) (hmt : mT C scope tg t = true) (hts : ∀ j ∈ tgs tg, j ∈ os) (hnd : (tgs tg).Nodup) (hp : plainX i = true) (hio : ioE elt = false) (hil : ioL ifs = false)
    (hi : SI C Φ X own vw it t i)
    (hf : ∀ X', Blk X scope X' → STs C Φ X' [] (own ++ vw ++ (if shI C.sigs (own ++ vw) it = true then [] else tgs tg)) ifs fs)
    (he : ∀ X', Blk X scope X' → SE C Φ X' [] (own ++ vw ++ (if shI C.sigs (own ++ vw) it = true then [] else tgs tg)) elt x) {Z P : Addr → Prop} {σ : L2.St} {H : Hp} {env env' : En} {As : Asg} {d : D}
    (S : SR X.K C.N.length own vw Z P σ H env As) (e : ev Φ (.comp elt tg it ifs os) env = some (.ok d env')) {Q : VK}
    (q : ∀ v H' A As', SR X.K C.N.length own vw Z P σ H' env' As' → TR own (ioE (.comp elt tg it ifs os)) H As H' As' → Rep X.K H' v d A → EF own Z (frE C.sigs (.comp elt tg it ifs os)) (shE C.sigs (own ++ vw) (.comp elt tg it ifs os)) H As As' A → Q v H') :
    tLc (WI X t i) (gT X.K tg) (tts X scope fs) (tes X scope x) os σ H Q := by
  simp only [ev] at e
  obtain ⟨xs, e1, h1, h2⟩ := bd_inv e
  obtain ⟨h3, rfl⟩ := lf_inv h2
  simp only [Option.map_eq_some_iff] at h3
  obtain ⟨ds, h3, rfl⟩ := h3
  have hbo : BlkOk X.N X.env.scope scope (ownP C os) := by rw [F.nN]; exact blkOk_by hbl
  refine hi Z P σ H env As _ _ S h1 _ fun J H1 A As1 S1 T1 io mA E1 => ?_
  intro Dn hDn
  -- what stands at the end of turn j
  have hz := compL_len h3
  let sb := shI C.sigs (own ++ vw) it
  have smD : Same H1 (upd H1 Dn (.lst [])) := same_new hDn
  refine lc_it (g := gT X.K tg) (tt := tts X scope fs) (te := tes X scope x) (vs := os) (σ := σ) (H1 := H1) (D := Dn) (Qd := fun H => Q (.ref Dn) H) io (fun j Hj => ∃ d1 d2, ds = d1 ++ d2 ∧ compL (fun x => bindT tg x (wipeE os e1)) (fun e2 => evTs Φ ifs e2) (fun e2 => ev Φ elt e2) (xs.drop j) = some d2 ∧
      Acc X.K H1 Dn (frE C.sigs elt) (shE C.sigs (own ++ vw ++ (if sb = true then [] else tgs tg)) elt) (fun a => Z a ∨ (sb = true ∧ a ∈ A)) (fun a => a ∈ A ∨ ∃ i, a ∈ As1 i) d1 Hj) ?_ ?_ ?_ ?_
  · exact ⟨[], ds, rfl, by simpa using h3, smD, [], [], upd_same, .nil, (fun h => nomatch h), fun _ => ⟨List.nodup_nil, fun a h => nomatch h⟩, (fun _ a h => nomatch h), (fun a h => nomatch h)⟩
  · rintro j Hj hj ⟨d1, d2, _, _, ac⟩
    exact ⟨fun a o h _ => ac.sm a o h, fun a ha o h => ac.sm a o h⟩
  · rintro j v Hj Hj' hj ⟨d1, d2, ed, ec, ac⟩ ⟨sm2, dj, B0, hdj, rj, sB⟩
    have sm1 : Same H1 Hj' := fun a o h => sm2 a o (ac.sm a o h)
    have hdr : xs.drop j = dj :: xs.drop (j + 1) := by
      obtain ⟨hl, hg⟩ := List.getElem?_eq_some_iff.mp hdj
      rw [List.drop_eq_getElem_cons hl, hg]
    rw [hdr] at ec
    simp only [compL] at ec
    split at ec
    · cases ec
    rename_i e2 hbt
    refine bind_ok rj hbt (by rw [wipe_length, wipeE_length, S1.len, S1.lenE]) hnd (fun z hz => ?_) fun σ2 B R => ?_
    · rw [wipeE_length, S1.lenE]
      have hz2 := hts z hz
      have hix := hbo.ix (C.N.getD z "", z) (by unfold ownP; exact List.mem_map.mpr ⟨z, hz2, rfl⟩)
      rw [F.nN] at hix
      exact (List.getElem?_eq_some_iff.mp hix).1
    refine ⟨wipe_eq (by rw [R.len, wipe_length]) (fun i hi => (R.out i hi).1) hts, ?_⟩
    have S2 := S1.blkIn (b := sb) (A := A) sm1 R (fun a ha => sB.subset ha) mA
    -- the state does not depend on the block
    split at ec
    · rename_i e3 htt
      split at ec
      · rename_i dd e4 hee
        simp only [Option.bind_eq_some_iff] at ec
        obtain ⟨d3, ec, ez⟩ := ec
        split at ez
        rotate_left
        · cases ez
        rename_i hlen
        simp only [Option.some.injEq] at ez
        subst ez
        intro X' hX
        obtain ⟨FX, kk, aa⟩ := F.blk hX
        refine hf X' hX _ _ σ2 Hj' e2 _ true e3 (by rw [kk]; exact S2) htt _ fun H3 As3 S3 T3 => ?_
        rw [if_pos rfl]
        intro X2 hX2
        obtain ⟨FX2, kk2, aa2⟩ := F.blk hX2
        refine he X2 hX2 _ _ σ2 H3 e3 _ dd e4 (by rw [kk2, ← kk]; exact S3) hee _ fun w H4 A4 As4 S4 T4 r4 E4 => ?_
        rw [kk2] at r4
        have sm3 : Same Hj' H3 := fun a o h => T3.keep a o h fun z => by rw [hil] at z; cases z
        have sm4 : Same H3 H4 := fun a o h => T4.keep a o h fun z => by rw [hio] at z; cases z
        have smj : Same Hj H4 := fun a o h => sm4 a o (sm3 a o (sm2 a o h))
        have T34 := T3.trans T4 (io := true) (fun _ => rfl) (fun _ => rfl)
        obtain ⟨acc, Aa, hD, rA, nD, f1, f2, f3⟩ := ac.ex
        have hD4 := smj _ _ hD
        have bk : ∀ a, H3 a = none → H1 a = none := fun a h => by
          cases q : H1 a with
          | none => rfl
          | some o =>
            have := sm3 a o (sm1 a o q)
            rw [this] at h; cases h
        have nD4 : Dn ∉ A4 := fun c => by
          have E5 := (E4.back T3).2.2 Dn c
          rcases E5 with z | ⟨i, z⟩
          · rw [sm2 _ _ hD] at z; cases z
          · try dsimp only at z
            split at z
            · obtain ⟨ys, mz⟩ := mA Dn (sB.subset (R.sub i (by assumption) Dn z))
              rw [hDn] at mz; cases mz
            · split at z
              · cases z
              · by_cases hq : ∃ d, e1[i]? = some (some d)
                · obtain ⟨d, hq⟩ := hq
                  obtain ⟨v', _, r'⟩ := S1.rep i d hq
                  obtain ⟨ys, mz⟩ := r'.mut Dn z
                  rw [hDn] at mz; cases mz
                · rw [S1.non i (fun d z => hq ⟨d, z⟩)] at z; cases z
        have smU : ∀ a o, H4 a = some o → a ≠ Dn → (upd H4 Dn (.lst (acc ++ [w]))) a = some o := fun a o h n => by rw [upd_ne n]; exact h
        have r4' : Rep X.K (upd H4 Dn (.lst (acc ++ [w]))) w dd A4 := r4.keep (fun a o h n => smU a o h fun z => n acc (by rw [z, hD4] at h; exact (Option.some.inj h).symm)) fun a ha o h => smU a o h fun z => nD4 (z ▸ ha)
        have rA' : Reps X.K (upd H4 Dn (.lst (acc ++ [w]))) acc d1 Aa := (rA.mono smj).keep (fun a o h n => smU a o h fun z => n acc (by rw [z, hD4] at h; exact (Option.some.inj h).symm)) fun a ha o h => smU a o h fun z => nD (z ▸ ha)
        have mAa : ∀ a ∈ Aa, MutH Hj a := fun a ha => rA.mut a ha
        refine ⟨acc, hD4, ?_, d1 ++ [dd], d3, by rw [ed, List.append_assoc]; rfl, ec, ?_, acc ++ [w], Aa ++ A4, upd_same, rA'.append (Reps.one r4'), ?_, fun h => ?_, fun h a ha => ?_, fun a ha => ?_⟩
        · rw [rA.length]
          refine line_ltLMX (Nat.lt_of_lt_of_le ?_ hz)
          rw [ed, List.length_append, List.length_cons]; omega
        · intro a o h
          have z := smj a o (ac.sm a o h)
          by_cases c : a = Dn
          · subst c; rw [hDn] at h; cases h
          · rw [upd_ne c]; exact z
        · simp only [List.mem_append, not_or]; exact ⟨nD, nD4⟩
        · obtain ⟨n1, g1⟩ := f1 h
          obtain ⟨n2, g2⟩ := E4.1 h
          have fresh : ∀ a ∈ A4, H3 a = none := fun a ha => by
            rcases (g2 a ha).1 with z | ⟨i, hi, _⟩
            · exact z
            · cases hi
          refine ⟨List.nodup_append.mpr ⟨n1, n2, fun a ha b hb => ?_⟩, fun a ha => ?_⟩
          · intro c; subst c
            obtain ⟨ys, mz⟩ := mAa a ha
            have := fresh a hb
            rw [sm3 _ _ (sm2 _ _ mz)] at this; cases this
          · rcases List.mem_append.mp ha with ha | ha
            · exact g1 a ha
            · exact bk a (fresh a ha)
        · rcases List.mem_append.mp ha with ha | ha
          · exact f2 h a ha
          · rcases E4.2.1 (by simpa using h) a ha with z | z
            · rcases z.1 with z | ⟨i, hi, _⟩
              · exact .inl (bk a z)
              · cases hi
            · exact .inr z
        · rcases List.mem_append.mp ha with ha | ha
          · exact f3 a ha
          · rcases (E4.back T3).2.2 a ha with z | ⟨i, z⟩
            · left
              cases q : H1 a with
              | none => rfl
              | some o => rw [sm1 a o q] at z; cases z
            · try dsimp only at z
              split at z
              · exact .inr (.inl (sB.subset (R.sub i (by assumption) a z)))
              · split at z
                · cases z
                · exact .inr (.inr ⟨i, z⟩)
      · cases ec
    · rename_i e3 htt
      intro X' hX
      obtain ⟨FX, kk, aa⟩ := F.blk hX
      refine hf X' hX _ _ σ2 Hj' e2 _ false e3 (by rw [kk]; exact S2) htt _ fun H3 As3 S3 T3 => ?_
      rw [if_neg Bool.false_ne_true]
      have sm3 : Same Hj' H3 := fun a o h => T3.keep a o h fun z => by rw [hil] at z; cases z
      have smj : Same Hj H3 := fun a o h => sm3 a o (sm2 a o h)
      obtain ⟨acc, Aa, hD, rA, nD, f1, f2, f3⟩ := ac.ex
      exact ⟨d1, d2, ed, ec, fun a o h => smj a o (ac.sm a o h), acc, Aa, smj _ _ hD, rA.mono smj, nD, f1, f2, f3⟩
    · cases ec
  · rintro Hj ⟨d1, d2, ed, ec, ac⟩
    rw [List.drop_length] at ec
    simp only [compL, Option.some.injEq] at ec
    subst ec
    rw [List.append_nil] at ed
    subst ed
    obtain ⟨acc, Aa, hD, rA, nD, f1, f2, f3⟩ := ac.ex
    have nw : ∀ a, H1 a = none → New own H As As1 a := fun a h => ⟨.inl (T1.back h), fun c => S1.own_some c h⟩
    refine q (.ref Dn) Hj (Dn :: Aa) As1 (S1.grow ac.sm) ((T1.trans (TR.grow (io := ioI it) ac.sm) id id).weak fun z => ?_) (.lst hD rA) ⟨fun h => ⟨List.nodup_cons.mpr ⟨nD, (f1 h).1⟩, fun a ha => ?_⟩, fun h a ha => ?_, fun a ha => ?_⟩
    · show (ioE elt || ioI it || ioL ifs) = true
      rw [z]; simp
    · rcases List.mem_cons.mp ha with z | ha
      · exact z ▸ nw Dn hDn
      · exact nw a ((f1 h).2 a ha)
    · rcases List.mem_cons.mp ha with z | ha
      · exact .inl (z ▸ nw Dn hDn)
      · simp only [shE, Bool.or_eq_true] at h
        rcases h with h | h
        · exact .inl (nw a ((f1 h).2 a ha))
        · have h' : shE C.sigs (own ++ vw ++ (if sb = true then [] else tgs tg)) elt = true := by
            show shE C.sigs (own ++ vw ++ (if shI C.sigs (own ++ vw) it = true then [] else tgs tg)) elt = true
            split at h
            · rename_i hs; rw [if_pos hs, List.append_nil]; exact h
            · rename_i hs; rw [if_neg hs]; exact h
          rcases f2 h' a ha with z | z | ⟨z, za⟩
          · exact .inl (nw a z)
          · exact .inr z
          · exact E1.2.1 z a za
    · rcases List.mem_cons.mp ha with z | ha
      · exact .inl (T1.back (z ▸ hDn))
      · rcases f3 a ha with z | z | ⟨i, z⟩
        · exact .inl (T1.back z)
        · exact E1.2.2 a z
        · exact (T1.al i a z).symm
/-- [elt for tg in it if ifs] -/
theorem se_comp {own vw os : List Nat} {elt : DE} {tg : Tg} {it : DI} {ifs : DEs} {x t i : Expr} {fs : List Expr} {scope : Scope} {pos : Pos} (F : Fx C Φ k X)
    (hbl : blkC C.N X.env.scope scope (ownP C os) = true) (hmt : mT C scope tg t = true) (hts : ∀ j ∈ tgs tg, j ∈ os) (hnd : (tgs tg).Nodup) (hp : plainX i = true) (hio : ioE elt = false) (hil : ioL ifs = false)
    (hi : SI C Φ X own vw it t i)
    (hf : ∀ X', Blk X scope X' → STs C Φ X' [] (own ++ vw ++ (if shI C.sigs (own ++ vw) it = true then [] else tgs tg)) ifs fs)
    (he : ∀ X', Blk X scope X' → SE C Φ X' [] (own ++ vw ++ (if shI C.sigs (own ++ vw) it = true then [] else tgs tg)) elt x) :
    SE C Φ X own vw (.comp elt tg it ifs os) (.ListComp x [⟨t, i, fs, 0⟩] scope pos) := by
  intro Z P σ H env As d env' S e Q q
  have hbo : BlkOk X.N X.env.scope scope (ownP C os) := by rw [F.nN]; exact blkOk_by hbl
  refine (pe_lc (g := gT X.K tg) (tt := tts X scope fs) (te := tes X scope x) F.calm (by rw [F.nN]; exact F.nd) Cy.wi hbo
    (fun s H c cl fp => ?_) (fun s H c cl fp => ⟨fun pins s' σ' H' Q' I' w => w _ ⟨s, H, c, cl, fp, rfl⟩ pins s' I'⟩) (fun s H c cl fp => ⟨fun pins s' σ' H' Q' I' w => w _ ⟨s, H, c, cl, fp, rfl⟩ pins s' I'⟩) (fun z => plain_fold hp z)).we ?_
  · have hb : Blk X scope (X.blk s H scope (compEnvC scope cl c X.env) fp) := ⟨s, H, c, cl, fp, rfl⟩
    exact pgT (F.blk hb).1 hb.stok hmt
  rw [ownP_map]
  exact comp_core (pos := pos) F hbl hmt hts hnd hp hio hil hi hf he S e q
/-- name = [..], on the name's own line -/
theorem ps_comp {own vw os : List Nat} {elt : DE} {tg : Tg} {it : DI} {ifs : DEs} {x t i : Expr} {fs : List Expr} {scope : Scope} {pos : Pos} (F : Fx C Φ k X)
    (hbl : blkC C.N X.env.scope scope (ownP C os) = true) (hmt : mT C scope tg t = true) (hts : ∀ j ∈ tgs tg, j ∈ os) (hnd : (tgs tg).Nodup) (hp : plainX i = true) (hio : ioE elt = false) (hil : ioL ifs = false)
    (hi : SI C Φ X own vw it t i)
    (hf : ∀ X', Blk X scope X' → STs C Φ X' [] (own ++ vw ++ (if shI C.sigs (own ++ vw) it = true then [] else tgs tg)) ifs fs)
    (he : ∀ X', Blk X scope X' → SE C Φ X' [] (own ++ vw ++ (if shI C.sigs (own ++ vw) it = true then [] else tgs tg)) elt x) {y : Str} {j : Nat} {py spos : Pos} (hy : C.N[j]? = some y) (hyl : X.env.scope.names.lookup y = some .local) (hk : X.env.scope.kind = .function) (hl : (py.line == pos.line) = true)
    (ha : (scope.names.any fun (n, k) => n == y && (k == .local || k == .cell)) = false) : PS X (.Assign [.Name y py] (.ListComp x [⟨t, i, fs, 0⟩] scope pos) spos) (tAsg (tLc (WI X t i) (gT X.K tg) (tts X scope fs) (tes X scope x) os) (gName j)) := by
  have hbo : BlkOk X.N X.env.scope scope (ownP C os) := by rw [F.nN]; exact blkOk_by hbl
  have z := ps_setLc (spos := spos) (g := gT X.K tg) (tt := tts X scope fs) (te := tes X scope x) F.calm (by rw [F.nN]; exact F.nd) (by rw [F.nN]; exact hy) hyl (sw_true hk hyl hl ha) (Cy.wi (tg := t) (iter := i)) hbo
    (fun s H c cl fp => ?_) (fun s H c cl fp => ⟨fun pins s' σ' H' Q' I' w => w _ ⟨s, H, c, cl, fp, rfl⟩ pins s' I'⟩) (fun s H c cl fp => ⟨fun pins s' σ' H' Q' I' w => w _ ⟨s, H, c, cl, fp, rfl⟩ pins s' I'⟩) (fun z => plain_fold hp z)
  · rw [ownP_map] at z
    exact z
  · have hb : Blk X scope (X.blk s H scope (compEnvC scope cl c X.env) fp) := ⟨s, H, c, cl, fp, rfl⟩
    exact pgT (F.blk hb).1 hb.stok hmt
end
end Cy
end
section
set_option Elab.async false
set_option linter.all false
set_option maxRecDepth 100000
set_option maxHeartbeats 4000000
/-! Soundness, 10: all expressions. -/
namespace Cy
open PySem L2 PyProof.Rows
section
variable {C : Ct} {Φ : Nat → Fn} {k : Nat}
def SEB (C : Ct) (Φ : Nat → Fn) (X : Cx) (own vw : List Nat) (e : DE) (x : Expr) : Prop := SE C Φ X own vw e x ∧ SB C Φ X own vw (ioE e) (ev Φ e) (WT X x)
theorem WE.mono {X : Cx} {e : Expr} {σ : L2.St} {H : Hp} {Q Q' : VK} (h : WE X e σ H Q) (q : ∀ v H', Q v H' → Q' v H') : WE X e σ H Q' := fun pins s I =>
  wpAny_mono (h pins s I) (fun u s' ⟨v, H', I', r, z⟩ => ⟨v, H', I', r, q v H' z⟩) fun _ _ z => z
theorem WW.wt {X : Cx} {e : Expr} {σ : L2.St} {H : Hp} {Q : Bool → Hp → Prop} (h : WW X e σ H Q) : WT X e σ H Q := fun pins s I => h _ pins s I
theorem Each.imp {R R' : DE → Expr → Prop} (f : ∀ a x, R a x → R' a x) : ∀ {es : DEs} {xs : List Expr}, Each R es xs → Each R' es xs
  | _, _, .nil => .nil
  | _, _, .cons h t => .cons (f _ _ h) (Each.imp f t)
theorem op_eq {op : Operator} {o : BO} (h : (op == opOf o) = true) : op = opOf o := by
  cases o <;> cases op <;> first | rfl | exact absurd h (by decide)
theorem cop_eq {op : CmpOp} {o : CO} (h : (op == copOf o) = true) : op = copOf o := by
  cases o <;> cases op <;> first | rfl | exact absurd h (by decide)
theorem Fx.un {X : Cx} (F : Fx C Φ k X) : X.A.units + 64 < cLine := by have := F.room.un; omega
theorem seb_val {X : Cx} {own vw : List Nat} {e : DE} {x : Expr} (ht : ∀ whole, isTrue x X.env whole = (do let v ← whole; standAt x.pos; holding [v] (truthy v))) (h : SE C Φ X own vw e x) : SEB C Φ X own vw e x := ⟨h, sb_val ht h⟩
theorem sb_pur {X : Cx} {own vw : List Nat} {a : DE} {x : Expr} (h : SB C Φ X own vw (ioE a) (ev Φ a) (WT X x)) : SB C Φ X own vw (ioE (.pur a)) (ev Φ (.pur a)) (WT X x) := by
  intro Z P σ H env As b env' S e Q q
  simp only [ev] at e
  obtain ⟨y, e1, h1, h2⟩ := bd_inv e
  split at h2
  · simp only [Option.some.injEq, Rs.ok.injEq] at h2
    obtain ⟨rfl, rfl⟩ := h2
    exact h Z P σ H env As _ _ S h1 Q q
  · cases h2
theorem seb_and {X : Cx} {own vw : List Nat} {es : DEs} {xs : List Expr} {p : Pos} (h : Each (SEB C Φ X own vw) es xs) : SEB C Φ X own vw (.and es) (.BoolOp .And xs p) := by
  refine ⟨fun Z P σ H env As d env' S e Q q => ?_, fun Z P σ H env As b env' S e Q q => ?_⟩
  · simp only [ev] at e
    obtain ⟨c, rfl⟩ := evAnd_bl e
    exact (sv_and (p := p) (h.imp fun _ _ z => z.1) Z P σ H env As _ _ S e (fun b H' => Q (.bl b) H') fun H' As' S' T' => q _ _ [] As' S' T' (.bl _) EF.pure).mono fun v H' ⟨b, ev, z⟩ => ev ▸ z
  · simp only [ev] at e
    exact (st_and (p := p) (h.imp fun _ _ z => z.2) Z P σ H env As _ _ S e Q q).wt
theorem seb_or {X : Cx} {own vw : List Nat} {es : DEs} {xs : List Expr} {p : Pos} (h : Each (SEB C Φ X own vw) es xs) : SEB C Φ X own vw (.or es) (.BoolOp .Or xs p) := by
  refine ⟨fun Z P σ H env As d env' S e Q q => ?_, fun Z P σ H env As b env' S e Q q => ?_⟩
  · simp only [ev] at e
    obtain ⟨c, rfl⟩ := evOr_bl e
    exact (sv_or (p := p) (h.imp fun _ _ z => z.1) Z P σ H env As _ _ S e (fun b H' => Q (.bl b) H') fun H' As' S' T' => q _ _ [] As' S' T' (.bl _) EF.pure).mono fun v H' ⟨b, ev, z⟩ => ev ▸ z
  · simp only [ev] at e
    exact (st_or (p := p) (h.imp fun _ _ z => z.2) Z P σ H env As _ _ S e Q q).wt
theorem fx_name {f : Nat} {x : Str} (h : (match C.calls[f]? with | some y => strEq x y | none => false) = true) : C.calls[f]? = some x := by
  cases hc : C.calls[f]? with
  | none => rw [hc] at h; cases h
  | some y => rw [hc] at h; rw [strEq_eq h]
theorem sigAt {f : Nat} {g : Bool → Bool → Bool} (h : (match C.sigs[f]? with | some (io, fr) => g io fr | none => false) = true) : ∃ io fr, C.sigs[f]? = some (io, fr) ∧ g io fr = true := by
  cases hs : C.sigs[f]? with
  | none => rw [hs] at h; exact absurd h (by simp)
  | some s => obtain ⟨io, fr⟩ := s; rw [hs] at h; exact ⟨io, fr, rfl, h⟩
theorem Each.sl {X : Cx} {own vw : List Nat} {es : DEs} {xs : List Expr} (h : Each (SEB C Φ X own vw) es xs) (hp : xs.all plainX = true) : SL C Φ X own vw es xs := each_sl (h.imp fun _ _ z => z.1) hp
theorem two_each {R : DE → Expr → Prop} {es : DEs} {x y : Expr} (h : Each R es [x, y]) : ∃ a b, es = .cons a (.cons b .nil) ∧ R a x ∧ R b y := by
  cases h with
  | cons h1 t => cases t with
    | cons h2 t => cases t; exact ⟨_, _, rfl, h1, h2⟩
theorem sts_of {X : Cx} {own vw : List Nat} {ifs : DEs} {fs : List Expr} (h : Each (SEB C Φ X own vw) ifs fs) (hl : fs.length ≤ 1) : STs C Φ X own vw ifs fs := by
  cases h with
  | nil => exact sts_nil
  | cons h1 t => cases t with
    | nil => exact sts_one h1.2
    | cons _ _ => simp at hl
mutual
theorem soundE : ∀ (e : DE) {X : Cx} {own vw : List Nat} {x : Expr}, Fx C Φ k X → mE C X.env.scope e x = true → okE C.sigs own vw e = true → SEB C Φ X own vw e x
  | .v i, X, own, vw, x, F, h, o => by
    simp only [mE] at h
    split at h
    · rename_i e; obtain ⟨p, rfl⟩ := asName_eq e
      simp only [Bool.and_eq_true] at h
      exact seb_val (fun _ => rfl) (se_var F (nameAt_eq h.1.1) (visB_eq h.1.2) h.2)
    · cases h
  | .mv i, X, own, vw, x, F, h, o => by
    simp only [mE] at h
    split at h
    · rename_i e; obtain ⟨p, rfl⟩ := asName_eq e
      simp only [Bool.and_eq_true] at h
      simp only [okE, List.contains_eq_mem, decide_eq_true_eq] at o
      exact seb_val (fun _ => rfl) (se_mv F (nameAt_eq h.1.1) (visB_eq h.1.2) h.2 o)
    · cases h
  | .pur a, X, own, vw, x, F, h, o => by
    have z := soundE a (own := own) (vw := vw) F (by simpa only [mE] using h) (by simpa only [okE] using o)
    exact ⟨se_pur z.1, sb_pur z.2⟩
  | .c d, X, own, vw, x, F, h, o => by
    simp only [mE] at h
    split at h
    · rename_i e; obtain ⟨j, p, rfl⟩ := asConst_eq e
      exact seb_val (fun _ => rfl) (se_c h)
    · cases h
  | .g y d, X, own, vw, x, F, h, o => by
    simp only [mE] at h
    split at h
    · rename_i e; obtain ⟨p, rfl⟩ := asName_eq e
      simp only [Bool.and_eq_true] at h
      have := strEq_eq h.1.1.1
      subst this
      exact seb_val (fun _ => rfl) (se_g F (gloB_eq h.1.1.2) h.1.2 h.2)
    · cases h
  | .bin op a b, X, own, vw, x, F, h, o => by
    simp only [mE] at h
    split at h
    · rename_i e; obtain ⟨p, rfl⟩ := asBin_eq e
      simp only [Bool.and_eq_true] at h
      simp only [okE, Bool.and_eq_true] at o
      have := op_eq h.1.1
      subst this
      exact seb_val (fun _ => rfl) (se_bin (soundE a F h.1.2 o.1).1 (soundE b F h.2 o.2).1)
    · cases h
  | .neg a, X, own, vw, x, F, h, o => by
    simp only [mE] at h
    split at h
    · rename_i e; obtain ⟨p, rfl⟩ := asUn_eq e
      exact seb_val (fun _ => rfl) (se_neg (soundE a F h (by simpa only [okE] using o)).1)
    · cases h
  | .cmp op a b, X, own, vw, x, F, h, o => by
    simp only [mE] at h
    split at h
    · rename_i e; obtain ⟨p, rfl⟩ := asCmp1_eq e
      simp only [Bool.and_eq_true] at h
      simp only [okE, Bool.and_eq_true] at o
      have := cop_eq h.1.1
      subst this
      have ha := soundE a F h.1.2 o.1
      have hb := soundE b F h.2 o.2
      exact ⟨se_cmp F.un (mE_plain h.2).1 ha.1 hb.1, sb_cmp F.un (mE_plain h.2).1 ha.1 hb.1⟩
    · cases h
  | .chn op op' a b c, X, own, vw, x, F, h, o => by
    simp only [mE] at h
    split at h
    · rename_i e; obtain ⟨p, rfl⟩ := asCmp2_eq e
      simp only [Bool.and_eq_true] at h
      simp only [okE, Bool.and_eq_true] at o
      have := cop_eq h.1.1.1.1
      subst this
      have := cop_eq h.1.1.1.2
      subst this
      have ha := soundE a F h.1.1.2 o.1.1
      have hb := soundE b F h.1.2 o.1.2
      have hc := soundE c F h.2 o.2
      exact ⟨se_chn F.un (mE_plain h.2).1 ha.1 hb.1 hc.1, sb_chn F.un (mE_plain h.2).1 ha.1 hb.1 hc.1⟩
    · cases h
  | .and es, X, own, vw, x, F, h, o => by
    simp only [mE] at h
    split at h
    · rename_i e; obtain ⟨p, rfl⟩ := asBool_eq e
      exact seb_and (soundL es F h (by simpa only [okE] using o))
    · cases h
  | .or es, X, own, vw, x, F, h, o => by
    simp only [mE] at h
    split at h
    · rename_i e; obtain ⟨p, rfl⟩ := asBool_eq e
      exact seb_or (soundL es F h (by simpa only [okE] using o))
    · cases h
  | .not a, X, own, vw, x, F, h, o => by
    simp only [mE] at h
    split at h
    · rename_i e; obtain ⟨p, rfl⟩ := asUn_eq e
      have z := soundE a (own := own) (vw := vw) F h (by simpa only [okE] using o)
      exact ⟨se_not z.1, sb_not z.2⟩
    · cases h
  | .tup es, X, own, vw, x, F, h, o => by
    simp only [mE] at h
    split at h
    · rename_i e; obtain ⟨j, p, rfl⟩ := asTup_eq e
      exact seb_val (fun _ => rfl) (se_tup ((soundL es F h (by simpa only [okE] using o)).sl (mL_plain h)))
    · cases h
  | .lst es, X, own, vw, x, F, h, o => by
    simp only [mE] at h
    split at h
    · rename_i e; obtain ⟨p, rfl⟩ := asLst_eq e
      exact seb_val (fun _ => rfl) (se_lst ((soundL es F h (by simpa only [okE] using o)).sl (mL_plain h)))
    · cases h
  | .dct _ _, X, own, vw, x, F, h, o => by simp [mE] at h
  | .ix a i, X, own, vw, x, F, h, o => by
    simp only [mE] at h
    split at h
    · rename_i e; obtain ⟨p, rfl⟩ := asIx_eq e
      simp only [Bool.and_eq_true] at h
      simp only [okE, Bool.and_eq_true] at o
      exact seb_val (fun _ => rfl) (se_ix (mE_plain h.2).1 (soundE a F h.1 o.1).1 (soundE i F h.2 o.2).1)
    · cases h
  | .sl a lo hi, X, own, vw, x, F, h, o => by
    simp only [mE] at h
    split at h
    · rename_i e; obtain ⟨p, q, rfl⟩ := asSl_eq e
      simp only [Bool.and_eq_true] at h
      simp only [okE, Bool.and_eq_true] at o
      exact seb_val (fun _ => rfl) (se_sl (soundE a F h.1.1 o.1.1).1 (soundP lo F h.1.2 o.1.2) (soundP hi F h.2 o.2))
    · cases h
  | .slp a lo hi, X, own, vw, x, F, h, o => by
    simp only [mE] at h
    split at h
    · rename_i e; obtain ⟨p, q, rfl⟩ := asSl_eq e
      simp only [Bool.and_eq_true] at h
      simp only [okE, Bool.and_eq_true] at o
      exact seb_val (fun _ => rfl) (se_slp (soundE a F h.1.1 o.1.1).1 (soundP lo F h.1.2 o.1.2) (soundP hi F h.2 o.2))
    · cases h
  | .sl3 a lo hi st, X, own, vw, x, F, h, o => by
    simp only [mE] at h
    split at h
    · rename_i e; obtain ⟨p, q, rfl⟩ := asSl3_eq e
      simp only [Bool.and_eq_true] at h
      simp only [okE, Bool.and_eq_true] at o
      exact seb_val (fun _ => rfl) (se_sl3 (soundE a F h.1.1.1 o.1.1.1).1 (soundP lo F h.1.1.2 o.1.1.2) (soundP hi F h.1.2 o.1.2) (soundE st F h.2 o.2).1)
    · cases h
  | .fld _ _, X, own, vw, x, F, h, o => by simp [mE] at h
  | .call f es, X, own, vw, x, F, h, o => by
    simp only [mE] at h
    split at h
    · rename_i e; obtain ⟨v, ws, p, q, rfl, rfl⟩ := asCall_eq e
      simp only [Bool.and_eq_true] at h
      simp only [okE, Bool.and_eq_true] at o
      obtain ⟨io, fr, h1, h2⟩ := sigAt (C := C) (f := f) (g := fun io _ => !io) o.2
      have : io = false := by simpa using h2
      subst this
      exact seb_val (fun _ => rfl) (se_call F (fx_name h.1.1.1) h1 (gloB_eq h.1.1.2) h.1.2 (mL_plain h.2) ((soundL es F h.2 o.1).sl (mL_plain h.2)))
    · cases h
  | .cio f i es kl, X, own, vw, x, F, h, o => by
    simp only [mE] at h
    split at h
    · rename_i y v ws e; obtain ⟨v', ws', p, q, e2, rfl⟩ := asCall_eq e
      simp only [List.cons.injEq] at e2
      obtain ⟨rfl, rfl⟩ := e2
      simp only [Bool.and_eq_true] at h
      obtain ⟨⟨⟨⟨h1, h2⟩, h3⟩, h4⟩, h5⟩ := h
      split at h4
      · rename_i z ez; obtain ⟨p0, rfl⟩ := asName_eq ez
        simp only [Bool.and_eq_true] at h4
        simp only [okE, Bool.and_eq_true] at o
        obtain ⟨⟨⟨⟨⟨o1, o2⟩, o3⟩, o4⟩, o5⟩, o6⟩ := o
        obtain ⟨io, fr, g1, g2⟩ := sigAt (C := C) (f := f) (g := fun io fr => io && fr) o6
        simp only [Bool.and_eq_true] at g2
        obtain ⟨rfl, rfl⟩ := g2
        refine seb_val (fun _ => rfl) (se_cio F (fx_name h1) g1 (gloB_eq h2) h3 (nameAt_eq h4.1.1) (visB_eq h4.1.2) h4.2 (by simpa using o2) (fun j hj => ?_) (by simpa using o3) o4 (mL_plain h5) ((soundL es F h5 o1).sl (mL_plain h5)))
        have := List.all_eq_true.mp o5 j hj
        simpa using this
      · cases h4
    · cases h
  | .ctm f a es, X, own, vw, x, F, h, o => by
    simp only [mE] at h
    split at h
    · rename_i y v ws e; obtain ⟨v', ws', p, q, e2, rfl⟩ := asCall_eq e
      simp only [List.cons.injEq] at e2
      obtain ⟨rfl, rfl⟩ := e2
      simp only [Bool.and_eq_true] at h
      obtain ⟨⟨⟨⟨h1, h2⟩, h3⟩, h4⟩, h5⟩ := h
      simp only [okE, Bool.and_eq_true] at o
      obtain ⟨⟨⟨⟨⟨⟨o1, o2⟩, o3⟩, o4⟩, o5⟩, o6⟩, o7⟩ := o
      obtain ⟨io, fr, g1, g2⟩ := sigAt (C := C) (f := f) (g := fun io fr => io && fr) o7
      simp only [Bool.and_eq_true] at g2
      obtain ⟨rfl, rfl⟩ := g2
      have hv : vw = [] := by simpa using o6
      subst hv
      exact seb_val (fun _ => rfl) (se_ctm F (fx_name h1) g1 (gloB_eq h2) h3 (by simpa using o4) o5 o3 (mE_plain h4).1 (mL_plain h5) (soundE a F h4 o1).1 ((soundL es F h5 o2).sl (mL_plain h5)))
    · cases h
  | .bi (.isi t) (.cons a .nil), X, own, vw, x, F, h, o => by
    simp only [mE] at h
    split at h
    · rename_i y u w e; obtain ⟨v', ws', p, q, e2, rfl⟩ := asCall_eq e
      simp only [List.cons.injEq] at e2
      obtain ⟨rfl, rfl⟩ := e2
      simp only [Bool.and_eq_true] at h
      obtain ⟨⟨⟨h1, h2⟩, h3⟩, h4⟩ := h
      split at h4
      · rename_i z ez; obtain ⟨p0, rfl⟩ := asName_eq ez
        simp only [Bool.and_eq_true] at h4
        have e1 := strEq_eq h1
        have e2 := strEq_eq h4.1
        subst e1 e2
        simp only [okE, okL, Bool.and_true] at o
        exact seb_val (fun _ => rfl) (se_isi rfl F h2 h4.2 (mE_plain h3).1 (soundE a F h3 o).1)
      · cases h4
    · cases h
  | .bi (.isi t) .nil, X, own, vw, x, F, h, o => by simp [mE] at h
  | .bi (.isi t) (.cons a (.cons b es)), X, own, vw, x, F, h, o => by simp [mE] at h
  | .bi .lrng es, X, own, vw, x, F, h, o => by
    simp only [mE] at h
    split at h
    · rename_i y u e; obtain ⟨v', ws', p, q, e2, rfl⟩ := asCall_eq e
      simp only [List.cons.injEq] at e2
      obtain ⟨rfl, rfl⟩ := e2
      simp only [Bool.and_eq_true] at h
      obtain ⟨⟨h1, h2⟩, h3⟩ := h
      split at h3
      · rename_i z vs ez; obtain ⟨v1, ws1, p1, q1, rfl, rfl⟩ := asCall_eq ez
        simp only [Bool.and_eq_true, decide_eq_true_eq] at h3
        obtain ⟨⟨⟨h4, h5⟩, h6⟩, h7⟩ := h3
        have e1 := strEq_eq h1
        have e2 := strEq_eq h4
        subst e1 e2
        exact seb_val (fun _ => rfl) (se_lrng rfl F h2 h5 ((soundL es F h6 (by simpa only [okE] using o)).imp fun _ _ z => z.1) (mL_plain h6) h7 (by simp))
      · cases h3
    · cases h
  | .bi .dict es, X, own, vw, x, F, h, o => by simp [mE] at h
  | .bi .set es, X, own, vw, x, F, h, o => by simp [mE] at h
  | .bi .len es, X, own, vw, x, F, h, o => by
    simp only [mE] at h
    split at h
    · rename_i y vs e; obtain ⟨v, ws, p, q, rfl, rfl⟩ := asCall_eq e
      simp only [Bool.and_eq_true] at h
      have e1 := strEq_eq h.1.1
      subst e1
      exact seb_val (fun _ => rfl) (se_bif (b := .len) (id := "len") rfl F bi_len (by decide +kernel) h.1.2 rfl (fun _ => .inr rfl) (fun _ => .inr rfl) (mL_plain h.2) ((soundL es F h.2 (by simpa only [okE] using o)).sl (mL_plain h.2)))
    · cases h
  | .bi .abs es, X, own, vw, x, F, h, o => by
    simp only [mE] at h
    split at h
    · rename_i y vs e; obtain ⟨v, ws, p, q, rfl, rfl⟩ := asCall_eq e
      simp only [Bool.and_eq_true] at h
      have e1 := strEq_eq h.1.1
      subst e1
      exact seb_val (fun _ => rfl) (se_bif (b := .abs) (id := "abs") rfl F bi_abs (by decide +kernel) h.1.2 rfl (fun _ => .inr rfl) (fun _ => .inr rfl) (mL_plain h.2) ((soundL es F h.2 (by simpa only [okE] using o)).sl (mL_plain h.2)))
    · cases h
  | .bi .sum es, X, own, vw, x, F, h, o => by
    simp only [mE] at h
    split at h
    · rename_i y vs e; obtain ⟨v, ws, p, q, rfl, rfl⟩ := asCall_eq e
      simp only [Bool.and_eq_true] at h
      have e1 := strEq_eq h.1.1
      subst e1
      exact seb_val (fun _ => rfl) (se_bif (b := .sum) (id := "sum") rfl F (bi_sum F.calm) (by decide +kernel) h.1.2 rfl (fun _ => .inr rfl) (fun _ => .inr rfl) (mL_plain h.2) ((soundL es F h.2 (by simpa only [okE] using o)).sl (mL_plain h.2)))
    · cases h
  | .bi .min es, X, own, vw, x, F, h, o => by
    simp only [mE] at h
    split at h
    · rename_i y vs e; obtain ⟨v, ws, p, q, rfl, rfl⟩ := asCall_eq e
      simp only [Bool.and_eq_true] at h
      have e1 := strEq_eq h.1.1
      subst e1
      exact seb_val (fun _ => rfl) (se_bif (b := .min) (id := "min") rfl F (bi_min F.calm) (by decide +kernel) h.1.2 rfl (fun _ => .inr rfl) (fun _ => .inr rfl) (mL_plain h.2) ((soundL es F h.2 (by simpa only [okE] using o)).sl (mL_plain h.2)))
    · cases h
  | .bi .max es, X, own, vw, x, F, h, o => by
    simp only [mE] at h
    split at h
    · rename_i y vs e; obtain ⟨v, ws, p, q, rfl, rfl⟩ := asCall_eq e
      simp only [Bool.and_eq_true] at h
      have e1 := strEq_eq h.1.1
      subst e1
      exact seb_val (fun _ => rfl) (se_bif (b := .max) (id := "max") rfl F (bi_max F.calm) (by decide +kernel) h.1.2 rfl (fun _ => .inr rfl) (fun _ => .inr rfl) (mL_plain h.2) ((soundL es F h.2 (by simpa only [okE] using o)).sl (mL_plain h.2)))
    · cases h
  | .bi .all es, X, own, vw, x, F, h, o => by
    simp only [mE] at h
    split at h
    · rename_i y vs e; obtain ⟨v, ws, p, q, rfl, rfl⟩ := asCall_eq e
      simp only [Bool.and_eq_true] at h
      have e1 := strEq_eq h.1.1
      subst e1
      exact seb_val (fun _ => rfl) (se_bif (b := .all) (id := "all") rfl F (bi_all F.calm) (by decide +kernel) h.1.2 rfl (fun _ => .inr rfl) (fun _ => .inr rfl) (mL_plain h.2) ((soundL es F h.2 (by simpa only [okE] using o)).sl (mL_plain h.2)))
    · cases h
  | .bi .any es, X, own, vw, x, F, h, o => by
    simp only [mE] at h
    split at h
    · rename_i y vs e; obtain ⟨v, ws, p, q, rfl, rfl⟩ := asCall_eq e
      simp only [Bool.and_eq_true] at h
      have e1 := strEq_eq h.1.1
      subst e1
      exact seb_val (fun _ => rfl) (se_bif (b := .any) (id := "any") rfl F (bi_any F.calm) (by decide +kernel) h.1.2 rfl (fun _ => .inr rfl) (fun _ => .inr rfl) (mL_plain h.2) ((soundL es F h.2 (by simpa only [okE] using o)).sl (mL_plain h.2)))
    · cases h
  | .bi .tuple es, X, own, vw, x, F, h, o => by
    simp only [mE] at h
    split at h
    · rename_i y vs e; obtain ⟨v, ws, p, q, rfl, rfl⟩ := asCall_eq e
      simp only [Bool.and_eq_true] at h
      have e1 := strEq_eq h.1.1
      subst e1
      exact seb_val (fun _ => rfl) (se_bit (b := .tuple) (id := "tuple") rfl F bi_tuple (by decide +kernel) h.1.2 rfl (fun z => .inl (by simpa only [frE] using z)) (fun z => .inl (by simpa only [shE] using z)) (mL_plain h.2) ((soundL es F h.2 (by simpa only [okE] using o)).sl (mL_plain h.2)))
    · cases h
  | .bi .list es, X, own, vw, x, F, h, o => by
    simp only [mE] at h
    split at h
    · rename_i y vs e; obtain ⟨v, ws, p, q, rfl, rfl⟩ := asCall_eq e
      simp only [Bool.and_eq_true] at h
      have e1 := strEq_eq h.1.1
      subst e1
      exact seb_val (fun _ => rfl) (se_bit (b := .list) (id := "list") rfl F bi_list (by decide +kernel) h.1.2 rfl (fun z => .inl (by simpa only [frE] using z)) (fun z => .inl (by simpa only [shE] using z)) (mL_plain h.2) ((soundL es F h.2 (by simpa only [okE] using o)).sl (mL_plain h.2)))
    · cases h
  | .bi .str es, X, own, vw, x, F, h, o => by
    simp only [mE] at h
    split at h
    · rename_i y vs e; obtain ⟨v, ws, p, q, rfl, rfl⟩ := asCall_eq e
      simp only [Bool.and_eq_true] at h
      have e1 := strEq_eq h.1.1
      subst e1
      exact seb_val (fun _ => rfl) (se_bit (b := .str) (id := "str") rfl F bi_str (by decide +kernel) h.1.2 rfl (fun _ => .inr rfl) (fun _ => .inr rfl) (mL_plain h.2) ((soundL es F h.2 (by simpa only [okE] using o)).sl (mL_plain h.2)))
    · cases h
  | .bi .listp es, X, own, vw, x, F, h, o => by
    simp only [mE] at h
    split at h
    · rename_i y vs e; obtain ⟨v, ws, p, q, rfl, rfl⟩ := asCall_eq e
      simp only [Bool.and_eq_true] at h
      have e1 := strEq_eq h.1.1
      subst e1
      exact seb_val (fun _ => rfl) (se_bit (b := .listp) (id := "list") rfl F bi_listp (by decide +kernel) h.1.2 rfl (fun _ => .inr rfl) (fun _ => .inr rfl) (mL_plain h.2) ((soundL es F h.2 (by simpa only [okE] using o)).sl (mL_plain h.2)))
    · cases h
  | .bi .sorted es, X, own, vw, x, F, h, o => by
    simp only [mE] at h
    split at h
    · rename_i y vs e; obtain ⟨v, ws, p, q, rfl, rfl⟩ := asCall_eq e
      simp only [Bool.and_eq_true] at h
      have e1 := strEq_eq h.1.1
      subst e1
      exact seb_val (fun _ => rfl) (se_bif (b := .sorted) (id := "sorted") rfl F bi_sorted (by decide +kernel) h.1.2 rfl (fun _ => .inr rfl) (fun _ => .inr rfl) (mL_plain h.2) ((soundL es F h.2 (by simpa only [okE] using o)).sl (mL_plain h.2)))
    · cases h
  | .bi .int es, X, own, vw, x, F, h, o => by
    simp only [mE] at h
    split at h
    · rename_i y vs e; obtain ⟨v, ws, p, q, rfl, rfl⟩ := asCall_eq e
      simp only [Bool.and_eq_true] at h
      have e1 := strEq_eq h.1.1
      subst e1
      exact seb_val (fun _ => rfl) (se_bit (b := .int) (id := "int") rfl F bi_int (by decide +kernel) h.1.2 rfl (fun _ => .inr rfl) (fun _ => .inr rfl) (mL_plain h.2) ((soundL es F h.2 (by simpa only [okE] using o)).sl (mL_plain h.2)))
    · cases h
  | .mt .bitlen a .nil, X, own, vw, x, F, h, o => by
    simp only [mE] at h
    split at h
    · rename_i ob y e; obtain ⟨ap, p, rfl, hl⟩ := asMeth_eq e
      simp only [Bool.and_eq_true] at h
      have e1 := strEq_eq h.1
      subst e1
      simp only [okE, Bool.and_eq_true] at o
      exact seb_val (fun _ => rfl) (se_bl (mE_plain h.2).2 hl (soundE a F h.2 o.1).1)
    · cases h
  | .mt .join a (.cons b .nil), X, own, vw, x, F, h, o => by
    simp only [mE] at h
    split at h
    · rename_i ob y z e; obtain ⟨ap, p, rfl, hl⟩ := asMeth_eq e
      simp only [Bool.and_eq_true] at h
      have e1 := strEq_eq h.1.1
      subst e1
      simp only [okE, okL, Bool.and_eq_true] at o
      exact seb_val (fun _ => rfl) (se_join (mE_plain h.1.2).2 (mE_plain h.2).1 hl (soundE a F h.1.2 o.1).1 (soundE b F h.2 o.2.1).1)
    · cases h
  | .mt .bitlen a (.cons b es), X, own, vw, x, F, h, o => by simp [mE] at h
  | .mt .join a .nil, X, own, vw, x, F, h, o => by simp [mE] at h
  | .mt .join a (.cons b (.cons c es)), X, own, vw, x, F, h, o => by simp [mE] at h
  | .mt .split a es, X, own, vw, x, F, h, o => by simp [mE] at h
  | .mt .count a es, X, own, vw, x, F, h, o => by simp [mE] at h
  | .mt .index a es, X, own, vw, x, F, h, o => by simp [mE] at h
  | .mt .isdigit a es, X, own, vw, x, F, h, o => by simp [mE] at h
  | .mt .replace a es, X, own, vw, x, F, h, o => by simp [mE] at h
  | .mt .partition a es, X, own, vw, x, F, h, o => by simp [mE] at h
  | .mt .upper a es, X, own, vw, x, F, h, o => by simp [mE] at h
  | .comp elt tg it ifs os, X, own, vw, x, F, h, o => by
    simp only [mE] at h
    split at h
    · rename_i y t i fs s e; obtain ⟨p, rfl⟩ := asComp_eq e
      simp only [Bool.and_eq_true, decide_eq_true_eq] at h
      obtain ⟨⟨⟨⟨⟨⟨⟨h1, h2⟩, h3⟩, h4⟩, h5⟩, h6⟩, h7⟩, h8⟩ := h
      simp only [okE, Bool.and_eq_true, decide_eq_true_eq] at o
      obtain ⟨⟨⟨⟨⟨o1, o2⟩, o3⟩, o4⟩, o5⟩, o6⟩ := o
      refine seb_val (fun _ => rfl) (se_comp F h1 h2 (fun j hj => ?_) o6 h8 (by simpa using o2) (by simpa using o3) (soundI it F h3 o1) (fun X' hX => ?_) fun X' hX => ?_)
      · have := List.all_eq_true.mp h7 j hj
        simpa using this
      · exact sts_of (soundL ifs (F.blk hX).1 (by rw [hX.scope]; exact h4) o5) h5
      · exact (soundE elt (F.blk hX).1 (by rw [hX.scope]; exact h6) o4).1
    · cases h
theorem soundL : ∀ (es : DEs) {X : Cx} {own vw : List Nat} {xs : List Expr}, Fx C Φ k X → mL C X.env.scope es xs = true → okL C.sigs own vw es = true → Each (SEB C Φ X own vw) es xs
  | .nil, X, own, vw, [], F, h, o => .nil
  | .nil, X, own, vw, _ :: _, F, h, o => by simp [mL] at h
  | .cons a es, X, own, vw, [], F, h, o => by simp [mL] at h
  | .cons a es, X, own, vw, x :: xs, F, h, o => by
    simp only [mL, Bool.and_eq_true] at h
    simp only [okL, Bool.and_eq_true] at o
    exact .cons (soundE a F h.1 o.1) (soundL es F h.2 o.2)
theorem soundP : ∀ (e : DO) {X : Cx} {own vw : List Nat} {x : Option Expr}, Fx C Φ k X → mP C X.env.scope e x = true → okP C.sigs own vw e = true → SP C Φ X own vw e x
  | .no, X, own, vw, none, F, h, o => sp_no
  | .no, X, own, vw, some _, F, h, o => by simp [mP] at h
  | .so a, X, own, vw, none, F, h, o => by simp [mP] at h
  | .so a, X, own, vw, some x, F, h, o => by
    simp only [mP] at h
    simp only [okP] at o
    exact sp_so (soundE a F h o).1
theorem soundI : ∀ (it : DI) {X : Cx} {own vw : List Nat} {t i : Expr}, Fx C Φ k X → mI C X.env.scope it t i = true → okI C.sigs own vw it = true → SI C Φ X own vw it t i
  | .val a, X, own, vw, t, i, F, h, o => by
    simp only [mI] at h
    simp only [okI] at o
    exact si_val (soundE a F h o).1
  | .rng es, X, own, vw, t, i, F, h, o => by
    simp only [mI] at h
    simp only [okI] at o
    split at h
    · rename_i y vs e; obtain ⟨v, ws, p, q, rfl, rfl⟩ := asCall_eq e
      simp only [Bool.and_eq_true] at h
      have e1 := strEq_eq h.1.1
      subst e1
      exact si_rng rfl F h.1.2 ((soundL es F h.2 o).imp fun _ _ z => z.1) (mL_plain h.2)
    · cases h
  | .enu a, X, own, vw, t, i, F, h, o => by
    simp only [mI] at h
    simp only [okI] at o
    split at h
    · rename_i ts y v et e; obtain ⟨j, p0, rfl⟩ := asTup_eq et
      obtain ⟨v', ws', p, q, e2, rfl⟩ := asCall_eq e
      simp only [List.cons.injEq] at e2
      obtain ⟨rfl, rfl⟩ := e2
      simp only [Bool.and_eq_true] at h
      have e1 := strEq_eq h.1.1
      subst e1
      exact si_enu rfl F h.1.2 (mE_plain h.2).1 (soundE a F h.2 o).1
    · cases h
  | .zip es, X, own, vw, t, i, F, h, o => by
    simp only [mI] at h
    simp only [okI] at o
    split at h
    · rename_i ts y v w et e; obtain ⟨j, p0, rfl⟩ := asTup_eq et
      obtain ⟨v', ws', p, q, e2, rfl⟩ := asCall_eq e
      simp only [List.cons.injEq] at e2
      obtain ⟨rfl, rfl⟩ := e2
      simp only [Bool.and_eq_true] at h
      have e1 := strEq_eq h.1.1
      subst e1
      exact si_zip rfl F h.1.2 (mL_plain h.2) ((soundL es F h.2 o).sl (mL_plain h.2))
    · cases h
  | .rev a, X, own, vw, t, i, F, h, o => by
    simp only [mI] at h
    simp only [okI] at o
    split at h
    · rename_i y v e; obtain ⟨v', ws', p, q, e2, rfl⟩ := asCall_eq e
      simp only [List.cons.injEq] at e2
      obtain ⟨rfl, rfl⟩ := e2
      simp only [Bool.and_eq_true] at h
      have e1 := strEq_eq h.1.1
      subst e1
      exact si_rev rfl F h.1.2 (mE_plain h.2).1 (soundE a F h.2 o).1
    · cases h
  | .rrg es, X, own, vw, t, i, F, h, o => by
    simp only [mI] at h
    simp only [okI] at o
    split at h
    · rename_i y v e; obtain ⟨v', ws', p, q, e2, rfl⟩ := asCall_eq e
      simp only [List.cons.injEq] at e2
      obtain ⟨rfl, rfl⟩ := e2
      simp only [Bool.and_eq_true] at h
      obtain ⟨⟨h1, h2⟩, h3⟩ := h
      split at h3
      · rename_i z vs ez; obtain ⟨v1, ws1, p1, q1, rfl, rfl⟩ := asCall_eq ez
        simp only [Bool.and_eq_true, decide_eq_true_eq] at h3
        obtain ⟨⟨⟨h4, h5⟩, h6⟩, h7⟩ := h3
        have e1 := strEq_eq h1
        have e2 := strEq_eq h4
        subst e1 e2
        exact si_rrg rfl F h2 h5 ((soundL es F h6 o).imp fun _ _ z => z.1) (mL_plain h6) h7 (by simp)
      · cases h3
    · cases h
end
end
end Cy
end
section
set_option Elab.async false
set_option linter.all false
set_option maxRecDepth 100000
set_option maxHeartbeats 4000000
/-! Soundness, 11: statements' steps: what they keep; names stored; lists frozen. -/
namespace Cy
open PySem L2 PyProof.Rows
/-- from one moment to a later one, over statements -/
structure TSx (io : Bool) (Z P : Addr → Prop) (H : Hp) (As : Asg) (Z' P' : Addr → Prop) (H' : Hp) (As' : Asg) : Prop where
  mono : ∀ a, H a ≠ none → H' a ≠ none
  keep : ∀ a o, H a = some o → (P a ∨ (∀ xs, o ≠ .lst xs) ∨ io = false) → H' a = some o
  al : ∀ j a, a ∈ As' j → (∃ i, a ∈ As i) ∨ H a = none
  zz : ∀ a, Z a → Z' a
  pp : ∀ a, P a → P' a
section
variable {K : PySem.W.Frag} {n : Nat} {own vw : List Nat} {Z P Z1 P1 Z2 P2 : Addr → Prop} {σ : L2.St} {H H1 H2 H' : Hp} {env env1 env2 : En} {As As1 As2 As' : Asg} {io io1 io2 : Bool}
theorem TSx.refl : TSx io Z P H As Z P H As := ⟨fun _ h => h, fun _ _ h _ => h, fun j _ h => .inl ⟨j, h⟩, fun _ h => h, fun _ h => h⟩
theorem TSx.back (t : TSx io Z P H As Z1 P1 H1 As1) {a : Addr} (h : H1 a = none) : H a = none := by
  cases e : H a with
  | none => rfl
  | some o => exact absurd h (t.mono a (by rw [e]; simp))
theorem TSx.trans (t : TSx io1 Z P H As Z1 P1 H1 As1) (u : TSx io2 Z1 P1 H1 As1 Z2 P2 H2 As2) (h1 : io1 = true → io = true) (h2 : io2 = true → io = true) : TSx io Z P H As Z2 P2 H2 As2 where
  mono := fun a h => u.mono a (t.mono a h)
  keep := fun a o h c => by
    have f : io = false → io1 = false ∧ io2 = false := fun z => by
      subst z
      constructor
      · cases io1
        · rfl
        · exact absurd (h1 rfl) (by simp)
      · cases io2
        · rfl
        · exact absurd (h2 rfl) (by simp)
    rcases c with c | c | c
    · exact u.keep a o (t.keep a o h (.inl c)) (.inl (t.pp a c))
    · exact u.keep a o (t.keep a o h (.inr (.inl c))) (.inr (.inl c))
    · exact u.keep a o (t.keep a o h (.inr (.inr (f c).1))) (.inr (.inr (f c).2))
  al := fun j a h => by
    rcases u.al j a h with ⟨i, q⟩ | q
    · exact t.al i a q
    · exact .inr (t.back q)
  zz := fun a h => u.zz a (t.zz a h)
  pp := fun a h => u.pp a (t.pp a h)
theorem TSx.weak (t : TSx io1 Z P H As Z1 P1 H1 As1) (h1 : io1 = true → io = true) : TSx io Z P H As Z1 P1 H1 As1 := t.trans (TSx.refl (io := false)) h1 (fun z => by cases z)
/-- an expression's step is one -/
theorem TR.tsx (S : SR K n own vw Z P σ H env As) (t : TR own io H As H1 As1) : TSx io Z P H As Z P H1 As1 where
  mono := t.mono
  keep := fun a o h c => t.keep a o h fun e ⟨i, hi, ha⟩ => by
    rcases c with c | c | c
    · exact S.noP i hi a ha c
    · obtain ⟨xs, q⟩ := S.own_mut ⟨i, hi, ha⟩
      rw [h] at q
      exact c xs (Option.some.inj q)
    · rw [e] at c; cases c
  al := t.al
  zz := fun _ h => h
  pp := fun _ h => h
/-- some lists are frozen -/
theorem SR.freeze (S : SR K n own vw Z P σ H env As) {A : Addr → Prop} (m : ∀ a, A a → MutH H a) (h : ∀ a, A a → ¬ OwA own As a) : SR K n own vw (fun a => Z a ∨ A a) (fun a => P a ∨ A a) σ H env As :=
  ⟨S.len, S.lenE, S.rep, S.non, fun i h1 h2 a ha => .inl (S.shr i h1 h2 a ha), S.nod, fun i hi a ha c => c.elim (S.noP i hi a ha) fun c => h a c ⟨i, hi, ha⟩, S.dis, fun a h => h.imp (S.zp a) id, fun a h => by
    rcases h with h | h
    · exact S.ph a h
    · obtain ⟨xs, q⟩ := m a h
      rw [q]; simp⟩
theorem TSx.freeze {A : Addr → Prop} : TSx io Z P H As (fun a => Z a ∨ A a) (fun a => P a ∨ A a) H As := ⟨fun _ h => h, fun _ _ h _ => h, fun j _ h => .inl ⟨j, h⟩, fun _ h => .inl h, fun _ h => .inl h⟩
/-- a slot may take a value whose lists are all new (f), or of what is shared alone (s) -/
def kOk (own vw : List Nat) (f s : Bool) (i : Nat) : Bool := if own.contains i then f else (vw.contains i || f || s)
/-- names stored: the slots ts take values whose lists are at B, all within A -/
theorem SR.bind {ts : List Nat} {f s : Bool} {A : List Addr} {σ' : L2.St} {env' : En} {B : Asg} {H0 : Hp} {As0 : Asg}
    (S : SR K n own vw Z P σ H env As) (R : BR K H ts A σ σ' env env' B) (E : EF own Z f s H0 As0 As A) (hs : ∀ a, H0 a ≠ none → H a ≠ none) (S0 : ∀ a, OwA own As0 a → ¬ P a) (P0 : ∀ a, P a → H0 a ≠ none) (mA : ∀ a ∈ A, MutH H a) (hk : ∀ i ∈ ts, kOk own vw f s i = true) :
    SR K n own vw (fun a => Z a ∨ ∃ i ∈ ts, i ∉ own ∧ i ∉ vw ∧ a ∈ B i) (fun a => P a ∨ ∃ i ∈ ts, i ∉ own ∧ i ∉ vw ∧ a ∈ B i) σ' H env' (fun j => if j ∈ ts then B j else As j) := by
  have kO : ∀ i ∈ ts, i ∈ own → f = true := fun i hi ho => by
    have := hk i hi
    unfold kOk at this
    rw [if_pos (by simpa using ho)] at this
    exact this
  have kS : ∀ i ∈ ts, i ∉ own → i ∉ vw → f = true ∨ s = true := fun i hi ho hv => by
    have := hk i hi
    unfold kOk at this
    rw [if_neg (by simpa using ho)] at this
    simpa [hv] using this
  have nw : ∀ a, New own H0 As0 As a → ¬ P a ∧ ¬ OwA own As a := fun a h => ⟨fun c => h.1.elim (P0 a c) fun z => S0 a z c, h.2⟩
  -- what is shared is none of what is owned
  have sh : ∀ i ∈ ts, i ∉ own → i ∉ vw → ∀ a ∈ B i, ¬ OwA own As a := fun i hi ho hv a ha ⟨j, hj, hb⟩ => by
    have hA := R.sub i hi a ha
    rcases kS i hi ho hv with z | z
    · exact (nw a ((E.1 z).2 a hA)).2 ⟨j, hj, hb⟩
    · rcases E.2.1 z a hA with y | y
      · exact (nw a y).2 ⟨j, hj, hb⟩
      · exact S.noP j hj a hb (S.zp a y)
  refine ⟨by rw [R.len, S.len], by rw [R.lenE, S.lenE], fun i d h => ?_, fun i h => ?_, fun i h1 h2 a ha => ?_, fun i hi => ?_, fun i hi a ha c => ?_, fun i hi j hj hne a ha hb => ?_, fun a h => h.imp (S.zp a) id, fun a h => ?_⟩
  · by_cases ht : i ∈ ts
    · obtain ⟨v, d', h1, h2, h3⟩ := R.inn i ht
      rw [h] at h2
      simp only [Option.some.injEq] at h2
      subst h2
      rw [if_pos ht]; exact ⟨v, h1, h3⟩
    · obtain ⟨o1, o2⟩ := R.out i ht
      rw [if_neg ht, o1]
      rw [o2] at h
      exact S.rep i d h
  · by_cases ht : i ∈ ts
    · obtain ⟨v, d', h1, h2, h3⟩ := R.inn i ht
      exact absurd h2 (h d')
    · rw [if_neg ht]
      refine S.non i fun d z => h d ?_
      rw [(R.out i ht).2]; exact z
  · by_cases ht : i ∈ ts
    · rw [if_pos ht] at ha
      exact .inr ⟨i, ht, h1, h2, ha⟩
    · rw [if_neg ht] at ha
      exact .inl (S.shr i h1 h2 a ha)
  · by_cases ht : i ∈ ts
    · rw [if_pos ht]
      exact (R.nd (E.1 (kO i ht hi)).1).1 i ht
    · rw [if_neg ht]; exact S.nod i hi
  · by_cases ht : i ∈ ts
    · rw [if_pos ht] at ha
      have ff := kO i ht hi
      rcases c with c | ⟨j, hj, j1, j2, hb⟩
      · exact (nw a ((E.1 ff).2 a (R.sub i ht a ha))).1 c
      · exact (R.nd (E.1 ff).1).2 i ht j hj (fun e => j1 (e ▸ hi)) a ha hb
    · rw [if_neg ht] at ha
      rcases c with c | ⟨j, hj, j1, j2, hb⟩
      · exact S.noP i hi a ha c
      · exact sh j hj j1 j2 a hb ⟨i, hi, ha⟩
  · by_cases ht : i ∈ ts
    · rw [if_pos ht] at ha
      have ff := kO i ht hi
      by_cases ht2 : j ∈ ts
      · rw [if_pos ht2] at hb
        exact (R.nd (E.1 ff).1).2 i ht j ht2 hne a ha hb
      · rw [if_neg ht2] at hb
        exact (nw a ((E.1 ff).2 a (R.sub i ht a ha))).2 ⟨j, hj, hb⟩
    · rw [if_neg ht] at ha
      by_cases ht2 : j ∈ ts
      · rw [if_pos ht2] at hb
        exact (nw a ((E.1 (kO j ht2 hj)).2 a (R.sub j ht2 a hb))).2 ⟨i, hi, ha⟩
      · rw [if_neg ht2] at hb
        exact S.dis i hi j hj hne a ha hb
  · rcases h with h | ⟨i, hi, _, _, ha⟩
    · exact S.ph a h
    · obtain ⟨xs, q⟩ := mA a (R.sub i hi a ha)
      rw [q]; simp
theorem TSx.bind {ts : List Nat} {A : List Addr} {B : Asg} {W : Addr → Prop} (t : TSx io Z P H As Z1 P1 H1 As1) (hB : ∀ i ∈ ts, ∀ a ∈ B i, a ∈ A) (hA : ∀ a ∈ A, H a = none ∨ ∃ i, a ∈ As i) :
    TSx io Z P H As (fun a => Z1 a ∨ W a) (fun a => P1 a ∨ W a) H1 (fun j => if j ∈ ts then B j else As1 j) :=
  ⟨t.mono, t.keep, fun j a h => by
    by_cases ht : j ∈ ts
    · rw [if_pos ht] at h; exact (hA a (hB j ht a h)).symm
    · rw [if_neg ht] at h; exact t.al j a h, fun a h => .inl (t.zz a h), fun a h => .inl (t.pp a h)⟩
end

/-! ### a statement's promise -/
/-- of a value given back -/
def RF (fr : Bool) (own : List Nat) (P : Addr → Prop) (H : Hp) (As As' : Asg) (A : List Addr) : Prop := (fr = true → A.Nodup ∧ ∀ a ∈ A, ¬ P a ∧ ¬ OwA own As' a) ∧ ∀ a ∈ A, H a = none ∨ ∃ i, a ∈ As i
/-- what a statement that ends so leads to -/
def Dn (K : PySem.W.Frag) (n : Nat) (own vw : List Nat) (fr io : Bool) (Z P : Addr → Prop) (H : Hp) (As : Asg) (o : Ou) (env' : En) (D : Ends) : Prop :=
  match o with
  | .nx => ∀ σ' H' Z' P' As', SR K n own vw Z' P' σ' H' env' As' → TSx io Z P H As Z' P' H' As' → D.nx σ' H'
  | .bk => ∀ σ' H' Z' P' As', SR K n own vw Z' P' σ' H' env' As' → TSx io Z P H As Z' P' H' As' → D.bk σ' H'
  | .ct => ∀ σ' H' Z' P' As', SR K n own vw Z' P' σ' H' env' As' → TSx io Z P H As Z' P' H' As' → D.ct σ' H'
  | .rt d => ∀ v σ' H' Z' P' As' A, SR K n own vw Z' P' σ' H' env' As' → TSx io Z P H As Z' P' H' As' → Rep K H' v d A → RF fr own P H As As' A → D.rt v H'
section
variable {C : Ct} {Φ : Nat → Fn} {k : Nat} {X : Cx}
def SS (C : Ct) (X : Cx) (own vw : List Nat) (fr io : Bool) (m : En → Option (Rs Ou)) (W : TS) : Prop :=
  ∀ (Z P : Addr → Prop) (σ : L2.St) (H : Hp) (env : En) (As : Asg) (o : Ou) (env' : En), SR X.K C.N.length own vw Z P σ H env As → m env = some (.ok o env') →
    ∀ D : Ends, Dn X.K C.N.length own vw fr io Z P H As o env' D → W D σ H
theorem RF.step {K : PySem.W.Frag} {n : Nat} {own : List Nat} {fr io : Bool} {Z P Z1 P1 : Addr → Prop} {H H1 : Hp} {As As1 As' : Asg} {A : List Addr} (t : TSx io Z P H As Z1 P1 H1 As1) (h : RF fr own P1 H1 As1 As' A) : RF fr own P H As As' A :=
  ⟨fun z => ⟨(h.1 z).1, fun a ha => ⟨fun c => ((h.1 z).2 a ha).1 (t.pp a c), ((h.1 z).2 a ha).2⟩⟩, fun a ha => by
    rcases h.2 a ha with z | ⟨i, z⟩
    · exact .inl (t.back z)
    · exact (t.al i a z).symm⟩
/-- one step ahead -/
theorem Dn.step {K : PySem.W.Frag} {n : Nat} {own vw : List Nat} {fr io io1 io2 : Bool} {Z P Z1 P1 : Addr → Prop} {H H1 : Hp} {As As1 : Asg} {o : Ou} {env' : En} {D : Ends} (t : TSx io1 Z P H As Z1 P1 H1 As1) (h1 : io1 = true → io = true) (h2 : io2 = true → io = true)
    (h : Dn K n own vw fr io Z P H As o env' D) : Dn K n own vw fr io2 Z1 P1 H1 As1 o env' D := by
  cases o with
  | nx => exact fun σ' H' Z' P' As' S T => h σ' H' Z' P' As' S (t.trans T h1 h2)
  | bk => exact fun σ' H' Z' P' As' S T => h σ' H' Z' P' As' S (t.trans T h1 h2)
  | ct => exact fun σ' H' Z' P' As' S T => h σ' H' Z' P' As' S (t.trans T h1 h2)
  | rt d => exact fun v σ' H' Z' P' As' A S T r e => h v σ' H' Z' P' As' A S (t.trans T h1 h2) r (RF.step (K := K) (n := n) t e)
theorem WSs.of_nil {own vw : List Nat} {fr io : Bool} : SS C X own vw fr io (fun e => some (.ok .nx e)) (WSs X []) := by
  intro Z P σ H env As o env' S e D q
  simp only [Option.some.injEq, Rs.ok.injEq] at e
  obtain ⟨rfl, rfl⟩ := e
  exact pss_nil.we (q σ H Z P As S TSx.refl)
theorem ss_cons {own vw : List Nat} {fr i1 i2 : Bool} {m1 m2 : En → Option (Rs Ou)} {st : Stmt} {rest : List Stmt} (h1 : SS C X own vw fr i1 m1 (WS X st)) (h2 : SS C X own vw fr i2 m2 (WSs X rest)) :
    SS C X own vw fr (i1 || i2) (fun e => match m1 e with | some (.ok .nx e1) => m2 e1 | r => r) (WSs X (st :: rest)) := by
  intro Z P σ H env As o env' S e D q
  refine (pss_cons Cy.ws Cy.wss).we ?_
  show WS X st { D with nx := WSs X rest D } σ H
  dsimp only at e
  have o1 : i1 = true → (i1 || i2) = true := fun z => by rw [z]; rfl
  have o2 : i2 = true → (i1 || i2) = true := fun z => by rw [z]; simp
  split at e
  · rename_i e1 he
    refine h1 Z P σ H env As _ _ S he _ fun σ1 H1 Z1 P1 As1 S1 T1 => ?_
    exact h2 Z1 P1 σ1 H1 e1 As1 o env' S1 e D (Dn.step T1 o1 o2 q)
  · rename_i hne
    have he := e
    refine h1 Z P σ H env As _ _ S he _ ?_
    have q' := Dn.step (io2 := i1) (TSx.refl (io := false)) (fun z => by cases z) o1 q
    cases o with
    | nx => exact absurd he (hne _)
    | bk => exact q'
    | ct => exact q'
    | rt d => exact q'
theorem ss_pas {own vw : List Nat} {fr io : Bool} {st : Stmt} (h : PS X st tNext) : SS C X own vw fr io (fun e => some (.ok .nx e)) (WS X st) := by
  intro Z P σ H env As o env' S e D q
  simp only [Option.some.injEq, Rs.ok.injEq] at e
  obtain ⟨rfl, rfl⟩ := e
  exact h.we (q σ H Z P As S TSx.refl)
theorem ss_brk {own vw : List Nat} {fr io : Bool} {p : Pos} : SS C X own vw fr io (fun e => some (.ok .bk e)) (WS X (.Break p)) := by
  intro Z P σ H env As o env' S e D q
  simp only [Option.some.injEq, Rs.ok.injEq] at e
  obtain ⟨rfl, rfl⟩ := e
  exact ps_break.we (q σ H Z P As S TSx.refl)
theorem ss_cnt {own vw : List Nat} {fr io : Bool} {p : Pos} : SS C X own vw fr io (fun e => some (.ok .ct e)) (WS X (.Continue p)) := by
  intro Z P σ H env As o env' S e D q
  simp only [Option.some.injEq, Rs.ok.injEq] at e
  obtain ⟨rfl, rfl⟩ := e
  exact ps_continue.we (q σ H Z P As S TSx.refl)
theorem ss_retN {own vw : List Nat} {fr io : Bool} {p : Pos} : SS C X own vw fr io (fun e => some (.ok (.rt .non) e)) (WS X (.Return none p)) := by
  intro Z P σ H env As o env' S e D q
  simp only [Option.some.injEq, Rs.ok.injEq] at e
  obtain ⟨rfl, rfl⟩ := e
  exact ps_retN.we (q .non σ H Z P As [] S TSx.refl .non ⟨fun _ => ⟨List.nodup_nil, fun a h => nomatch h⟩, fun a h => nomatch h⟩)
theorem SR.newP {K : PySem.W.Frag} {n : Nat} {own vw : List Nat} {Z P : Addr → Prop} {σ : L2.St} {H : Hp} {env : En} {As As' : Asg} (S : SR K n own vw Z P σ H env As) {a : Addr} (h : New own H As As' a) : ¬ P a ∧ ¬ OwA own As' a :=
  ⟨fun c => h.1.elim (fun z => S.ph a c z) fun ⟨i, hi, z⟩ => S.noP i hi a z c, h.2⟩
theorem ss_ret {own vw : List Nat} {fr : Bool} {a : DE} {x : Expr} {p : Pos} (ha : SE C Φ X own vw a x) (hf : fr = true → frE C.sigs a = true) : SS C X own vw fr (ioE a) (evS Φ (.ret a)) (WS X (.Return (some x) p)) := by
  intro Z P σ H env As o env' S e D q
  simp only [evS] at e
  obtain ⟨d, e1, h1, h2⟩ := bd_inv e
  simp only [Option.some.injEq, Rs.ok.injEq] at h2
  obtain ⟨rfl, rfl⟩ := h2
  refine (ps_ret Cy.we).we ?_
  show WE X x σ H D.rt
  refine ha Z P σ H env As _ _ S h1 _ fun v H1 A As1 S1 T1 r E => ?_
  exact q v σ H1 Z P As1 A S1 (T1.tsx S) r ⟨fun z => ⟨(E.1 (hf z)).1, fun b hb => S.newP ((E.1 (hf z)).2 b hb)⟩, E.2.2⟩
theorem ss_ex {own vw : List Nat} {fr : Bool} {a : DE} {x : Expr} {p : Pos} (ha : SE C Φ X own vw a x) (hs : swapsWith x none p.line X.env = pure false) : SS C X own vw fr (ioE a) (evS Φ (.ex a)) (WS X (.Expr x p)) := by
  intro Z P σ H env As o env' S e D q
  simp only [evS] at e
  obtain ⟨d, e1, h1, h2⟩ := bd_inv e
  simp only [Option.some.injEq, Rs.ok.injEq] at h2
  obtain ⟨rfl, rfl⟩ := h2
  refine (ps_expr Cy.we hs).we ?_
  refine ha Z P σ H env As _ _ S h1 _ fun v H1 A As1 S1 T1 r E => ?_
  exact q σ H1 Z P As1 S1 (T1.tsx S)
theorem ss_if {own vw : List Nat} {fr i1 i2 : Bool} {c : DE} {a b : DSs} {x : Expr} {xs ys : List Stmt} {p : Pos} (hc : SB C Φ X own vw (ioE c) (ev Φ c) (WT X x)) (ha : SS C X own vw fr i1 (evSs Φ a) (WSs X xs)) (hb : SS C X own vw fr i2 (evSs Φ b) (WSs X ys)) :
    SS C X own vw fr (ioE c || i1 || i2) (evS Φ (.ifs c a b)) (WS X (.If x xs ys p)) := by
  intro Z P σ H env As o env' S e D q
  simp only [evS] at e
  obtain ⟨d, e1, h1, h2⟩ := bd_inv e
  refine (ps_if Cy.wt Cy.wss Cy.wss).we ?_
  have o0 : ioE c = true → (ioE c || i1 || i2) = true := fun z => by rw [z]; rfl
  have o1 : i1 = true → (ioE c || i1 || i2) = true := fun z => by rw [z]; simp
  have o2 : i2 = true → (ioE c || i1 || i2) = true := fun z => by rw [z]; simp
  split at h2
  · refine hc Z P σ H env As _ _ S h1 _ fun H1 As1 S1 T1 => ?_
    rw [if_pos rfl]
    exact ha Z P σ H1 e1 As1 o env' S1 h2 D (Dn.step (T1.tsx S) o0 o1 q)
  · refine hc Z P σ H env As _ _ S h1 _ fun H1 As1 S1 T1 => ?_
    rw [if_neg Bool.false_ne_true]
    exact hb Z P σ H1 e1 As1 o env' S1 h2 D (Dn.step (T1.tsx S) o0 o2 q)
  · cases h2
/-- what is behind a name's store -/
theorem asg_fin {own vw : List Nat} {fr f s io : Bool} {ts : List Nat} {Z P : Addr → Prop} {σ σ' : L2.St} {H H1 : Hp} {env env1 env' : En} {As As1 B : Asg} {A : List Addr} {D : Ends} {K : PySem.W.Frag} {n : Nat}
    (S : SR K n own vw Z P σ H env As) (S1 : SR K n own vw Z P σ H1 env1 As1) (T1 : TR own io H As H1 As1) (E : EF own Z f s H As As1 A) (mA : ∀ a ∈ A, MutH H1 a) (hk : ∀ i ∈ ts, kOk own vw f s i = true) (R : BR K H1 ts A σ σ' env1 env' B)
    (q : Dn K n own vw fr io Z P H As .nx env' D) : D.nx σ' H1 :=
  q σ' H1 _ _ _ (S1.bind R E T1.mono (fun a ⟨i, hi, z⟩ c => S.noP i hi a z c) S.ph mA hk) ((T1.tsx S).bind R.sub E.2.2)
theorem ss_asg {own vw : List Nat} {fr : Bool} {tg : Tg} {a : DE} {t x : Expr} {p : Pos} {st : Scope} (F : Fx C Φ k X) (hs : StOk X st) (hm : mT C st tg t = true) (ha : SE C Φ X own vw a x) (hk : ∀ i ∈ tgs tg, kOk own vw (frE C.sigs a) (shE C.sigs (own ++ vw) a) i = true) (hn : (tgs tg).Nodup) (hi : ∀ i ∈ tgs tg, i < C.N.length)
    (h1 : swapsWithSole [t] x p.line X.env = pure false) (h2 : swappedStores [t] x X.env = pure none) (h3 : (assignEach [t] X.env).map (·.2) = [assign t X.env]) : SS C X own vw fr (ioE a) (evS Φ (.asg tg a)) (WS X (.Assign [t] x p)) := by
  intro Z P σ H env As o env' S e D q
  simp only [evS] at e
  obtain ⟨d, e1, k1, k2⟩ := bd_inv e
  simp only [Option.map_eq_some_iff, Rs.ok.injEq] at k2
  obtain ⟨e2, hb, rfl, rfl⟩ := k2
  refine (ps_asg Cy.we (pgT F hs hm) h1 h2 h3).we ?_
  refine ha Z P σ H env As _ _ S k1 _ fun v H1 A As1 S1 T1 r E => ?_
  exact bind_ok r hb (by rw [S1.len, S1.lenE]) hn (fun i h => by rw [S1.lenE]; exact hi i h) fun σ' B R => asg_fin S S1 T1 E (fun a h => r.mut a h) hk R q
end
end Cy
end
section
set_option Elab.async false
set_option linter.all false
set_option maxRecDepth 100000
set_option maxHeartbeats 4000000
/-! Soundness, 12: more statements: comprehensions stored, pairs, op=, for, while. -/
namespace Cy
open PySem L2 PyProof.Rows
section
variable {C : Ct} {Φ : Nat → Fn} {k : Nat} {X : Cx}
theorem k_one {own vw : List Nat} {f s : Bool} {i : Nat} (h : kOk own vw f s i = true) : ∀ j ∈ [i], kOk own vw f s j = true := fun j hj => by
  rw [List.mem_singleton] at hj
  rw [hj]; exact h
theorem BR.one {K : PySem.W.Frag} {H : Hp} {σ : L2.St} {env : En} {i : Nat} {v : V} {d : D} {A : List Addr} (r : Rep K H v d A) (h1 : i < σ.length) (h2 : i < env.length) : BR K H [i] A σ (σ.set i (some v)) env (env.set i (some d)) (fun _ => A) where
  len := List.length_set ..
  lenE := List.length_set ..
  out := fun j hj => by
    have : i ≠ j := fun z => hj (by simp [z])
    exact ⟨List.getElem?_set_ne this, List.getElem?_set_ne this⟩
  inn := fun j hj => by
    have : j = i := by simpa using hj
    subst this
    exact ⟨v, d, List.getElem?_set_self h1, List.getElem?_set_self h2, r⟩
  sub := fun _ _ a ha => ha
  nd := fun h => ⟨fun _ _ => h, fun a ha b hb hne => by
    have e1 : a = i := by simpa using ha
    have e2 : b = i := by simpa using hb
    exact absurd (e1.trans e2.symm) hne⟩
theorem ss_setLc {own vw os : List Nat} {fr : Bool} {elt : DE} {tg : Tg} {it : DI} {ifs : DEs} {x t i : Expr} {fs : List Expr} {scope : Scope} {pos : Pos} (F : Fx C Φ k X)
    (hbl : blkC C.N X.env.scope scope (ownP C os) = true) (hmt : mT C scope tg t = true) (hts : ∀ j ∈ tgs tg, j ∈ os) (hnd : (tgs tg).Nodup) (hp : plainX i = true) (hio : ioE elt = false) (hil : ioL ifs = false)
    (hi : SI C Φ X own vw it t i)
    (hf : ∀ X', Blk X scope X' → STs C Φ X' [] (own ++ vw ++ (if shI C.sigs (own ++ vw) it = true then [] else tgs tg)) ifs fs)
    (he : ∀ X', Blk X scope X' → SE C Φ X' [] (own ++ vw ++ (if shI C.sigs (own ++ vw) it = true then [] else tgs tg)) elt x)
    {y : Str} {j : Nat} {py spos : Pos} (hy : C.N[j]? = some y) (hyl : X.env.scope.names.lookup y = some .local) (hk : X.env.scope.kind = .function) (hl : (py.line == pos.line) = true)
    (ha : (scope.names.any fun (n, k) => n == y && (k == .local || k == .cell)) = false) (hkk : kOk own vw (frE C.sigs (.comp elt tg it ifs os)) (shE C.sigs (own ++ vw) (.comp elt tg it ifs os)) j = true) :
    SS C X own vw fr (ioE (.comp elt tg it ifs os)) (evS Φ (.asg (.n j) (.comp elt tg it ifs os))) (WS X (.Assign [.Name y py] (.ListComp x [⟨t, i, fs, 0⟩] scope pos) spos)) := by
  intro Z P σ H env As o env' S e D q
  simp only [evS] at e
  obtain ⟨d, e1, k1, k2⟩ := bd_inv e
  simp only [bindT, Option.map_some, Option.some.injEq, Rs.ok.injEq] at k2
  obtain ⟨rfl, rfl⟩ := k2
  refine (ps_comp (spos := spos) F hbl hmt hts hnd hp hio hil hi hf he hy hyl hk hl ha).we ?_
  have hj : j < C.N.length := (List.getElem?_eq_some_iff.mp hy).1
  refine comp_core (pos := pos) F hbl hmt hts hnd hp hio hil hi hf he S k1 fun v H1 A As1 S1 T1 r E => ?_
  exact asg_fin S S1 T1 E (fun a h => r.mut a h) (k_one hkk) (BR.one r (by rw [S1.len]; exact hj) (by rw [S1.lenE]; exact hj)) q
/-- a, b = x, y -/
theorem ss_par {own vw : List Nat} {fr : Bool} {i j : Nat} {a b : DE} {x y : Str} {xa xb : Expr} {px py pt p : Pos} {kt k2 : Nat} {pt2 : Pos} (F : Fx C Φ k X) (hi : C.N[i]? = some x) (hj : C.N[j]? = some y) (hij : i ≠ j)
    (hx : X.env.scope.names.lookup x = some .local) (hy : X.env.scope.names.lookup y = some .local) (ha : SE C Φ X own vw a xa) (hb : SE C Φ X own vw b xb) (hp1 : plainX xa = true) (hp2 : plainX xb = true)
    (hw : swappedStores [.Tuple [.Name x px, .Name y py] kt pt] (.Tuple [xa, xb] k2 pt2) X.env = pure (some [x, y]))
    (k1 : kOk own vw (frE C.sigs a) (frE C.sigs a || shE C.sigs (own ++ vw) a) i = true) (kb : kOk own vw (frE C.sigs b) (frE C.sigs b || shE C.sigs (own ++ vw) b) j = true) (hio : ioE b = false) :
    SS C X own vw fr (ioE a || ioE b) (evS Φ (.par i j a b)) (WS X (.Assign [.Tuple [.Name x px, .Name y py] kt pt] (.Tuple [xa, xb] k2 pt2) p)) := by
  intro Z P σ H env As o env' S e D q
  simp only [evS] at e
  obtain ⟨d, e1, h1, h2⟩ := bd_inv e
  obtain ⟨g, h2⟩ := gd_inv h2
  obtain ⟨d2, e2, h3, h4⟩ := bd_inv h2
  simp only [Option.some.injEq, Rs.ok.injEq] at h4
  obtain ⟨rfl, rfl⟩ := h4
  refine (L2.ps_par F.calm (by rw [F.nN]; exact F.nd) (by rw [F.nN]; exact hi) (by rw [F.nN]; exact hj) hij hx hy (pa_cons Cy.we (pa_cons Cy.we pa_nil (plain_star hp2)) (plain_star hp1)) hw).we ?_
  refine ha Z P σ H env As _ _ S h1 _ fun v1 H1 A1 As1 S1 T1 r1 E1 => ?_
  refine hb Z P σ H1 e1 As1 _ _ S1 h3 _ fun v2 H2 A2 As2 S2 T2 r2 E2 => ?_
  refine ⟨v1, v2, rfl, ?_⟩
  have hil : i < C.N.length := (List.getElem?_eq_some_iff.mp hi).1
  have hjl : j < C.N.length := (List.getElem?_eq_some_iff.mp hj).1
  have r1' := r1.step S1 T2 (guard_pure g)
  have m1 : ∀ a ∈ A1, MutH H1 a := fun a h => r1.mut a h
  -- the first name, then the second one
  have R1 := BR.one (σ := σ) (env := e2) r1' (i := i) (by rw [S2.len]; exact hil) (by rw [S2.lenE]; exact hil)
  have E1' : EF own Z (frE C.sigs a) (frE C.sigs a || shE C.sigs (own ++ vw) a) H As As2 A1 := (E1.step m1 T2).orr
  have T12 := T1.trans T2 (io := ioE a || ioE b) (orl (b := ioE b)) (orr (a := ioE a))
  have S3 := S2.bind R1 E1' T12.mono (fun a ⟨i, hi, z⟩ c => S.noP i hi a z c) S.ph (fun a h => r1'.mut a h) (k_one k1)
  have T3 : TSx (ioE a || ioE b) Z P H As _ _ H2 _ := (T12.tsx S).bind R1.sub (W := fun x => ∃ i' ∈ [i], i' ∉ own ∧ i' ∉ vw ∧ x ∈ (fun _ => A1) i') E1'.2.2
  have R2 := BR.one (σ := σ.set i (some v1)) (env := e2.set i (some d)) r2 (i := j) (by rw [List.length_set, S2.len]; exact hjl) (by rw [List.length_set, S2.lenE]; exact hjl)
  have m2 : ∀ a ∈ A2, MutH H2 a := fun a h => r2.mut a h
  -- what is new of the second is new still
  have nw : ∀ c, New own H1 As1 As2 c → New own H1 As1 (fun l => if l ∈ [i] then A1 else As2 l) c := fun c hn => ⟨hn.1, fun ⟨l, hl, hc⟩ => by
    by_cases e : l = i
    · subst e
      simp only [List.mem_singleton, if_true] at hc
      have fa : frE C.sigs a = true := by
        have := k1
        unfold kOk at this
        rw [if_pos (by simpa using hl)] at this
        exact this
      obtain ⟨n1, g1⟩ := E1.1 fa
      exact (g1 c hc).apart (m1 c hc) hn rfl
    · have : ¬ l ∈ [i] := by simpa using e
      have hc : c ∈ (if l ∈ [i] then A1 else As2 l) := hc
      rw [if_neg this] at hc
      exact hn.2 ⟨l, hl, hc⟩⟩
  have E2' : EF own (fun x => Z x ∨ ∃ i' ∈ [i], i' ∉ own ∧ i' ∉ vw ∧ x ∈ (fun _ => A1) i') (frE C.sigs b) (frE C.sigs b || shE C.sigs (own ++ vw) b) H1 As1 (fun l => if l ∈ [i] then A1 else As2 l) A2 :=
    ⟨fun z => ⟨(E2.1 z).1, fun c hc => nw c ((E2.1 z).2 c hc)⟩, fun z c hc => by
      rcases E2.orr.2.1 z c hc with y | y
      · exact .inl (nw c y)
      · exact .inr (.inl y), E2.2.2⟩
  have q' := q
  refine q (((σ.set i (some v1)).set j (some v2))) H2 _ _ _ (S3.bind R2 E2' (fun a h => T2.mono a h) (fun c hc z => ?_) (fun c z => ?_) m2 (k_one kb)) (T3.bind R2.sub (fun c hc => (E2.back T1).2.2 c hc))
  · rcases z with z | ⟨l, hl, l1, l2, z⟩
    · obtain ⟨l, hl, hc⟩ := hc
      exact S1.noP l hl c hc z
    · have hl : l = i := by simpa using hl
      subst hl
      have ho : frE C.sigs a = true ∨ shE C.sigs (own ++ vw) a = true := by
        have := k1
        unfold kOk at this
        rw [if_neg (by simpa using l1)] at this
        simp [l2] at this
        rcases this with h | h
        · exact .inl h
        · exact .inr h
      rcases E1.orr.2.1 (by rcases ho with h | h <;> rw [h] <;> simp) c z with y | y
      · exact y.2 hc
      · obtain ⟨l', hl', hc'⟩ := hc
        exact S1.noP l' hl' c hc' (S1.zp c y)
  · rcases z with z | ⟨l, hl, l1, l2, z⟩
    · exact S1.ph c z
    · obtain ⟨xs, m⟩ := m1 c z
      rw [m]; simp
/-- op= of numbers and texts -/
def rAug (o : BO) : V → V → Hp → VK → Prop := fun x y H Q => (∃ i j, x = .int i ∧ y = .int j ∧ ((o = .add ∧ Q (.int (i + j)) H) ∨ (o = .sub ∧ Q (.int (i - j)) H))) ∨
  (∃ i j, x = .str i ∧ y = .str j ∧ o = .add ∧ i.cps.size + j.cps.size ≤ LMX ∧ Q (.str ⟨i.cps ++ j.cps⟩) H)
theorem ip_aug {o : BO} (h : o = .add ∨ o = .sub) : PIp X (opOf o) (rAug o) := by
  intro pins s σ H x y v u Q I rx ry q
  rcases q with ⟨i, j, ex, ey, ⟨rfl, q⟩ | ⟨rfl, q⟩⟩ | ⟨i, j, ex, ey, rfl, hz, q⟩
  · exact ip_add pins s σ H x y v u Q I rx ry ⟨i, j, ex, ey, q⟩
  · exact ip_sub pins s σ H x y v u Q I rx ry ⟨i, j, ex, ey, q⟩
  · exact iop_add_str pins s σ H x y v u Q I rx ry ⟨i, j, ex, ey, line_LMX hz, q⟩
theorem ss_aug {own vw : List Nat} {fr : Bool} {i : Nat} {o : BO} {a : DE} {x : Str} {xa : Expr} {px p : Pos} (F : Fx C Φ k X) (hn : C.N[i]? = some x) (hx : Loc X.env.scope x) (hf : X.fn x = true ∨ X.env.scope.names.lookup x = some .local) (ha : SE C Φ X own vw a xa) (ho : o = .add ∨ o = .sub) :
    SS C X own vw fr (ioE a) (evS Φ (.aug i o a)) (WS X (.AugAssign (.Name x px) (opOf o) xa p)) := by
  intro Z P σ H env As ou env' S e D q
  simp only [evS] at e
  split at e
  rotate_left
  · cases e
  rename_i d0 hd0
  obtain ⟨d, e1, h1, h2⟩ := bd_inv e
  split at h2
  rotate_left
  · cases h2
  rename_i hp
  simp only [Option.map_eq_some_iff, Rs.ok.injEq] at h2
  obtain ⟨z, hz, rfl, rfl⟩ := h2
  obtain ⟨v0, hv0, r0⟩ := S.rep i d0 hd0
  refine (L2.ps_aug (i := i) (by rw [F.nN]; exact F.nd) (by rw [F.nN]; exact hn) hx Cy.we (ip_aug ho) hf).we ⟨v0, hv0, ?_⟩
  refine ha Z P σ H env As _ _ S h1 _ fun v1 H1 A1 As1 S1 T1 r1 E1 => ?_
  have r0' := r0.step S T1 (fun _ => hp)
  have hl : i < C.N.length := (List.getElem?_eq_some_iff.mp hn).1
  have fin : ∀ (zv : V), Rep X.K H1 zv z [] → D.nx (σ.set i (some zv)) H1 := fun zv rz => by
    refine asg_fin (f := true) (s := true) (A := []) (ts := [i]) S S1 T1 EF.pure (fun a h => nomatch h) (fun j hj => ?_) (BR.one rz (by rw [S1.len]; exact hl) (by rw [S1.lenE]; exact hl)) q
    unfold kOk
    split <;> simp
  generalize As i = A0 at r0'
  rcases ho with rfl | rfl
  · cases r0' <;> cases r1 <;> simp only [binD, Option.some.injEq, reduceCtorEq] at hz
    · subst hz
      exact .inl ⟨_, _, rfl, rfl, .inl ⟨rfl, fin _ (.int _)⟩⟩
    · split at hz
      · rename_i hz2
        simp only [Option.some.injEq] at hz
        subst hz
        exact .inr ⟨_, _, rfl, rfl, rfl, hz2, fin _ (.str _)⟩
      · cases hz
  · cases r0' <;> cases r1 <;> simp only [binD, Option.some.injEq, reduceCtorEq] at hz
    subst hz
    exact .inl ⟨_, _, rfl, rfl, .inr ⟨rfl, fin _ (.int _)⟩⟩
/-! ### loops -/
theorem ss_for {own vw : List Nat} {fr i2 fz : Bool} {tg : Tg} {it : DI} {b : DSs} {t x : Expr} {bs : List Stmt} {p : Pos} {st : Scope} (F : Fx C Φ k X) (hpo : PassesOwn (model X.prog X.w) X.A X.env X.xe) (hs : StOk X st) (hm : mT C st tg t = true) (hn : (tgs tg).Nodup) (hil : ∀ i ∈ tgs tg, i < C.N.length) (hno : ∀ i ∈ tgs tg, i ∉ own) (hp : plainX x = true)
    (hi : SI C Φ X own vw it t x) (hb : SS C X own vw fr i2 (evSs Φ b) (WSs X bs)) (hfz : fz = true → frI C.sigs it = true ∨ shI C.sigs (own ++ vw) it = true) (hnf : fz = false → i2 = false ∧ ∀ i ∈ tgs tg, i ∈ vw) :
    SS C X own vw fr (ioI it || i2) (evS Φ (.for tg it b)) (WS X (.For t x bs [] p)) := by
  intro Z P σ H env As o env' S e D q
  simp only [evS] at e
  obtain ⟨xs, e1, h1, h2⟩ := bd_inv e
  refine (ps_for hpo F.calm Cy.wi (pgT F hs hm) Cy.wss (fun z => plain_fold hp z)).we ?_
  have o1 : ioI it = true → (ioI it || i2) = true := fun z => by rw [z]; rfl
  have o2 : i2 = true → (ioI it || i2) = true := fun z => by rw [z]; simp
  refine hi Z P σ H env As _ _ S h1 _ fun J H1 A As1 S1 T1 io mA E1 => ?_
  have T1' : TSx (ioI it || i2) Z P H As Z P H1 As1 := (T1.tsx S).weak o1
  -- the walked lists, frozen
  have nwA : fz = true → ∀ a ∈ A, ¬ OwA own As1 a := fun z a ha => by
    rcases hfz z with f | f
    · exact ((E1.1 f).2 a ha).2
    · rcases E1.2.1 f a ha with y | y
      · exact y.2
      · exact fun ⟨i, hi, c⟩ => S1.noP i hi a c (S1.zp a y)
  refine for_it io (fun j σj Hj => ∃ ej Zj Pj Asj, SR X.K C.N.length own vw Zj Pj σj Hj ej Asj ∧ TSx (ioI it || i2) Z P H As Zj Pj Hj Asj ∧ Kept H1 A Hj ∧ (fz = true → ∀ a ∈ A, Zj a) ∧
    forL (fun x e2 => bindT tg x e2) (fun e2 => evSs Φ b e2) (xs.drop j) ej = some (.ok o env')) ?_ ?_ ?_ ?_
  · by_cases z : fz = true
    · refine ⟨e1, _, _, As1, S1.freeze (A := fun a => a ∈ A) (fun a ha => mA a ha) (fun a ha => nwA z a ha), T1'.trans (TSx.freeze (io := false)) id (fun z => by cases z), ⟨fun _ _ h _ => h, fun _ _ _ h => h⟩, fun _ a ha => .inr ha, by simpa using h2⟩
    · exact ⟨e1, Z, P, As1, S1, T1', ⟨fun _ _ h _ => h, fun _ _ _ h => h⟩, fun y => absurd y z, by simpa using h2⟩
  · rintro j σj Hj hj ⟨ej, Zj, Pj, Asj, _, _, kp, _, _⟩
    exact kp
  · rintro j v σj Hj Hj' hj ⟨ej, Zj, Pj, Asj, Sj, Tj, kp, fzz, ee⟩ ⟨sm, dj, B0, hdj, rj, sB⟩
    have hdr : xs.drop j = dj :: xs.drop (j + 1) := by
      obtain ⟨hl, hg⟩ := List.getElem?_eq_some_iff.mp hdj
      rw [List.drop_eq_getElem_cons hl, hg]
    rw [hdr] at ee
    simp only [forL] at ee
    split at ee
    · cases ee
    rename_i e2 hbt
    have Sj' := Sj.grow sm
    refine bind_ok rj hbt (by rw [Sj.len, Sj.lenE]) hn (fun z hz => by rw [Sj.lenE]; exact hil z hz) fun σ2 B R => ?_
    have mB : ∀ a ∈ B0, MutH Hj' a := fun a h => rj.mut a h
    -- the state with the names bound
    have S2 : SR X.K C.N.length own vw Zj Pj σ2 Hj' e2 (fun l => if l ∈ tgs tg then B l else Asj l) := by
      refine ⟨by rw [R.len, Sj.len], by rw [R.lenE, Sj.lenE], fun i d h => ?_, fun i h => ?_, fun i g1 g2 a ha => ?_, fun i hi => ?_, fun i hi a ha c => ?_, fun i hi l hl hne a ha hb => ?_, Sj.zp, Sj'.ph⟩
      · by_cases ht : i ∈ tgs tg
        · obtain ⟨v', d', g1, g2, g3⟩ := R.inn i ht
          rw [h] at g2
          simp only [Option.some.injEq] at g2
          subst g2
          rw [if_pos ht]; exact ⟨v', g1, g3⟩
        · obtain ⟨y1, y2⟩ := R.out i ht
          rw [if_neg ht, y1]
          rw [y2] at h
          exact Sj'.rep i d h
      · by_cases ht : i ∈ tgs tg
        · obtain ⟨v', d', g1, g2, g3⟩ := R.inn i ht
          exact absurd g2 (h d')
        · rw [if_neg ht]
          refine Sj.non i fun d z => h d ?_
          rw [(R.out i ht).2]; exact z
      · by_cases ht : i ∈ tgs tg
        · rw [if_pos ht] at ha
          by_cases z : fz = true
          · exact fzz z a (sB.subset (R.sub i ht a ha))
          · exact absurd ((hnf (by simpa using z)).2 i ht) g2
        · rw [if_neg ht] at ha
          exact Sj.shr i g1 g2 a ha
      · rw [if_neg (fun z => hno i z hi)]; exact Sj.nod i hi
      · rw [if_neg (fun z => hno i z hi)] at ha; exact Sj.noP i hi a ha c
      · rw [if_neg (fun z => hno i z hi)] at ha
        rw [if_neg (fun z => hno l z hl)] at hb
        exact Sj.dis i hi l hl hne a ha hb
    have Tg : TSx (ioI it || i2) Z P H As Zj Pj Hj' (fun l => if l ∈ tgs tg then B l else Asj l) := ⟨fun a h => by
        cases z : Hj a with
        | none => exact absurd z (Tj.mono a h)
        | some o => rw [sm a o z]; simp, fun a o h c => sm a o (Tj.keep a o h c), fun l a h => by
        by_cases ht : l ∈ tgs tg
        · rw [if_pos ht] at h
          exact (E1.2.2 a (sB.subset (R.sub l ht a h))).symm
        · rw [if_neg ht] at h; exact Tj.al l a h, Tj.zz, Tj.pp⟩
    have kp' : Kept H1 A Hj' := ⟨fun a o h c => sm a o (kp.1 a o h c), fun a ha o h => sm a o (kp.2 a ha o h)⟩
    -- behind the body
    have again : ∀ {e3 : En}, forL (fun x e2 => bindT tg x e2) (fun e2 => evSs Φ b e2) (xs.drop (j + 1)) e3 = some (.ok o env') → ∀ σ' H' Z' P' As', SR X.K C.N.length own vw Z' P' σ' H' e3 As' → TSx i2 Zj Pj Hj' (fun l => if l ∈ tgs tg then B l else Asj l) Z' P' H' As' →
        ∃ ej Zj Pj Asj, SR X.K C.N.length own vw Zj Pj σ' H' ej Asj ∧ TSx (ioI it || i2) Z P H As Zj Pj H' Asj ∧ Kept H1 A H' ∧ (fz = true → ∀ a ∈ A, Zj a) ∧ forL (fun x e2 => bindT tg x e2) (fun e2 => evSs Φ b e2) (xs.drop (j + 1)) ej = some (.ok o env') :=
      fun {e3} he σ' H' Z' P' As' S' T' => by
        refine ⟨e3, Z', P', As', S', Tg.trans T' id o2, ⟨fun a o h c => T'.keep a o (kp'.1 a o h c) (.inr (.inl c)), fun a ha o h => T'.keep a o (kp'.2 a ha o h) ?_⟩, fun z a ha => T'.zz a (fzz z a ha), he⟩
        by_cases z : fz = true
        · exact .inl (Sj.zp a (fzz z a ha))
        · exact .inr (.inr (hnf (by simpa using z)).1)
    split at ee
    · rename_i e3 hbd
      exact hb Zj Pj σ2 Hj' e2 _ _ _ S2 hbd _ fun σ' H' Z' P' As' S' T' => again ee σ' H' Z' P' As' S' T'
    · rename_i e3 hbd
      exact hb Zj Pj σ2 Hj' e2 _ _ _ S2 hbd _ fun σ' H' Z' P' As' S' T' => again ee σ' H' Z' P' As' S' T'
    · rename_i e3 hbd
      simp only [Option.some.injEq, Rs.ok.injEq] at ee
      obtain ⟨rfl, rfl⟩ := ee
      exact hb Zj Pj σ2 Hj' e2 _ _ _ S2 hbd _ fun σ' H' Z' P' As' S' T' => q σ' H' Z' P' As' S' (Tg.trans T' id o2)
    · rename_i n1 n2 n3
      cases o with
      | nx => exact absurd ee (n1 _)
      | bk => exact absurd ee (n3 _)
      | ct => exact absurd ee (n2 _)
      | rt d => exact hb Zj Pj σ2 Hj' e2 _ _ _ S2 ee _ fun v σ' H' Z' P' As' A' S' T' r e => q v σ' H' Z' P' As' A' S' (Tg.trans T' id o2) r (RF.step (K := X.K) (n := C.N.length) Tg e)
  · rintro σj Hj ⟨ej, Zj, Pj, Asj, Sj, Tj, kp, fzz, ee⟩
    rw [List.drop_length] at ee
    simp only [forL, Option.some.injEq, Rs.ok.injEq] at ee
    obtain ⟨rfl, rfl⟩ := ee
    exact q σj Hj Zj Pj Asj Sj Tj
theorem ss_whl {own vw : List Nat} {fr i2 : Bool} {c : DE} {b : DSs} {x : Expr} {bs : List Stmt} {p : Pos} (hpo : PassesOwn (model X.prog X.w) X.A X.env X.xe)
    (hc : SB C Φ X own vw (ioE c) (ev Φ c) (WT X x)) (hb : SS C X own vw fr i2 (evSs Φ b) (WSs X bs)) : SS C X own vw fr (ioE c || i2) (evS Φ (.whl c b)) (WS X (.While x bs [] p)) := by
  intro Z P σ H env As o env' S e D q
  simp only [evS, wh] at e
  split at e
  rotate_left
  · cases e
  generalize Classical.choose _ = m0 at e
  have o1 : ioE c = true → (ioE c || i2) = true := fun z => by rw [z]; rfl
  have o2 : i2 = true → (ioE c || i2) = true := fun z => by rw [z]; simp
  refine (ps_while hpo Cy.wt Cy.wss).we ?_
  refine ⟨fun m σj Hj => ∃ ej Zj Pj Asj, SR X.K C.N.length own vw Zj Pj σj Hj ej Asj ∧ TSx (ioE c || i2) Z P H As Zj Pj Hj Asj ∧ whN (fun e1 => ev Φ c e1) (fun e1 => evSs Φ b e1) m ej = some (.ok o env'), ⟨m0, env, Z, P, As, S, TSx.refl, e⟩, ?_⟩
  rintro m σj Hj ⟨ej, Zj, Pj, Asj, Sj, Tj, ee⟩
  cases m with
  | zero => simp [whN] at ee
  | succ m =>
    simp only [whN] at ee
    split at ee
    · rename_i e1 hc1
      refine hc Zj Pj σj Hj ej Asj _ _ Sj hc1 _ fun H1 As1 S1 T1 => ?_
      rw [if_pos rfl]
      have T2 : TSx (ioE c || i2) Z P H As Zj Pj H1 As1 := Tj.trans (T1.tsx Sj) id o1
      refine ⟨fun σ' H' => ∃ ej Zj Pj Asj, SR X.K C.N.length own vw Zj Pj σ' H' ej Asj ∧ TSx (ioE c || i2) Z P H As Zj Pj H' Asj ∧ whN (fun e1 => ev Φ c e1) (fun e1 => evSs Φ b e1) m ej = some (.ok o env'), fun σ' H' h => ⟨m, Nat.lt_succ_self m, h⟩, ?_⟩
      split at ee
      · rename_i e2 hbd
        exact hb Zj Pj σj H1 e1 As1 _ _ S1 hbd _ fun σ' H' Z' P' As' S' T' => ⟨e2, Z', P', As', S', T2.trans T' id o2, ee⟩
      · rename_i e2 hbd
        exact hb Zj Pj σj H1 e1 As1 _ _ S1 hbd _ fun σ' H' Z' P' As' S' T' => ⟨e2, Z', P', As', S', T2.trans T' id o2, ee⟩
      · rename_i e2 hbd
        simp only [Option.some.injEq, Rs.ok.injEq] at ee
        obtain ⟨rfl, rfl⟩ := ee
        exact hb Zj Pj σj H1 e1 As1 _ _ S1 hbd _ fun σ' H' Z' P' As' S' T' => q σ' H' Z' P' As' S' (T2.trans T' id o2)
      · rename_i n1 n2 n3
        cases o with
        | nx => exact absurd ee (n1 _)
        | bk => exact absurd ee (n3 _)
        | ct => exact absurd ee (n2 _)
        | rt d => exact hb Zj Pj σj H1 e1 As1 _ _ S1 ee _ fun v σ' H' Z' P' As' A' S' T' r e => q v σ' H' Z' P' As' A' S' (T2.trans T' id o2) r (RF.step (K := X.K) (n := C.N.length) T2 e)
    · rename_i e1 hc1
      simp only [Option.some.injEq, Rs.ok.injEq] at ee
      obtain ⟨rfl, rfl⟩ := ee
      refine hc Zj Pj σj Hj ej Asj _ _ Sj hc1 _ fun H1 As1 S1 T1 => ?_
      rw [if_neg Bool.false_ne_true]
      exact q σj H1 Zj Pj As1 S1 (Tj.trans (T1.tsx Sj) id o1)
    · cases ee
    · cases ee
end
end Cy
end
section
set_option Elab.async false
set_option linter.all false
set_option maxRecDepth 100000
set_option maxHeartbeats 4000000
/-! Soundness, 13: lists changed in place. -/
namespace Cy
open PySem L2 PyProof.Rows
/-- from a slot's value along a path to a list -/
def Nav (H : Hp) (v0 : V) : List AcV → Addr → Prop
  | [], t => v0 = .ref t
  | [.i (.int k)], t => ∃ p vs j, v0 = .ref p ∧ H p = some (.lst vs) ∧ ixP vs.length k = some j ∧ vs[j]? = some (.ref t)
  | _, _ => False
section
variable {K : PySem.W.Frag} {n : Nat} {own vw : List Nat} {Z P : Addr → Prop} {σ : L2.St} {H H1 H2 : Hp} {env env1 env2 : En} {As As1 As2 : Asg}
theorem Nav.step {io : Bool} {v0 : V} {q : List AcV} {t : Addr} (T : TR own io H1 As1 H2 As2) (c : q = [] ∨ io = false) (h : Nav H1 v0 q t) : Nav H2 v0 q t := by
  unfold Nav at h ⊢
  split at h
  · exact h
  · rename_i k
    obtain ⟨p, vs, j, h1, h2, h3, h4⟩ := h
    rcases c with c | c
    · cases c
    · exact ⟨p, vs, j, h1, T.keep _ _ h2 (fun z => by rw [c] at z; cases z), h3, h4⟩
  · exact h.elim
/-- one item exchanged -/
theorem Reps.sub : ∀ {ds : List D} {vs : List V} {A : List Addr} {j : Nat} {dj : D}, Reps K H vs ds A → ds[j]? = some dj →
    ∃ A1 C A2 v, A = A1 ++ C ++ A2 ∧ vs[j]? = some v ∧ Rep K H v dj C ∧ ∀ H' C' d', (∀ a o, H a = some o → (∀ xs, o ≠ .lst xs) → H' a = some o) → (∀ a, a ∈ A1 ∨ a ∈ A2 → ∀ o, H a = some o → H' a = some o) → Rep K H' v d' C' → Reps K H' vs (ds.set j d') (A1 ++ C' ++ A2)
  | _, _, _, _, _, .nil, h => by simp at h
  | _, _, _, 0, dj, .cons (v := v) (vs := vs) (A := A0) (B := B0) r t, h => by
    simp at h; subst h
    refine ⟨[], A0, B0, v, by simp, rfl, r, fun H' C' d' k1 k2 r' => ?_⟩
    have := Reps.cons r' (t.keep k1 fun a ha => k2 a (.inr ha))
    simpa using this
  | _, _, _, j + 1, dj, .cons (v := v) (vs := vs) (A := A0) (B := B0) r t, h => by
    obtain ⟨A1, C, A2, w, e, g, rw', f⟩ := Reps.sub (j := j) t (by simpa using h)
    refine ⟨A0 ++ A1, C, A2, w, by rw [e]; simp, by simpa using g, rw', fun H' C' d' k1 k2 r' => ?_⟩
    have z := Reps.cons (r.keep k1 fun a ha => k2 a (.inl (List.mem_append_left _ ha))) (f H' C' d' k1 (fun a ha => k2 a (ha.imp (fun x => List.mem_append_right _ x) id)) r')
    simpa using z
theorem nodup_mid {A1 C C' A2 : List Addr} (h : (A1 ++ C ++ A2).Nodup) (n : C'.Nodup) (s : ∀ a ∈ C', a ∈ C ∨ a ∉ A1 ++ C ++ A2) : (A1 ++ C' ++ A2).Nodup := by
  obtain ⟨h1, h2, h3⟩ := List.nodup_append.mp h
  obtain ⟨h4, h5, h6⟩ := List.nodup_append.mp h1
  refine List.nodup_append.mpr ⟨List.nodup_append.mpr ⟨h4, n, fun a ha b hb e => ?_⟩, h2, fun a ha b hb e => ?_⟩
  · subst e
    rcases s a hb with z | z
    · exact h6 a ha a z rfl
    · exact z (by simp [ha])
  · subst e
    rcases List.mem_append.mp ha with ha | ha
    · exact h3 a (List.mem_append_left _ ha) a hb rfl
    · rcases s a ha with z | z
      · exact h3 a (List.mem_append_right _ z) a hb rfl
      · exact z (by simp [hb])
/-- what is changed at a path's end -/
theorem nav_upd {v0 : V} {d0 d' : D} {A : List Addr} {q : List AcV} {t : Addr} {f : D → Option D} (r : Rep K H v0 d0 A) (nd : A.Nodup) (nv : Nav H v0 q t) (hu : updD q f d0 = some d') (hf : ∀ d y, f d = some y → ∃ xs ys, d = .lst xs ∧ y = .lst ys) :
    ∃ xs ys ws C0, f (.lst xs) = some (.lst ys) ∧ H t = some (.lst ws) ∧ Reps K H ws xs C0 ∧ (∀ a ∈ C0, a ∈ A) ∧ t ∈ A ∧ t ∉ C0 ∧ C0.Nodup ∧
      ∀ ws' C0', Reps K H ws' ys C0' → C0'.Nodup → t ∉ C0' → (∀ a ∈ C0', a ∈ C0 ∨ a ∉ A) → ∃ A', Rep K (upd H t (.lst ws')) v0 d' A' ∧ A'.Nodup ∧ ∀ a ∈ A', a ∈ A ∨ a ∈ C0' := by
  unfold Nav at nv
  split at nv
  · subst nv
    simp only [updD] at hu
    obtain ⟨xs, ys, rfl, rfl⟩ := hf _ _ hu
    cases r with
    | @lst p ws ds C0 h1 r =>
      obtain ⟨n1, n2⟩ := List.nodup_cons.mp nd
      refine ⟨xs, ys, ws, C0, hu, h1, r, fun a h => List.mem_cons_of_mem _ h, List.mem_cons_self .., n1, n2, fun ws' C0' r' m1 m2 m3 => ⟨t :: C0', .lst upd_same (r'.keep (fun a o h g => ?_) fun a ha o h => ?_), List.nodup_cons.mpr ⟨m2, m1⟩, fun a ha => ?_⟩⟩
      · rw [upd_ne (show a ≠ t from fun z => g ws (by rw [z, h1] at h; exact (Option.some.inj h).symm))]; exact h
      · rw [upd_ne (show a ≠ t from fun z => m2 (z ▸ ha))]; exact h
      · rcases List.mem_cons.mp ha with z | z
        · exact .inl (by rw [z]; exact List.mem_cons_self ..)
        · exact .inr z
  · rename_i k
    obtain ⟨p, vs, j, rfl, hp, hj, hv⟩ := nv
    simp only [updD] at hu
    cases r with
    | @lst p' vs' ds A0 h1 r =>
      rw [hp] at h1
      simp only [Option.some.injEq, HO.lst.injEq] at h1
      subst h1
      have hl := r.length
      simp only [ixD, setD, ← hl, hj, Option.bind_some, Option.map_some, Option.bind_eq_some_iff, Option.some.injEq] at hu
      obtain ⟨c, hc, c', hc', rfl⟩ := hu
      obtain ⟨xs, ys, rfl, rfl⟩ := hf _ _ hc'
      obtain ⟨A1, Cc, A2, w, eA, g, rw', fin⟩ := r.sub hc
      rw [hv] at g
      simp only [Option.some.injEq] at g
      subst g
      subst eA
      obtain ⟨n1, n2⟩ := List.nodup_cons.mp nd
      cases rw' with
      | @lst t' ws ds' C0 h2 rr =>
        have tin : t ∈ A1 ++ (t :: C0) ++ A2 := by simp
        have pt : p ≠ t := fun z => n1 (z ▸ tin)
        obtain ⟨m1, m2, m3⟩ := List.nodup_append.mp n2
        obtain ⟨m4, m5, m6⟩ := List.nodup_append.mp m1
        obtain ⟨m7, m8⟩ := List.nodup_cons.mp m5
        refine ⟨xs, ys, ws, C0, hc', h2, rr, fun a h => List.mem_cons_of_mem _ (by simp [h]), List.mem_cons_of_mem _ tin, m7, m8, fun ws' C0' r' k1 k2 k3 => ?_⟩
        have un : ∀ a o, H a = some o → (∀ xs, o ≠ .lst xs) → (upd H t (.lst ws')) a = some o := fun a o h g => by
          rw [upd_ne (show a ≠ t from fun z => g ws (by rw [z, h2] at h; exact (Option.some.inj h).symm))]; exact h
        have rl : Rep K (upd H t (.lst ws')) (.ref t) (.lst ys) (t :: C0') := .lst upd_same (r'.keep un fun a ha o h => by rw [upd_ne (show a ≠ t from fun z => k2 (z ▸ ha))]; exact h)
        have rs := fin _ _ _ un (fun a ha o h => by
          rw [upd_ne]
          · exact h
          · rintro rfl
            rcases ha with ha | ha
            · exact m6 a ha a (List.mem_cons_self ..) rfl
            · exact m3 a (List.mem_append_right _ (List.mem_cons_self ..)) a ha rfl) rl
        have sub : ∀ a ∈ t :: C0', a ∈ t :: C0 ∨ a ∉ A1 ++ (t :: C0) ++ A2 := fun a ha => by
          rcases List.mem_cons.mp ha with z | z
          · exact .inl (by rw [z]; exact List.mem_cons_self ..)
          · rcases k3 a z with y | y
            · exact .inl (List.mem_cons_of_mem _ y)
            · exact .inr fun w => y (List.mem_cons_of_mem _ w)
        refine ⟨p :: (A1 ++ (t :: C0') ++ A2), .lst (by rw [upd_ne pt]; exact hp) rs, List.nodup_cons.mpr ⟨fun z => ?_, nodup_mid n2 (List.nodup_cons.mpr ⟨k2, k1⟩) sub⟩, fun a ha => ?_⟩
        · rcases List.mem_append.mp z with z | z
          · rcases List.mem_append.mp z with z | z
            · exact n1 (by simp [z])
            · rcases List.mem_cons.mp z with z | z
              · exact pt z
              · rcases k3 p z with y | y
                · exact n1 (by simp [y])
                · exact y (List.mem_cons_self ..)
          · exact n1 (by simp [z])
        · rcases List.mem_cons.mp ha with z | z
          · exact .inl (by rw [z]; exact List.mem_cons_self ..)
          · rcases List.mem_append.mp z with z | z
            · rcases List.mem_append.mp z with z | z
              · exact .inl (List.mem_cons_of_mem _ (by simp [z]))
              · rcases List.mem_cons.mp z with z | z
                · exact .inl (List.mem_cons_of_mem _ (by simp [z]))
                · exact .inr z
            · exact .inl (List.mem_cons_of_mem _ (by simp [z]))
    | _ =>
      first
        | (exfalso; simp [setD, Option.bind_eq_some_iff] at hu; done)
        | (simp only [setD, Option.bind_eq_some_iff] at hu
           obtain ⟨_, _, _, _, z⟩ := hu
           cases z)
  · exact nv.elim
/-- the state behind a change of slot i -/
theorem SR.write {i : Nat} {d1 : D} {v0 : V} {A0 : List Addr} {kl : List Nat} {H' : Hp}
    (S : SR K n own vw Z P σ H env As) (hi : i ∈ own) (hn : i < n) (hv : σ[i]? = some (some v0)) (mono : ∀ a, H a ≠ none → H' a ≠ none) (keep : ∀ a o, H a = some o → a ∉ As i → H' a = some o)
    (r : Rep K H' v0 d1 A0) (nd : A0.Nodup) (hA : ∀ a ∈ A0, a ∈ As i ∨ (¬ P a ∧ ¬ OwA own As a)) (hk : ∀ j ∈ vw, j ∈ kl) :
    SR K n own vw Z P σ H' (kil kl (env.set i (some d1))) (AsC As i A0 (kil kl (env.set i (some d1)))) := by
  have nP : ∀ a ∈ A0, ¬ P a := fun a ha hp => by
    rcases hA a ha with z | z
    · exact S.noP i hi a z hp
    · exact z.1 hp
  have nO : ∀ j ∈ own, j ≠ i → ∀ a ∈ A0, a ∉ As j := fun j hj hne a ha hb => by
    rcases hA a ha with z | z
    · exact S.dis i hi j hj (fun e => hne e.symm) a z hb
    · exact z.2 ⟨j, hj, hb⟩
  refine ⟨S.len, by rw [kil_len, List.length_set]; exact S.lenE, fun j d h => ?_, fun j h => ?_, fun j h1 h2 a ha => ?_, fun j hj => ?_, fun j hj a ha => ?_, fun j hj l hl hne a ha hb => ?_, S.zp, fun a h => mono a (S.ph a h)⟩
  · have he : AsC As i A0 (kil kl (env.set i (some d1))) j = if j = i then A0 else As j := by
      unfold AsC; rw [h]
    obtain ⟨h1, h2⟩ := kil_get h
    rw [he]
    by_cases e : j = i
    · subst e
      rw [List.getElem?_set_self (by rw [S.lenE]; exact hn)] at h1
      simp only [Option.some.injEq] at h1
      subst h1
      rw [if_pos rfl]
      exact ⟨v0, hv, r⟩
    · rw [List.getElem?_set_ne (fun z => e z.symm)] at h1
      rw [if_neg e]
      obtain ⟨v, g1, g2⟩ := S.rep j d h1
      refine ⟨v, g1, g2.keep (fun a o ha hn2 => keep a o ha fun c => ?_) fun a ha o hao => keep a o hao fun c => ?_⟩
      · obtain ⟨xs, q⟩ := S.own_mut ⟨i, hi, c⟩
        rw [ha] at q
        exact hn2 xs (Option.some.inj q)
      · by_cases hj : j ∈ own
        · exact S.dis j hj i hi e a ha c
        · by_cases hw : j ∈ vw
          · rw [g2.pure (h2 (hk j hw))] at ha; cases ha
          · exact S.noP i hi a c (S.zp a (S.shr j hj hw a ha))
  · unfold AsC
    split
    · rename_i d hd; exact absurd hd (h d)
    · rfl
  · have q := (AsC_sub ha).2
    by_cases e : j = i
    · subst e; exact absurd hi h1
    · rw [if_neg e] at q; exact S.shr j h1 h2 a q
  · unfold AsC
    split
    · split
      · exact nd
      · exact S.nod j hj
    · exact List.nodup_nil
  · have q := (AsC_sub ha).2
    by_cases e : j = i
    · rw [if_pos e] at q; exact nP a q
    · rw [if_neg e] at q; exact S.noP j hj a q
  · have q1 := (AsC_sub ha).2
    have q2 := (AsC_sub hb).2
    by_cases e : j = i
    · rw [if_pos e] at q1
      by_cases e2 : l = i
      · exact hne (e.trans e2.symm)
      · rw [if_neg e2] at q2; exact nO l hl e2 a q1 q2
    · rw [if_neg e] at q1
      by_cases e2 : l = i
      · rw [if_pos e2] at q2; exact nO j hj e a q2 q1
      · rw [if_neg e2] at q2; exact S.dis j hj l hl hne a q1 q2
/-- all that a change of a list needs -/
theorem upd_fin {i : Nat} {q : List AcV} {t : Addr} {v0 : V} {kl : List Nat} {f : D → Option D} {e' : En} {o : Ou} {D : Ends} {fr io : Bool} (T : TSx io Z P H As Z P H2 As2) (S2 : SR K n own vw Z P σ H2 env2 As2) (hi : i ∈ own) (hn : i < n) (hv : σ[i]? = some (some v0)) (nv : Nav H2 v0 q t) (hk : ∀ j ∈ vw, j ∈ kl)
    (hf : ∀ d y, f d = some y → ∃ xs ys, d = .lst xs ∧ y = .lst ys) (hu : updE i q f kl env2 = some (.ok o e')) (qd : Dn K n own vw fr true Z P H As o e' D) :
    ∃ xs ys ws C0, f (.lst xs) = some (.lst ys) ∧ H2 t = some (.lst ws) ∧ Reps K H2 ws xs C0 ∧ (∀ a ∈ C0, a ∈ As2 i) ∧ t ∈ As2 i ∧ t ∉ C0 ∧ C0.Nodup ∧
      ∀ ws' C0', Reps K H2 ws' ys C0' → C0'.Nodup → (∀ a ∈ C0', a ∈ C0 ∨ (¬ P a ∧ ¬ OwA own As2 a ∧ (H a = none ∨ ∃ i, a ∈ As i))) → D.nx σ (upd H2 t (.lst ws')) := by
  unfold updE at hu
  split at hu
  rotate_left
  · cases hu
  rename_i d0 hd0
  simp only [Option.map_eq_some_iff, Rs.ok.injEq] at hu
  obtain ⟨d', hu, rfl, rfl⟩ := hu
  obtain ⟨v0', hv', r⟩ := S2.rep i d0 hd0
  rw [hv] at hv'
  simp only [Option.some.injEq] at hv'
  subst hv'
  obtain ⟨xs, ys, ws, C0, h1, h2, h3, h4, h5, h6, h7, fin⟩ := nav_upd r (S2.nod i hi) nv hu hf
  refine ⟨xs, ys, ws, C0, h1, h2, h3, h4, h5, h6, h7, fun ws' C0' r' k1 k2 => ?_⟩
  obtain ⟨A', rA, nA, sA⟩ := fin ws' C0' r' k1 (fun c => by
    rcases k2 t c with z | z
    · exact h6 z
    · exact z.2.1 ⟨i, hi, h5⟩) (fun a ha => (k2 a ha).imp id fun z c => z.2.1 ⟨i, hi, c⟩)
  have keep : ∀ a o, H2 a = some o → a ∉ As2 i → (upd H2 t (.lst ws')) a = some o := fun a o h c => by
    rw [upd_ne (show a ≠ t from fun z => c (z ▸ h5))]; exact h
  have mono : ∀ a, H2 a ≠ none → (upd H2 t (.lst ws')) a ≠ none := fun a h => by
    by_cases e : a = t
    · subst e; rw [upd_same]; simp
    · rw [upd_ne e]; exact h
  refine qd σ _ Z P _ (S2.write hi hn hv mono keep rA nA (fun a ha => ?_) hk) ⟨fun a h => mono a (T.mono a h), fun a o h c => ?_, fun j a ha => ?_, fun _ h => h, fun _ h => h⟩
  · rcases sA a ha with z | z
    · exact .inl z
    · rcases k2 a z with y | y
      · exact .inl (h4 a y)
      · exact .inr ⟨y.1, y.2.1⟩
  · rcases c with c | c | c
    · exact keep a o (T.keep a o h (.inl c)) fun z => S2.noP i hi a z c
    · refine keep a o (T.keep a o h (.inr (.inl c))) fun z => ?_
      obtain ⟨xs', y⟩ := S2.own_mut ⟨i, hi, z⟩
      rw [T.keep a o h (.inr (.inl c))] at y
      exact c xs' (Option.some.inj y)
    · cases c
  · have g := (AsC_sub ha).2
    by_cases e : j = i
    · rw [if_pos e] at g
      rcases sA a g with z | z
      · exact T.al i a z
      · rcases k2 a z with y | y
        · exact T.al i a (h4 a y)
        · exact y.2.2.symm
    · rw [if_neg e] at g; exact T.al j a g
end
end Cy
end
section
set_option Elab.async false
set_option linter.all false
set_option maxRecDepth 100000
set_option maxHeartbeats 4000000
/-! Soundness, 14: append, extend, clear, subscripts stored. -/
namespace Cy
open PySem L2 PyProof.Rows
section
variable {C : Ct} {Φ : Nat → Fn} {k : Nat} {X : Cx}
/-- the receiver -/
def mPth (C : Ct) (sc : Scope) (i : Nat) : List Ac → Expr → Bool
  | [], e => (match asName e with | some x => nameAt C i x && visB sc x && okN x | none => false)
  | [.i a], e => (match asIx e with | some (l, r) => (match asName l with | some x => nameAt C i x && visB sc x && okN x | none => false) && mE C sc a r | none => false)
  | _, _ => false
def okPth (sg : List (Bool × Bool)) (own vw : List Nat) : List Ac → Bool
  | [] => true
  | [.i a] => okE sg own vw a && !ioE a
  | _ => false
theorem mPth_plain {sc : Scope} {i : Nat} {p : List Ac} {e : Expr} (h : mPth C sc i p e = true) : plainX e = true ∧ ∀ x p q, e ≠ .Call (.Name x p) [] [] q := by
  unfold mPth at h
  split at h
  · split at h
    · rename_i hx; obtain ⟨p, rfl⟩ := asName_eq hx; exact ⟨rfl, fun _ _ _ => by simp⟩
    · cases h
  · split at h
    · rename_i hx; obtain ⟨p, rfl⟩ := asIx_eq hx; exact ⟨rfl, fun _ _ _ => by simp⟩
    · cases h
  · cases h
theorem chk_eq {i : Nat} {q : List AcV} {e : En} (h : chkP i q e = true) : ∃ d xs, e[i]? = some (some d) ∧ getP q d = some (.lst xs) := by
  unfold chkP at h
  split at h
  · rename_i d hd
    split at h
    · rename_i xs hx; exact ⟨d, xs, hd, hx⟩
    · cases h
  · cases h
theorem se_path {own vw : List Nat} {i : Nat} {p : List Ac} {ex : Expr} (F : Fx C Φ k X) (hm : mPth C X.env.scope i p ex = true) (ho : okPth C.sigs own vw p = true) {Z P : Addr → Prop} {σ : L2.St} {H : Hp} {env env1 : En} {As : Asg} {q : List AcV}
    (S : SR X.K C.N.length own vw Z P σ H env As) (e : rcv Φ i p env = some (.ok q env1)) {Q : VK}
    (qq : ∀ H1 As1 t v0, SR X.K C.N.length own vw Z P σ H1 env1 As1 → TR own false H As H1 As1 → σ[i]? = some (some v0) → Nav H1 v0 q t → MutH H1 t → (p = [] → q = []) → i < C.N.length → Q (.ref t) H1) : WE X ex σ H Q := by
  unfold rcv at e
  split at e
  rotate_left
  · cases e
  rename_i d0 hd0
  obtain ⟨q', e1, h1, h2⟩ := bd_inv e
  split at h2
  rotate_left
  · cases h2
  rename_i hc
  simp only [Option.some.injEq, Rs.ok.injEq] at h2
  obtain ⟨rfl, rfl⟩ := h2
  obtain ⟨d1, xs, hd1, hg⟩ := chk_eq hc
  obtain ⟨v0, hv0, r0⟩ := S.rep i d0 hd0
  have hlt : i < C.N.length := by
    have := (List.getElem?_eq_some_iff.mp hd0).1
    rw [S.lenE] at this; exact this
  unfold mPth at hm
  split at hm
  · simp only [evAc, Option.some.injEq, Rs.ok.injEq] at h1
    obtain ⟨rfl, rfl⟩ := h1
    split at hm
    · rename_i x hx; obtain ⟨p, rfl⟩ := asName_eq hx
      simp only [Bool.and_eq_true] at hm
      refine (pe_var (i := i) (by rw [F.nN]; exact nameAt_eq hm.1.1) (visB_eq hm.1.2) (okN_eq hm.2).1 (okN_eq hm.2).2).we ⟨v0, hv0, ?_⟩
      rw [hd0] at hd1
      simp only [Option.some.injEq] at hd1
      subst hd1
      simp only [getP, Option.some.injEq] at hg
      subst hg
      have m := r0.mut
      generalize As i = A0 at r0 m
      cases r0 with
      | lst g1 g2 => exact qq H As _ _ S TR.refl hv0 rfl ⟨_, g1⟩ (fun _ => rfl) hlt
    · cases hm
  · rename_i a
    simp only [okPth, Bool.and_eq_true, Bool.not_eq_true'] at ho
    simp only [evAc] at h1
    obtain ⟨dk, e2, h3, h4⟩ := bd_inv h1
    obtain ⟨q0, e3, h5, h6⟩ := bd_inv h4
    simp only [Option.some.injEq, Rs.ok.injEq] at h5 h6
    obtain ⟨rfl, rfl⟩ := h5
    obtain ⟨rfl, rfl⟩ := h6
    split at hm
    · rename_i l r hl; obtain ⟨p, rfl⟩ := asIx_eq hl
      simp only [Bool.and_eq_true] at hm
      obtain ⟨hm1, hm2⟩ := hm
      split at hm1
      · rename_i x hx; obtain ⟨p, rfl⟩ := asName_eq hx
        simp only [Bool.and_eq_true] at hm1
        refine (pe_ix ix_list (pe_var (i := i) (by rw [F.nN]; exact nameAt_eq hm1.1.1) (visB_eq hm1.1.2) (okN_eq hm1.2).1 (okN_eq hm1.2).2) Cy.we (plain_ix (mE_plain hm2).1)).we ⟨v0, hv0, ?_⟩
        refine (soundE a F hm2 ho.1).1 Z P σ H env As _ _ S h3 _ fun vk H1 Ak As1 S1 T1 rk Ek => ?_
        have T1 : TR own false H As H1 As1 := by rw [ho.2] at T1; exact T1
        obtain ⟨v0', hv0', r1⟩ := S1.rep i d1 hd1
        rw [hv0] at hv0'
        simp only [Option.some.injEq] at hv0'
        subst hv0'
        generalize As1 i = A0 at r1
        cases d1 <;> simp only [getP, reduceCtorEq] at hg
        rename_i ds
        simp only [Option.bind_eq_some_iff] at hg
        obtain ⟨c, hc1, hc2⟩ := hg
        simp only [getP, Option.some.injEq] at hc2
        subst hc2
        cases dk <;> simp only [ixD, keyD, reduceCtorEq, Option.bind_eq_some_iff] at hc1
        rename_i kk
        obtain ⟨j, hj, hdj⟩ := hc1
        cases rk
        cases r1 with
        | @lst pp vs ds' A1 g1 g2 =>
          obtain ⟨w, B, g3, g4, g5⟩ := g2.get hdj
          cases g4 with
          | @lst t ws xs' B1 g6 g7 =>
            have hl := g2.length
            refine ⟨pp, vs, kk, .ref t, rfl, rfl, SqL.of g1, ?_, qq H1 As1 t _ S1 T1 hv0 ⟨pp, vs, j, rfl, g1, by rw [hl]; exact hj, g3⟩ ⟨_, g6⟩ (fun z => by cases z) hlt⟩
            unfold atI
            rw [← ixP_N, hl, hj]; exact g3
      · cases hm1
    · cases hm
  · cases hm
theorem ty_lst {K : PySem.W.Frag} {H : Hp} {t : Addr} (h : MutH H t) : tyV K "list" (.ref t) H := by
  obtain ⟨xs, h⟩ := h
  exact .inl ⟨rfl, _, SqL.of h⟩
theorem few_one {e : Expr} {env : PySem.Env} {cpos : Pos} (h : plainX e = true) : ((backTo cpos (starEach [e] env)).all (fun x => !x.1) && (backToKw cpos (keywordEach [] env)).all (fun x => x.1.isSome)
      && decide (([e] : List Expr).length + ([] : List Keyword).length + (if ([] : List Keyword).isEmpty then 0 else 1) < 30)) = true := by
  rw [plain_star h]
  rfl
theorem frE_sub {K : PySem.W.Frag} {n : Nat} {own vw : List Nat} {Z P : Addr → Prop} {σ : L2.St} {H H1 : Hp} {env : En} {As As1 As2 : Asg} {fr sh io : Bool} {A : List Addr} (S : SR K n own vw Z P σ H1 env As1) (T : TR own io H As H1 As1) (E : EF own Z fr sh H1 As1 As2 A) (h : fr = true) :
    A.Nodup ∧ ∀ a ∈ A, ¬ P a ∧ ¬ OwA own As2 a ∧ (H a = none ∨ ∃ i, a ∈ As i) :=
  ⟨(E.1 h).1, fun a ha => ⟨(S.newP ((E.1 h).2 a ha)).1, ((E.1 h).2 a ha).2, (E.back T).2.2 a ha⟩⟩
/-- x.append(e), x[i].append(e) -/
theorem ss_app {own vw : List Nat} {fr : Bool} {i : Nat} {p : List Ac} {a : DE} {kl : List Nat} {ob x : Expr} {ap cp sp : Pos} (F : Fx C Φ k X) (hm : mPth C X.env.scope i p ob = true) (ho : okPth C.sigs own vw p = true) (hi : i ∈ own) (hk : ∀ j ∈ vw, j ∈ kl)
    (hl : (ap.endLine == cp.line) = true) (hp : plainX x = true) (ha : SE C Φ X own vw a x) (hf : frE C.sigs a = true) (hio : p = [] ∨ ioE a = false) :
    SS C X own vw fr true (evS Φ (.upd i p (.app a) kl)) (WS X (.Expr (.Call (.Attribute ob "append" ap) [x] [] cp) sp)) := by
  intro Z P σ H env As o env' S e D q
  simp only [evS, evU] at e
  obtain ⟨qp, e1, h1, h2⟩ := bd_inv e
  obtain ⟨d, e2, h3, h4⟩ := bd_inv h2
  refine (ps_expr (pe_bm PySem.F.plainAttrs_list PySem.F.slot_list_append PySem.F.type_list_append mt_append Cy.we (pa_cons Cy.we pa_nil (plain_star hp)) (base_of (mPth_plain hm).2) (few_one hp) hl (plain_star hp) rfl)).we ?_
  refine se_path F hm ho S h1 fun H1 As1 t v0 S1 T1 hv0 nv mt hq hlt => ⟨ty_lst mt, ?_⟩
  refine ha Z P σ H1 e1 As1 _ _ S1 h3 _ fun w H2 Aw As2 S2 T2 rw E2 => ?_
  have nv2 := nv.step T2 (hio.imp hq id)
  obtain ⟨xs, ys, ws, C0, g1, g2, g3, g4, g5, g6, g7, fin⟩ := upd_fin (fr := fr) (io := true) (o := o) (D := D) (((T1.tsx S).trans (T2.tsx S1) (fun z => by cases z) (fun _ => rfl))) S2 hi hlt hv0 nv2 hk (fun d y h => by
    split at h
    · split at h
      · simp only [Option.some.injEq] at h; exact ⟨_, _, rfl, h.symm⟩
      · cases h
    · cases h) h4 q
  dsimp only at g1
  split at g1
  rotate_left
  · cases g1
  rename_i hz
  simp only [Option.some.injEq, Cy.D.lst.injEq] at g1
  subst g1
  obtain ⟨n1, n2⟩ := frE_sub S1 T1 E2 hf
  refine ⟨t, ws, w, rfl, rfl, g2, ?_, fin (ws ++ [w]) (C0 ++ Aw) (g3.append (Reps.one rw)) (List.nodup_append.mpr ⟨g7, n1, fun a ha b hb z => ?_⟩) fun a h => ?_⟩
  · rw [g3.length]; exact line_ltLMX hz
  · subst z; exact (n2 a hb).2.1 ⟨i, hi, g4 a ha⟩
  · rcases List.mem_append.mp h with h | h
    · exact .inl h
    · exact .inr (n2 a h)
/-- x.extend(e) -/
theorem ss_ext {own vw : List Nat} {fr : Bool} {i : Nat} {p : List Ac} {a : DE} {kl : List Nat} {ob x : Expr} {ap cp sp : Pos} (F : Fx C Φ k X) (hm : mPth C X.env.scope i p ob = true) (ho : okPth C.sigs own vw p = true) (hi : i ∈ own) (hk : ∀ j ∈ vw, j ∈ kl)
    (hl : (ap.endLine == cp.line) = true) (hp : plainX x = true) (ha : SE C Φ X own vw a x) (hf : frE C.sigs a = true) (hio : p = [] ∨ ioE a = false) :
    SS C X own vw fr true (evS Φ (.upd i p (.ext a) kl)) (WS X (.Expr (.Call (.Attribute ob "extend" ap) [x] [] cp) sp)) := by
  intro Z P σ H env As o env' S e D q
  simp only [evS, evU] at e
  obtain ⟨qp, e1, h1, h2⟩ := bd_inv e
  obtain ⟨d, e2, h3, h4⟩ := bd_inv h2
  refine (ps_expr (pe_bm PySem.F.plainAttrs_list PySem.F.slot_list_extend PySem.F.type_list_extend mt_extend Cy.we (pa_cons Cy.we pa_nil (plain_star hp)) (base_of (mPth_plain hm).2) (few_one hp) hl (plain_star hp) rfl)).we ?_
  refine se_path F hm ho S h1 fun H1 As1 t v0 S1 T1 hv0 nv mt hq hlt => ⟨ty_lst mt, ?_⟩
  refine ha Z P σ H1 e1 As1 _ _ S1 h3 _ fun w H2 Aw As2 S2 T2 rw E2 => ?_
  have nv2 := nv.step T2 (hio.imp hq id)
  obtain ⟨xs, ys, ws, C0, g1, g2, g3, g4, g5, g6, g7, fin⟩ := upd_fin (fr := fr) (io := true) (o := o) (D := D) (((T1.tsx S).trans (T2.tsx S1) (fun z => by cases z) (fun _ => rfl))) S2 hi hlt hv0 nv2 hk (fun d' y h => by
    split at h
    · split at h
      · simp only [Option.some.injEq] at h; exact ⟨_, _, rfl, h.symm⟩
      · cases h
    · cases h) h4 q
  cases rw with
  | @lst b zs dys B r1 r2 =>
    dsimp only at g1
    split at g1
    rotate_left
    · cases g1
    rename_i hz
    simp only [Option.some.injEq, Cy.D.lst.injEq] at g1
    subst g1
    obtain ⟨n1, n2⟩ := frE_sub S1 T1 E2 hf
    obtain ⟨n3, n4⟩ := List.nodup_cons.mp n1
    refine ⟨t, b, ws, zs, rfl, rfl, g2, r1, ?_, fin (ws ++ zs) (C0 ++ B) (g3.append r2) (List.nodup_append.mpr ⟨g7, n4, fun a ha c hc z => ?_⟩) fun a h => ?_⟩
    · rw [g3.length, r2.length]; exact line_LMX hz
    · subst z; exact (n2 a (List.mem_cons_of_mem _ hc)).2.1 ⟨i, hi, g4 a ha⟩
    · rcases List.mem_append.mp h with h | h
      · exact .inl h
      · exact .inr (n2 a (List.mem_cons_of_mem _ h))
  | _ => cases g1
theorem few_two {e f : Expr} {env : PySem.Env} {cpos : Pos} (h : plainX e = true) (h2 : plainX f = true) : ((backTo cpos (starEach [e, f] env)).all (fun x => !x.1) && (backToKw cpos (keywordEach [] env)).all (fun x => x.1.isSome)
      && decide (([e, f] : List Expr).length + ([] : List Keyword).length + (if ([] : List Keyword).isEmpty then 0 else 1) < 30)) = true := by
  rw [plain_star h, plain_star h2]
  rfl
theorem any_one {f : Expr} {env : PySem.Env} {cpos : Pos} (h2 : plainX f = true) : (backTo cpos (starEach [f] env)).any (·.1) = false := by
  rw [plain_star h2]
  rfl
/-- x.insert(j, e), e without lists -/
theorem ss_ins {own vw : List Nat} {fr : Bool} {i : Nat} {j a : DE} {kl : List Nat} {ob x y : Expr} {ap cp sp : Pos} (F : Fx C Φ k X) (hm : mPth C X.env.scope i [] ob = true) (hi : i ∈ own) (hk : ∀ j ∈ vw, j ∈ kl)
    (hl : (ap.endLine == cp.line) = true) (hp : plainX x = true) (hp2 : plainX y = true) (hj : SE C Φ X own vw j x) (ha : SE C Φ X own vw a y) :
    SS C X own vw fr true (evS Φ (.upd i [] (.ins j a) kl)) (WS X (.Expr (.Call (.Attribute ob "insert" ap) [x, y] [] cp) sp)) := by
  intro Z P σ H env As o env' S e D q
  simp only [evS, evU] at e
  obtain ⟨qp, e1, h1, h2⟩ := bd_inv e
  obtain ⟨kd, e2, h3, h4⟩ := bd_inv h2
  obtain ⟨d, e3, h5, h6⟩ := bd_inv h4
  split at h6
  rotate_left
  · cases h6
  rename_i hpd
  have ho : okPth C.sigs own vw [] = true := rfl
  refine (ps_expr (pe_bm PySem.F.plainAttrs_list PySem.F.slot_list_insert PySem.F.type_list_insert mt_insert Cy.we (pa_cons Cy.we (pa_cons Cy.we pa_nil (plain_star hp2)) (plain_star hp)) (base_of (mPth_plain hm).2) (few_two hp hp2) hl (plain_star hp) (any_one hp2))).we ?_
  refine se_path F hm ho S h1 fun H1 As1 t v0 S1 T1 hv0 nv mt hq hlt => ⟨ty_lst mt, ?_⟩
  have hq0 : qp = [] := hq rfl
  subst hq0
  refine hj Z P σ H1 e1 As1 _ _ S1 h3 _ fun w2 H2 Aj As2 S2 T2 rj E2 => ?_
  refine ha Z P σ H2 e2 As2 _ _ S2 h5 _ fun w H3 Aw As3 S3 T3 rw E3 => ?_
  have nv2 := (nv.step T2 (.inl rfl)).step T3 (.inl rfl)
  obtain ⟨xs, ys, ws, C0, g1, g2, g3, g4, g5, g6, g7, fin⟩ := upd_fin (fr := fr) (io := true) (o := o) (D := D) (((T1.tsx S).trans (T2.tsx S1) (fun z => by cases z) (fun _ => rfl)).trans (T3.tsx S2) (fun _ => rfl) (fun _ => rfl)) S3 hi hlt hv0 nv2 hk (fun d' y h => by
    split at h
    · split at h
      · simp only [Option.some.injEq] at h; exact ⟨_, _, rfl, h.symm⟩
      · cases h
    · cases h) h6 q
  cases rj with
  | int n =>
    dsimp only at g1
    split at g1
    rotate_left
    · cases g1
    rename_i hz
    simp only [Option.some.injEq, Cy.D.lst.injEq] at g1
    subst g1
    have hAw := rw.pure hpd
    subst hAw
    obtain ⟨B, C, e1, r1, r2⟩ := g3.part n.toNat
    refine ⟨t, ws, n, w, rfl, rfl, g2, ?_, hz.2.1, by have := hz.2.2; omega, fin (ws.take n.toNat ++ [w] ++ ws.drop n.toNat) (B ++ [] ++ C) ((r1.append (Reps.one rw)).append r2) (by rw [List.append_nil, ← e1]; exact g7) fun a h => .inl (by rw [e1]; simpa using h)⟩
    rw [g3.length]; exact line_ltLMX hz.1
  | _ => dsimp only at g1; cases g1
/-- x.clear() -/
theorem ss_clr {own vw : List Nat} {fr : Bool} {i : Nat} {p : List Ac} {kl : List Nat} {ob : Expr} {ap cp sp : Pos} (F : Fx C Φ k X) (hm : mPth C X.env.scope i p ob = true) (ho : okPth C.sigs own vw p = true) (hi : i ∈ own) (hk : ∀ j ∈ vw, j ∈ kl)
    (hl : (ap.endLine == cp.line) = true) : SS C X own vw fr true (evS Φ (.upd i p .clr kl)) (WS X (.Expr (.Call (.Attribute ob "clear" ap) [] [] cp) sp)) := by
  intro Z P σ H env As o env' S e D q
  simp only [evS, evU] at e
  obtain ⟨qp, e1, h1, h2⟩ := bd_inv e
  refine (ps_expr (pe_bm0 PySem.F.plainAttrs_list PySem.F.slot_list_clear PySem.F.type_list_clear mt_clear Cy.we (base_of (mPth_plain hm).2) hl)).we ?_
  refine se_path F hm ho S h1 fun H1 As1 t v0 S1 T1 hv0 nv mt hq hlt => ⟨ty_lst mt, ?_⟩
  obtain ⟨xs, ys, ws, C0, g1, g2, g3, g4, g5, g6, g7, fin⟩ := upd_fin (fr := fr) (io := true) (o := o) (D := D) ((T1.tsx S).weak (fun z => by cases z)) S1 hi hlt hv0 nv hk (fun d' y h => by
    split at h
    · simp only [Option.some.injEq] at h; exact ⟨_, _, rfl, h.symm⟩
    · cases h) h2 q
  simp only [Option.some.injEq, Cy.D.lst.injEq] at g1
  subst g1
  exact ⟨t, ws, rfl, rfl, g2, fin [] [] .nil List.nodup_nil (fun a h => nomatch h)⟩
/-- x[i] = e, x[i][j] = e -/
theorem ss_sub {own vw : List Nat} {fr : Bool} {i : Nat} {p : List Ac} {j a : DE} {kl : List Nat} {ob ix x : Expr} {tp sp : Pos} (F : Fx C Φ k X) (hm : mPth C X.env.scope i p ob = true) (ho : okPth C.sigs own vw p = true) (hi : i ∈ own) (hk : ∀ j ∈ vw, j ∈ kl)
    (hp : plainX ix = true) (ha : SE C Φ X own vw a x) (hj : SE C Φ X own vw j ix) (hf : frE C.sigs a = true) (hio : ioE j = false)
    (hs : ∀ v, assign (.Subscript ob ix tp) X.env v = (do
      let ov ← holding [v] (eval ob X.env)
      let iv ← holding [v, ov] (eval ix X.env)
      standAt tp
      holding [v, ov, iv] (setItem ov iv v)
      release [v, ov, iv] [])) (h1 : swapsWithSole [.Subscript ob ix tp] x sp.line X.env = pure false) (h2 : swappedStores [.Subscript ob ix tp] x X.env = pure none) :
    SS C X own vw fr true (evS Φ (.upd i p (.set j a) kl)) (WS X (.Assign [.Subscript ob ix tp] x sp)) := by
  intro Z P σ H env As o env' S e D q
  simp only [evS, evU] at e
  obtain ⟨d, e1, k1, k2⟩ := bd_inv e
  obtain ⟨qp, e2, k3, k4⟩ := bd_inv k2
  obtain ⟨dk, e3, k5, k6⟩ := bd_inv k4
  refine (ps_asg Cy.we (pg_sub Cy.we Cy.we set_list hs) h1 h2 rfl).we ?_
  refine ha Z P σ H env As _ _ S k1 _ fun w H1 Aw As1 S1 T1 rw E1 => ?_
  refine se_path F hm ho S1 k3 fun H2 As2 t v0 S2 T2 hv0 nv mt hq hlt => ?_
  refine hj Z P σ H2 e2 As2 _ _ S2 k5 _ fun vk H3 Ak As3 S3 T3 rk E3 => ?_
  have T3' : TR own false H2 As2 H3 As3 := by rw [hio] at T3; exact T3
  have nv3 := nv.step T3' (.inr rfl)
  have T23 := T2.trans T3' (io := false) id id
  have rw3 := rw.step S1 T23 (fun z => by cases z)
  have E13 := E1.step (fun a h => rw.mut a h) T23
  have T13 := T1.trans T23 (io := true) (fun _ => rfl) (fun z => by cases z)
  obtain ⟨xs, ys, ws, C0, g1, g2, g3, g4, g5, g6, g7, fin⟩ := upd_fin (fr := fr) (io := true) (o := o) (D := D) (T13.tsx S) S3 hi hlt hv0 nv3 hk (fun d' y h => by
    unfold setD at h
    split at h
    · simp only [Option.map_eq_some_iff] at h
      obtain ⟨_, _, h⟩ := h
      exact ⟨_, _, rfl, h.symm⟩
    · cases h) k6 q
  cases dk <;> simp only [setD, reduceCtorEq, Option.map_eq_some_iff] at g1
  rename_i kk
  obtain ⟨jj, hjj, g1⟩ := g1
  simp only [Cy.D.lst.injEq] at g1
  subst g1
  cases rk
  obtain ⟨n1, n2⟩ := frE_sub (As2 := As3) S (TR.refl (io := false)) E13 hf
  have hlt2 : jj < xs.length := by
    have := ixP_N xs.length kk
    rw [this] at hjj
    exact (ixN_seq hjj).2.1
  obtain ⟨A1, Cc, A2, eA, rs, _⟩ := g3.set jj rw3 hlt2
  have c0 : ∀ a, a ∈ A1 ∨ a ∈ A2 → a ∈ C0 := fun a h => by rw [eA]; rcases h with h | h <;> simp [h]
  refine ⟨t, ws, kk, jj, rfl, rfl, g2, by rw [← ixP_N, g3.length]; exact hjj, fin _ (A1 ++ Aw ++ A2) rs (nodup_mid (C := Cc) (by rw [← eA]; exact g7) n1 fun a ha => .inr fun z => ?_) fun a h => ?_⟩
  · rw [← eA] at z
    exact (n2 a ha).2.1 ⟨i, hi, g4 a z⟩
  · rcases List.mem_append.mp h with h | h
    · rcases List.mem_append.mp h with h | h
      · exact .inl (c0 a (.inl h))
      · exact .inr (n2 a h)
    · exact .inl (c0 a (.inr h))
/-- o[i] of a list of numbers -/
def rGet : V → V → Hp → VK → Prop := fun o i H Q => ∃ t ws kk w, o = .ref t ∧ i = .int kk ∧ H t = some (.lst ws) ∧ atI ws kk = some w ∧ Q w H
theorem get_ok : PGet X rGet := by
  intro pins s σ H o i ov iv Q I ro ri ⟨t, ws, kk, w, eo, ei, hH, hw, q⟩
  subst eo ei
  cases ro
  obtain ⟨tk, rfl⟩ := ri
  obtain ⟨its, r, pl, hz⟩ := I.list (SqL.of hH)
  obtain ⟨j, h1, h2, h3, h4, h5⟩ := atI_get hw
  obtain ⟨u, ew, ru⟩ := r.get h2
  have hl := r.length
  have hn := line63
  have fin : EP X pins σ Q u s := ⟨w, H, I, ru, q⟩
  by_cases h0 : 0 ≤ kk
  · have hj : kk.toNat = j := by
      rw [seqIndex_of h0 h5] at h1
      exact Option.some.inj h1
    exact wpAny_getItem_list pl.isList h0 (by omega) (by rw [hj]; simpa using ew) fin
  · have hj : (kk + (its.toArray.size : Int)).toNat = j := by
      rw [seqIndex_neg (by omega) h4] at h1
      rw [List.size_toArray, ← hl]
      exact Option.some.inj h1
    exact wpAny_getItem_list_neg pl.isList (by omega) (by rw [List.size_toArray] <;> omega) (by omega) (by rw [hj]; simpa using ew) fin
theorem chkI_eq {i : Nat} {q : List AcV} {kd : Cy.D} {e : En} (h : chkI i q kd e = true) : ∃ d xs m, e[i]? = some (some d) ∧ getP q d = some (.lst xs) ∧ ixD (.lst xs) kd = some (.int m) := by
  unfold chkI at h
  split at h
  · rename_i d hd
    split at h
    · rename_i xs hx
      split at h
      · rename_i m hm; exact ⟨d, xs, m, hd, hx, hm⟩
      · cases h
    · cases h
  · cases h
theorem nav_get {K : PySem.W.Frag} {H : Hp} {v0 : V} {d : Cy.D} {A : List Addr} {q : List AcV} {t : Addr} {xs : List Cy.D} (r : Rep K H v0 d A) (nv : Nav H v0 q t) (g : getP q d = some (.lst xs)) : ∃ ws C, H t = some (.lst ws) ∧ Reps K H ws xs C := by
  unfold Nav at nv
  split at nv
  · subst nv
    simp only [getP, Option.some.injEq] at g
    subst g
    cases r with
    | lst h r => exact ⟨_, _, h, r⟩
  · rename_i kk
    obtain ⟨p, vs, j, rfl, hp, hj, hv⟩ := nv
    cases d <;> simp only [getP, reduceCtorEq] at g
    rename_i ds
    simp only [Option.bind_eq_some_iff, ixD] at g
    obtain ⟨c, ⟨j', hj', hc⟩, g⟩ := g
    simp only [getP, Option.some.injEq] at g
    subst g
    cases r with
    | lst h r =>
      rw [hp] at h
      simp only [Option.some.injEq, HO.lst.injEq] at h
      subst h
      rw [r.length, hj'] at hj
      simp only [Option.some.injEq] at hj
      subst hj
      obtain ⟨w, B, h1, h2, _⟩ := r.get hc
      rw [hv] at h1
      simp only [Option.some.injEq] at h1
      subst h1
      cases h2 with
      | lst h r => exact ⟨_, _, h, r⟩
  · exact nv.elim
/-- x[i] += e -/
theorem ss_subaug {own vw : List Nat} {fr : Bool} {i : Nat} {p : List Ac} {op : BO} {j a : DE} {kl : List Nat} {ob ix x : Expr} {tp sp : Pos} (F : Fx C Φ k X) (hm : mPth C X.env.scope i p ob = true) (ho : okPth C.sigs own vw p = true) (hi : i ∈ own) (hk : ∀ j ∈ vw, j ∈ kl)
    (hp : plainX ix = true) (ha : SE C Φ X own vw a x) (hj : SE C Φ X own vw j ix) (hio : ioE j = false) (hio2 : ioE a = false) (hop : op = .add ∨ op = .sub)
    (hs : ∀ ov iv new, augStore ix ov iv new = (do holding [new, ov, iv] (setItem ov iv new); release [new, ov, iv] []; pure .next)) :
    SS C X own vw fr true (evS Φ (.upd i p (.aug op j a) kl)) (WS X (.AugAssign (.Subscript ob ix tp) (opOf op) x sp)) := by
  intro Z P σ H env As o env' S e D q
  simp only [evS, evU] at e
  obtain ⟨qp, e1, k1, k2⟩ := bd_inv e
  obtain ⟨dk, e2, k3, k4⟩ := bd_inv k2
  obtain ⟨hch, k4⟩ := gd_inv k4
  obtain ⟨d, e3, k5, k6⟩ := bd_inv k4
  refine (ps_augS Cy.we Cy.we get_ok Cy.we (ip_aug hop) set_list hs).we ?_
  refine se_path F hm ho S k1 fun H1 As1 t v0 S1 T1 hv0 nv mt hq hlt => ?_
  refine hj Z P σ H1 e1 As1 _ _ S1 k3 _ fun vk H2 Ak As2 S2 T2 rk E2 => ?_
  have T2' : TR own false H1 As1 H2 As2 := by rw [hio] at T2; exact T2
  have nv2 := nv.step T2' (.inr rfl)
  obtain ⟨xs2, ht2⟩ : MutH H2 t := by
    obtain ⟨xs, m⟩ := mt
    exact ⟨xs, T2'.keep _ _ m (fun z => by cases z)⟩
  obtain ⟨dq, xq, m0, hq1, hq2, hq3⟩ := chkI_eq (by simpa using hch)
  obtain ⟨v0', hv0', rq⟩ := S2.rep i dq hq1
  rw [hv0] at hv0'
  simp only [Option.some.injEq] at hv0'
  subst hv0'
  obtain ⟨wq, Cq, hq4, hq5⟩ := nav_get rq nv2 hq2
  rw [ht2] at hq4
  simp only [Option.some.injEq, HO.lst.injEq] at hq4
  subst hq4
  -- the item's value: what stands there still stands behind the value's making
  have key : ∀ (w : V), (∃ kk m, vk = .int kk ∧ atI xs2 kk = some w ∧ w = .int m) → WE X x σ H2 (fun y H4 => rAug op w y H4 fun z H5 => rSetL (.ref t) vk z H5 fun H6 => D.nx σ H6) := by
    rintro w ⟨kk, m, rfl, hat, rfl⟩
    refine ha Z P σ H2 e2 As2 _ _ S2 k5 _ fun vy H3 Ay As3 S3 T3 ry E3 => ?_
    have T3' : TR own false H2 As2 H3 As3 := by rw [hio2] at T3; exact T3
    have nv3 := nv2.step T3' (.inr rfl)
    have T12 := T1.trans (T2'.trans T3' (io := false) id id) (io := true) (fun z => by cases z) (fun z => by cases z)
    obtain ⟨xs, ys, ws, C0, g1, g2, g3, g4, g5, g6, g7, fin⟩ := upd_fin (fr := fr) (io := true) (o := o) (D := D) (T12.tsx S) S3 hi hlt hv0 nv3 hk (fun d' y h => by
      simp only [Option.bind_eq_some_iff] at h
      obtain ⟨_, _, _, _, h⟩ := h
      unfold setD at h
      split at h
      · simp only [Option.map_eq_some_iff] at h
        obtain ⟨_, _, h⟩ := h
        exact ⟨_, _, rfl, h.symm⟩
      · cases h) k6 q
    have ht3 := T3'.keep _ _ ht2 (fun z => by cases z)
    rw [g2] at ht3
    simp only [Option.some.injEq, HO.lst.injEq] at ht3
    subst ht3
    cases rk
    simp only [Option.bind_eq_some_iff] at g1
    obtain ⟨dx, hdx, dz, hdz, g1⟩ := g1
    simp only [ixD, Option.bind_eq_some_iff] at hdx
    obtain ⟨jj, hjj, hdx⟩ := hdx
    simp only [setD, hjj, Option.map_some, Option.some.injEq, Cy.D.lst.injEq] at g1
    subst g1
    have hjw : ixN ws.length kk = some jj := by rw [← ixP_N, g3.length]; exact hjj
    have hlt2 : jj < xs.length := by
      rw [← g3.length]; exact (ixN_seq hjw).2.1
    unfold atI at hat
    rw [hjw] at hat
    simp only [Option.bind_some] at hat
    obtain ⟨w', B', h8, h9, h10⟩ := g3.get hdx
    rw [hat] at h8
    simp only [Option.some.injEq] at h8
    subst h8
    cases h9
    have setOk : ∀ n : Int, dz = .int n → rSetL (.ref t) (.int kk) (.int n) H3 fun H6 => D.nx σ H6 := fun n en => by
      subst en
      obtain ⟨A1, Cc, A2, eA, rs, _⟩ := g3.set jj (Rep.int (K := X.K) (H := H3) n) hlt2
      have c0 : ∀ a, a ∈ A1 ∨ a ∈ A2 → a ∈ C0 := fun a h => by rw [eA]; rcases h with h | h <;> simp [h]
      refine ⟨t, ws, kk, jj, rfl, rfl, g2, hjw, fin _ (A1 ++ [] ++ A2) rs (nodup_mid (C := Cc) (by rw [← eA]; exact g7) List.nodup_nil fun a ha => nomatch ha) fun a h => .inl ?_⟩
      rcases List.mem_append.mp h with h | h
      · rcases List.mem_append.mp h with h | h
        · exact c0 a (.inl h)
        · cases h
      · exact c0 a (.inr h)
    rcases hop with rfl | rfl
    · cases ry <;> simp only [binD, Option.some.injEq, reduceCtorEq] at hdz
      exact .inl ⟨_, _, rfl, rfl, .inl ⟨rfl, setOk _ hdz.symm⟩⟩
    · cases ry <;> simp only [binD, Option.some.injEq, reduceCtorEq] at hdz
      exact .inl ⟨_, _, rfl, rfl, .inr ⟨rfl, setOk _ hdz.symm⟩⟩
  have hkk : ∃ kk, dk = .int kk := by
    cases dk <;> simp only [ixD, keyD, reduceCtorEq] at hq3
    exact ⟨_, rfl⟩
  obtain ⟨kk, rfl⟩ := hkk
  simp only [ixD, Option.bind_eq_some_iff] at hq3
  obtain ⟨jq, hjq, hdq⟩ := hq3
  obtain ⟨w, Bq, hw1, hw2, _⟩ := hq5.get hdq
  cases rk
  have hat : atI xs2 kk = some w := by
    unfold atI
    rw [← ixP_N, hq5.length, hjq]; exact hw1
  cases hw2
  exact ⟨t, xs2, kk, _, rfl, rfl, ht2, hat, key _ ⟨kk, _, rfl, hat, rfl⟩⟩
end
end Cy
end
section
set_option Elab.async false
set_option linter.all false
set_option maxRecDepth 100000
set_option maxHeartbeats 4000000
/-! Soundness, 15: all statements. -/
namespace Cy
open PySem L2 PyProof.Rows
def noComp : Expr → Bool
  | .ListComp _ _ _ _ | .SetComp _ _ _ _ | .DictComp _ _ _ _ _ => false
  | _ => true
def isTupX : Expr → Bool
  | .Tuple _ _ _ => true
  | _ => false
def asAsg : Stmt → Option (Expr × Expr × Pos)
  | .Assign [t] x sp => some (t, x, sp)
  | _ => none
def asPar : Stmt → Option (Str × Str × Expr × Expr × Pos × Pos)
  | .Assign [.Tuple [.Name x px, .Name y py] _ _] (.Tuple [a, b] _ _) _ => some (x, y, a, b, px, py)
  | _ => none
def asExpr : Stmt → Option (Expr × Pos)
  | .Expr x sp => some (x, sp)
  | _ => none
def asMeth1 : Expr → Option (Expr × Str × Expr)
  | .Call (.Attribute o x ap) [e] [] cp => if ap.endLine == cp.line then some (o, x, e) else none
  | _ => none
def asMeth0 : Expr → Option (Expr × Str)
  | .Call (.Attribute o x ap) [] [] cp => if ap.endLine == cp.line then some (o, x) else none
  | _ => none
def asSub : Expr → Option (Expr × Expr)
  | .Subscript o i _ => some (o, i)
  | _ => none
def asAug : Stmt → Option (Expr × Operator × Expr)
  | .AugAssign t o x _ => some (t, o, x)
  | _ => none
def asIf : Stmt → Option (Expr × List Stmt × List Stmt)
  | .If c a b _ => some (c, a, b)
  | _ => none
def asFor : Stmt → Option (Expr × Expr × List Stmt)
  | .For t x b [] _ => some (t, x, b)
  | _ => none
def asWhl : Stmt → Option (Expr × List Stmt)
  | .While c b [] _ => some (c, b)
  | _ => none
def asRet : Stmt → Option Expr
  | .Return (some x) _ => some x
  | _ => none
def isRetN : Stmt → Bool
  | .Return none _ => true
  | _ => false
def isBrk : Stmt → Bool
  | .Break _ => true
  | _ => false
def isCnt : Stmt → Bool
  | .Continue _ => true
  | _ => false
def isPas : Stmt → Bool
  | .Pass _ => true
  | .Expr (.Constant (.str _) _ _) _ => true
  | _ => false
def isComp : DE → Bool
  | .comp _ _ _ _ _ => true
  | _ => false
/-- a comprehension stored in a name of its own line -/
def lcOk (sc : Scope) (a : DE) (t x : Expr) : Bool := match t, x with
  | .Name y py, .ListComp _ _ cs p => isComp a && isLoc sc y && (py.line == p.line) && !(cs.names.any fun (n, k) => n == y && (k == .local || k == .cell))
  | _, _ => false
/-- a comprehension that is made first, then stored -/
def lcNo (sc : Scope) (t x : Expr) : Bool := match t, x with
  | .Name y py, .ListComp _ _ cs p => !(isLoc sc y && (py.line == p.line) && !(cs.names.any fun (n, k) => n == y && (k == .local || k == .cell)))
  | _, _ => false
def parOk (sc : Scope) (x y : Str) (px py : Pos) (a b : Expr) : Bool :=
  isLoc sc x && isLoc sc y && (px.line == px.line) && (py.line == px.line) && !(x == y) && (([x, y] : List Str).eraseDups.length == 2) && !([a, b].all (foldedForSure 8)) && !([a, b].all (constantsAlone 8)) && !(([a, b] : List Expr).any fun | .Starred .. => true | _ => false)
def isAddSub : BO → Bool
  | .add | .sub => true
  | _ => false
mutual
def ioS : DS → Bool
  | .asg _ a | .aug _ _ a | .ex a | .ret a => ioE a
  | .par _ _ a b => ioE a || ioE b
  | .upd _ _ _ _ => true
  | .ifs c a b => ioE c || ioSs a || ioSs b
  | .for _ it b => ioI it || ioSs b
  | .whl c b => ioE c || ioSs b
  | .retN | .brk | .cnt | .pas | .rai _ _ => false
def ioSs : DSs → Bool
  | .nil => false
  | .cons s ss => ioS s || ioSs ss
end
mutual
def mS (C : Ct) (sc : Scope) : DS → Stmt → Bool
  | .asg tg a, st => (match asAsg st with | some (t, x, _) => mT C sc tg t && mE C sc a x && ((noComp x && !(isTupX t && isTupX x)) || lcOk sc a t x || lcNo sc t x) | none => false)
  | .par i j a b, st => (match asPar st with | some (x, y, xa, xb, px, py) => nameAt C i x && nameAt C j y && mE C sc a xa && mE C sc b xb && parOk sc x y px py xa xb | none => false)
  | .upd i p o _, st => (match o with
    | .app a => (match asExpr st with | some (e, _) => (match asMeth1 e with | some (ob, m, x) => strEq m "append" && mPth C sc i p ob && mE C sc a x | none => false) | none => false)
    | .ext a => (match asExpr st with | some (e, _) => (match asMeth1 e with | some (ob, m, x) => strEq m "extend" && mPth C sc i p ob && mE C sc a x | none => false) | none => false)
    | .ins j a => (match asExpr st with | some (e, _) => (match asMeth e with | some (ob, m, [x, y]) => strEq m "insert" && mPth C sc i [] ob && mE C sc j x && mE C sc a y && p.isEmpty | _ => false) | none => false)
    | .clr => (match asExpr st with | some (e, _) => (match asMeth0 e with | some (ob, m) => strEq m "clear" && mPth C sc i p ob | none => false) | none => false)
    | .set j a => (match asAsg st with | some (t, x, _) => (match asSub t with | some (ob, ix) => mPth C sc i p ob && mE C sc j ix && mE C sc a x | none => false) | none => false)
    | .aug op j a => (match asAug st with | some (t, op', x) => (match asSub t with | some (ob, ix) => (op' == opOf op) && mPth C sc i p ob && mE C sc j ix && mE C sc a x | none => false) | none => false)
    | _ => false)
  | .aug i o a, st => (match asAug st with | some (t, op, x) => (op == opOf o) && (match asName t with | some y => nameAt C i y && locB sc y | none => false) && mE C sc a x | none => false)
  | .ex a, st => (match asExpr st with | some (x, _) => noComp x && mE C sc a x | none => false)
  | .ifs c a b, st => (match asIf st with | some (x, xs, ys) => mE C sc c x && mSs C sc a xs && mSs C sc b ys | none => false)
  | .for tg it b, st => (match asFor st with | some (t, x, bs) => mT C sc tg t && mI C sc it t x && plainX x && mSs C sc b bs | none => false)
  | .whl c b, st => (match asWhl st with | some (x, bs) => mE C sc c x && mSs C sc b bs | none => false)
  | .ret a, st => (match asRet st with | some x => mE C sc a x | none => false)
  | .retN, st => isRetN st
  | .brk, st => isBrk st
  | .cnt, st => isCnt st
  | .pas, st => isPas st
  | .rai _ _, _ => false
def mSs (C : Ct) (sc : Scope) : DSs → List Stmt → Bool
  | .nil, [] => true
  | .cons s ss, st :: sts => mS C sc s st && mSs C sc ss sts
  | _, _ => false
end
mutual
def okS (sg : List (Bool × Bool)) (own vw : List Nat) (fr : Bool) : DS → Bool
  | .asg tg a => okE sg own vw a && (tgs tg).all (kOk own vw (frE sg a) (shE sg (own ++ vw) a)) && decide (tgs tg).Nodup
  | .par i j a b => okE sg own vw a && okE sg own vw b && !ioE b && kOk own vw (frE sg a) (frE sg a || shE sg (own ++ vw) a) i && kOk own vw (frE sg b) (frE sg b || shE sg (own ++ vw) b) j && !(i == j)
  | .upd i p o kl => own.contains i && okPth sg own vw p && vw.all (fun j => kl.contains j) && (match o with
    | .app a => okE sg own vw a && frE sg a && (p.isEmpty || !ioE a)
    | .ext a => okE sg own vw a && frE sg a && (p.isEmpty || !ioE a)
    | .ins j a => okE sg own vw j && okE sg own vw a && p.isEmpty
    | .clr => true
    | .set j a => okE sg own vw j && okE sg own vw a && frE sg a && !ioE j
    | .aug op j a => okE sg own vw j && okE sg own vw a && !ioE j && !ioE a && isAddSub op
    | _ => false)
  | .aug _ o a => okE sg own vw a && isAddSub o
  | .ex a => okE sg own vw a
  | .ifs c a b => okE sg own vw c && okSs sg own vw fr a && okSs sg own vw fr b
  | .for tg it b => okI sg own vw it && okSs sg own vw fr b && decide (tgs tg).Nodup && (tgs tg).all (fun i => !own.contains i) && ((frI sg it || shI sg (own ++ vw) it) || (!ioSs b && (tgs tg).all (fun i => vw.contains i)))
  | .whl c b => okE sg own vw c && okSs sg own vw fr b
  | .ret a => okE sg own vw a && (!fr || frE sg a)
  | .retN | .brk | .cnt | .pas => true
  | .rai _ _ => false
def okSs (sg : List (Bool × Bool)) (own vw : List Nat) (fr : Bool) : DSs → Bool
  | .nil => true
  | .cons s ss => okS sg own vw fr s && okSs sg own vw fr ss
end

/-! ### from matching -/
theorem asAsg_eq {st : Stmt} {t x : Expr} {sp : Pos} (h : asAsg st = some (t, x, sp)) : st = .Assign [t] x sp := by
  unfold asAsg at h
  split at h
  · simp only [Option.some.injEq, Prod.mk.injEq] at h
    obtain ⟨rfl, rfl, rfl⟩ := h; rfl
  · cases h
theorem asPar_eq {st : Stmt} {x y : Str} {a b : Expr} {px py : Pos} (h : asPar st = some (x, y, a, b, px, py)) : ∃ kt pt k2 pt2 sp, st = .Assign [.Tuple [.Name x px, .Name y py] kt pt] (.Tuple [a, b] k2 pt2) sp := by
  unfold asPar at h
  split at h
  · simp only [Option.some.injEq, Prod.mk.injEq] at h
    obtain ⟨rfl, rfl, rfl, rfl, rfl, rfl⟩ := h; exact ⟨_, _, _, _, _, rfl⟩
  · cases h
theorem asExpr_eq {st : Stmt} {x : Expr} {sp : Pos} (h : asExpr st = some (x, sp)) : st = .Expr x sp := by
  unfold asExpr at h
  split at h
  · simp only [Option.some.injEq, Prod.mk.injEq] at h
    obtain ⟨rfl, rfl⟩ := h; rfl
  · cases h
theorem asMeth1_eq {e o x : Expr} {m : Str} (h : asMeth1 e = some (o, m, x)) : ∃ ap cp, e = .Call (.Attribute o m ap) [x] [] cp ∧ (ap.endLine == cp.line) = true := by
  unfold asMeth1 at h
  split at h
  · split at h
    · rename_i hl
      simp only [Option.some.injEq, Prod.mk.injEq] at h
      obtain ⟨rfl, rfl, rfl⟩ := h; exact ⟨_, _, rfl, hl⟩
    · cases h
  · cases h
theorem asMeth0_eq {e o : Expr} {m : Str} (h : asMeth0 e = some (o, m)) : ∃ ap cp, e = .Call (.Attribute o m ap) [] [] cp ∧ (ap.endLine == cp.line) = true := by
  unfold asMeth0 at h
  split at h
  · split at h
    · rename_i hl
      simp only [Option.some.injEq, Prod.mk.injEq] at h
      obtain ⟨rfl, rfl⟩ := h; exact ⟨_, _, rfl, hl⟩
    · cases h
  · cases h
theorem asSub_eq {e o i : Expr} (h : asSub e = some (o, i)) : ∃ p, e = .Subscript o i p := by
  unfold asSub at h
  split at h
  · simp only [Option.some.injEq, Prod.mk.injEq] at h
    obtain ⟨rfl, rfl⟩ := h; exact ⟨_, rfl⟩
  · cases h
theorem asAug_eq {st : Stmt} {t x : Expr} {o : Operator} (h : asAug st = some (t, o, x)) : ∃ sp, st = .AugAssign t o x sp := by
  unfold asAug at h
  split at h
  · simp only [Option.some.injEq, Prod.mk.injEq] at h
    obtain ⟨rfl, rfl, rfl⟩ := h; exact ⟨_, rfl⟩
  · cases h
theorem asIf_eq {st : Stmt} {c : Expr} {a b : List Stmt} (h : asIf st = some (c, a, b)) : ∃ sp, st = .If c a b sp := by
  unfold asIf at h
  split at h
  · simp only [Option.some.injEq, Prod.mk.injEq] at h
    obtain ⟨rfl, rfl, rfl⟩ := h; exact ⟨_, rfl⟩
  · cases h
theorem asFor_eq {st : Stmt} {t x : Expr} {b : List Stmt} (h : asFor st = some (t, x, b)) : ∃ sp, st = .For t x b [] sp := by
  unfold asFor at h
  split at h
  · simp only [Option.some.injEq, Prod.mk.injEq] at h
    obtain ⟨rfl, rfl, rfl⟩ := h; exact ⟨_, rfl⟩
  · cases h
theorem asWhl_eq {st : Stmt} {x : Expr} {b : List Stmt} (h : asWhl st = some (x, b)) : ∃ sp, st = .While x b [] sp := by
  unfold asWhl at h
  split at h
  · simp only [Option.some.injEq, Prod.mk.injEq] at h
    obtain ⟨rfl, rfl⟩ := h; exact ⟨_, rfl⟩
  · cases h
theorem asRet_eq {st : Stmt} {x : Expr} (h : asRet st = some x) : ∃ sp, st = .Return (some x) sp := by
  unfold asRet at h
  split at h
  · simp only [Option.some.injEq] at h
    subst h; exact ⟨_, rfl⟩
  · cases h
theorem swaps_no {x : Expr} {t : Option Expr} {l : Nat} {env : PySem.Env} (h : noComp x = true) : swapsWith x t l env = pure false := by
  cases x <;> first | rfl | (simp [noComp] at h; done)
theorem stores_no {t x : Expr} {env : PySem.Env} (h : (isTupX t && isTupX x) = false) (ht : isTupX t = true ∨ ∃ y p, t = .Name y p) : swappedStores [t] x env = pure none := by
  rcases ht with ht | ⟨y, p, rfl⟩
  · cases t <;> simp only [isTupX, reduceCtorEq] at ht h
    cases x <;> first | rfl | (simp [isTupX] at h; done)
  · rfl
theorem swaps_lcNo {t x : Expr} {l : Nat} {env : PySem.Env} (hk : env.scope.kind = .function) (h : lcNo env.scope t x = true) : swapsWithSole [t] x l env = pure false ∧ swappedStores [t] x env = pure none ∧ (assignEach [t] env).map (·.2) = [assign t env] := by
  unfold lcNo at h
  split at h
  · rename_i y py elx gens cs p
    refine ⟨?_, rfl, rfl⟩
    have hb : env.blockKind = .function := by unfold Env.blockKind; rw [hk]; rfl
    have e1 : (env.kindOf y == some NameKind.local) = isLoc env.scope y := by
      unfold isLoc Env.kindOf
      cases env.scope.names.lookup y with
      | none => rfl
      | some k => cases k <;> rfl
    unfold swapsWithSole swapsWith
    simp only [hb, e1, Expr.pos]
    simp only [Bool.not_eq_true'] at h
    show (pure (true && _ && _ && _) : Sem Bool) = pure false
    rw [Bool.true_and]
    rw [h]
  · cases h
theorem isLoc_eq {sc : Scope} {x : Str} (h : isLoc sc x = true) : sc.names.lookup x = some .local := by
  unfold isLoc at h
  split at h
  · assumption
  · cases h
theorem mT_lt {C : Ct} {sc : Scope} : ∀ {tg : Tg} {t : Expr}, mT C sc tg t = true → (∀ i ∈ tgs tg, i < C.N.length) ∧ (isTupX t = true ∨ ∃ y p, t = .Name y p)
  | .n i, t, h => by
    simp only [mT] at h
    split at h
    · rename_i x hx; obtain ⟨p, rfl⟩ := asName_eq hx
      simp only [Bool.and_eq_true] at h
      refine ⟨fun j hj => ?_, .inr ⟨_, _, rfl⟩⟩
      have : j = i := by simpa [tgs] using hj
      subst this
      exact (List.getElem?_eq_some_iff.mp (nameAt_eq h.1)).1
    · cases h
  | .t ts, t, h => by
    simp only [mT] at h
    split at h
    · rename_i es hx; obtain ⟨k, p, rfl⟩ := asTup_eq hx
      simp only [Bool.and_eq_true] at h
      exact ⟨fun j hj => mTs_lt h.1 j (by simpa [tgs] using hj), .inl rfl⟩
    · cases h
where mTs_lt {C : Ct} {sc : Scope} : ∀ {ts : List Tg} {es : List Expr}, mTs C sc ts es = true → ∀ i ∈ tgsL ts, i < C.N.length
  | [], [], _ => fun i h => by simp [tgsL] at h
  | [], _ :: _, h => by simp [mTs] at h
  | _ :: _, [], h => by simp [mTs] at h
  | t :: ts, e :: es, h => fun i hi => by
    simp only [mTs, Bool.and_eq_true] at h
    simp only [tgsL, List.mem_append] at hi
    rcases hi with hi | hi
    · exact (mT_lt h.1.1).1 i hi
    · exact mTs_lt h.2 i hi
theorem stores_par {x y : Str} {a b : Expr} {px py pt pt2 : Pos} {kt k2 : Nat} {env : PySem.Env} (hk : env.scope.kind = .function) (h : parOk env.scope x y px py a b = true) (pa : plainX a = true) (pb : plainX b = true) :
    swappedStores [.Tuple [.Name x px, .Name y py] kt pt] (.Tuple [a, b] k2 pt2) env = pure (some [x, y]) := by
  simp only [parOk, Bool.and_eq_true, Bool.not_eq_true'] at h
  obtain ⟨⟨⟨⟨⟨⟨⟨⟨h1, h2⟩, h3⟩, h4⟩, h5⟩, h6⟩, h7⟩, h8⟩, h9⟩ := h
  have kx : env.kindOf x = some .local := isLoc_eq h1
  have ky : env.kindOf y = some .local := isLoc_eq h2
  have hb : env.blockKind = .function := by unfold Env.blockKind; rw [hk]; rfl
  have h6 : ([x, y] : List Str).eraseDups.length = 2 := by simpa using h6
  have e1 : (Expr.Name x px).pos = px := rfl
  have h4' : (py.line == px.line) = true := h4
  have d1 : (NameKind.local == NameKind.local) = true := by decide
  unfold swappedStores
  simp only [List.length_cons, List.length_nil, hb, h7, h8, List.head?_cons, Option.map_some, Option.getD_some, List.filterMap_cons, List.filterMap_nil, kx, ky, e1]
  have c1 : (some NameKind.local == some NameKind.local && px.line == px.line) = true := by rw [h3]; decide
  have c2 : (some NameKind.local == some NameKind.local && py.line == px.line) = true := by rw [h4]; decide
  rw [if_pos c1, if_pos c2]
  dsimp only
  rw [h6, if_neg (by decide), if_neg (fun hc => ?_), if_neg (by simp), if_neg (by decide), if_neg (by decide)]
  simp only [List.any_cons, List.any_nil, Bool.or_false] at hc
  rcases Bool.or_eq_true_iff.mp hc with z | z
  · cases a <;> first | exact Bool.noConfusion z | (simp [plainX] at pa; done)
  · cases b <;> first | exact Bool.noConfusion z | (simp [plainX] at pb; done)
theorem mPth_name {C : Ct} {sc : Scope} {i : Nat} {p : List Ac} {e : Expr} (h : mPth C sc i p e = true) : True := trivial
section
variable {C : Ct} {Φ : Nat → Fn} {k : Nat} {X : Cx}
/-- what a def's body needs about itself -/
structure Bd (X : Cx) : Prop where
  po : PassesOwn (model X.prog X.w) X.A X.env X.xe
  fn : ∀ x, X.fn x = true
  kd : X.env.scope.kind = .function
theorem Bd.st (B : Bd X) : StOk X X.env.scope := fun x h => ⟨locB_eq h, .inl (B.fn x)⟩
theorem noComp_name {a : DE} {x : Expr} {sc : Scope} (h : mE C sc a x = true) (hc : isComp a = false) : True := trivial
mutual
theorem soundS (F : Fx C Φ k X) (B : Bd X) {own vw : List Nat} {fr : Bool} : ∀ (s : DS) {st : Stmt}, mS C X.env.scope s st = true → okS C.sigs own vw fr s = true → SS C X own vw fr (ioS s) (evS Φ s) (WS X st)
  | .asg tg a, st, h, o => by
    simp only [mS] at h
    split at h
    rotate_left
    · cases h
    rename_i t x sp hs
    obtain rfl := asAsg_eq hs
    simp only [Bool.and_eq_true] at h
    obtain ⟨⟨h1, h2⟩, h3⟩ := h
    simp only [okS, Bool.and_eq_true, decide_eq_true_eq, List.all_eq_true] at o
    obtain ⟨⟨o1, o2⟩, o3⟩ := o
    obtain ⟨l1, l2⟩ := mT_lt h1
    by_cases hn : (noComp x && !(isTupX t && isTupX x)) = true
    · simp only [Bool.and_eq_true, Bool.not_eq_true'] at hn
      refine ss_asg F B.st h1 (soundE a F h2 o1).1 o2 o3 l1 (swaps_no hn.1) (stores_no hn.2 l2) ?_
      rcases l2 with l2 | ⟨y, p, rfl⟩
      · cases t <;> first | rfl | (simp [isTupX] at l2; done)
      · rfl
    by_cases hno : lcNo X.env.scope t x = true
    · obtain ⟨w1, w2, w3⟩ := swaps_lcNo (l := sp.line) B.kd hno
      exact ss_asg F B.st h1 (soundE a F h2 o1).1 o2 o3 l1 w1 w2 w3
    · have h3 : lcOk X.env.scope a t x = true := by
        rcases Bool.or_eq_true_iff.mp h3 with z | z
        · rcases Bool.or_eq_true_iff.mp z with z | z
          · exact absurd z hn
          · exact z
        · exact absurd z hno
      unfold lcOk at h3
      split at h3
      rotate_left
      · cases h3
      rename_i y py elx gens cs p
      simp only [Bool.and_eq_true, Bool.not_eq_true'] at h3
      obtain ⟨⟨⟨g1, g2⟩, g3⟩, g4⟩ := h3
      cases a <;> simp only [isComp, Bool.false_eq_true] at g1
      rename_i elt tg2 it ifs os
      cases tg with
      | t ts => simp [mT, asTup] at h1; 
      | n j =>
        simp only [mT, asName, Bool.and_eq_true] at h1
        simp only [mE] at h2
        split at h2
        rotate_left
        · cases h2
        rename_i xe t2 i2 fs s2 e; obtain ⟨p2, e2⟩ := asComp_eq e
        simp only [Expr.ListComp.injEq] at e2
        obtain ⟨rfl, rfl, rfl, rfl⟩ := e2
        simp only [Bool.and_eq_true, decide_eq_true_eq] at h2
        obtain ⟨⟨⟨⟨⟨⟨⟨k1, k2⟩, k3⟩, k4⟩, k5⟩, k6⟩, k7⟩, k8⟩ := h2
        simp only [okE, Bool.and_eq_true, decide_eq_true_eq] at o1
        obtain ⟨⟨⟨⟨⟨m1, m2⟩, m3⟩, m4⟩, m5⟩, m6⟩ := o1
        refine ss_setLc F k1 k2 (fun j hj => ?_) m6 k8 (by simpa using m2) (by simpa using m3) (soundI it F k3 m1) (fun X' hX => ?_) (fun X' hX => ?_) (nameAt_eq h1.1) (isLoc_eq g2) B.kd g3 g4 (o2 j (by simp [tgs]))
        · have := List.all_eq_true.mp k7 j hj
          simpa using this
        · exact sts_of (soundL ifs (F.blk hX).1 (by rw [hX.scope]; exact k4) m5) k5
        · exact (soundE elt (F.blk hX).1 (by rw [hX.scope]; exact k6) m4).1
  | .par i j a b, st, h, o => by
    simp only [mS] at h
    split at h
    rotate_left
    · cases h
    rename_i x y xa xb px py hs
    obtain ⟨kt, pt, k2, pt2, sp, rfl⟩ := asPar_eq hs
    simp only [Bool.and_eq_true] at h
    obtain ⟨⟨⟨⟨h1, h2⟩, h3⟩, h4⟩, h5⟩ := h
    simp only [okS, Bool.and_eq_true, Bool.not_eq_true'] at o
    obtain ⟨⟨⟨⟨⟨o1, o2⟩, o3⟩, o4⟩, o5⟩, o6⟩ := o
    have hl := h5
    simp only [parOk, Bool.and_eq_true] at hl
    exact ss_par F (nameAt_eq h1) (nameAt_eq h2) (by simpa using o6) (isLoc_eq hl.1.1.1.1.1.1.1.1) (isLoc_eq hl.1.1.1.1.1.1.1.2) (soundE a F h3 o1).1 (soundE b F h4 o2).1 (mE_plain h3).1 (mE_plain h4).1 (stores_par B.kd h5 (mE_plain h3).1 (mE_plain h4).1) o4 o5 o3
  | .upd i p (.app a) kl, st, h, o => by
    simp only [mS] at h
    split at h
    rotate_left
    · cases h
    rename_i e sp hs
    obtain rfl := asExpr_eq hs
    split at h
    rotate_left
    · cases h
    rename_i ob m x hm
    obtain ⟨ap, cp, rfl, hl⟩ := asMeth1_eq hm
    simp only [Bool.and_eq_true] at h
    obtain rfl := strEq_eq h.1.1
    simp only [okS, Bool.and_eq_true, List.all_eq_true, List.contains_eq_mem, decide_eq_true_eq] at o
    obtain ⟨⟨⟨o1, o2⟩, o3⟩, ⟨o4, o5⟩, o6⟩ := o
    exact ss_app F h.1.2 o2 o1 o3 hl (mE_plain h.2).1 (soundE a F h.2 o4).1 o5 (by simpa using o6)
  | .upd i p (.ext a) kl, st, h, o => by
    simp only [mS] at h
    split at h
    rotate_left
    · cases h
    rename_i e sp hs
    obtain rfl := asExpr_eq hs
    split at h
    rotate_left
    · cases h
    rename_i ob m x hm
    obtain ⟨ap, cp, rfl, hl⟩ := asMeth1_eq hm
    simp only [Bool.and_eq_true] at h
    obtain rfl := strEq_eq h.1.1
    simp only [okS, Bool.and_eq_true, List.all_eq_true, List.contains_eq_mem, decide_eq_true_eq] at o
    obtain ⟨⟨⟨o1, o2⟩, o3⟩, ⟨o4, o5⟩, o6⟩ := o
    exact ss_ext F h.1.2 o2 o1 o3 hl (mE_plain h.2).1 (soundE a F h.2 o4).1 o5 (by simpa using o6)
  | .upd i p .clr kl, st, h, o => by
    simp only [mS] at h
    split at h
    rotate_left
    · cases h
    rename_i e sp hs
    obtain rfl := asExpr_eq hs
    split at h
    rotate_left
    · cases h
    rename_i ob m hm
    obtain ⟨ap, cp, rfl, hl⟩ := asMeth0_eq hm
    simp only [Bool.and_eq_true] at h
    obtain rfl := strEq_eq h.1
    simp only [okS, Bool.and_eq_true, List.all_eq_true, List.contains_eq_mem, decide_eq_true_eq] at o
    obtain ⟨⟨⟨o1, o2⟩, o3⟩, _⟩ := o
    exact ss_clr F h.2 o2 o1 o3 hl
  | .upd i p (.set j a) kl, st, h, o => by
    simp only [mS] at h
    split at h
    rotate_left
    · cases h
    rename_i t x sp hs
    obtain rfl := asAsg_eq hs
    split at h
    rotate_left
    · cases h
    rename_i ob ix hm
    obtain ⟨tp, rfl⟩ := asSub_eq hm
    simp only [Bool.and_eq_true] at h
    simp only [okS, Bool.and_eq_true, List.all_eq_true, List.contains_eq_mem, decide_eq_true_eq, Bool.not_eq_true'] at o
    obtain ⟨⟨⟨o1, o2⟩, o3⟩, ⟨⟨o4, o5⟩, o6⟩, o7⟩ := o
    have pl := (mE_plain h.1.2).1
    refine ss_sub F h.1.1 o2 o1 o3 pl (soundE a F h.2 o5).1 (soundE j F h.1.2 o4).1 o6 o7 (fun v => ?_) ?_ ?_
    · cases ix <;> first | rfl | (simp [plainX] at pl; done)
    · cases x <;> rfl
    · cases x <;> rfl
  | .upd i p (.aug op j a) kl, st, h, o => by
    simp only [mS] at h
    split at h
    rotate_left
    · cases h
    rename_i t op' x hs
    obtain ⟨sp, rfl⟩ := asAug_eq hs
    split at h
    rotate_left
    · cases h
    rename_i ob ix hm
    obtain ⟨tp, rfl⟩ := asSub_eq hm
    simp only [Bool.and_eq_true] at h
    obtain ⟨⟨⟨h1, h2⟩, h3⟩, h4⟩ := h
    obtain rfl := op_eq h1
    simp only [okS, Bool.and_eq_true, List.all_eq_true, List.contains_eq_mem, decide_eq_true_eq, Bool.not_eq_true'] at o
    obtain ⟨⟨⟨o1, o2⟩, o3⟩, ⟨⟨⟨o4, o5⟩, o6⟩, o7⟩, o8⟩ := o
    have pl := (mE_plain h3).1
    refine ss_subaug F h2 o2 o1 o3 pl (soundE a F h4 o5).1 (soundE j F h3 o4).1 o6 o7 (by cases op <;> simp [isAddSub] at o8 <;> simp) (fun ov iv new => ?_)
    cases ix <;> first | rfl | (simp [plainX] at pl; done)
  | .upd i p .rvs kl, st, h, o => by simp [mS] at h
  | .upd i p (.ins j a) kl, st, h, o => by
    simp only [mS] at h
    split at h
    rotate_left
    · cases h
    rename_i e sp hs
    obtain rfl := asExpr_eq hs
    split at h
    rotate_left
    · cases h
    rename_i ob m x y hm
    obtain ⟨ap, cp, rfl, hl⟩ := asMeth_eq hm
    simp only [Bool.and_eq_true, List.isEmpty_iff] at h
    obtain ⟨⟨⟨⟨h1, h2⟩, h3⟩, h4⟩, h5⟩ := h
    subst h5
    obtain rfl := strEq_eq h1
    simp only [okS, Bool.and_eq_true, List.all_eq_true, List.contains_eq_mem, decide_eq_true_eq] at o
    obtain ⟨⟨⟨o1, o2⟩, o3⟩, ⟨o4, o5⟩, o6⟩ := o
    exact ss_ins F h2 o1 o3 hl (mE_plain h3).1 (mE_plain h4).1 (soundE j F h3 o4).1 (soundE a F h4 o5).1
  | .upd i p (.fset _ _) kl, st, h, o => by simp [mS] at h
  | .upd i p (.faug _ _ _) kl, st, h, o => by simp [mS] at h
  | .aug i op a, st, h, o => by
    simp only [mS] at h
    split at h
    rotate_left
    · cases h
    rename_i t op' x hs
    obtain ⟨sp, rfl⟩ := asAug_eq hs
    simp only [Bool.and_eq_true] at h
    obtain ⟨⟨h1, h2⟩, h3⟩ := h
    obtain rfl := op_eq h1
    split at h2
    rotate_left
    · cases h2
    rename_i y hy
    obtain ⟨p, rfl⟩ := asName_eq hy
    simp only [Bool.and_eq_true] at h2
    simp only [okS, Bool.and_eq_true] at o
    exact ss_aug F (nameAt_eq h2.1) (B.st y h2.2).1 (B.st y h2.2).2 (soundE a F h3 o.1).1 (by have := o.2; cases op <;> simp [isAddSub] at this <;> simp)
  | .ex a, st, h, o => by
    simp only [mS] at h
    split at h
    rotate_left
    · cases h
    rename_i x sp hs
    obtain rfl := asExpr_eq hs
    simp only [Bool.and_eq_true] at h
    exact ss_ex (soundE a F h.2 (by simpa only [okS] using o)).1 (swaps_no h.1)
  | .ifs c a b, st, h, o => by
    simp only [mS] at h
    split at h
    rotate_left
    · cases h
    rename_i x xs ys hs
    obtain ⟨sp, rfl⟩ := asIf_eq hs
    simp only [Bool.and_eq_true] at h
    simp only [okS, Bool.and_eq_true] at o
    exact ss_if (soundE c F h.1.1 o.1.1).2 (soundSs F B a h.1.2 o.1.2) (soundSs F B b h.2 o.2)
  | .for tg it b, st, h, o => by
    simp only [mS] at h
    split at h
    rotate_left
    · cases h
    rename_i t x bs hs
    obtain ⟨sp, rfl⟩ := asFor_eq hs
    simp only [Bool.and_eq_true] at h
    obtain ⟨⟨⟨h1, h2⟩, h3⟩, h4⟩ := h
    simp only [okS, Bool.and_eq_true, decide_eq_true_eq] at o
    obtain ⟨⟨⟨⟨o1, o2⟩, o3⟩, o4⟩, o5⟩ := o
    refine ss_for (fz := frI C.sigs it || shI C.sigs (own ++ vw) it) F B.po B.st h1 o3 (mT_lt h1).1 (fun i hi => ?_) h3 (soundI it F h2 o1) (soundSs F B b h4 o2) (fun z => by simpa using z) fun z => ?_
    · have := List.all_eq_true.mp o4 i hi
      simpa using this
    · rw [z] at o5
      simp only [Bool.false_or, Bool.and_eq_true, Bool.not_eq_true'] at o5
      refine ⟨o5.1, fun i hi => ?_⟩
      have := List.all_eq_true.mp o5.2 i hi
      simpa using this
  | .whl c b, st, h, o => by
    simp only [mS] at h
    split at h
    rotate_left
    · cases h
    rename_i x bs hs
    obtain ⟨sp, rfl⟩ := asWhl_eq hs
    simp only [Bool.and_eq_true] at h
    simp only [okS, Bool.and_eq_true] at o
    exact ss_whl B.po (soundE c F h.1 o.1).2 (soundSs F B b h.2 o.2)
  | .ret a, st, h, o => by
    simp only [mS] at h
    split at h
    rotate_left
    · cases h
    rename_i x hs
    obtain ⟨sp, rfl⟩ := asRet_eq hs
    simp only [okS, Bool.and_eq_true] at o
    exact ss_ret (soundE a F h o.1).1 (fun z => by have := o.2; rw [z] at this; simpa using this)
  | .retN, st, h, o => by
    simp only [mS] at h
    unfold isRetN at h
    split at h
    · exact ss_retN
    · cases h
  | .brk, st, h, o => by
    simp only [mS] at h
    unfold isBrk at h
    split at h
    · exact ss_brk
    · cases h
  | .cnt, st, h, o => by
    simp only [mS] at h
    unfold isCnt at h
    split at h
    · exact ss_cnt
    · cases h
  | .pas, st, h, o => by
    simp only [mS] at h
    unfold isPas at h
    split at h
    · exact ss_pas ps_pass
    · exact ss_pas ps_doc
    · cases h
  | .rai _ _, st, h, o => by simp [mS] at h
theorem soundSs (F : Fx C Φ k X) (B : Bd X) {own vw : List Nat} {fr : Bool} : ∀ (ss : DSs) {sts : List Stmt}, mSs C X.env.scope ss sts = true → okSs C.sigs own vw fr ss = true → SS C X own vw fr (ioSs ss) (evSs Φ ss) (WSs X sts)
  | .nil, [], h, o => WSs.of_nil
  | .nil, _ :: _, h, o => by simp [mSs] at h
  | .cons s ss, [], h, o => by simp [mSs] at h
  | .cons s ss, st :: sts, h, o => by
    simp only [mSs, Bool.and_eq_true] at h
    simp only [okSs, Bool.and_eq_true] at o
    exact ss_cons (soundS F B s h.1 o.1) (soundSs F B ss h.2 o.2)
end
end
end Cy
end
section
set_option linter.all false
set_option autoImplicit false
set_option maxRecDepth 100000
/-! Plain: running defs by their data; loops. -/
namespace Cy
open PySem
/-- a def of np parameters -/
noncomputable def runP (Φ : Nat → Fn) (np : Nat) (f : Df) : Fn := fun ds => if ds.length = np then run Φ f ds else none
/-- meanings by number -/
def ph (l : List Fn) : Nat → Fn := fun i => l.getD i (fun _ => none)

/-! ### while -/
section
variable {c : En → Option (Rs D)} {body : En → Option (Rs Ou)}
theorem whN_up : ∀ (n : Nat) (e : En) (r : Rs Ou), whN c body n e = some r → whN c body (n + 1) e = some r
  | 0, e, r, h => by simp [whN] at h
  | n + 1, e, r, h => by
    unfold whN at h ⊢
    split at h
    · rename_i e1 hc
      split at h
      · rename_i e2 hb; exact whN_up n e2 r h
      · rename_i e2 hb; exact whN_up n e2 r h
      · exact h
      · exact h
    · exact h
    · exact h
    · cases h
theorem whN_mono {n m : Nat} (h : n ≤ m) {e : En} {r : Rs Ou} (g : whN c body n e = some r) : whN c body m e = some r := by
  induction m with
  | zero =>
    have : n = 0 := by omega
    subst this; exact g
  | succ m ih =>
    by_cases e1 : n = m + 1
    · subst e1; exact g
    · exact whN_up m e r (ih (by omega))
theorem wh_of {n : Nat} {e : En} {r : Rs Ou} (g : whN c body n e = some r) : wh c body e = some r := by
  have h : ∃ n, whN c body n e ≠ none := ⟨n, by rw [g]; simp⟩
  unfold wh
  rw [dif_pos h]
  have hs := Classical.choose_spec h
  generalize Classical.choose h = m at hs ⊢
  cases q : whN c body m e with
  | none => exact absurd q hs
  | some r' =>
    have a := whN_mono (Nat.le_max_left n m) g
    have b := whN_mono (Nat.le_max_right n m) q
    rw [a] at b
    rw [b]
theorem wh_ex {e : En} {r : Rs Ou} (g : wh c body e = some r) : ∃ n, whN c body n e = some r := by
  unfold wh at g
  split at g
  · exact ⟨_, g⟩
  · cases g
theorem wh_done {e e1 : En} (h : c e = some (.ok (.bl false) e1)) : wh c body e = some (.ok .nx e1) := wh_of (n := 1) (by unfold whN; rw [h])
theorem wh_nx {e e1 e2 : En} {r : Rs Ou} (h : c e = some (.ok (.bl true) e1)) (hb : body e1 = some (.ok .nx e2)) (k : wh c body e2 = some r) : wh c body e = some r := by
  obtain ⟨n, g⟩ := wh_ex k
  exact wh_of (n := n + 1) (by unfold whN; rw [h]; dsimp only; rw [hb]; exact g)
theorem wh_bk {e e1 e2 : En} (h : c e = some (.ok (.bl true) e1)) (hb : body e1 = some (.ok .bk e2)) : wh c body e = some (.ok .nx e2) := wh_of (n := 1) (by unfold whN; rw [h]; dsimp only; rw [hb])
theorem wh_rt {e e1 e2 : En} {d : D} (h : c e = some (.ok (.bl true) e1)) (hb : body e1 = some (.ok (.rt d) e2)) : wh c body e = some (.ok (.rt d) e2) := wh_of (n := 1) (by unfold whN; rw [h]; dsimp only; rw [hb])
/-- a loop by a state of its own: e s the names' data, g what a turn makes of the state while t holds -/
theorem wh_state {S : Type} (E : S → En) (t : S → Bool) (g : S → S) (m : S → Nat) (I : S → Prop) (hc : ∀ s, I s → c (E s) = some (.ok (.bl (t s)) (E s))) (hb : ∀ s, I s → t s = true → body (E s) = some (.ok .nx (E (g s))) ∧ I (g s) ∧ m (g s) < m s) :
    ∀ s, I s → ∃ s', I s' ∧ t s' = false ∧ wh c body (E s) = some (.ok .nx (E s')) := by
  intro s
  generalize hm : m s = k
  induction k using Nat.strongRecOn generalizing s with
  | ind k ih =>
    intro i
    cases q : t s with
    | false => exact ⟨s, i, q, wh_done (by rw [hc s i, q])⟩
    | true =>
      obtain ⟨b1, b2, b3⟩ := hb s i q
      obtain ⟨s', i', t', w⟩ := ih (m (g s)) (by omega) (g s) rfl b2
      exact ⟨s', i', t', wh_nx (by rw [hc s i, q]) b1 w⟩
end

/-! ### for -/
section
variable {bt : D → En → Option En} {body : En → Option (Rs Ou)}
theorem forL_nil {e : En} : forL bt body [] e = some (.ok .nx e) := rfl
theorem forL_nx {x : D} {xs : List D} {e e1 e2 : En} (h : bt x e = some e1) (hb : body e1 = some (.ok .nx e2)) : forL bt body (x :: xs) e = forL bt body xs e2 := by
  simp only [forL, h, hb]
theorem forL_ct {x : D} {xs : List D} {e e1 e2 : En} (h : bt x e = some e1) (hb : body e1 = some (.ok .ct e2)) : forL bt body (x :: xs) e = forL bt body xs e2 := by
  simp only [forL, h, hb]
theorem forL_rt {x : D} {xs : List D} {e e1 e2 : En} {d : D} (h : bt x e = some e1) (hb : body e1 = some (.ok (.rt d) e2)) : forL bt body (x :: xs) e = some (.ok (.rt d) e2) := by
  simp only [forL, h, hb]
theorem forL_bk {x : D} {xs : List D} {e e1 e2 : En} (h : bt x e = some e1) (hb : body e1 = some (.ok .bk e2)) : forL bt body (x :: xs) e = some (.ok .nx e2) := by
  simp only [forL, h, hb]
/-- all turns go through: E i the names' data ahead of turn i -/
theorem forL_all {xs : List D} (E : Nat → En) (h : ∀ i (hi : i < xs.length), ∃ e1, bt xs[i] (E i) = some e1 ∧ body e1 = some (.ok .nx (E (i + 1)))) : forL bt body xs (E 0) = some (.ok .nx (E xs.length)) := by
  have key : ∀ (n : Nat) (ys : List D), ys = xs.drop n → forL bt body ys (E n) = some (.ok .nx (E (n + ys.length))) := by
    intro n ys
    induction ys generalizing n with
    | nil => intro _; simp [forL]
    | cons y ys ih =>
      intro e
      have hn : n < xs.length := by
        have := congrArg List.length e
        simp at this
        omega
      rw [List.drop_eq_getElem_cons hn] at e
      simp only [List.cons.injEq] at e
      obtain ⟨rfl, e⟩ := e
      obtain ⟨e1, h1, h2⟩ := h n hn
      rw [forL_nx h1 h2, ih (n + 1) e, List.length_cons]
      congr 3
      omega
  have := key 0 xs (by simp)
  simpa using this
end
/-- numbers one by one -/
theorem rangeL_get {n : Nat} {i : Nat} (hi : i < ((rangeL 0 (n : Int)).map D.int).length) : ((rangeL 0 (n : Int)).map D.int)[i] = .int (i : Int) := by
  simp [rangeL]
theorem rangeL_length (n : Nat) : ((rangeL 0 (n : Int)).map D.int).length = n := by simp [rangeL]
/-- a comprehension without tests -/
theorem compL_map {bt : D → Option En} {tst : En → Option (Rs Bool)} {elt : En → Option (Rs D)} {f : D → D} : ∀ {xs : List D}, (∀ x ∈ xs, ∃ e, bt x = some e ∧ (∃ e1, tst e = some (.ok true e1) ∧ ∃ e2, elt e1 = some (.ok (f x) e2))) → xs.length ≤ LMX → compL bt tst elt xs = some (xs.map f)
  | [], _, _ => rfl
  | x :: xs, h, hl => by
    obtain ⟨e, h1, e1, h2, e2, h3⟩ := h x (List.mem_cons_self ..)
    have ih := compL_map (f := f) (fun y hy => h y (List.mem_cons_of_mem _ hy)) (Nat.le_of_succ_le hl)
    simp only [compL, h1, h2, h3, ih, Option.bind_some, List.length_map]
    rw [if_pos (Nat.lt_of_succ_le (by simpa using hl))]; rfl
/-- with a test -/
theorem compL_filter {bt : D → Option En} {tst : En → Option (Rs Bool)} {elt : En → Option (Rs D)} {p : D → Bool} {f : D → D} : ∀ {xs : List D}, (∀ x ∈ xs, ∃ e, bt x = some e ∧ (∃ e1, tst e = some (.ok (p x) e1) ∧ (p x = true → ∃ e2, elt e1 = some (.ok (f x) e2)))) → xs.length ≤ LMX → compL bt tst elt xs = some ((xs.filter p).map f)
  | [], _, _ => rfl
  | x :: xs, h, hl => by
    obtain ⟨e, h1, e1, h2, h3⟩ := h x (List.mem_cons_self ..)
    have ih := compL_filter (p := p) (f := f) (fun y hy => h y (List.mem_cons_of_mem _ hy)) (Nat.le_of_succ_le hl)
    cases q : p x with
    | false =>
      rw [q] at h2
      simp only [compL, h1, h2, ih, List.filter_cons, q]; rfl
    | true =>
      rw [q] at h2
      obtain ⟨e2, h3⟩ := h3 q
      simp only [compL, h1, h2, h3, ih, Option.bind_some, List.filter_cons, q, if_true, List.map_cons, List.length_map]
      rw [if_pos]
      have := List.length_filter_le p xs
      simp only [List.length_cons] at hl
      omega
/-! ### sizes -/
set_option exponentiation.threshold 100 in
theorem lt_BIG {n k : Nat} (h : n < 2 ^ k) (hk : k ≤ 1000000) : n < BIG := Nat.lt_of_lt_of_le h (Nat.pow_le_pow_right (by decide) hk)
theorem lt_DVB {n k : Nat} (h : n < 2 ^ k) (hk : k ≤ 8000) : n < DVB := Nat.lt_of_lt_of_le h (Nat.pow_le_pow_right (by decide) hk)
/-! ### the meaning's steps, for simp: loops stay shut -/
noncomputable def wl (Φ : Nat → Fn) (c : DE) (b : DSs) (e : En) : Option (Rs Ou) := wh (fun e1 => ev Φ c e1) (fun e1 => evSs Φ b e1) e
noncomputable def fr (Φ : Nat → Fn) (tg : Tg) (b : DSs) (xs : List D) (e : En) : Option (Rs Ou) := forL (fun x e2 => bindT tg x e2) (fun e2 => evSs Φ b e2) xs e
def cp (Φ : Nat → Fn) (elt : DE) (tg : Tg) (ifs : DEs) (os : List Nat) (xs : List D) (e1 : En) : Option (List D) := compL (fun x => bindT tg x (wipeE os e1)) (fun e2 => evTs Φ ifs e2) (fun e2 => ev Φ elt e2) xs
/-! the meaning's steps as words without binders: simp goes from the left -/
def cl (r : Option Fr) (e : En) : Option (Rs D) := match r with
  | some (.ret d []) => some (.ok d e)
  | some (.exn c x []) => some (.exn c x e)
  | _ => none
def gd {α : Type} (c : Bool) (r : Option α) : Option α := if c = true then none else r
def om {α β : Type} (o : Option α) (f : α → β) : Option β := o.map f
def gv (v : Option (Option D)) (e : En) : Option (Rs D) := match v with | some (some d) => some (.ok d e) | _ => none
def gm (v : Option (Option D)) (e : En) : Option (Rs D) := gv v e
def fnl (io : List Nat) (r : Option (Rs Ou)) : Option Fr := match r with
  | some (.ok (.rt d) e) => (iosOf io e).map (Fr.ret d)
  | some (.ok .nx e) => (iosOf io e).map (Fr.ret .non)
  | some (.exn c x e) => (iosOf io e).map (Fr.exn c x)
  | _ => none
def fApp (d t : D) : Option D := match t with | .lst xs => if xs.length < LMX then some (.lst (xs ++ [d])) else none | _ => none
def fExt (d t : D) : Option D := match t, d with | .lst xs, .lst ys => if xs.length + ys.length ≤ LMX then some (.lst (xs ++ ys)) else none | _, _ => none
def fSet (k d t : D) : Option D := setD t k d
def fAug (b : BO) (k d t : D) : Option D := (ixD t k).bind fun x => (binD b x d).bind fun y => setD t k y
def fClr (t : D) : Option D := match t with | .lst _ => some (.lst []) | _ => none
def xSet (i : Nat) (e : En) (z : Option D) : Option (Rs Ou) := z.map fun z => .ok .nx (e.set i (some z))
def xUpd (i : Nat) (kl : List Nat) (e : En) (z : Option D) : Option (Rs Ou) := z.map fun d' => .ok .nx (kil kl (e.set i (some d')))
section
variable (Φ : Nat → Fn)

def xPur  (r : Option (Rs D)) : Option (Rs D) := bd r fun d e1 => if pureD d = true then some (.ok d e1) else none
def xBin (Φ : Nat → Fn) (o : BO) (b : DE) (r : Option (Rs D)) : Option (Rs D) := bd r fun x e1 => if (ioE b && !pureD x) = true then none else bd (ev Φ b e1) fun y e2 => lf (binD o x y) e2
def xBin2 (o : BO) (x : D) (r : Option (Rs D)) : Option (Rs D) := bd r fun y e2 => lf (binD o x y) e2
def xNeg  (r : Option (Rs D)) : Option (Rs D) := bd r fun x e1 => match x with | .int i => some (.ok (.int (-i)) e1) | _ => none
def xCmp (Φ : Nat → Fn) (o : CO) (b : DE) (r : Option (Rs D)) : Option (Rs D) := bd r fun x e1 => if (ioE b && !pureD x) = true then none else bd (ev Φ b e1) fun y e2 => lf ((cmpD o x y).map D.bl) e2
def xCmp2 (o : CO) (x : D) (r : Option (Rs D)) : Option (Rs D) := bd r fun y e2 => lf ((cmpD o x y).map D.bl) e2
def xChn (Φ : Nat → Fn) (o o' : CO) (b c : DE) (r : Option (Rs D)) : Option (Rs D) := bd r fun x e1 => if ((ioE b || ioE c) && !pureD x) = true then none else bd (ev Φ b e1) fun y e2 =>
      (match cmpD o x y with
      | some true => if (ioE c && !pureD y) = true then none else bd (ev Φ c e2) fun z e3 => lf ((cmpD o' y z).map D.bl) e3
      | some false => some (.ok (.bl false) e2)
      | none => none)
def xChn2 (Φ : Nat → Fn) (o o' : CO) (x : D) (c : DE) (r : Option (Rs D)) : Option (Rs D) := bd r fun y e2 =>
      (match cmpD o x y with
      | some true => if (ioE c && !pureD y) = true then none else bd (ev Φ c e2) fun z e3 => lf ((cmpD o' y z).map D.bl) e3
      | some false => some (.ok (.bl false) e2)
      | none => none)
def xNot  (r : Option (Rs D)) : Option (Rs D) := bd r fun x e1 => match x with | .bl b => some (.ok (.bl (!b)) e1) | _ => none
def xTup  (r : Option (Rs (List D))) : Option (Rs D) := bd r fun ds e1 => if ds.length ≤ LMX then some (.ok (.tup ds) e1) else none
def xLst  (r : Option (Rs (List D))) : Option (Rs D) := bd r fun ds e1 => if ds.length ≤ LMX then some (.ok (.lst ds) e1) else none
def xIx (Φ : Nat → Fn) (i : DE) (r : Option (Rs D)) : Option (Rs D) := bd r fun x e1 => if (ioE i && !pureD x) = true then none else bd (ev Φ i e1) fun y e2 => lf (ixD x y) e2
def xIx2 (x : D) (r : Option (Rs D)) : Option (Rs D) := bd r fun y e2 => lf (ixD x y) e2
def xSl (Φ : Nat → Fn) (lo hi : DO) (r : Option (Rs D)) : Option (Rs D) := bd r fun x e1 => if ((ioP lo || ioP hi) && !pureD x) = true then none else bd (evP Φ lo e1) fun l e2 => bd (evP Φ hi e2) fun h e3 => lf (slD x l h) e3
def xTl4 (x : D) (l h : Option Int) (r : Option (Rs D)) : Option (Rs D) := bd r fun s e4 => (match s with | .int i => lf (slD3 x l h i) e4 | _ => none)
def xTl3 (Φ : Nat → Fn) (x : D) (l : Option Int) (st : DE) (r : Option (Rs (Option Int))) : Option (Rs D) := bd r fun h e3 => xTl4 x l h (ev Φ st e3)
def xTl2 (Φ : Nat → Fn) (x : D) (hi : DO) (st : DE) (r : Option (Rs (Option Int))) : Option (Rs D) := bd r fun l e2 => xTl3 Φ x l st (evP Φ hi e2)
def xTl (Φ : Nat → Fn) (lo hi : DO) (st : DE) (r : Option (Rs D)) : Option (Rs D) := bd r fun x e1 => if ((ioP lo || (ioP hi || ioE st)) && !pureD x) = true then none else xTl2 Φ x hi st (evP Φ lo e1)
theorem EV3 (Φ : Nat → Fn) :
    (∀ (a : DE) (lo hi : DO) (st : DE) (e : En), ev Φ (.sl3 a lo hi st) e = xTl Φ lo hi st (ev Φ a e)) ∧
    (∀ (lo hi : DO) (st : DE) (x : D) (e1 : En), xTl Φ lo hi st (some (.ok x e1)) = if ((ioP lo || (ioP hi || ioE st)) && !pureD x) = true then none else xTl2 Φ x hi st (evP Φ lo e1)) ∧
    (∀ (x : D) (hi : DO) (st : DE) (l : Option Int) (e1 : En), xTl2 Φ x hi st (some (.ok l e1)) = xTl3 Φ x l st (evP Φ hi e1)) ∧
    (∀ (x : D) (l : Option Int) (st : DE) (h : Option Int) (e1 : En), xTl3 Φ x l st (some (.ok h e1)) = xTl4 x l h (ev Φ st e1)) := by
  refine ⟨?_, ?_, ?_, ?_⟩ <;> intros <;> first | rfl | simp only [ev, xTl, xTl2, xTl3, xTl4]
theorem EV4 : ∀ (x : D) (l h : Option Int) (i : Int) (e1 : En), xTl4 x l h (some (.ok (.int i) e1)) = lf (slD3 x l h i) e1 := fun _ _ _ _ _ => rfl
def xSp3 (x : D) (l : Option Int) (r : Option (Rs (Option Int))) : Option (Rs D) := bd r fun h e3 => lf (slDp x l h) e3
def xSp2 (Φ : Nat → Fn) (x : D) (hi : DO) (r : Option (Rs (Option Int))) : Option (Rs D) := bd r fun l e2 => xSp3 x l (evP Φ hi e2)
def xSp (Φ : Nat → Fn) (lo hi : DO) (r : Option (Rs D)) : Option (Rs D) := bd r fun x e1 => if ((ioP lo || ioP hi) && !pureD x) = true then none else xSp2 Φ x hi (evP Φ lo e1)
theorem EV5 (Φ : Nat → Fn) :
    (∀ (a : DE) (lo hi : DO) (e : En), ev Φ (.slp a lo hi) e = xSp Φ lo hi (ev Φ a e)) ∧
    (∀ (lo hi : DO) (x : D) (e1 : En), xSp Φ lo hi (some (.ok x e1)) = if ((ioP lo || ioP hi) && !pureD x) = true then none else xSp2 Φ x hi (evP Φ lo e1)) ∧
    (∀ (x : D) (hi : DO) (l : Option Int) (e1 : En), xSp2 Φ x hi (some (.ok l e1)) = xSp3 x l (evP Φ hi e1)) := by
  refine ⟨?_, ?_, ?_⟩ <;> intros <;> first | rfl | simp only [ev, xSp, xSp2, xSp3]
theorem EV6 : ∀ (x : D) (l h : Option Int) (e1 : En), xSp3 x l (some (.ok h e1)) = lf (slDp x l h) e1 := fun _ _ _ _ => rfl
def xSl2 (Φ : Nat → Fn) (x : D) (hi : DO) (r : Option (Rs (Option Int))) : Option (Rs D) := bd r fun l e2 => bd (evP Φ hi e2) fun h e3 => lf (slD x l h) e3
def xSl3 (x : D) (l : Option Int) (r : Option (Rs (Option Int))) : Option (Rs D) := bd r fun h e3 => lf (slD x l h) e3
def xCall (Φ : Nat → Fn) (f : Nat) (r : Option (Rs (List D))) : Option (Rs D) := bd r fun ds e1 => (match Φ f ds with | some (.ret d []) => some (.ok d e1) | some (.exn c x []) => some (.exn c x e1) | _ => none)
def xBi (b : Bi) (r : Option (Rs (List D))) : Option (Rs D) := bd r fun ds e1 => lf (biD b ds) e1
def xMt (Φ : Nat → Fn) (m : Mt) (es : DEs) (r : Option (Rs D)) : Option (Rs D) := bd r fun x e1 => if (ioL es && !pureD x) = true then none else bd (evL Φ es e1) fun ds e2 => lf (mtD m x ds) e2
def xMt2 (m : Mt) (x : D) (r : Option (Rs (List D))) : Option (Rs D) := bd r fun ds e2 => lf (mtD m x ds) e2
def xComp (Φ : Nat → Fn) (elt : DE) (tg : Tg) (ifs : DEs) (os : List Nat) (r : Option (Rs (List D))) : Option (Rs D) := bd r fun xs e1 => lf ((cp Φ elt tg ifs os xs e1).map D.lst) e1
def xCons (Φ : Nat → Fn) (es : DEs) (r : Option (Rs D)) : Option (Rs (List D)) := bd r fun d e1 => if (ioL es && !pureD d) = true then none else bd (evL Φ es e1) fun ds e2 => some (.ok (d :: ds) e2)
def xCons2 (d : D) (r : Option (Rs (List D))) : Option (Rs (List D)) := bd r fun ds e2 => some (.ok (d :: ds) e2)
def xOne  (r : Option (Rs D)) : Option (Rs D) := bd r fun x e1 => match x with | .bl b => some (.ok (.bl b) e1) | _ => none
def xAnd (Φ : Nat → Fn) (es : DEs) (r : Option (Rs D)) : Option (Rs D) := bd r fun x e1 => match x with | .bl true => evAnd Φ es e1 | .bl false => some (.ok (.bl false) e1) | _ => none
def xOr (Φ : Nat → Fn) (es : DEs) (r : Option (Rs D)) : Option (Rs D) := bd r fun x e1 => match x with | .bl false => evOr Φ es e1 | .bl true => some (.ok (.bl true) e1) | _ => none
def xSo  (r : Option (Rs D)) : Option (Rs (Option Int)) := bd r fun x e1 => match x with | .int i => some (.ok (some i) e1) | _ => none
def xVal  (r : Option (Rs D)) : Option (Rs (List D)) := bd r fun x e1 => lf (itemsD x) e1
def xRng  (r : Option (Rs (List D))) : Option (Rs (List D)) := bd r fun ds e1 => lf ((rngD ds).map fun ns => ns.map D.int) e1
def xRrg  (r : Option (Rs (List D))) : Option (Rs (List D)) := bd r fun ds e1 => (match ds with
      | [.int _] => lf ((rngD ds).map fun ns => (ns.map D.int).reverse) e1
      | [.int _, .int _] => lf ((rngD ds).map fun ns => (ns.map D.int).reverse) e1
      | _ => none)
def xEnu  (r : Option (Rs D)) : Option (Rs (List D)) := bd r fun x e1 => match x with | .lst xs => some (.ok (enumL 0 xs) e1) | .tup xs => some (.ok (enumL 0 xs) e1) | _ => none
def xZip  (r : Option (Rs (List D))) : Option (Rs (List D)) := bd r fun ds e1 => match ds with | [.lst xs, .lst ys] => some (.ok (zipL xs ys) e1) | _ => none
def xRev  (r : Option (Rs D)) : Option (Rs (List D)) := bd r fun x e1 => match x with | .lst xs => some (.ok xs.reverse e1) | _ => none
def xAc (Φ : Nat → Fn) (p : List Ac) (r : Option (Rs D)) : Option (Rs (List AcV)) := bd r fun d e1 => bd (evAc Φ p e1) fun q e2 => some (.ok (AcV.i d :: q) e2)
def xAc2 (d : D) (r : Option (Rs (List AcV))) : Option (Rs (List AcV)) := bd r fun q e2 => some (.ok (AcV.i d :: q) e2)
def xAsg (tg : Tg) (r : Option (Rs D)) : Option (Rs Ou) := bd r fun d e1 => (bindT tg d e1).map fun e2 => .ok .nx e2
def xPar (Φ : Nat → Fn) (i j : Nat) (b : DE) (r : Option (Rs D)) : Option (Rs Ou) := bd r fun x e1 => if (ioE b && !pureD x) = true then none else bd (ev Φ b e1) fun y e2 => some (.ok .nx ((e2.set i (some x)).set j (some y)))
def xPar2 (i j : Nat) (x : D) (r : Option (Rs D)) : Option (Rs Ou) := bd r fun y e2 => some (.ok .nx ((e2.set i (some x)).set j (some y)))
def xAug (i : Nat) (o : BO) (x : D) (r : Option (Rs D)) : Option (Rs Ou) := bd r fun y e1 => if pureD x = true then (binD o x y).map fun z => .ok .nx (e1.set i (some z)) else none
def xEx  (r : Option (Rs D)) : Option (Rs Ou) := bd r fun _ e1 => some (.ok .nx e1)
noncomputable def xIf (Φ : Nat → Fn) (a b : DSs) (r : Option (Rs D)) : Option (Rs Ou) := bd r fun x e1 => match x with | .bl true => evSs Φ a e1 | .bl false => evSs Φ b e1 | _ => none
noncomputable def xFor (Φ : Nat → Fn) (tg : Tg) (b : DSs) (r : Option (Rs (List D))) : Option (Rs Ou) := bd r fun xs e1 => fr Φ tg b xs e1
def xRet  (r : Option (Rs D)) : Option (Rs Ou) := bd r fun d e1 => some (.ok (.rt d) e1)
def uApp (Φ : Nat → Fn) (i : Nat) (a : DE) (kl : List Nat) (r : Option (Rs (List AcV))) : Option (Rs Ou) := bd r fun q e1 => bd (ev Φ a e1) fun d e2 => updE i q (fApp d) kl e2
def uApp2 (i : Nat) (q : List AcV) (kl : List Nat) (r : Option (Rs D)) : Option (Rs Ou) := bd r fun d e2 => updE i q (fApp d) kl e2
def uExt (Φ : Nat → Fn) (i : Nat) (a : DE) (kl : List Nat) (r : Option (Rs (List AcV))) : Option (Rs Ou) := bd r fun q e1 => bd (ev Φ a e1) fun d e2 => updE i q (fExt d) kl e2
def uExt2 (i : Nat) (q : List AcV) (kl : List Nat) (r : Option (Rs D)) : Option (Rs Ou) := bd r fun d e2 => updE i q (fExt d) kl e2
def uSet (Φ : Nat → Fn) (i : Nat) (p : List Ac) (j : DE) (kl : List Nat) (r : Option (Rs D)) : Option (Rs Ou) := bd r fun d e1 => bd (rcv Φ i p e1) fun q e2 => bd (ev Φ j e2) fun k e3 => updE i q (fSet k d) kl e3
def uSet2 (Φ : Nat → Fn) (i : Nat) (j : DE) (d : D) (kl : List Nat) (r : Option (Rs (List AcV))) : Option (Rs Ou) := bd r fun q e2 => bd (ev Φ j e2) fun k e3 => updE i q (fSet k d) kl e3
def uSet3 (i : Nat) (q : List AcV) (d : D) (kl : List Nat) (r : Option (Rs D)) : Option (Rs Ou) := bd r fun k e3 => updE i q (fSet k d) kl e3
def uAug (Φ : Nat → Fn) (i : Nat) (b : BO) (j a : DE) (kl : List Nat) (r : Option (Rs (List AcV))) : Option (Rs Ou) := bd r fun q e1 => bd (ev Φ j e1) fun k e2 => if (!chkI i q k e2) = true then none else bd (ev Φ a e2) fun d e3 => updE i q (fAug b k d) kl e3
def uAug2 (Φ : Nat → Fn) (i : Nat) (q : List AcV) (b : BO) (a : DE) (kl : List Nat) (r : Option (Rs D)) : Option (Rs Ou) := bd r fun k e2 => if (!chkI i q k e2) = true then none else bd (ev Φ a e2) fun d e3 => updE i q (fAug b k d) kl e3
def uAug3 (i : Nat) (q : List AcV) (b : BO) (k : D) (kl : List Nat) (r : Option (Rs D)) : Option (Rs Ou) := bd r fun d e3 => updE i q (fAug b k d) kl e3
def uClr (i : Nat) (kl : List Nat) (r : Option (Rs (List AcV))) : Option (Rs Ou) := bd r fun q e1 => updE i q fClr kl e1
def xTs (Φ : Nat → Fn) (es : DEs) (r : Option (Rs D)) : Option (Rs Bool) := bd r fun x e1 => match x with | .bl true => evTs Φ es e1 | .bl false => some (.ok false e1) | _ => none
def xChn3 (Φ : Nat → Fn) (o' : CO) (y : D) (c : DE) (e2 : En) (t : Option Bool) : Option (Rs D) := match t with
      | some true => if (ioE c && !pureD y) = true then none else bd (ev Φ c e2) fun z e3 => lf ((cmpD o' y z).map D.bl) e3
      | some false => some (.ok (.bl false) e2)
      | none => none
noncomputable def sq (Φ : Nat → Fn) (ss : DSs) (r : Option (Rs Ou)) : Option (Rs Ou) := match r with
  | some (.ok .nx e1) => evSs Φ ss e1
  | r => r
def xRcv (Φ : Nat → Fn) (i : Nat) (p : List Ac) (e : En) (v : Option (Option D)) : Option (Rs (List AcV)) := match v with
  | some (some _) => bd (evAc Φ p e) fun q e1 => if chkP i q e1 then some (.ok q e1) else none
  | _ => none
def xRcv2 (i : Nat) (r : Option (Rs (List AcV))) : Option (Rs (List AcV)) := bd r fun q e1 => if chkP i q e1 then some (.ok q e1) else none
def xUp (i : Nat) (q : List AcV) (f : D → Option D) (kl : List Nat) (e : En) (v : Option (Option D)) : Option (Rs Ou) := match v with
  | some (some d) => (updD q f d).map fun d' => .ok .nx (kil kl (e.set i (some d')))
  | _ => none
def gAug (Φ : Nat → Fn) (i : Nat) (o : BO) (a : DE) (e : En) (v : Option (Option D)) : Option (Rs Ou) := match v with
      | some (some x) => bd (ev Φ a e) fun y e1 => if pureD x = true then (binD o x y).map fun z => .ok .nx (e1.set i (some z)) else none
      | _ => none
end

theorem RC (Φ : Nat → Fn) :
    (∀ (o : BO) (b : DE) (x : D) (e1 : En), xBin Φ o b (some (.ok x e1)) = gd (ioE b && !pureD x) (xBin2 o x (ev Φ b e1))) ∧
    (∀ (o : CO) (b : DE) (x : D) (e1 : En), xCmp Φ o b (some (.ok x e1)) = gd (ioE b && !pureD x) (xCmp2 o x (ev Φ b e1))) ∧
    (∀ (o o' : CO) (b c : DE) (x : D) (e1 : En), xChn Φ o o' b c (some (.ok x e1)) = gd ((ioE b || ioE c) && !pureD x) (xChn2 Φ o o' x c (ev Φ b e1))) ∧
    (∀ (o o' : CO) (x : D) (c : DE) (y : D) (e1 : En), xChn2 Φ o o' x c (some (.ok y e1)) = xChn3 Φ o' y c e1 (cmpD o x y)) ∧
    (∀ (i : DE) (x : D) (e1 : En), xIx Φ i (some (.ok x e1)) = gd (ioE i && !pureD x) (xIx2 x (ev Φ i e1))) ∧
    (∀ (lo hi : DO) (x : D) (e1 : En), xSl Φ lo hi (some (.ok x e1)) = gd ((ioP lo || ioP hi) && !pureD x) (xSl2 Φ x hi (evP Φ lo e1))) ∧
    (∀ (x : D) (hi : DO) (l : Option Int) (e1 : En), xSl2 Φ x hi (some (.ok l e1)) = xSl3 x l (evP Φ hi e1)) ∧
    (∀ (f : Nat) (ds : List D) (e1 : En), xCall Φ f (some (.ok ds e1)) = cl (Φ f ds) e1) ∧
    (∀ (m : Mt) (es : DEs) (x : D) (e1 : En), xMt Φ m es (some (.ok x e1)) = gd (ioL es && !pureD x) (xMt2 m x (evL Φ es e1))) ∧
    (∀ (elt : DE) (tg : Tg) (ifs : DEs) (os : List Nat) (xs : List D) (e1 : En), xComp Φ elt tg ifs os (some (.ok xs e1)) = lf (om (cp Φ elt tg ifs os xs e1) D.lst) e1) ∧
    (∀ (es : DEs) (d : D) (e1 : En), xCons Φ es (some (.ok d e1)) = gd (ioL es && !pureD d) (xCons2 d (evL Φ es e1))) ∧
    (∀ (es : DEs) (e1 : En), xAnd Φ es (some (.ok (.bl true) e1)) = evAnd Φ es e1) ∧
    (∀ (es : DEs) (e1 : En), xAnd Φ es (some (.ok (.bl false) e1)) = some (.ok (.bl false) e1)) ∧
    (∀ (es : DEs) (e1 : En), xOr Φ es (some (.ok (.bl false) e1)) = evOr Φ es e1) ∧
    (∀ (es : DEs) (e1 : En), xOr Φ es (some (.ok (.bl true) e1)) = some (.ok (.bl true) e1)) ∧
    (∀ (p : List Ac) (d : D) (e1 : En), xAc Φ p (some (.ok d e1)) = xAc2 d (evAc Φ p e1)) ∧
    (∀ (i j : Nat) (b : DE) (x : D) (e1 : En), xPar Φ i j b (some (.ok x e1)) = gd (ioE b && !pureD x) (xPar2 i j x (ev Φ b e1))) ∧
    (∀ (a b : DSs) (e1 : En), xIf Φ a b (some (.ok (.bl true) e1)) = evSs Φ a e1) ∧
    (∀ (a b : DSs) (e1 : En), xIf Φ a b (some (.ok (.bl false) e1)) = evSs Φ b e1) ∧
    (∀ (tg : Tg) (b : DSs) (xs : List D) (e1 : En), xFor Φ tg b (some (.ok xs e1)) = fr Φ tg b xs e1) ∧
    (∀ (i : Nat) (a : DE) (kl : List Nat) (q : List AcV) (e1 : En), uApp Φ i a kl (some (.ok q e1)) = uApp2 i q kl (ev Φ a e1)) ∧
    (∀ (i : Nat) (a : DE) (kl : List Nat) (q : List AcV) (e1 : En), uExt Φ i a kl (some (.ok q e1)) = uExt2 i q kl (ev Φ a e1)) ∧
    (∀ (i : Nat) (p : List Ac) (j : DE) (kl : List Nat) (d : D) (e1 : En), uSet Φ i p j kl (some (.ok d e1)) = uSet2 Φ i j d kl (rcv Φ i p e1)) ∧
    (∀ (i : Nat) (j : DE) (d : D) (kl : List Nat) (q : List AcV) (e1 : En), uSet2 Φ i j d kl (some (.ok q e1)) = uSet3 i q d kl (ev Φ j e1)) ∧
    (∀ (i : Nat) (b : BO) (j a : DE) (kl : List Nat) (q : List AcV) (e1 : En), uAug Φ i b j a kl (some (.ok q e1)) = uAug2 Φ i q b a kl (ev Φ j e1)) ∧
    (∀ (i : Nat) (q : List AcV) (b : BO) (a : DE) (kl : List Nat) (k : D) (e1 : En), uAug2 Φ i q b a kl (some (.ok k e1)) = gd (!chkI i q k e1) (uAug3 i q b k kl (ev Φ a e1))) ∧
    (∀ (es : DEs) (e1 : En), xTs Φ es (some (.ok (.bl true) e1)) = evTs Φ es e1) ∧
    (∀ (es : DEs) (e1 : En), xTs Φ es (some (.ok (.bl false) e1)) = some (.ok false e1)) ∧
    (∀ (o' : CO) (y : D) (c : DE) (e2 : En), xChn3 Φ o' y c e2 (some true) = gd (ioE c && !pureD y) (xCmp2 o' y (ev Φ c e2))) ∧
    (∀ (o' : CO) (y : D) (c : DE) (e2 : En), xChn3 Φ o' y c e2 (some false) = some (.ok (.bl false) e2)) ∧
    (∀ (ss : DSs) (e : En), sq Φ ss (some (.ok .nx e)) = evSs Φ ss e) ∧
    (∀ (ss : DSs) (d : D) (e : En), sq Φ ss (some (.ok (.rt d) e)) = some (.ok (.rt d) e)) ∧
    (∀ (ss : DSs) (e : En), sq Φ ss (some (.ok .bk e)) = some (.ok .bk e)) ∧
    (∀ (ss : DSs) (e : En), sq Φ ss (some (.ok .ct e)) = some (.ok .ct e)) ∧
    (∀ (i : Nat) (p : List Ac) (e : En) (d : D), xRcv Φ i p e (some (some d)) = xRcv2 i (evAc Φ p e)) ∧
    (∀ (i : Nat) (o : BO) (a : DE) (e : En) (x : D), gAug Φ i o a e (some (some x)) = xAug i o x (ev Φ a e)) := by
  refine ⟨?_, ?_, ?_, ?_, ?_, ?_, ?_, ?_, ?_, ?_, ?_, ?_, ?_, ?_, ?_, ?_, ?_, ?_, ?_, ?_, ?_, ?_, ?_, ?_, ?_, ?_, ?_, ?_, ?_, ?_, ?_, ?_, ?_, ?_, ?_, ?_⟩ <;> intros <;> first | rfl | (simp only [xPur, xTup, xLst, xAug, xRcv2, bd_ok, gd, xSet]; split <;> simp_all) | (simp only [xChn2, xChn3, bd_ok]) | (simp only [xRrg, bd_ok, om, lf]; rfl) | (simp [xRrg, bd_ok, om, lf]; rfl)
theorem RD :
    (∀ (d : D) (e1 : En), xPur (some (.ok d e1)) = gd (!pureD d) (some (.ok d e1))) ∧
    (∀ (o : BO) (x : D) (y : D) (e1 : En), xBin2 o x (some (.ok y e1)) = lf (binD o x y) e1) ∧
    (∀ (i : Int) (e1 : En), xNeg (some (.ok (.int i) e1)) = some (.ok (.int (-i)) e1)) ∧
    (∀ (o : CO) (x : D) (y : D) (e1 : En), xCmp2 o x (some (.ok y e1)) = lf (om (cmpD o x y) D.bl) e1) ∧
    (∀ (b : Bool) (e1 : En), xNot (some (.ok (.bl b) e1)) = some (.ok (.bl (!b)) e1)) ∧
    (∀ (ds : List D) (e1 : En), xTup (some (.ok ds e1)) = gd (!decide (ds.length ≤ 1000000)) (some (.ok (.tup ds) e1))) ∧
    (∀ (ds : List D) (e1 : En), xLst (some (.ok ds e1)) = gd (!decide (ds.length ≤ 1000000)) (some (.ok (.lst ds) e1))) ∧
    (∀ (x : D) (y : D) (e1 : En), xIx2 x (some (.ok y e1)) = lf (ixD x y) e1) ∧
    (∀ (x : D) (l : Option Int) (h : Option Int) (e1 : En), xSl3 x l (some (.ok h e1)) = lf (slD x l h) e1) ∧
    (∀ (b : Bi) (ds : List D) (e1 : En), xBi b (some (.ok ds e1)) = lf (biD b ds) e1) ∧
    (∀ (m : Mt) (x : D) (ds : List D) (e1 : En), xMt2 m x (some (.ok ds e1)) = lf (mtD m x ds) e1) ∧
    (∀ (d : D) (ds : List D) (e1 : En), xCons2 d (some (.ok ds e1)) = some (.ok (d :: ds) e1)) ∧
    (∀ (b : Bool) (e1 : En), xOne (some (.ok (.bl b) e1)) = some (.ok (.bl b) e1)) ∧
    (∀ (i : Int) (e1 : En), xSo (some (.ok (.int i) e1)) = some (.ok (some i) e1)) ∧
    (∀ (x : D) (e1 : En), xVal (some (.ok x e1)) = lf (itemsD x) e1) ∧
    (∀ (ds : List D) (e1 : En), xRng (some (.ok ds e1)) = lf (om (rngD ds) (List.map D.int)) e1) ∧
    (∀ (i : Int) (e1 : En), xRrg (some (.ok [.int i] e1)) = lf (om (om (rngD [.int i]) (List.map D.int)) List.reverse) e1) ∧
    (∀ (i j : Int) (e1 : En), xRrg (some (.ok [.int i, .int j] e1)) = lf (om (om (rngD [.int i, .int j]) (List.map D.int)) List.reverse) e1) ∧
    (∀ (xs : List D) (e1 : En), xEnu (some (.ok (.lst xs) e1)) = some (.ok (enumL 0 xs) e1)) ∧
    (∀ (xs : List D) (e1 : En), xEnu (some (.ok (.tup xs) e1)) = some (.ok (enumL 0 xs) e1)) ∧
    (∀ (xs ys : List D) (e1 : En), xZip (some (.ok [.lst xs, .lst ys] e1)) = some (.ok (zipL xs ys) e1)) ∧
    (∀ (xs : List D) (e1 : En), xRev (some (.ok (.lst xs) e1)) = some (.ok xs.reverse e1)) ∧
    (∀ (d : D) (q : List AcV) (e1 : En), xAc2 d (some (.ok q e1)) = some (.ok (AcV.i d :: q) e1)) ∧
    (∀ (tg : Tg) (d : D) (e1 : En), xAsg tg (some (.ok d e1)) = om (bindT tg d e1) (Rs.ok .nx)) ∧
    (∀ (i j : Nat) (x : D) (y : D) (e1 : En), xPar2 i j x (some (.ok y e1)) = some (.ok .nx ((e1.set i (some x)).set j (some y)))) ∧
    (∀ (i : Nat) (o : BO) (x : D) (y : D) (e1 : En), xAug i o x (some (.ok y e1)) = gd (!pureD x) (xSet i e1 (binD o x y))) ∧
    (∀ (d : D) (e1 : En), xEx (some (.ok d e1)) = some (.ok .nx e1)) ∧
    (∀ (d : D) (e1 : En), xRet (some (.ok d e1)) = some (.ok (.rt d) e1)) ∧
    (∀ (i : Nat) (q : List AcV) (kl : List Nat) (d : D) (e1 : En), uApp2 i q kl (some (.ok d e1)) = updE i q (fApp d) kl e1) ∧
    (∀ (i : Nat) (q : List AcV) (kl : List Nat) (d : D) (e1 : En), uExt2 i q kl (some (.ok d e1)) = updE i q (fExt d) kl e1) ∧
    (∀ (i : Nat) (q : List AcV) (d : D) (kl : List Nat) (k : D) (e1 : En), uSet3 i q d kl (some (.ok k e1)) = updE i q (fSet k d) kl e1) ∧
    (∀ (i : Nat) (q : List AcV) (b : BO) (k : D) (kl : List Nat) (d : D) (e1 : En), uAug3 i q b k kl (some (.ok d e1)) = updE i q (fAug b k d) kl e1) ∧
    (∀ (i : Nat) (kl : List Nat) (q : List AcV) (e1 : En), uClr i kl (some (.ok q e1)) = updE i q fClr kl e1) ∧
    (∀ (i : Nat) (q : List AcV) (e1 : En), xRcv2 i (some (.ok q e1)) = gd (!chkP i q e1) (some (.ok q e1))) ∧
    (∀ (i : Nat) (q : List AcV) (f : D → Option D) (kl : List Nat) (e : En) (d : D), xUp i q f kl e (some (some d)) = xUpd i kl e (updD q f d)) ∧
    (∀ (i : Nat) (kl : List Nat) (e : En) (d : D), xUpd i kl e (some d) = some (.ok .nx (kil kl (e.set i (some d))))) ∧
    (∀ (i : Nat) (e : En) (d : D), xSet i e (some d) = some (.ok .nx (e.set i (some d)))) ∧
    (∀ (d : D) (e : En), cl (some (.ret d [])) e = some (.ok d e)) ∧
    (∀ (c : Str) (x : Option D) (e : En), cl (some (.exn c x [])) e = some (.exn c x e)) ∧
    (∀ (d : D) (e : En), gv (some (some d)) e = some (.ok d e)) ∧
    (∀ (α : Type) (r : Option α), gd false r = r) ∧
    (∀ (α β : Type) (a : α) (f : α → β), om (some a) f = some (f a)) ∧
    (∀ (α : Type) (a : α) (e : En), lf (some a) e = some (.ok a e)) ∧
    (∀ (d : D) (e : En), fnl [] (some (.ok (.rt d) e)) = some (.ret d [])) ∧
    (∀ (e : En), fnl [] (some (.ok .nx e)) = some (.ret .non [])) := by
  refine ⟨?_, ?_, ?_, ?_, ?_, ?_, ?_, ?_, ?_, ?_, ?_, ?_, ?_, ?_, ?_, ?_, ?_, ?_, ?_, ?_, ?_, ?_, ?_, ?_, ?_, ?_, ?_, ?_, ?_, ?_, ?_, ?_, ?_, ?_, ?_, ?_, ?_, ?_, ?_, ?_, ?_, ?_, ?_, ?_, ?_⟩ <;> intros <;> first | rfl | (simp only [xPur, xTup, xLst, xAug, xRcv2, bd_ok, gd, xSet]; split <;> simp_all) | (simp only [xChn2, xChn3, bd_ok]) | (simp only [xRrg, bd_ok, om, lf]; rfl) | (simp [xRrg, bd_ok, om, lf]; rfl)
theorem EV (Φ : Nat → Fn) :
    (∀ (i : Nat) (e : En), ev Φ (.v i) e = gv e[i]? e) ∧
    (∀ (i : Nat) (e : En), ev Φ (.mv i) e = gv e[i]? (e.set i none)) ∧
    (∀ (a : DE) (e : En), ev Φ (.pur a) e = xPur (ev Φ a e)) ∧
    (∀ (d : D) (e : En), ev Φ (.c d) e = some (.ok d e)) ∧
    (∀ (x : Str) (d : D) (e : En), ev Φ (.g x d) e = some (.ok d e)) ∧
    (∀ (o : BO) (a b : DE) (e : En), ev Φ (.bin o a b) e = xBin Φ o b (ev Φ a e)) ∧
    (∀ (a : DE) (e : En), ev Φ (.neg a) e = xNeg (ev Φ a e)) ∧
    (∀ (o : CO) (a b : DE) (e : En), ev Φ (.cmp o a b) e = xCmp Φ o b (ev Φ a e)) ∧
    (∀ (o o' : CO) (a b c : DE) (e : En), ev Φ (.chn o o' a b c) e = xChn Φ o o' b c (ev Φ a e)) ∧
    (∀ (es : DEs) (e : En), ev Φ (.and es) e = evAnd Φ es e) ∧
    (∀ (es : DEs) (e : En), ev Φ (.or es) e = evOr Φ es e) ∧
    (∀ (a : DE) (e : En), ev Φ (.not a) e = xNot (ev Φ a e)) ∧
    (∀ (es : DEs) (e : En), ev Φ (.tup es) e = xTup (evL Φ es e)) ∧
    (∀ (es : DEs) (e : En), ev Φ (.lst es) e = xLst (evL Φ es e)) ∧
    (∀ (a i : DE) (e : En), ev Φ (.ix a i) e = xIx Φ i (ev Φ a e)) ∧
    (∀ (a : DE) (lo hi : DO) (e : En), ev Φ (.sl a lo hi) e = xSl Φ lo hi (ev Φ a e)) ∧
    (∀ (f : Nat) (es : DEs) (e : En), ev Φ (.call f es) e = xCall Φ f (evL Φ es e)) ∧
    (∀ (b : Bi) (es : DEs) (e : En), ev Φ (.bi b es) e = xBi b (evL Φ es e)) ∧
    (∀ (m : Mt) (a : DE) (es : DEs) (e : En), ev Φ (.mt m a es) e = xMt Φ m es (ev Φ a e)) ∧
    (∀ (elt : DE) (tg : Tg) (it : DI) (ifs : DEs) (os : List Nat) (e : En), ev Φ (.comp elt tg it ifs os) e = xComp Φ elt tg ifs os (evI Φ it e)) ∧
    (∀ (e : En), evL Φ .nil e = some (.ok [] e)) ∧
    (∀ (a : DE) (es : DEs) (e : En), evL Φ (.cons a es) e = xCons Φ es (ev Φ a e)) ∧
    (∀ (a : DE) (e : En), evAnd Φ (.cons a .nil) e = xOne (ev Φ a e)) ∧
    (∀ (a b : DE) (es : DEs) (e : En), evAnd Φ (.cons a (.cons b es)) e = xAnd Φ (.cons b es) (ev Φ a e)) ∧
    (∀ (a : DE) (e : En), evOr Φ (.cons a .nil) e = xOne (ev Φ a e)) ∧
    (∀ (a b : DE) (es : DEs) (e : En), evOr Φ (.cons a (.cons b es)) e = xOr Φ (.cons b es) (ev Φ a e)) ∧
    (∀ (e : En), evTs Φ .nil e = some (.ok true e)) ∧
    (∀ (a : DE) (es : DEs) (e : En), evTs Φ (.cons a es) e = xTs Φ es (ev Φ a e)) ∧
    (∀ (e : En), evP Φ .no e = some (.ok none e)) ∧
    (∀ (a : DE) (e : En), evP Φ (.so a) e = xSo (ev Φ a e)) ∧
    (∀ (a : DE) (e : En), evI Φ (.val a) e = xVal (ev Φ a e)) ∧
    (∀ (es : DEs) (e : En), evI Φ (.rng es) e = xRng (evL Φ es e)) ∧
    (∀ (es : DEs) (e : En), evI Φ (.rrg es) e = xRrg (evL Φ es e)) ∧
    (∀ (a : DE) (e : En), evI Φ (.enu a) e = xEnu (ev Φ a e)) ∧
    (∀ (es : DEs) (e : En), evI Φ (.zip es) e = xZip (evL Φ es e)) ∧
    (∀ (a : DE) (e : En), evI Φ (.rev a) e = xRev (ev Φ a e)) ∧
    (∀ (e : En), evAc Φ [] e = some (.ok [] e)) ∧
    (∀ (a : DE) (p : List Ac) (e : En), evAc Φ (.i a :: p) e = xAc Φ p (ev Φ a e)) := by
  refine ⟨?_, ?_, ?_, ?_, ?_, ?_, ?_, ?_, ?_, ?_, ?_, ?_, ?_, ?_, ?_, ?_, ?_, ?_, ?_, ?_, ?_, ?_, ?_, ?_, ?_, ?_, ?_, ?_, ?_, ?_, ?_, ?_, ?_, ?_, ?_, ?_, ?_, ?_⟩ <;> intros <;> first | rfl | (simp only [ev, evL, evAnd, evOr, evTs, evP, evI, xOne, xAnd, xOr, xTs, xZip, xRrg, xEnu, xRev]; first | done | rfl | (congr 1))
theorem ES (Φ : Nat → Fn) :
    (∀ (tg : Tg) (a : DE) (e : En), evS Φ (.asg tg a) e = xAsg tg (ev Φ a e)) ∧
    (∀ (i j : Nat) (a b : DE) (e : En), evS Φ (.par i j a b) e = xPar Φ i j b (ev Φ a e)) ∧
    (∀ (i : Nat) (p : List Ac) (a : DE) (kl : List Nat) (e : En), evS Φ (.upd i p (.app a) kl) e = uApp Φ i a kl (rcv Φ i p e)) ∧
    (∀ (i : Nat) (p : List Ac) (a : DE) (kl : List Nat) (e : En), evS Φ (.upd i p (.ext a) kl) e = uExt Φ i a kl (rcv Φ i p e)) ∧
    (∀ (i : Nat) (p : List Ac) (j a : DE) (kl : List Nat) (e : En), evS Φ (.upd i p (.set j a) kl) e = uSet Φ i p j kl (ev Φ a e)) ∧
    (∀ (i : Nat) (p : List Ac) (b : BO) (j a : DE) (kl : List Nat) (e : En), evS Φ (.upd i p (.aug b j a) kl) e = uAug Φ i b j a kl (rcv Φ i p e)) ∧
    (∀ (i : Nat) (p : List Ac) (kl : List Nat) (e : En), evS Φ (.upd i p .clr kl) e = uClr i kl (rcv Φ i p e)) ∧
    (∀ (i : Nat) (p : List Ac) (e : En), rcv Φ i p e = xRcv Φ i p e e[i]?) ∧
    (∀ (i : Nat) (o : BO) (a : DE) (e : En), evS Φ (.aug i o a) e = gAug Φ i o a e e[i]?) ∧
    (∀ (a : DE) (e : En), evS Φ (.ex a) e = xEx (ev Φ a e)) ∧
    (∀ (c : DE) (a b : DSs) (e : En), evS Φ (.ifs c a b) e = xIf Φ a b (ev Φ c e)) ∧
    (∀ (tg : Tg) (it : DI) (b : DSs) (e : En), evS Φ (.for tg it b) e = xFor Φ tg b (evI Φ it e)) ∧
    (∀ (c : DE) (b : DSs) (e : En), evS Φ (.whl c b) e = wl Φ c b e) ∧
    (∀ (a : DE) (e : En), evS Φ (.ret a) e = xRet (ev Φ a e)) ∧
    (∀ (e : En), evS Φ .retN e = some (.ok (.rt .non) e)) ∧
    (∀ (e : En), evS Φ .brk e = some (.ok .bk e)) ∧
    (∀ (e : En), evS Φ .cnt e = some (.ok .ct e)) ∧
    (∀ (e : En), evS Φ .pas e = some (.ok .nx e)) ∧
    (∀ (e : En), evSs Φ .nil e = some (.ok .nx e)) ∧
    (∀ (s : DS) (ss : DSs) (e : En), evSs Φ (.cons s ss) e = sq Φ ss (evS Φ s e)) := by
  refine ⟨?_, ?_, ?_, ?_, ?_, ?_, ?_, ?_, ?_, ?_, ?_, ?_, ?_, ?_, ?_, ?_, ?_, ?_, ?_, ?_⟩ <;> intros <;> first | rfl | (simp only [evS, evSs, evU, gAug, xIf, uApp, uExt, uSet, uAug, uClr]; first | done | rfl | (congr 1))
def fIns (k d : D) : D → Option D := fun t => match t, k with | .lst xs, .int n => if xs.length < LMX ∧ 0 ≤ n ∧ n < 1000000 then some (.lst (xs.take n.toNat ++ [d] ++ xs.drop n.toNat)) else none | _, _ => none
def uIns3 (i : Nat) (q : List AcV) (k : D) (kl : List Nat) (r : Option (Rs D)) : Option (Rs Ou) := bd r fun d e3 => if pureD d = true then updE i q (fIns k d) kl e3 else none
def uIns2 (Φ : Nat → Fn) (i : Nat) (q : List AcV) (a : DE) (kl : List Nat) (r : Option (Rs D)) : Option (Rs Ou) := bd r fun k e2 => uIns3 i q k kl (ev Φ a e2)
def uIns (Φ : Nat → Fn) (i : Nat) (j a : DE) (kl : List Nat) (r : Option (Rs (List AcV))) : Option (Rs Ou) := bd r fun q e1 => uIns2 Φ i q a kl (ev Φ j e1)
theorem ESi (Φ : Nat → Fn) :
    (∀ (i : Nat) (p : List Ac) (j a : DE) (kl : List Nat) (e : En), evS Φ (.upd i p (.ins j a) kl) e = uIns Φ i j a kl (rcv Φ i p e)) ∧
    (∀ (i : Nat) (j a : DE) (kl : List Nat) (q : List AcV) (e1 : En), uIns Φ i j a kl (some (.ok q e1)) = uIns2 Φ i q a kl (ev Φ j e1)) ∧
    (∀ (i : Nat) (q : List AcV) (a : DE) (kl : List Nat) (k : D) (e1 : En), uIns2 Φ i q a kl (some (.ok k e1)) = uIns3 i q k kl (ev Φ a e1)) := by
  refine ⟨?_, ?_, ?_⟩ <;> intros <;> rfl
theorem ESj : ∀ (i : Nat) (q : List AcV) (k : D) (kl : List Nat) (d : D) (e1 : En), uIns3 i q k kl (some (.ok d e1)) = if pureD d = true then updE i q (fIns k d) kl e1 else none := fun _ _ _ _ _ _ => rfl
theorem RU : ∀ (i : Nat) (q : List AcV) (f : D → Option D) (kl : List Nat) (e : En), updE i q f kl e = xUp i q f kl e e[i]? := fun _ _ _ _ _ => rfl
/-- loops by their turns -/
theorem wl_done {Φ : Nat → Fn} {c : DE} {b : DSs} {e e1 : En} (h : ev Φ c e = some (.ok (.bl false) e1)) : wl Φ c b e = some (.ok .nx e1) := wh_done h
theorem wl_nx {Φ : Nat → Fn} {c : DE} {b : DSs} {e e1 e2 : En} {r : Rs Ou} (h : ev Φ c e = some (.ok (.bl true) e1)) (hb : evSs Φ b e1 = some (.ok .nx e2)) (k : wl Φ c b e2 = some r) : wl Φ c b e = some r := wh_nx h hb k
theorem fr_nil {Φ : Nat → Fn} {tg : Tg} {b : DSs} {e : En} : fr Φ tg b [] e = some (.ok .nx e) := rfl
theorem fr_nx {Φ : Nat → Fn} {tg : Tg} {b : DSs} {x : D} {xs : List D} {e e1 e2 : En} (h : bindT tg x e = some e1) (hb : evSs Φ b e1 = some (.ok .nx e2)) : fr Φ tg b (x :: xs) e = fr Φ tg b xs e2 := forL_nx h hb
theorem fr_ct {Φ : Nat → Fn} {tg : Tg} {b : DSs} {x : D} {xs : List D} {e e1 e2 : En} (h : bindT tg x e = some e1) (hb : evSs Φ b e1 = some (.ok .ct e2)) : fr Φ tg b (x :: xs) e = fr Φ tg b xs e2 := forL_ct h hb
theorem fr_rt {Φ : Nat → Fn} {tg : Tg} {b : DSs} {x : D} {xs : List D} {e e1 e2 : En} {d : D} (h : bindT tg x e = some e1) (hb : evSs Φ b e1 = some (.ok (.rt d) e2)) : fr Φ tg b (x :: xs) e = some (.ok (.rt d) e2) := forL_rt h hb
theorem fr_bk {Φ : Nat → Fn} {tg : Tg} {b : DSs} {x : D} {xs : List D} {e e1 e2 : En} (h : bindT tg x e = some e1) (hb : evSs Φ b e1 = some (.ok .bk e2)) : fr Φ tg b (x :: xs) e = some (.ok .nx e2) := forL_bk h hb
theorem fr_all {Φ : Nat → Fn} {tg : Tg} {b : DSs} {xs : List D} (E : Nat → En) (h : ∀ i (hi : i < xs.length), ∃ e1, bindT tg xs[i] (E i) = some e1 ∧ evSs Φ b e1 = some (.ok .nx (E (i + 1)))) : fr Φ tg b xs (E 0) = some (.ok .nx (E xs.length)) := forL_all E h
theorem cp_map {Φ : Nat → Fn} {elt : DE} {tg : Tg} {os : List Nat} {xs : List D} {e1 : En} {f : D → D} (h : ∀ x ∈ xs, ∃ e, bindT tg x (wipeE os e1) = some e ∧ ∃ e2, ev Φ elt e = some (.ok (f x) e2)) (hl : xs.length ≤ LMX) : cp Φ elt tg .nil os xs e1 = some (xs.map f) :=
  compL_map (fun x hx => let ⟨e, a, e2, b⟩ := h x hx; ⟨e, a, e, rfl, e2, b⟩) hl
theorem cp_filter {Φ : Nat → Fn} {elt : DE} {tg : Tg} {ifs : DEs} {os : List Nat} {xs : List D} {e1 : En} {p : D → Bool} {f : D → D} (h : ∀ x ∈ xs, ∃ e, bindT tg x (wipeE os e1) = some e ∧ ∃ e2, evTs Φ ifs e = some (.ok (p x) e2) ∧ (p x = true → ∃ e3, ev Φ elt e2 = some (.ok (f x) e3))) (hl : xs.length ≤ LMX) :
    cp Φ elt tg ifs os xs e1 = some ((xs.filter p).map f) := compL_filter h hl
theorem runP_eq {Φ : Nat → Fn} {np : Nat} {n : Nat} {io : List Nat} {b : DSs} {ds : List D} (h : ds.length = np) : runP Φ np ⟨n, io, b⟩ ds = fnl io (evSs Φ b (ds.map some ++ List.replicate (n - ds.length) none)) := by
  unfold runP
  rw [if_pos h]; rfl
/-- ==, told apart -/
theorem EQ : (eqD .non .non = true) ∧ (∀ a b, eqD (.bl a) (.bl b) = (a == b)) ∧ (∀ a j, eqD (.bl a) (.int j) = (b2i a == j)) ∧ (∀ i b, eqD (.int i) (.bl b) = (i == b2i b)) ∧ (∀ i j, eqD (.int i) (.int j) = (i == j)) ∧ (∀ x y, eqD (.str x) (.str y) = (x == y)) ∧
    (∀ xs ys, eqD (.tup xs) (.tup ys) = eqDs xs ys) ∧ (∀ xs ys, eqD (.lst xs) (.lst ys) = eqDs xs ys) ∧ (eqDs [] [] = true) ∧ (∀ x xs y ys, eqDs (x :: xs) (y :: ys) = (eqD x y && eqDs xs ys)) ∧ (∀ x xs, eqDs (x :: xs) [] = false) ∧ (∀ y ys, eqDs [] (y :: ys) = false) ∧
    (∀ i, eqD .non (.int i) = false) ∧ (∀ i, eqD (.int i) .non = false) := by
  refine ⟨?_, ?_, ?_, ?_, ?_, ?_, ?_, ?_, ?_, ?_, ?_, ?_, ?_, ?_⟩ <;> intros <;> simp only [eqD, eqDs]
theorem SHP : (∀ n, shp n .non = true) ∧ (∀ n b, shp n (.bl b) = true) ∧ (∀ n i, shp n (.int i) = true) ∧ (∀ n x, shp n (.str x) = strOkB x) ∧ (∀ n xs, shp (n + 1) (.tup xs) = shps n xs) ∧ (∀ n xs, shp (n + 1) (.lst xs) = shps n xs) ∧ (∀ n, shps n [] = true) ∧ (∀ n x xs, shps n (x :: xs) = (shp n x && shps n xs)) ∧
    (∀ xs, shp 60 (.tup xs) = shps 59 xs) ∧ (∀ xs, shp 60 (.lst xs) = shps 59 xs) ∧ (∀ xs, shp 59 (.tup xs) = shps 58 xs) ∧ (∀ xs, shp 59 (.lst xs) = shps 58 xs) ∧ (∀ xs, shp 58 (.tup xs) = shps 57 xs) ∧ (∀ xs, shp 58 (.lst xs) = shps 57 xs) := by
  refine ⟨?_, ?_, ?_, ?_, ?_, ?_, ?_, ?_, ?_, ?_, ?_, ?_, ?_, ?_⟩ <;> intros <;> first | rfl | simp only [shp, shps]
theorem PU : (pureD .non = true) ∧ (∀ b, pureD (.bl b) = true) ∧ (∀ i, pureD (.int i) = true) ∧ (∀ x, pureD (.str x) = true) ∧ (∀ x, pureD (.scr x) = true) ∧ (∀ xs, pureD (.tup xs) = pureDs xs) ∧ (∀ xs, pureD (.lst xs) = false) ∧ (pureDs [] = true) ∧ (∀ x xs, pureDs (x :: xs) = (pureD x && pureDs xs)) := by
  refine ⟨?_, ?_, ?_, ?_, ?_, ?_, ?_, ?_, ?_⟩ <;> intros <;> first | rfl | simp only [pureD, pureDs]
mutual
theorem eqD_refl : ∀ (n : Nat) (d : D), shp n d = true → eqD d d = true
  | _, .non, _ => by simp [EQ]
  | _, .bl b, _ => by simp [EQ]
  | _, .int i, _ => by simp [EQ]
  | _, .str x, _ => by simp [EQ]
  | 0, .tup xs, h => by simp [shp] at h
  | 0, .lst xs, h => by simp [shp] at h
  | n + 1, .tup xs, h => by
    simp only [EQ]
    exact eqDs_refl n xs (by simpa [SHP] using h)
  | n + 1, .lst xs, h => by
    simp only [EQ]
    exact eqDs_refl n xs (by simpa [SHP] using h)
  | n, .scr _, h => by cases n <;> simp [shp] at h
  | n, .dct _ _, h => by cases n <;> simp [shp] at h
  | n, .obj _ _ _, h => by cases n <;> simp [shp] at h
theorem eqDs_refl : ∀ (n : Nat) (ds : List D), shps n ds = true → eqDs ds ds = true
  | _, [], _ => by simp [EQ]
  | n, d :: ds, h => by
    simp only [SHP, Bool.and_eq_true] at h
    simp only [EQ, eqD_refl n d h.1, eqDs_refl n ds h.2, Bool.and_self]
end
end Cy
end
section
set_option Elab.async false
set_option linter.all false
set_option maxRecDepth 100000
set_option maxHeartbeats 4000000
/-! Soundness, 16: defs, a law's end. -/
namespace Cy
open PySem L2 PyProof.Rows
theorem reps_split {K : PySem.W.Frag} {H : Hp} : ∀ {ds : List D} {vs : List V} {A : List Addr}, Reps K H vs ds A → ∃ As : Asg, (∀ i d, ds[i]? = some d → ∃ v, vs[i]? = some v ∧ Rep K H v d (As i)) ∧ (∀ i a, a ∈ As i → a ∈ A) ∧ ∀ i, ds.length ≤ i → As i = []
  | _, _, _, .nil => ⟨fun _ => [], fun i d h => by simp at h, fun i a h => (by cases h), fun _ _ => rfl⟩
  | _, _, _, .cons (v := v) (A := A0) (B := B0) r t => by
    obtain ⟨As, h1, h2, h3⟩ := reps_split t
    refine ⟨fun i => match i with | 0 => A0 | i + 1 => As i, fun i d h => ?_, fun i a h => ?_, fun i h => ?_⟩
    · cases i with
      | zero =>
        simp at h; subst h
        exact ⟨v, rfl, r⟩
      | succ i =>
        obtain ⟨w, a, b⟩ := h1 i d (by simpa using h)
        exact ⟨w, by simpa using a, b⟩
    · cases i with
      | zero => exact List.mem_append_left _ h
      | succ i => exact List.mem_append_right _ (h2 i a h)
    · cases i with
      | zero => simp at h
      | succ i => exact h3 i (by simpa using h)
/-- what all defs of a row stand on -/
structure Gx (P : Program) (w : World) (K : PySem.W.Frag) (mg : Str → Option Value) (base : Heap) (C : Ct) (Φ : Nat → Fn) (k : Nat) : Prop where
  calls : ∀ f x s, C.calls[f]? = some x → C.sigs[f]? = some s → ∃ fa fd ps, mg x = some (.ref fa) ∧ PySem.W.keepIn K (.ref fa) = true ∧ Binds K fd ps [] ∧ FnOk P w K mg base CX0 k fa fd ps (spD K s (Φ f))
  bn : ∀ x ∈ C.bn, mg x = none
  gl : ∀ p ∈ C.gl, ∃ u v, mg p.1 = some u ∧ RelV v u ∧ ScV v p.2
section
variable {P : Program} {w : World} {K : PySem.W.Frag} {mg : Str → Option Value} {base : Heap} {C : Ct} {Φ : Nat → Fn} {k : Nat}
theorem Gx.fx (G : Gx P w K mg base C Φ k) {qual : Str} {scope : Scope} {f : Addr} {cd : Value} {A : Around} {outer : List PySem.Env} {s : Shared} {H : Hp} {E : XK} (hn : C.N.Nodup) (hr : Room k (A.deeper (envOfC qual scope s.heap.objs.size f cd))) :
    Fx C Φ k (cxOf CX0 P w K mg base C.N qual scope f cd A outer s H E).nox :=
  ⟨rfl, hn, rfl, hr, fun f x sg h1 h2 => let ⟨fa, fd, ps, a, b, c, d⟩ := G.calls f x sg h1 h2; ⟨fa, fd, ps, a, b, c, d⟩, G.bn, G.gl⟩
theorem bd_cx {qual : Str} {scope : Scope} {f : Addr} {cd : Value} {A : Around} {outer : List PySem.Env} {s : Shared} {H : Hp} {E : XK} (hk : scope.kind = .function) : Bd (cxOf CX0 P w K mg base C.N qual scope f cd A outer s H E).nox :=
  ⟨PassesOwn.never, fun _ => rfl, hk⟩
theorem start_get {N : List Str} {vs : List V} {i : Nat} {v : V} (h : vs[i]? = some v) : (L2.start N vs)[i]? = some (some v) := by
  have hi := (List.getElem?_eq_some_iff.mp h).1
  unfold L2.start
  rw [List.getElem?_append_left (by simpa using hi), List.getElem?_map, h]; rfl
theorem env_get {n : Nat} {ds : List D} {i : Nat} {d : D} (h : (ds.map some ++ List.replicate (n - ds.length) none : En)[i]? = some (some d)) : ds[i]? = some d := by
  by_cases hi : i < ds.length
  · rw [List.getElem?_append_left (by simpa using hi), List.getElem?_map] at h
    cases e : ds[i]? with
    | none => rw [e] at h; cases h
    | some a => rw [e] at h; simpa using h
  · rw [List.getElem?_append_right (by simpa using hi), List.getElem?_replicate] at h
    split at h <;> cases h
/-- a def that changes nothing handed in -/
theorem fn_ok {x qual : Str} {params : Arguments} {body : List Stmt} {scope : Scope} {fa : Addr} {fd : FuncData} {ps : List Str} {f : Df} {np : Nat} {own vw : List Nat} {fr : Bool} (G : Gx P w K mg base C Φ k)
    (F : FunD K x qual params body scope [] [] fa fd) (S : FnScope C.N ps scope) (hp : ps.length = np) (hn : f.n = C.N.length) (hio : f.io = []) (hm : mSs C scope f.body body = true) (ho : okSs C.sigs own vw fr f.body = true) (how : own.all (fun i => decide (np ≤ i)) = true) :
    FnOk P w K mg base CX0 (k + 1) fa fd ps (spD K (false, fr) (runP Φ np f)) := by
  unfold spD
  rw [if_neg (by simp)]
  have hle : np ≤ C.N.length := by
    have := congrArg List.length S.pre
    rw [List.length_take] at this
    omega
  refine F.ok S (fun vs H Q E ⟨ds, A, d, r, e, _⟩ => ?_) fun cdv Ar outer s H vs Q E hr ⟨ds, A, d, r, e, q⟩ => ⟨WSs (cxOf CX0 P w K mg base C.N qual scope fa cdv Ar outer s H E).nox body, PSs.nox Cy.wss, ?_⟩
  · unfold runP at e
    split at e
    · rename_i hl; rw [r.length, hl, hp]
    · cases e
  unfold runP at e
  split at e
  rotate_left
  · cases e
  rename_i hl
  have hlv : vs.length = np := by rw [r.length, hl]
  have Fxx := G.fx (qual := qual) (scope := scope) (f := fa) (cd := cdv) (outer := outer) (H := H) (E := E) S.nd hr
  obtain ⟨As, s1, s2, s3⟩ := reps_split r
  have mA : ∀ a ∈ A, MutH H a := fun a h => r.mut a h
  have hown : ∀ i ∈ own, As i = [] := fun i hi => s3 i (by
    have := List.all_eq_true.mp how i hi
    rw [hl]; simpa using this)
  have SR0 : SR K C.N.length own vw (fun a => a ∈ A) (fun a => H a ≠ none) (L2.start C.N vs) H (ds.map some ++ List.replicate (f.n - ds.length) none) As := by
    refine ⟨?_, ?_, fun i d h => ?_, fun i h => ?_, fun i _ _ a ha => s2 i a ha, fun i hi => (by rw [hown i hi]; exact List.nodup_nil), fun i hi a ha => (by rw [hown i hi] at ha; cases ha), fun i hi j _ _ a ha => (by rw [hown i hi] at ha; cases ha), fun a h => ?_, fun a h => h⟩
    · unfold L2.start
      rw [List.length_append, List.length_map, List.length_replicate]; omega
    · rw [List.length_append, List.length_map, List.length_replicate, hn]; omega
    · obtain ⟨v, a, b⟩ := s1 i d (env_get h)
      exact ⟨v, start_get a, b⟩
    · by_cases hi : i < ds.length
      · exfalso
        refine h ds[i] ?_
        rw [List.getElem?_append_left (by simpa using hi), List.getElem?_map, List.getElem?_eq_getElem hi]; rfl
      · exact s3 i (by omega)
    · obtain ⟨xs, m⟩ := mA a h
      show H a ≠ none
      rw [m]; simp
  have same : ∀ {Z' P' : Addr → Prop} {H' : Hp} {As' : Asg} {io : Bool}, TSx io (fun a => a ∈ A) (fun a => H a ≠ none) H As Z' P' H' As' → Same H H' := fun T a o h => T.keep a o h (.inl (by show H a ≠ none; rw [h]; simp))
  have ss := soundSs (k := k) Fxx (bd_cx (P := P) (w := w) (K := K) (mg := mg) (base := base) (C := C) S.kind) f.body hm ho
  unfold run at e
  split at e
  · rename_i d0 e0 he
    rw [hio] at e
    simp only [iosOf, Option.map_some, Option.some.injEq, Fr.ret.injEq, and_true] at e
    subst e
    refine ss _ _ _ H _ As _ _ SR0 he _ fun v σ' H' Z' P' As' A' S' T' r' rf => q v H' A' (same T') r' (fun z => ⟨(rf.1 z).1, fun a ha => ?_⟩) fun a ha => ?_
    · have := ((rf.1 z).2 a ha).1
      exact Classical.byContradiction fun c => this c
    · rcases rf.2 a ha with z | ⟨i, z⟩
      · exact .inl z
      · exact .inr (s2 i a z)
  · rename_i e0 he
    rw [hio] at e
    simp only [iosOf, Option.map_some, Option.some.injEq, Fr.ret.injEq, and_true] at e
    subst e
    exact ss _ _ _ H _ As _ _ SR0 he _ fun σ' H' Z' P' As' S' T' => q .non H' [] (same T') .non (fun _ => ⟨List.nodup_nil, fun a h => nomatch h⟩) fun a h => nomatch h
  · rw [hio] at e
    simp only [iosOf, Option.map_some, Option.some.injEq, reduceCtorEq] at e
  · cases e
/-- a def that is asked too deep down: nothing is said -/
theorem fn_bot {x qual : Str} {params : Arguments} {body : List Stmt} {scope : Scope} {fa : Addr} {fd : FuncData} {ps : List Str} {fr : Bool} {N : List Str}
    (F : FunD K x qual params body scope [] [] fa fd) (S : FnScope N ps scope) : FnOk P w K mg base CX0 (k + 1) fa fd ps (spD K (false, fr) (fun _ => none)) := by
  unfold spD
  rw [if_neg (by simp)]
  exact F.ok S (fun vs H Q E ⟨ds, A, d, r, e, _⟩ => nomatch e) fun cdv Ar outer s H vs Q E hr ⟨ds, A, d, r, e, q⟩ => nomatch e
end
/-- a law's end -/
theorem walk_ofEB {l : PySem.W.OpenLaw} {n k : Nat} {q : Program} {loose : List Str} {XP : (Str → Option Value) → Heap → Prop} {YP : World → Heap → Prop} {d : DefRec} {x : Str} {F : Fn} {fr : Bool}
    (hn : l.most = some n) (hn2 : n ≤ sizeLine) (hdf : d.params.defaults = []) (hr : Room k callerA)
    (G : ∀ (w : World) (mg : Str → Option Value) (fa : Addr) (h : Heap), YP w h → h.Ns mainGlobals mg → mg d.name = some (.ref fa) →
      ∃ (K : PySem.W.Frag) (fd : FuncData), K.In h ∧ (∀ (s : Shared) (u : Value), BindsTo s fd ⟨[u], []⟩ [(x, u)]) ∧
        ∀ base : Heap, K.In base → base.Ns mainGlobals mg → FnOk l.prog w K mg base CX0 k fa fd [x] (spD K (false, fr) F))
    (hF : ∀ ns : List Int, ns.length ≤ n → (∀ z ∈ ns, bitsI z ≤ 1048576) → F [.scr ns] = some (.ret (.bl true) [])) :
    PySem.W.WalkO q loose XP YP l.row.toRowW d [] (fun f vs => PySem.call f vs) := by
  refine Att.attach_callB hn hdf fun w s₀ s₁ mg mb fa o pm cd doc a vs ns G' Y ho hd hcd hmg hobj hints hlen hbits hg => ?_
  obtain ⟨K, fd, KX, hb, hFn⟩ := G w mg fa _ Y G'.T.g hmg
  refine law_call KX G'.T.g G'.T.b G'.T.builtins G'.T.nolimit hg hobj hints (Nat.le_trans hlen hn2) hr hFn hb (fun H hO hS => ?_) fun H e s' => fun z => z
  unfold spD
  rw [if_neg (by simp)]
  refine ⟨[.scr ns], [], .bl true, Reps.one (.scr (SqF.of hO hS)), hF ns hlen (fun z hz => by rw [← bits_eq]; exact hbits z hz), fun v H' A' _ r _ _ => ?_⟩
  cases r; rfl
end Cy
end
section
set_option Elab.async false
set_option linter.all false
set_option maxRecDepth 100000
set_option maxHeartbeats 4000000
/-! The defs of a row, one behind another. -/
namespace Cy
open PySem L2 PyProof.Rows
section
variable {P : Program} {w : World} {K : PySem.W.Frag} {mg : Str → Option Value} {base : Heap}
theorem Gx.nil {N : List Str} {gl : List (Str × D)} {bn : List Str} (h1 : ∀ x ∈ bn, mg x = none) (h2 : ∀ p ∈ gl, ∃ u v, mg p.1 = some u ∧ RelV v u ∧ ScV v p.2) : Gx P w K mg base ⟨N, [], [], gl, bn⟩ (ph []) 0 :=
  ⟨fun f x s h => by simp at h, h1, h2⟩
theorem Gx.names {N N' : List Str} {cs : List Str} {sg : List (Bool × Bool)} {gl : List (Str × D)} {bn : List Str} {Φ : Nat → Fn} {k : Nat} (G : Gx P w K mg base ⟨N, cs, sg, gl, bn⟩ Φ k) : Gx P w K mg base ⟨N', cs, sg, gl, bn⟩ Φ k := ⟨G.calls, G.bn, G.gl⟩
theorem Gx.snoc {N : List Str} {cs : List Str} {sg : List (Bool × Bool)} {gl : List (Str × D)} {bn : List Str} {l : List Fn} {k : Nat} (G : Gx P w K mg base ⟨N, cs, sg, gl, bn⟩ (ph l) k) (h1 : cs.length = l.length) (h2 : sg.length = l.length)
    {x : Str} {fa : Addr} {fd : FuncData} {ps : List Str} {s : Bool × Bool} {F : Fn} (hm : mg x = some (.ref fa)) (kp : PySem.W.keepIn K (.ref fa) = true) (bi : Binds K fd ps []) (ok : FnOk P w K mg base CX0 (k + 1) fa fd ps (spD K s F)) :
    Gx P w K mg base ⟨N, cs ++ [x], sg ++ [s], gl, bn⟩ (ph (l ++ [F])) (k + 1) := by
  refine ⟨fun f y sy h3 h4 => ?_, G.bn, G.gl⟩
  dsimp only at h3 h4
  by_cases hf : f < l.length
  · rw [List.getElem?_append_left (by omega)] at h3 h4
    obtain ⟨fa', fd', ps', a, b, c, d⟩ := G.calls f y sy h3 h4
    refine ⟨fa', fd', ps', a, b, c, ?_⟩
    have e : ph (l ++ [F]) f = ph l f := by
      unfold ph
      rw [List.getD_eq_getElem?_getD, List.getD_eq_getElem?_getD, List.getElem?_append_left hf]
    rw [e]
    exact d.mono (Nat.le_succ k)
  · have hf2 : f = l.length := by
      have := (List.getElem?_eq_some_iff.mp h3).1
      rw [List.length_append, List.length_singleton] at this
      omega
    subst hf2
    rw [List.getElem?_append_right (by omega), h1, Nat.sub_self] at h3
    rw [List.getElem?_append_right (by omega), h2, Nat.sub_self] at h4
    simp only [List.getElem?_cons_zero, Option.some.injEq] at h3 h4
    subst h3 h4
    refine ⟨fa, fd, ps, hm, kp, bi, ?_⟩
    have e : ph (l ++ [F]) l.length = F := by
      unfold ph
      rw [List.getD_eq_getElem?_getD, List.getElem?_append_right (Nat.le_refl _), Nat.sub_self]; rfl
    rw [e]
    exact ok
end
end Cy
end
section
set_option linter.all false
set_option maxRecDepth 100000
set_option maxHeartbeats 4000000
/-! Plain: what the laws' drawing gives (cells, numbers, yards, guests). -/
namespace Cy
open PySem
def df_law_cell_at : Df := ⟨2, [], (.cons (.ifs (.cmp .lt (.v 1) (.bi .len (.cons (.v 0) .nil))) (.cons (.ret (.pur (.ix (.v 0) (.v 1)))) .nil) .nil) (.cons (.ret (.c (.int 0))) .nil))⟩
def df_law_whole : Df := ⟨1, [], (.cons (.ret (.and (.cons (.bi (.isi .int) (.cons (.v 0) .nil)) (.cons (.not (.bi (.isi .bool) (.cons (.v 0) .nil))) .nil)))) .nil)⟩
def df_law_number (c_law_cell_at : Nat) : Df := ⟨8, [], (.cons (.asg (.n 2) (.call c_law_cell_at (.cons (.v 0) (.cons (.c (.int 0)) .nil)))) (.cons (.asg (.n 3) (.bin .add (.bin .mod (.v 2) (.c (.int 2147483629))) (.bin .mul (.c (.int 7919)) (.v 1)))) (.cons (.asg (.n 4) (.bin .add (.bin .mul (.c (.int 69621)) (.v 1)) (.c (.int 5)))) (.cons (.asg (.n 5) (.c (.int 0))) (.cons (.for (.n 6) (.rng (.cons (.c (.int 30)) .nil)) (.cons (.asg (.n 3) (.bin .mod (.bin .add (.bin .add (.bin .mul (.v 3) (.c (.int 48271))) (.c (.int 11))) (.bin .mul (.v 6) (.v 1))) (.c (.int 2147483647)))) (.cons (.asg (.n 4) (.bin .mod (.bin .add (.bin .mul (.v 4) (.c (.int 16807))) (.v 3)) (.c (.int 2147483629)))) (.cons (.asg (.n 5) (.bin .add (.bin .mul (.v 5) (.c (.int 2147483629))) (.bin .mod (.bin .add (.bin .mul (.v 4) (.v 4)) (.v 3)) (.c (.int 2147483587))))) .nil)))) (.cons (.ifs (.cmp .eq (.bin .mod (.bin .fdiv (.v 2) (.c (.int 720))) (.c (.int 2))) (.c (.int 1))) (.cons (.ret (.pur (.v 5))) .nil) .nil) (.cons (.asg (.n 7) (.bi .abs (.cons (.call c_law_cell_at (.cons (.v 0) (.cons (.v 1) .nil))) .nil))) (.cons (.ret (.bin .add (.v 7) (.bin .shl (.v 5) (.mt .bitlen (.v 7) .nil)))) .nil))))))))⟩
def df_law_amount : Df := ⟨2, [], (.cons (.asg (.n 1) (.bin .mod (.v 0) (.c (.int 8)))) (.cons (.asg (.n 0) (.bin .fdiv (.v 0) (.c (.int 8)))) (.cons (.ifs (.cmp .eq (.v 1) (.c (.int 0))) (.cons (.ret (.tup (.cons (.c (.int 0)) (.cons (.pur (.v 0)) .nil)))) .nil) .nil) (.cons (.ifs (.cmp .lt (.v 1) (.c (.int 6))) (.cons (.ret (.tup (.cons (.bin .mod (.v 0) (.c (.int 10))) (.cons (.bin .fdiv (.v 0) (.c (.int 10))) .nil)))) .nil) .nil) (.cons (.ifs (.cmp .eq (.v 1) (.c (.int 6))) (.cons (.ret (.tup (.cons (.bin .mod (.v 0) (.c (.int 100))) (.cons (.bin .fdiv (.v 0) (.c (.int 100))) .nil)))) .nil) .nil) (.cons (.ret (.tup (.cons (.bin .mod (.v 0) (.bin .pow (.c (.int 10)) (.c (.int 30)))) (.cons (.bin .fdiv (.v 0) (.bin .pow (.c (.int 10)) (.c (.int 30)))) .nil)))) .nil))))))⟩
def df_law_yard (c_law_cell_at : Nat) (c_law_number : Nat) (c_law_amount : Nat) : Df := ⟨10, [], (.cons (.asg (.n 1) (.bi .abs (.cons (.call c_law_cell_at (.cons (.v 0) (.cons (.c (.int 0)) .nil))) .nil))) (.cons (.asg (.n 2) (.bin .add (.c (.int 1)) (.bin .mod (.v 1) (.c (.int 8))))) (.cons (.asg (.n 3) (.lst .nil)) (.cons (.for (.n 4) (.rng (.cons (.bin .add (.c (.int 1)) (.bin .mod (.bin .fdiv (.v 1) (.c (.int 8))) (.c (.int 5)))) .nil)) (.cons (.asg (.n 5) (.call c_law_number (.cons (.v 0) (.cons (.bin .add (.c (.int 1)) (.v 4)) .nil)))) (.cons (.asg (.n 6) (.c .non)) (.cons (.ifs (.cmp .gt (.v 4) (.c (.int 0))) (.cons (.asg (.n 6) (.bin .mod (.v 5) (.v 4))) (.cons (.asg (.n 5) (.bin .fdiv (.v 5) (.v 4))) .nil)) .nil) (.cons (.asg (.n 7) (.lst .nil)) (.cons (.for (.n 8) (.rng (.cons (.v 2) .nil)) (.cons (.asg (.t [(.n 9), (.n 5)]) (.call c_law_amount (.cons (.v 5) .nil))) (.cons (.upd 7 [] (.app (.pur (.v 9))) []) .nil))) (.cons (.upd 3 [] (.app (.tup (.cons (.pur (.v 6)) (.cons (.bi .tuple (.cons (.mv 7) .nil)) .nil)))) []) .nil))))))) (.cons (.ret (.tup (.cons (.pur (.v 2)) (.cons (.bi .tuple (.cons (.mv 3) .nil)) .nil)))) .nil)))))⟩
def df_law_guests (c_law_cell_at : Nat) (c_law_number : Nat) (c_law_amount : Nat) : Df := ⟨10, [], (.cons (.asg (.n 2) (.lst .nil)) (.cons (.for (.n 3) (.rng (.cons (.bin .mod (.bin .fdiv (.bi .abs (.cons (.call c_law_cell_at (.cons (.v 0) (.cons (.c (.int 0)) .nil))) .nil)) (.c (.int 40))) (.c (.int 9))) .nil)) (.cons (.asg (.n 4) (.call c_law_number (.cons (.v 0) (.cons (.bin .add (.c (.int 6)) (.v 3)) .nil)))) (.cons (.asg (.n 5) (.bin .mod (.v 4) (.bi .len (.cons (.ix (.v 1) (.c (.int 1))) .nil)))) (.cons (.asg (.n 4) (.bin .fdiv (.v 4) (.bi .len (.cons (.ix (.v 1) (.c (.int 1))) .nil)))) (.cons (.asg (.n 6) (.bin .mod (.v 4) (.ix (.v 1) (.c (.int 0))))) (.cons (.asg (.n 4) (.bin .fdiv (.v 4) (.ix (.v 1) (.c (.int 0))))) (.cons (.asg (.n 7) (.bin .add (.v 6) (.bin .mod (.v 4) (.bin .sub (.ix (.v 1) (.c (.int 0))) (.v 6))))) (.cons (.asg (.n 4) (.bin .fdiv (.v 4) (.bin .sub (.ix (.v 1) (.c (.int 0))) (.v 6)))) (.cons (.asg (.t [(.n 8), (.n 4)]) (.call c_law_amount (.cons (.v 4) .nil))) (.cons (.asg (.t [(.n 9), (.n 4)]) (.call c_law_amount (.cons (.v 4) .nil))) (.cons (.upd 2 [] (.app (.tup (.cons (.pur (.v 5)) (.cons (.pur (.v 6)) (.cons (.pur (.v 7)) (.cons (.bi .max (.cons (.c (.int 1)) (.cons (.v 8) .nil))) (.cons (.bi .max (.cons (.c (.int 1)) (.cons (.v 9) .nil))) .nil))))))) []) .nil))))))))))) (.cons (.ret (.mv 2)) .nil)))⟩
def df_is_whole : Df := ⟨3, [], (.cons (.ret (.and (.cons (.bi (.isi .int) (.cons (.v 0) .nil)) (.cons (.not (.bi (.isi .bool) (.cons (.v 0) .nil))) (.cons (.chn .le .lt (.v 1) (.v 0) (.v 2)) .nil))))) .nil)⟩
def df_is_line (c_is_whole : Nat) : Df := ⟨6, [], (.cons (.ifs (.or (.cons (.not (.bi (.isi .tuple) (.cons (.v 0) .nil))) (.cons (.cmp .ne (.bi .len (.cons (.v 0) .nil)) (.c (.int 2))) .nil))) (.cons (.ret (.c (.bl false))) .nil) .nil) (.cons (.asg (.t [(.n 3), (.n 4)]) (.v 0)) (.cons (.ifs (.and (.cons (.cmp .eq (.v 1) (.c (.int 0))) (.cons (.cmp .notN (.v 3) (.c .non)) .nil))) (.cons (.ret (.c (.bl false))) .nil) .nil) (.cons (.ifs (.and (.cons (.cmp .gt (.v 1) (.c (.int 0))) (.cons (.not (.call c_is_whole (.cons (.v 3) (.cons (.c (.int 0)) (.cons (.v 1) .nil))))) .nil))) (.cons (.ret (.c (.bl false))) .nil) .nil) (.cons (.ifs (.or (.cons (.not (.bi (.isi .tuple) (.cons (.v 4) .nil))) (.cons (.cmp .ne (.bi .len (.cons (.v 4) .nil)) (.v 2)) .nil))) (.cons (.ret (.c (.bl false))) .nil) .nil) (.cons (.ret (.bi .all (.cons (.comp (.call c_is_whole (.cons (.v 5) (.cons (.c (.int 0)) (.cons (.g "BEYOND" (.int 1000000000000000000000000000000)) .nil)))) (.n 5) (.val (.v 4)) .nil [5]) .nil))) .nil))))))⟩
def df_is_yard (c_is_whole : Nat) (c_is_line : Nat) : Df := ⟨5, [], (.cons (.ifs (.or (.cons (.not (.bi (.isi .tuple) (.cons (.v 0) .nil))) (.cons (.cmp .ne (.bi .len (.cons (.v 0) .nil)) (.c (.int 2))) .nil))) (.cons (.ret (.c (.bl false))) .nil) .nil) (.cons (.asg (.t [(.n 1), (.n 2)]) (.v 0)) (.cons (.ifs (.not (.call c_is_whole (.cons (.v 1) (.cons (.c (.int 1)) (.cons (.bin .add (.g "MOST_TURNS" (.int 8)) (.c (.int 1))) .nil))))) (.cons (.ret (.c (.bl false))) .nil) .nil) (.cons (.ifs (.or (.cons (.not (.bi (.isi .tuple) (.cons (.v 2) .nil))) (.cons (.not (.chn .le .le (.c (.int 1)) (.bi .len (.cons (.v 2) .nil)) (.g "MOST_LINES" (.int 5)))) .nil))) (.cons (.ret (.c (.bl false))) .nil) .nil) (.cons (.ret (.bi .all (.cons (.comp (.call c_is_line (.cons (.v 4) (.cons (.v 3) (.cons (.v 1) .nil)))) (.t [(.n 3), (.n 4)]) (.enu (.v 2)) .nil [3, 4]) .nil))) .nil)))))⟩
def df_reached_at : Df := ⟨15, [], (.cons (.asg (.t [(.n 7), (.n 8)]) (.v 0)) (.cons (.asg (.n 4) (.bin .rep (.lst (.cons (.c (.int 0)) .nil)) (.bi .len (.cons (.v 8) .nil)))) (.cons (.for (.n 5) (.val (.v 2)) (.cons (.asg (.t [(.n 6), (.n 9), (.n 10), (.n 11), (.n 12)]) (.ix (.v 1) (.v 5))) (.cons (.ifs (.chn .le .le (.v 9) (.v 3) (.v 10)) (.cons (.upd 4 [] (.aug .add (.v 6) (.v 12)) []) .nil) .nil) .nil))) (.cons (.for (.n 6) (.rrg (.cons (.c (.int 1)) (.cons (.bi .len (.cons (.v 8) .nil)) .nil))) (.cons (.asg (.t [(.n 13), (.n 14)]) (.ix (.v 8) (.v 6))) (.cons (.upd 4 [] (.aug .add (.v 13) (.bi .min (.cons (.ix (.v 14) (.v 3)) (.cons (.ix (.v 4) (.v 6)) .nil)))) []) .nil))) (.cons (.ret (.mv 4)) .nil)))))⟩
def df_given_at (c_reached_at : Nat) : Df := ⟨4, [], (.cons (.ret (.bi .min (.cons (.ix (.ix (.ix (.ix (.v 0) (.c (.int 1))) (.c (.int 0))) (.c (.int 1))) (.v 3)) (.cons (.ix (.call c_reached_at (.cons (.v 0) (.cons (.v 1) (.cons (.v 2) (.cons (.v 3) .nil))))) (.c (.int 0))) .nil)))) .nil)⟩
def df_given_most (c_given_at : Nat) : Df := ⟨4, [], (.cons (.ret (.bi .sum (.cons (.comp (.call c_given_at (.cons (.v 0) (.cons (.v 1) (.cons (.v 2) (.cons (.v 3) .nil))))) (.n 3) (.rng (.cons (.ix (.v 0) (.c (.int 0))) .nil)) .nil [3]) .nil))) .nil)⟩
def df_short_of (c_given_most : Nat) : Df := ⟨4, [], (.cons (.ret (.bin .sub (.bi .sum (.cons (.comp (.ix (.ix (.v 1) (.v 3)) (.c (.int 3))) (.n 3) (.val (.v 2)) .nil [3]) .nil)) (.call c_given_most (.cons (.v 0) (.cons (.v 1) (.cons (.v 2) .nil)))))) .nil)⟩
def df_law_picked : Df := ⟨4, [], (.cons (.asg (.n 2) (.lst .nil)) (.cons (.for (.n 3) (.rng (.cons (.v 1) .nil)) (.cons (.ifs (.cmp .eq (.bin .mod (.v 0) (.c (.int 2))) (.c (.int 1))) (.cons (.upd 2 [] (.app (.pur (.v 3))) []) .nil) .nil) (.cons (.asg (.n 0) (.bin .fdiv (.v 0) (.c (.int 2)))) .nil))) (.cons (.ret (.mv 2)) .nil)))⟩
def df_way_up : Df := ⟨4, [], (.cons (.asg (.n 2) (.lst (.cons (.pur (.v 1)) .nil))) (.cons (.asg (.n 3) (.ix (.ix (.ix (.v 0) (.c (.int 1))) (.v 1)) (.c (.int 0)))) (.cons (.whl (.cmp .notN (.v 3) (.c .non)) (.cons (.upd 2 [] (.app (.pur (.v 3))) []) (.cons (.asg (.n 3) (.ix (.ix (.ix (.v 0) (.c (.int 1))) (.v 3)) (.c (.int 0)))) .nil))) (.cons (.ret (.mv 2)) .nil))))⟩
def df_lines_beneath : Df := ⟨4, [], (.cons (.asg (.n 2) (.lst (.cons (.pur (.v 1)) .nil))) (.cons (.for (.n 3) (.rng (.cons (.bin .add (.v 1) (.c (.int 1))) (.cons (.bi .len (.cons (.ix (.v 0) (.c (.int 1))) .nil)) .nil))) (.cons (.ifs (.cmp .inn (.ix (.ix (.ix (.v 0) (.c (.int 1))) (.v 3)) (.c (.int 0))) (.v 2)) (.cons (.upd 2 [] (.app (.pur (.v 3))) []) .nil) .nil) .nil)) (.cons (.ret (.mv 2)) .nil)))⟩
def df_law_up : Df := ⟨3, [], (.cons (.asg (.n 2) (.lst .nil)) (.cons (.whl (.cmp .notN (.v 1) (.c .non)) (.cons (.upd 2 [] (.app (.pur (.v 1))) []) (.cons (.asg (.n 1) (.ix (.ix (.ix (.v 0) (.c (.int 1))) (.v 1)) (.c (.int 0)))) .nil))) (.cons (.ret (.mv 2)) .nil)))⟩
/-! ### operations on naturals -/
theorem nAdd (a b : Nat) : binD .add (.int (a : Int)) (.int (b : Int)) = some (.int ((a + b : Nat) : Int)) := rfl
theorem nMul (a b : Nat) (ha : a < BIG) (hb : b < BIG) : binD .mul (.int (a : Int)) (.int (b : Int)) = some (.int ((a * b : Nat) : Int)) := by
  simp [binD, ha, hb]
theorem nMod (a b : Nat) (hb : 0 < b) : binD .mod (.int (a : Int)) (.int (b : Int)) = some (.int ((a % b : Nat) : Int)) := by
  simp [binD, hb]
theorem nDiv (a b : Nat) (hb : 0 < b) (h2 : b < DVB) : binD .fdiv (.int (a : Int)) (.int (b : Int)) = some (.int ((a / b : Nat) : Int)) := by
  simp [binD, hb, h2]
theorem bigN {a : Nat} (h : a < 2 ^ 250) : a < BIG := lt_BIG h (by decide)
theorem dvbN {a : Nat} (h : a < 2 ^ 250) : a < DVB := lt_DVB h (by decide)
theorem fr_inv {Φ : Nat → Fn} {tg : Tg} {b : DSs} : ∀ {xs : List D} {e : En} (P : Nat → En → Prop) (h0 : P 0 e) (hs : ∀ i e (hi : i < xs.length), P i e → ∃ e1 e2, bindT tg xs[i] e = some e1 ∧ evSs Φ b e1 = some (.ok .nx e2) ∧ P (i + 1) e2), ∃ e', fr Φ tg b xs e = some (.ok .nx e') ∧ P xs.length e'
  | [], e, P, h0, _ => ⟨e, rfl, h0⟩
  | x :: xs, e, P, h0, hs => by
    obtain ⟨e1, e2, h1, h2, h3⟩ := hs 0 e (by simp) h0
    obtain ⟨e', h4, h5⟩ := fr_inv (xs := xs) (e := e2) (fun i => P (i + 1)) h3 (fun i e hi p => hs (i + 1) e (by simpa using hi) p)
    exact ⟨e', by rw [fr_nx (x := x) (show bindT tg x e = some e1 from h1) h2]; exact h4, h5⟩
/-! ### the drawing -/
theorem s_cell (Φ : Nat → Fn) (ns : List Int) (k : Nat) : runP Φ 2 df_law_cell_at [.scr ns, .int (k : Int)] = some (.ret (.int (ns.getD k 0)) []) := by
  by_cases h : k < ns.length
  · have h1 : ((k : Int) < (ns.length : Int)) := by omega
    simp [df_law_cell_at, runP_eq, EV, ES, RC, RD, ioE, ioL, cmpD, biD, ixD, ixP, PU, h, h1]
  · have h1 : ¬ ((k : Int) < (ns.length : Int)) := by omega
    simp [df_law_cell_at, runP_eq, EV, ES, RC, RD, ioE, ioL, cmpD, biD, ixD, ixP, PU, h, h1]
theorem s_whole (Φ : Nat → Fn) (i : Int) : runP Φ 1 df_law_whole [.int i] = some (.ret (.bl true) []) := by
  simp [df_law_whole, runP_eq, EV, ES, RC, RD, ioE, ioL, biD, isiD]
def CellS (F : Fn) : Prop := ∀ (ns : List Int) (k : Nat), F [.scr ns, .int (k : Int)] = some (.ret (.int (ns.getD k 0)) [])
def NumS (F : Fn) (ns : List Int) : Prop := ∀ k : Nat, k ≤ 1000 → ∃ n : Nat, F [.scr ns, .int (k : Int)] = some (.ret (.int n) [])
theorem s_number {Φ : Nat → Fn} {c : Nat} (hc : CellS (Φ c)) (ns : List Int) (hb : ∀ z ∈ ns, bitsI z ≤ 1048576) : NumS (runP Φ 2 (df_law_number c)) ns := by
  intro k hk
  have kB : k < BIG := bigN (by omega)
  have h0 : Φ c [.scr ns, .int 0] = some (.ret (.int (ns.getD 0 0)) []) := hc ns 0
  have h1 := hc ns k
  generalize ns.getD 0 0 = hd at h0
  have m0 : ∃ r : Nat, r < 2147483629 ∧ hd % 2147483629 = r := ⟨(hd % 2147483629).toNat, by omega, by omega⟩
  obtain ⟨r, hr, er⟩ := m0
  have a1 : binD .mod (.int hd) (.int 2147483629) = some (.int (r : Int)) := by simp [binD, er]
  have a2 : binD .mul (.int 7919) (.int (k : Int)) = some (.int ((7919 * k : Nat) : Int)) := nMul 7919 k (bigN (by omega)) kB
  have a3 := nAdd r (7919 * k)
  have a4 : binD .mul (.int 69621) (.int (k : Int)) = some (.int ((69621 * k : Nat) : Int)) := nMul 69621 k (bigN (by omega)) kB
  have a5 : binD .add (.int ((69621 * k : Nat) : Int)) (.int 5) = some (.int ((69621 * k + 5 : Nat) : Int)) := nAdd (69621 * k) 5
  have lp := fr_inv (Φ := Φ) (tg := .n 6) (b := (.cons (.asg (.n 3) (.bin .mod (.bin .add (.bin .add (.bin .mul (.v 3) (.c (.int 48271))) (.c (.int 11))) (.bin .mul (.v 6) (.v 1))) (.c (.int 2147483647)))) (.cons (.asg (.n 4) (.bin .mod (.bin .add (.bin .mul (.v 4) (.c (.int 16807))) (.v 3)) (.c (.int 2147483629)))) (.cons (.asg (.n 5) (.bin .add (.bin .mul (.v 5) (.c (.int 2147483629))) (.bin .mod (.bin .add (.bin .mul (.v 4) (.v 4)) (.v 3)) (.c (.int 2147483587))))) .nil))))
    (xs := (rangeL 0 (30 : Nat)).map D.int) (e := [some (.scr ns), some (.int (k : Int)), some (.int hd), some (.int ((r + 7919 * k : Nat) : Int)), some (.int ((69621 * k + 5 : Nat) : Int)), some (.int ((0 : Nat) : Int)), none, none])
    (fun i e => ∃ (one other total : Nat) (x6 : Option D), e = [some (.scr ns), some (.int (k : Int)), some (.int hd), some (.int (one : Int)), some (.int (other : Int)), some (.int (total : Int)), x6, none] ∧ one < 2 ^ 40 ∧ other < 2 ^ 40 ∧ total + 1 ≤ 2147483629 ^ i)
    ⟨_, _, _, _, rfl, by omega, by omega, by decide⟩ (fun i e hi ⟨one, other, total, x6, he, b1, b2, b3⟩ => by
      rw [rangeL_length] at hi
      rw [rangeL_get, he]
      have tB : total < BIG := lt_BIG (k := 31 * 30) (Nat.lt_of_lt_of_le (Nat.lt_of_succ_le b3) (by
        refine Nat.le_trans (Nat.pow_le_pow_right (by decide) (Nat.le_of_lt hi)) ?_
        rw [Nat.pow_mul]
        exact Nat.pow_le_pow_left (by decide) 30)) (by decide)
      have c1 : binD .mul (.int (one : Int)) (.int 48271) = some (.int ((one * 48271 : Nat) : Int)) := nMul one 48271 (bigN (by omega)) (bigN (by omega))
      have c2 : binD .add (.int ((one * 48271 : Nat) : Int)) (.int 11) = some (.int ((one * 48271 + 11 : Nat) : Int)) := nAdd _ 11
      have c3 := nMul i k (bigN (by omega)) kB
      have c4 := nAdd (one * 48271 + 11) (i * k)
      have c5 : binD .mod (.int ((one * 48271 + 11 + i * k : Nat) : Int)) (.int 2147483647) = some (.int (((one * 48271 + 11 + i * k) % 2147483647 : Nat) : Int)) := nMod _ 2147483647 (by decide)
      have l1 : (one * 48271 + 11 + i * k) % 2147483647 < 2147483647 := Nat.mod_lt _ (by decide)
      generalize (one * 48271 + 11 + i * k) % 2147483647 = o1 at c5 l1
      have c6 : binD .mul (.int (other : Int)) (.int 16807) = some (.int ((other * 16807 : Nat) : Int)) := nMul other 16807 (bigN (by omega)) (bigN (by omega))
      have c7 := nAdd (other * 16807) o1
      have c8 : binD .mod (.int ((other * 16807 + o1 : Nat) : Int)) (.int 2147483629) = some (.int (((other * 16807 + o1) % 2147483629 : Nat) : Int)) := nMod _ 2147483629 (by decide)
      have l2 : (other * 16807 + o1) % 2147483629 < 2147483629 := Nat.mod_lt _ (by decide)
      generalize (other * 16807 + o1) % 2147483629 = o2 at c8 l2
      have c9 : binD .mul (.int (total : Int)) (.int 2147483629) = some (.int ((total * 2147483629 : Nat) : Int)) := nMul total 2147483629 tB (bigN (by omega))
      have d1 := nMul o2 o2 (bigN (by omega)) (bigN (by omega))
      have d2 := nAdd (o2 * o2) o1
      have d3 : binD .mod (.int ((o2 * o2 + o1 : Nat) : Int)) (.int 2147483587) = some (.int (((o2 * o2 + o1) % 2147483587 : Nat) : Int)) := nMod _ 2147483587 (by decide)
      have l3 : (o2 * o2 + o1) % 2147483587 < 2147483587 := Nat.mod_lt _ (by decide)
      generalize (o2 * o2 + o1) % 2147483587 = o3 at d3 l3
      have d4 := nAdd (total * 2147483629) o3
      refine ⟨_, [some (.scr ns), some (.int (k : Int)), some (.int hd), some (.int (o1 : Int)), some (.int (o2 : Int)), some (.int ((total * 2147483629 + o3 : Nat) : Int)), some (.int (i : Int)), none], rfl, ?_, o1, o2, total * 2147483629 + o3, _, rfl, by omega, by omega, ?_⟩
      · simp only [EV, ES, RC, RD, List.set_cons_zero, List.set_cons_succ, List.getElem?_cons_zero, List.getElem?_cons_succ, ioE, Bool.or_false, Bool.false_and, bindT, c1, c2, c3, c4, c5, c6, c7, c8, c9, d1, d2, d3, d4]
      · rw [Nat.pow_succ]
        have : (total + 1) * 2147483629 ≤ 2147483629 ^ i * 2147483629 := Nat.mul_le_mul_right _ b3
        omega)
  obtain ⟨e', l1, one, other, total, x6, rfl, b1, b2, b3⟩ := lp
  rw [rangeL_length] at b3
  have tB : total < BIG := lt_BIG (k := 31 * 30) (Nat.lt_of_lt_of_le (Nat.lt_of_succ_le b3) (by
    rw [Nat.pow_mul]
    exact Nat.pow_le_pow_left (by decide) 30)) (by decide)
  have d720 : 720 < DVB := dvbN (by omega)
  have bl : bitsI ((ns.getD k 0).natAbs : Int) ≤ 1048576 := by
    have : bitsI ((ns.getD k 0).natAbs : Int) = bitsI (ns.getD k 0) := by
      unfold bitsI
      simp
    rw [this]
    by_cases h : k < ns.length
    · rw [List.getD_eq_getElem?_getD, List.getElem?_eq_getElem h]
      exact hb _ (List.getElem_mem h)
    · rw [List.getD_eq_getElem?_getD, List.getElem?_eq_none (by omega)]
      decide
  generalize ns.getD k 0 = cell at h1 bl
  have sh : binD .shl (.int (total : Int)) (.int (bitsI (cell.natAbs : Int) : Int)) = some (.int ((total * 2 ^ bitsI (cell.natAbs : Int) : Nat) : Int)) := by
    have : ((bitsI (cell.natAbs : Int) : Nat) : Int) ≤ 2000000 := by omega
    simp [binD, this, tB]
  have ad := nAdd cell.natAbs (total * 2 ^ bitsI (cell.natAbs : Int))
  have hr30 : rngD [.int 30] = some (rangeL 0 (30 : Nat)) := rfl
  have f1 : binD .fdiv (.int hd) (.int 720) = some (.int (hd / 720)) := by simp [binD, d720]
  have f2 : binD .mod (.int (hd / 720)) (.int 2) = some (.int (hd / 720 % 2)) := by simp [binD]
  have l1' : fr Φ (.n 6) _ ((rangeL 0 (30 : Nat)).map D.int) [some (.scr ns), some (.int (k : Int)), some (.int hd), some (.int ((r + 7919 * k : Nat) : Int)), some (.int ((69621 * k + 5 : Nat) : Int)), some (.int 0), none, none] = _ := l1
  have en : ∀ (b : Bool), (hd / 720 % 2 == 1) = b → ∃ n : Nat, runP Φ 2 (df_law_number c) [.scr ns, .int (k : Int)] = some (.ret (.int n) []) := fun b hb => by
    refine ⟨if b then total else cell.natAbs + total * 2 ^ bitsI (cell.natAbs : Int), ?_⟩
    simp only [↓l1', df_law_number, runP_eq, List.length_cons, List.length_nil, Nat.zero_add, Nat.reduceAdd, List.map_cons, List.map_nil, List.cons_append, List.nil_append, Nat.reduceSub, List.replicate_succ, List.replicate_zero, EV, ES, RC, RD, List.getElem?_cons_zero, List.getElem?_cons_succ, List.set_cons_zero, List.set_cons_succ,
      ioE, ioL, Bool.or_false, Bool.false_or, Bool.false_and, bindT, h0, a1, a2, a3, a4, a5, hr30, f1, f2, cmpD, SHP, EQ, Bool.and_self, if_true, hb]
    cases b
    · simp only [EV, ES, RC, RD, List.getElem?_cons_zero, List.getElem?_cons_succ, List.set_cons_zero, List.set_cons_succ, ioE, ioL, Bool.or_false, Bool.false_or, Bool.false_and, bindT, h1, biD, mtD, PU, sh, ad, Bool.not_true, if_false, Bool.false_eq_true]
    · simp only [EV, ES, RC, RD, List.getElem?_cons_zero, List.getElem?_cons_succ, PU, Bool.not_true, if_true]
  exact en _ rfl
def AmtS (F : Fn) : Prop := ∀ n : Nat, ∃ a m : Nat, F [.int (n : Int)] = some (.ret (.tup [.int (a : Int), .int (m : Int)]) []) ∧ a < 10 ^ 30
theorem s_amount (Φ : Nat → Fn) : AmtS (runP Φ 1 df_law_amount) := by
  intro n
  have e1 : binD .mod (.int (n : Int)) (.int 8) = some (.int ((n % 8 : Nat) : Int)) := nMod n 8 (by decide)
  have e2 : binD .fdiv (.int (n : Int)) (.int 8) = some (.int ((n / 8 : Nat) : Int)) := nDiv n 8 (by decide) (dvbN (by decide))
  have l1 : n % 8 < 8 := Nat.mod_lt _ (by decide)
  generalize n / 8 = u at e2
  generalize n % 8 = w at e1 l1
  have f1 : binD .mod (.int (u : Int)) (.int 10) = some (.int ((u % 10 : Nat) : Int)) := nMod u 10 (by decide)
  have f2 : binD .fdiv (.int (u : Int)) (.int 10) = some (.int ((u / 10 : Nat) : Int)) := nDiv u 10 (by decide) (dvbN (by decide))
  have f3 : binD .mod (.int (u : Int)) (.int 100) = some (.int ((u % 100 : Nat) : Int)) := nMod u 100 (by decide)
  have f4 : binD .fdiv (.int (u : Int)) (.int 100) = some (.int ((u / 100 : Nat) : Int)) := nDiv u 100 (by decide) (dvbN (by decide))
  have p30 : binD .pow (.int 10) (.int 30) = some (.int ((10 ^ 30 : Nat) : Int)) := by simp [binD]
  have f5 : binD .mod (.int (u : Int)) (.int ((10 ^ 30 : Nat) : Int)) = some (.int ((u % 10 ^ 30 : Nat) : Int)) := nMod u (10 ^ 30) (by decide)
  have f6 : binD .fdiv (.int (u : Int)) (.int ((10 ^ 30 : Nat) : Int)) = some (.int ((u / 10 ^ 30 : Nat) : Int)) := nDiv u (10 ^ 30) (by decide) (dvbN (by decide))
  have g1 : u % 10 < 10 ^ 30 := by omega
  have g2 : u % 100 < 10 ^ 30 := by omega
  have g3 : u % 10 ^ 30 < 10 ^ 30 := Nat.mod_lt _ (by decide)
  generalize ((10 ^ 30 : Nat) : Int) = T30 at p30 f5 f6
  generalize u % 10 ^ 30 = r1 at *
  generalize u / 10 ^ 30 = r2 at *
  refine ⟨if w = 0 then 0 else if w < 6 then u % 10 else if w = 6 then u % 100 else r1, if w = 0 then u else if w < 6 then u / 10 else if w = 6 then u / 100 else r2, ?_, by split <;> (try split) <;> (try split) <;> first | assumption | decide⟩
  have cs : w = 0 ∨ (w ≠ 0 ∧ w < 6) ∨ w = 6 ∨ w = 7 := by omega
  rcases cs with rfl | ⟨z1, z2⟩ | rfl | rfl
  · simp [df_law_amount, runP_eq, EV, ES, RC, RD, ioE, ioL, bindT, e1, e2, cmpD, SHP, EQ, PU]
  · have z3 : ((w : Int) == 0) = false := by simp; omega
    have z4 : (w : Int) < 6 := by omega
    simp [df_law_amount, runP_eq, EV, ES, RC, RD, ioE, ioL, bindT, e1, e2, cmpD, SHP, EQ, PU, z1, z2, z3, z4, f1, f2]
  · simp [df_law_amount, runP_eq, EV, ES, RC, RD, ioE, ioL, bindT, e1, e2, cmpD, SHP, EQ, PU, f3, f4]
  · simp [df_law_amount, runP_eq, EV, ES, RC, RD, ioE, ioL, bindT, e1, e2, cmpD, SHP, EQ, PU, p30, f5, f6]
/-! ### yards -/
def aboD : Option Nat → D
  | none => .non
  | some a => .int (a : Int)
def natD (bs : List Nat) : List D := bs.map fun (b : Nat) => D.int (b : Int)
def lineD (l : Option Nat × List Nat) : D := .tup [aboD l.1, .tup (natD l.2)]
structure Yd where
  T : Nat
  ls : List (Option Nat × List Nat)
def Yd.d (Y : Yd) : D := .tup [.int (Y.T : Int), .tup (Y.ls.map lineD)]
structure LnOk (T i : Nat) (l : Option Nat × List Nat) : Prop where
  len : l.2.length = T
  bnd : ∀ b ∈ l.2, b < 10 ^ 30
  root : i = 0 → l.1 = none
  up : 0 < i → ∃ j, l.1 = some j ∧ j < i
structure Yd.Ok (Y : Yd) : Prop where
  t1 : 1 ≤ Y.T
  t8 : Y.T ≤ 8
  l1 : 1 ≤ Y.ls.length
  l5 : Y.ls.length ≤ 5
  ln : ∀ i l, Y.ls[i]? = some l → LnOk Y.T i l
theorem natD_len (bs : List Nat) : (natD bs).length = bs.length := by simp [natD]
theorem pure_natD (bs : List Nat) : pureDs (natD bs) = true := by
  rw [pureDs_all]; simp [natD, PU]
theorem pure_lineD (l : Option Nat × List Nat) : pureD (lineD l) = true := by
  obtain ⟨a, bs⟩ := l
  cases a <;> simp [lineD, aboD, PU, pure_natD]
theorem pure_lines (ls : List (Option Nat × List Nat)) : pureDs (ls.map lineD) = true := by
  rw [pureDs_all]; simp [pure_lineD]
theorem Yd.pure (Y : Yd) : pureD Y.d = true := by simp [Yd.d, PU, pure_lines]
theorem shp_natD (n : Nat) (bs : List Nat) : shps n (natD bs) = true := by
  rw [shps_all]; simp [natD, SHP]
theorem shp_lineD (l : Option Nat × List Nat) : shp 58 (lineD l) = true := by
  obtain ⟨a, bs⟩ := l
  cases a <;> simp [lineD, aboD, SHP, shp_natD]
theorem Yd.shp (Y : Yd) : Cy.shp 60 Y.d = true := by
  have h : shps 58 (Y.ls.map lineD) = true := by rw [shps_all]; simp [shp_lineD]
  simp [Yd.d, SHP, h]
theorem Yd.eq_refl (Y : Yd) : eqD Y.d Y.d = true := eqD_refl 60 _ Y.shp
def YardS (F : Fn) (ns : List Int) : Prop := ∃ Y : Yd, F [.scr ns] = some (.ret Y.d []) ∧ Y.Ok
theorem s_yard {Φ : Nat → Fn} {c n a : Nat} (ns : List Int) (hc : CellS (Φ c)) (hn : NumS (Φ n) ns) (ha : AmtS (Φ a)) : YardS (runP Φ 1 (df_law_yard c n a)) ns := by
  have h0 : Φ c [.scr ns, .int 0] = some (.ret (.int (ns.getD 0 0)) []) := hc ns 0
  generalize ns.getD 0 0 = hd at h0
  have e1 : binD .mod (.int (hd.natAbs : Int)) (.int 8) = some (.int ((hd.natAbs % 8 : Nat) : Int)) := nMod _ 8 (by decide)
  have l1 : hd.natAbs % 8 < 8 := Nat.mod_lt _ (by decide)
  have e2 : binD .fdiv (.int (hd.natAbs : Int)) (.int 8) = some (.int ((hd.natAbs / 8 : Nat) : Int)) := nDiv _ 8 (by decide) (dvbN (by decide))
  have e3 : binD .mod (.int ((hd.natAbs / 8 : Nat) : Int)) (.int 5) = some (.int ((hd.natAbs / 8 % 5 : Nat) : Int)) := nMod _ 5 (by decide)
  have l2 : hd.natAbs / 8 % 5 < 5 := Nat.mod_lt _ (by decide)
  generalize hd.natAbs / 8 % 5 = q5 at e3 l2
  generalize hd.natAbs / 8 = q at e2 e3
  generalize hd.natAbs % 8 = T at e1 l1
  have e4 : binD .add (.int 1) (.int (T : Int)) = some (.int ((1 + T : Nat) : Int)) := nAdd 1 T
  have e5 : binD .add (.int 1) (.int (q5 : Int)) = some (.int ((1 + q5 : Nat) : Int)) := nAdd 1 q5
  have t1 : 1 ≤ 1 + T := by omega
  have t8 : 1 + T ≤ 8 := by omega
  have l15 : 1 ≤ 1 + q5 ∧ 1 + q5 ≤ 5 := by omega
  generalize 1 + T = TT at *
  generalize 1 + q5 = LL at *
  have hrg : ∀ m : Nat, m < 100 → rngD [.int (m : Int)] = some (rangeL 0 (m : Int)) := fun m hm => by
    have : m < 4000000 := by omega
    simp [rngD, this]
  -- the bounds of a line
  have inner : ∀ (k num : Nat) (ls : List D) (ab : D) (x8 x9 : Option D), ∃ (bs : List Nat) (num2 : Nat) (x8' x9' : Option D), bs.length = TT ∧ (∀ b ∈ bs, b < 10 ^ 30) ∧
      fr Φ (.n 8) (.cons (.asg (.t [(.n 9), (.n 5)]) (.call a (.cons (.v 5) .nil))) (.cons (.upd 7 [] (.app (.pur (.v 9))) []) .nil)) ((rangeL 0 ((TT : Nat) : Int)).map D.int)
        [some (.scr ns), some (.int (hd.natAbs : Int)), some (.int ((TT : Nat) : Int)), some (.lst ls), some (.int (k : Int)), some (.int (num : Int)), some ab, some (.lst []), x8, x9] =
      some (.ok .nx [some (.scr ns), some (.int (hd.natAbs : Int)), some (.int ((TT : Nat) : Int)), some (.lst ls), some (.int (k : Int)), some (.int (num2 : Int)), some ab, some (.lst (natD bs)), x8', x9']) := by
    intro k num ls ab x8 x9
    obtain ⟨e', h1, bs, num2, x8', x9', he, hl, hb⟩ := fr_inv (Φ := Φ) (tg := .n 8) (b := (.cons (.asg (.t [(.n 9), (.n 5)]) (.call a (.cons (.v 5) .nil))) (.cons (.upd 7 [] (.app (.pur (.v 9))) []) .nil))) (xs := (rangeL 0 ((TT : Nat) : Int)).map D.int)
      (e := [some (.scr ns), some (.int (hd.natAbs : Int)), some (.int ((TT : Nat) : Int)), some (.lst ls), some (.int (k : Int)), some (.int (num : Int)), some ab, some (.lst []), x8, x9])
      (fun i e => ∃ (bs : List Nat) (num2 : Nat) (x8' x9' : Option D), e = [some (.scr ns), some (.int (hd.natAbs : Int)), some (.int ((TT : Nat) : Int)), some (.lst ls), some (.int (k : Int)), some (.int (num2 : Int)), some ab, some (.lst (natD bs)), x8', x9'] ∧ bs.length = i ∧ ∀ b ∈ bs, b < 10 ^ 30)
      ⟨[], num, x8, x9, rfl, rfl, fun b h => nomatch h⟩ (fun i e hi ⟨bs, num2, x8', x9', he, hl, hb⟩ => by
        rw [rangeL_length] at hi
        rw [rangeL_get, he]
        obtain ⟨am, m, h2, h3⟩ := ha num2
        have hz : bs.length < 1000000 := by omega
        refine ⟨_, [some (.scr ns), some (.int (hd.natAbs : Int)), some (.int ((TT : Nat) : Int)), some (.lst ls), some (.int (k : Int)), some (.int (m : Int)), some ab, some (.lst (natD (bs ++ [am]))), some (.int (i : Int)), some (.int (am : Int))], rfl, ?_, bs ++ [am], m, _, _, rfl, by simp [hl], fun b h => ?_⟩
        · simp [EV, ES, RC, RD, RU, ioL, bindT, bindTs, h2, PU, chkP, getP, updD, fApp, natD_len, hz, kil, natD]
        · rcases List.mem_append.mp h with h | h
          · exact hb b h
          · rw [List.mem_singleton.mp h]; exact h3)
    rw [rangeL_length] at hl
    exact ⟨bs, num2, x8', x9', hl, hb, he ▸ h1⟩
  obtain ⟨e', lp, ls, x4, x5, x6, x7, x8, x9, he, hl, hok⟩ := fr_inv (Φ := Φ) (tg := .n 4) (b := (.cons (.asg (.n 5) (.call n (.cons (.v 0) (.cons (.bin .add (.c (.int 1)) (.v 4)) .nil)))) (.cons (.asg (.n 6) (.c .non)) (.cons (.ifs (.cmp .gt (.v 4) (.c (.int 0))) (.cons (.asg (.n 6) (.bin .mod (.v 5) (.v 4))) (.cons (.asg (.n 5) (.bin .fdiv (.v 5) (.v 4))) .nil)) .nil) (.cons (.asg (.n 7) (.lst .nil)) (.cons (.for (.n 8) (.rng (.cons (.v 2) .nil)) (.cons (.asg (.t [(.n 9), (.n 5)]) (.call a (.cons (.v 5) .nil))) (.cons (.upd 7 [] (.app (.pur (.v 9))) []) .nil))) (.cons (.upd 3 [] (.app (.tup (.cons (.pur (.v 6)) (.cons (.bi .tuple (.cons (.mv 7) .nil)) .nil)))) []) .nil)))))))
    (xs := (rangeL 0 ((LL : Nat) : Int)).map D.int) (e := [some (.scr ns), some (.int (hd.natAbs : Int)), some (.int ((TT : Nat) : Int)), some (.lst []), none, none, none, none, none, none])
    (fun i e => ∃ (ls : List (Option Nat × List Nat)) (x4 x5 x6 x7 x8 x9 : Option D), e = [some (.scr ns), some (.int (hd.natAbs : Int)), some (.int ((TT : Nat) : Int)), some (.lst (ls.map lineD)), x4, x5, x6, x7, x8, x9] ∧ ls.length = i ∧ ∀ j l, ls[j]? = some l → LnOk TT j l)
    ⟨[], none, none, none, none, none, none, rfl, rfl, fun j l h => by simp at h⟩ (fun i e hi ⟨ls, x4, x5, x6, x7, x8, x9, he, hl, hok⟩ => by
      rw [rangeL_length] at hi
      rw [rangeL_get, he]
      obtain ⟨num, hnum⟩ := hn (1 + i) (by omega)
      have a1 : binD .add (.int 1) (.int (i : Int)) = some (.int ((1 + i : Nat) : Int)) := nAdd 1 i
      generalize 1 + i = ki at hnum a1
      have hz : ls.length < 1000000 := by omega
      have ht := hrg TT (by omega)
      have app : ∀ (l : Option Nat × List Nat), LnOk TT i l → ∀ j l', (ls ++ [l])[j]? = some l' → LnOk TT j l' := fun l hok1 j l' h => by
        by_cases hj : j < ls.length
        · rw [List.getElem?_append_left hj] at h
          exact hok j l' h
        · rw [List.getElem?_append_right (by omega)] at h
          have : j - ls.length = 0 := by
            by_cases z : j - ls.length = 0
            · exact z
            · rw [List.getElem?_eq_none (by simp; omega)] at h; cases h
          rw [this] at h
          simp at h
          subst h
          have : j = i := by omega
          subst this; exact hok1
      by_cases h0 : i = 0
      · obtain ⟨bs, num2, x8', x9', b1, b2, b3⟩ := inner i num (ls.map lineD) .non x8 x9
        have hi0 : ¬ 0 < i := by omega
        refine ⟨_, [some (.scr ns), some (.int (hd.natAbs : Int)), some (.int ((TT : Nat) : Int)), some (.lst ((ls ++ [(none, bs)]).map lineD)), some (.int (i : Int)), some (.int (num2 : Int)), some .non, none, x8', x9'], rfl, ?_, ls ++ [(none, bs)], _, _, _, _, _, _, rfl, by simp [hl], app (none, bs) ⟨b1, b2, fun _ => rfl, fun z => by omega⟩⟩
        simp [↓b3, EV, ES, RC, RD, RU, ioE, ioL, bindT, a1, hnum, ht, cmpD, biD, PU, chkP, getP, updD, fApp, hz, kil, lineD, aboD, natD_len, pure_natD, hi0]
      · have hi0 : 0 < i := by omega
        have m1 := nMod num i (by omega)
        have m2 := nDiv num i (by omega) (dvbN (by omega))
        have ml : num % i < i := Nat.mod_lt _ (by omega)
        generalize num % i = ab1 at m1 ml
        obtain ⟨bs, num2, x8', x9', b1, b2, b3⟩ := inner i (num / i) (ls.map lineD) (.int (ab1 : Int)) x8 x9
        generalize num / i = num1 at m2 b3
        refine ⟨_, [some (.scr ns), some (.int (hd.natAbs : Int)), some (.int ((TT : Nat) : Int)), some (.lst ((ls ++ [(some ab1, bs)]).map lineD)), some (.int (i : Int)), some (.int (num2 : Int)), some (.int (ab1 : Int)), none, x8', x9'], rfl, ?_, ls ++ [(some ab1, bs)], _, _, _, _, _, _, rfl, by simp [hl], app (some ab1, bs) ⟨b1, b2, fun z => absurd z h0, fun _ => ⟨ab1, rfl, ml⟩⟩⟩
        simp [↓b3, EV, ES, RC, RD, RU, ioE, ioL, bindT, a1, hnum, ht, cmpD, biD, PU, chkP, getP, updD, fApp, hz, kil, lineD, aboD, natD_len, pure_natD, hi0, m1, m2])
  rw [rangeL_length] at hl
  have hL := hrg LL (by omega)
  refine ⟨⟨TT, ls⟩, ?_, t1, t8, by rw [hl]; exact l15.1, by rw [hl]; exact l15.2, hok⟩
  rw [he] at lp
  simp [↓lp, df_law_yard, runP_eq, EV, ES, RC, RD, ioE, ioL, bindT, h0, e1, e2, e3, e4, e5, hL, PU, biD, Yd.d]
end Cy
end
section
set_option linter.all false
set_option maxRecDepth 100000
set_option maxHeartbeats 4000000
/-! Plain: what is a yard. -/
namespace Cy
open PySem
theorem all_true {α : Type} (xs : List α) : biD .all [.lst (xs.map fun _ => .bl true)] = some (.bl true) := by
  have h : ∀ ys : List α, blsOf (ys.map fun _ => D.bl true) = some (ys.map fun _ => true) := fun ys => by
    induction ys with
    | nil => rfl
    | cons y ys ih => simp only [List.map_cons, blsOf, ih, Option.map_some]
  have g : ∀ ys : List α, (ys.map fun _ => true).all id = true := fun ys => by simp
  simp only [biD, h, Option.map_some, g]
theorem cp_true {Φ : Nat → Fn} {elt : DE} {tg : Tg} {os : List Nat} {xs : List D} {e1 : En} (h : ∀ x ∈ xs, ∃ e, bindT tg x (wipeE os e1) = some e ∧ ∃ e2, ev Φ elt e = some (.ok (.bl true) e2)) (hl : xs.length ≤ LMX) : cp Φ elt tg .nil os xs e1 = some (xs.map fun _ => .bl true) :=
  cp_map (f := fun _ => .bl true) h hl
def WholeS (F : Fn) : Prop := ∀ x lo hi : Int, lo ≤ x → x < hi → F [.int x, .int lo, .int hi] = some (.ret (.bl true) [])
theorem s_is_whole (Φ : Nat → Fn) : WholeS (runP Φ 3 df_is_whole) := by
  intro x lo hi h1 h2
  simp [df_is_whole, runP_eq, EV, ES, RC, RD, ioE, ioL, biD, isiD, cmpD, h1, h2, PU]
def LineS (F : Fn) : Prop := ∀ (T i : Nat) (l : Option Nat × List Nat), T ≤ 8 → LnOk T i l → F [lineD l, .int (i : Int), .int (T : Int)] = some (.ret (.bl true) [])
theorem s_is_line {Φ : Nat → Fn} {w : Nat} (hw : WholeS (Φ w)) : LineS (runP Φ 3 (df_is_line w)) := by
  intro T i l hT ok
  obtain ⟨a, bs⟩ := l
  have hbl : bs.length = T := ok.len
  have hb := ok.bnd
  dsimp only at hb
  have comp : ∀ (x3 : Option D), cp Φ (.call w (.cons (.v 5) (.cons (.c (.int 0)) (.cons (.g "BEYOND" (.int 1000000000000000000000000000000)) .nil)))) (.n 5) .nil [5] (natD bs)
      [some (lineD (a, bs)), some (.int (i : Int)), some (.int (T : Int)), x3, some (.tup (natD bs)), none] = some ((natD bs).map fun _ => .bl true) := fun x3 => by
    refine cp_true (fun x hx => ?_) (by rw [natD_len, hbl]; show _ ≤ 1000000; omega)
    obtain ⟨b, hb1, rfl⟩ := List.mem_map.mp hx
    have hlt := hb b hb1
    have := hw (b : Int) 0 1000000000000000000000000000000 (by omega) (by omega)
    refine ⟨_, rfl, [some (lineD (a, bs)), some (.int (i : Int)), some (.int (T : Int)), x3, some (.tup (natD bs)), some (.int (b : Int))], ?_⟩
    simp [wipeE, EV, RC, RD, ioL, ioE, PU, this]
  have at' := all_true (natD bs)
  simp only [biD] at at'
  cases a with
  | none =>
    have i0 : i = 0 := by
      rcases Nat.eq_zero_or_pos i with z | z
      · exact z
      · obtain ⟨j, hj, _⟩ := ok.up z; cases hj
    subst i0
    have c0 := comp (some .non)
    simp [lineD, aboD] at c0
    simp [↓c0, df_is_line, runP_eq, EV, ES, RC, RD, ioE, ioL, biD, isiD, cmpD, SHP, EQ, PU, lineD, aboD, bindT, bindTs, isNonD, natD_len, hbl, itemsD, at']
  | some a =>
    have ip : 0 < i := by
      rcases Nat.eq_zero_or_pos i with z | z
      · have := ok.root z; cases this
      · exact z
    obtain ⟨j, hj, hji⟩ := ok.up ip
    simp only [Option.some.injEq] at hj
    subst hj
    have c0 := comp (some (.int (a : Int)))
    have wh := hw (a : Int) 0 (i : Int) (by omega) (by omega)
    have i1 : ((i : Int) == 0) = false := by simp; omega
    simp [lineD, aboD] at c0
    simp [↓c0, df_is_line, runP_eq, EV, ES, RC, RD, ioE, ioL, biD, isiD, cmpD, SHP, EQ, PU, lineD, aboD, bindT, bindTs, isNonD, natD_len, hbl, itemsD, i1, ip, wh, at']
def YardIs (F : Fn) : Prop := ∀ Y : Yd, Y.Ok → F [Y.d] = some (.ret (.bl true) [])
theorem enumL_mem : ∀ (n : Nat) (xs : List D) (x : D), x ∈ enumL n xs → ∃ i d, xs[i]? = some d ∧ x = .tup [.int ((n + i : Nat) : Int), d]
  | _, [], _, h => by simp [enumL] at h
  | n, y :: ys, x, h => by
    simp only [enumL, List.mem_cons] at h
    rcases h with rfl | h
    · exact ⟨0, y, rfl, rfl⟩
    · obtain ⟨i, d, h1, rfl⟩ := enumL_mem (n + 1) ys x h
      exact ⟨i + 1, d, by simpa using h1, by congr 4; omega⟩
theorem enumL_length : ∀ (n : Nat) (xs : List D), (enumL n xs).length = xs.length
  | _, [] => rfl
  | n, x :: xs => by simp [enumL, enumL_length (n + 1) xs]
theorem s_is_yard {Φ : Nat → Fn} {w l : Nat} (hw : WholeS (Φ w)) (hl : LineS (Φ l)) : YardIs (runP Φ 1 (df_is_yard w l)) := by
  intro Y ok
  obtain ⟨T, ls⟩ := Y
  have t1 := ok.t1
  have t8 := ok.t8
  have l1 := ok.l1
  have l5 := ok.l5
  dsimp only at t1 t8 l1 l5
  have w1 := hw (T : Int) 1 9 (by omega) (by omega)
  have c0 : cp Φ (.call l (.cons (.v 4) (.cons (.v 3) (.cons (.v 1) .nil)))) (.t [(.n 3), (.n 4)]) .nil [3, 4] (enumL 0 (ls.map lineD)) [some (.tup [.int (T : Int), .tup (ls.map lineD)]), some (.int (T : Int)), some (.tup (ls.map lineD)), none, none] = some ((enumL 0 (ls.map lineD)).map fun _ => .bl true) := by
    refine cp_true (fun x hx => ?_) (by rw [enumL_length, List.length_map]; show _ ≤ 1000000; omega)
    obtain ⟨i, d, h1, rfl⟩ := enumL_mem _ _ _ hx
    rw [List.getElem?_map] at h1
    cases q : ls[i]? with
    | none => rw [q] at h1; cases h1
    | some ln =>
      rw [q] at h1
      simp only [Option.map_some, Option.some.injEq] at h1
      subst h1
      have lk := ok.ln i ln q
      have := hl T i ln t8 lk
      refine ⟨_, rfl, [some (.tup [.int (T : Int), .tup (ls.map lineD)]), some (.int (T : Int)), some (.tup (ls.map lineD)), some (.int (i : Int)), some (lineD ln)], ?_⟩
      simp [wipeE, EV, RC, RD, ioL, ioE, PU, pure_lineD, this]
  have z1 : (1 : Int) ≤ (ls.length : Int) := by omega
  have z2 : (ls.length : Int) ≤ 5 := by omega
  have at' := all_true (enumL 0 (ls.map lineD))
  simp only [biD] at at'
  simp [↓c0, df_is_yard, runP_eq, EV, ES, RC, RD, ioE, ioL, biD, isiD, cmpD, SHP, EQ, PU, Yd.d, bindT, bindTs, w1, binD, z1, z2, at', l1, l5]
end Cy
end
section
set_option linter.all false
set_option maxRecDepth 100000
set_option maxHeartbeats 4000000
/-! Plain: the guests drawn. -/
namespace Cy
open PySem
structure Gd where
  line : Nat
  first : Nat
  last : Nat
  want : Nat
  most : Nat
def Gd.d (g : Gd) : D := .tup [.int (g.line : Int), .int (g.first : Int), .int (g.last : Int), .int (g.want : Int), .int (g.most : Int)]
structure Gd.Ok (Y : Yd) (g : Gd) : Prop where
  ln : g.line < Y.ls.length
  fl : g.first ≤ g.last
  lt : g.last < Y.T
  w1 : 1 ≤ g.want
  w2 : g.want < 10 ^ 30
  m1 : 1 ≤ g.most
  m2 : g.most < 10 ^ 30
def gsD (gs : List Gd) : D := .lst (gs.map Gd.d)
theorem Gd.pure (g : Gd) : pureD g.d = true := by simp [Gd.d, PU]
theorem Gd.shp (g : Gd) : Cy.shp 59 g.d = true := by simp [Gd.d, SHP]
theorem gs_shp (gs : List Gd) : Cy.shp 60 (gsD gs) = true := by
  simp only [gsD, SHP, shps_all]
  simp [Gd.shp]
theorem gs_refl (gs : List Gd) : eqD (gsD gs) (gsD gs) = true := eqD_refl 60 _ (gs_shp gs)
def GuestsS (F : Fn) (ns : List Int) (Y : Yd) : Prop := ∃ gs : List Gd, F [.scr ns, Y.d] = some (.ret (gsD gs) []) ∧ gs.length ≤ 8 ∧ ∀ g ∈ gs, g.Ok Y
theorem natAbs40 (h : Int) : binD .fdiv (.int (h.natAbs : Int)) (.int 40) = some (.int ((h.natAbs / 40 : Nat) : Int)) := nDiv _ 40 (by decide) (dvbN (by decide))
theorem rng_nat (m : Nat) (hm : m < 4000000) : rngD [.int (m : Int)] = some (rangeL 0 (m : Int)) := by simp [rngD, hm]
theorem s_guests {Φ : Nat → Fn} {c n a : Nat} (ns : List Int) (hc : CellS (Φ c)) (hn : NumS (Φ n) ns) (ha : AmtS (Φ a)) (Y : Yd) (ok : Y.Ok) : GuestsS (runP Φ 2 (df_law_guests c n a)) ns Y := by
  have h0 : Φ c [.scr ns, .int 0] = some (.ret (.int (ns.getD 0 0)) []) := hc ns 0
  generalize ns.getD 0 0 = hd at h0
  have e1 := natAbs40 hd
  have e2 : binD .mod (.int ((hd.natAbs / 40 : Nat) : Int)) (.int 9) = some (.int ((hd.natAbs / 40 % 9 : Nat) : Int)) := nMod _ 9 (by decide)
  have l1 : hd.natAbs / 40 % 9 < 9 := Nat.mod_lt _ (by decide)
  generalize hd.natAbs / 40 % 9 = G at e2 l1
  generalize hd.natAbs / 40 = q at e1 e2
  have hG := rng_nat G (by omega)
  have pY := Y.pure
  obtain ⟨T, ls⟩ := Y
  have t1 := ok.t1
  have t8 := ok.t8
  have ll1 := ok.l1
  have ll5 := ok.l5
  dsimp only at t1 t8 ll1 ll5
  have i0 : ixD (Yd.d ⟨T, ls⟩) (.int 0) = some (.int (T : Int)) := by simp [Yd.d, ixD, ixP]
  have i1 : ixD (Yd.d ⟨T, ls⟩) (.int 1) = some (.tup (ls.map lineD)) := by simp [Yd.d, ixD, ixP]
  have len : biD .len [.tup (ls.map lineD)] = some (.int (ls.length : Int)) := by simp [biD]
  obtain ⟨e', lp, gs, x3, x4, x5, x6, x7, x8, x9, he, hl, hok⟩ := fr_inv (Φ := Φ) (tg := .n 3) (b := (.cons (.asg (.n 4) (.call n (.cons (.v 0) (.cons (.bin .add (.c (.int 6)) (.v 3)) .nil)))) (.cons (.asg (.n 5) (.bin .mod (.v 4) (.bi .len (.cons (.ix (.v 1) (.c (.int 1))) .nil)))) (.cons (.asg (.n 4) (.bin .fdiv (.v 4) (.bi .len (.cons (.ix (.v 1) (.c (.int 1))) .nil)))) (.cons (.asg (.n 6) (.bin .mod (.v 4) (.ix (.v 1) (.c (.int 0))))) (.cons (.asg (.n 4) (.bin .fdiv (.v 4) (.ix (.v 1) (.c (.int 0))))) (.cons (.asg (.n 7) (.bin .add (.v 6) (.bin .mod (.v 4) (.bin .sub (.ix (.v 1) (.c (.int 0))) (.v 6))))) (.cons (.asg (.n 4) (.bin .fdiv (.v 4) (.bin .sub (.ix (.v 1) (.c (.int 0))) (.v 6)))) (.cons (.asg (.t [(.n 8), (.n 4)]) (.call a (.cons (.v 4) .nil))) (.cons (.asg (.t [(.n 9), (.n 4)]) (.call a (.cons (.v 4) .nil))) (.cons (.upd 2 [] (.app (.tup (.cons (.pur (.v 5)) (.cons (.pur (.v 6)) (.cons (.pur (.v 7)) (.cons (.bi .max (.cons (.c (.int 1)) (.cons (.v 8) .nil))) (.cons (.bi .max (.cons (.c (.int 1)) (.cons (.v 9) .nil))) .nil))))))) []) .nil)))))))))))
    (xs := (rangeL 0 (G : Int)).map D.int) (e := [some (.scr ns), some (Yd.d ⟨T, ls⟩), some (.lst []), none, none, none, none, none, none, none])
    (fun i e => ∃ (gs : List Gd) (x3 x4 x5 x6 x7 x8 x9 : Option D), e = [some (.scr ns), some (Yd.d ⟨T, ls⟩), some (.lst (gs.map Gd.d)), x3, x4, x5, x6, x7, x8, x9] ∧ gs.length = i ∧ ∀ g ∈ gs, g.Ok ⟨T, ls⟩)
    ⟨[], none, none, none, none, none, none, none, rfl, rfl, fun g h => nomatch h⟩ (fun i e hi ⟨gs, x3, x4, x5, x6, x7, x8, x9, he, hl, hok⟩ => by
      rw [rangeL_length] at hi
      rw [rangeL_get, he]
      obtain ⟨num, hnum⟩ := hn (6 + i) (by omega)
      have a1 : binD .add (.int 6) (.int (i : Int)) = some (.int ((6 + i : Nat) : Int)) := nAdd 6 i
      generalize 6 + i = ki at hnum a1
      have b1 := nMod num ls.length (by omega)
      have b2 := nDiv num ls.length (by omega) (dvbN (by omega))
      have bl : num % ls.length < ls.length := Nat.mod_lt _ (by omega)
      generalize num % ls.length = ln at b1 bl
      generalize num / ls.length = n1 at b2
      have b3 := nMod n1 T (by omega)
      have b4 := nDiv n1 T (by omega) (dvbN (by omega))
      have bf : n1 % T < T := Nat.mod_lt _ (by omega)
      generalize n1 % T = fi at b3 bf
      generalize n1 / T = n2 at b4
      have b5 : binD .sub (.int (T : Int)) (.int (fi : Int)) = some (.int ((T - fi : Nat) : Int)) := by
        simp only [binD]; congr 2; omega
      have tf : 0 < T - fi := by omega
      have tf2 : T - fi ≤ 8 := by omega
      have tf3 : fi + (T - fi) = T := by omega
      generalize T - fi = td at b5 tf tf2 tf3
      have b6 := nMod n2 td tf
      have b7 := nDiv n2 td tf (dvbN (by omega))
      have bd : n2 % td < td := Nat.mod_lt _ tf
      generalize n2 % td = dl at b6 bd
      generalize n2 / td = n3 at b7
      have b8 := nAdd fi dl
      obtain ⟨w, n4, hw, hw2⟩ := ha n3
      obtain ⟨m, n5, hm, hm2⟩ := ha n4
      have mx : ∀ z : Nat, biD .max [.int 1, .int (z : Int)] = some (.int ((max 1 z : Nat) : Int)) := fun z => by
        simp only [biD]
        congr 2
        rw [Nat.max_def]
        split <;> split <;> omega
      have hz : gs.length < 1000000 := by omega
      generalize hla : fi + dl = la at b8
      have mw := mx w
      have mm := mx m
      generalize hww : max 1 w = ww at mw
      generalize hmm : max 1 m = mm' at mm
      refine ⟨_, [some (.scr ns), some (Yd.d ⟨T, ls⟩), some (.lst ((gs ++ [Gd.mk ln fi la ww mm']).map Gd.d)), some (.int (i : Int)), some (.int (n5 : Int)), some (.int (ln : Int)), some (.int (fi : Int)), some (.int (la : Int)), some (.int (w : Int)), some (.int (m : Int))], rfl, ?_, gs ++ [Gd.mk ln fi la ww mm'], _, _, _, _, _, _, _, rfl, by simp [hl], fun g hg => ?_⟩
      · simp [EV, ES, RC, RD, RU, ioE, ioL, bindT, bindTs, a1, hnum, i0, i1, len, PU, pY, pure_lines, b1, b2, b3, b4, b5, b6, b7, b8, hw, hm, mw, mm, chkP, getP, updD, fApp, hz, kil, Gd.d]
      · rcases List.mem_append.mp hg with hg | hg
        · exact hok g hg
        · rw [List.mem_singleton.mp hg]
          exact ⟨bl, by show fi ≤ la; omega, by show la < T; omega, by show 1 ≤ ww; omega, by show ww < 10 ^ 30; omega, by show 1 ≤ mm'; omega, by show mm' < 10 ^ 30; omega⟩)
  rw [rangeL_length] at hl
  rw [he] at lp
  refine ⟨gs, ?_, by omega, hok⟩
  simp [↓lp, df_law_guests, runP_eq, EV, ES, RC, RD, ioE, ioL, bindT, h0, e1, e2, hG, PU, biD, gsD]
/-! ### comprehensions and loops over drawn lists -/
theorem cp_filter2 {α : Type} {Φ : Nat → Fn} {elt : DE} {tg : Tg} {ifs : DEs} {os : List Nat} {e1 : En} (g h : α → D) (p : α → Bool) : ∀ (ls : List α), (∀ a ∈ ls, ∃ e, bindT tg (g a) (wipeE os e1) = some e ∧ ∃ e2, evTs Φ ifs e = some (.ok (p a) e2) ∧ (p a = true → ∃ e3, ev Φ elt e2 = some (.ok (h a) e3))) → ls.length ≤ 1000000 →
    cp Φ elt tg ifs os (ls.map g) e1 = some ((ls.filter p).map h)
  | [], _, _ => rfl
  | a :: ls, hs, hl => by
    obtain ⟨e, h1, e2, h2, h3⟩ := hs a (List.mem_cons_self ..)
    have ih := cp_filter2 (Φ := Φ) (elt := elt) (tg := tg) (ifs := ifs) (os := os) (e1 := e1) g h p ls (fun b hb => hs b (List.mem_cons_of_mem _ hb)) (Nat.le_of_succ_le hl)
    unfold cp at ih ⊢
    cases q : p a with
    | false =>
      rw [q] at h2
      simp only [List.map_cons, compL, h1, h2, ih, List.filter_cons, q]; rfl
    | true =>
      rw [q] at h2
      obtain ⟨e3, h3⟩ := h3 q
      simp only [List.map_cons, compL, h1, h2, h3, ih, Option.bind_some, List.filter_cons, q, if_true, List.length_map]
      rw [if_pos]
      have := List.length_filter_le p ls
      simp only [List.length_cons] at hl
      show _ < 1000000
      omega
theorem cp_map2 {α : Type} {Φ : Nat → Fn} {elt : DE} {tg : Tg} {os : List Nat} {e1 : En} (g h : α → D) (ls : List α) (hs : ∀ a ∈ ls, ∃ e, bindT tg (g a) (wipeE os e1) = some e ∧ ∃ e2, ev Φ elt e = some (.ok (h a) e2)) (hl : ls.length ≤ 1000000) : cp Φ elt tg .nil os (ls.map g) e1 = some (ls.map h) := by
  have z := cp_filter2 (Φ := Φ) (elt := elt) (tg := tg) (ifs := .nil) (os := os) (e1 := e1) g h (fun _ => true) ls (fun a ha => let ⟨e, h1, e2, h2⟩ := hs a ha; ⟨e, h1, e, rfl, fun _ => ⟨e2, h2⟩⟩) hl
  rwa [List.filter_eq_self.mpr (fun _ _ => rfl)] at z
/-- a loop over a drawn list, by what holds between its turns -/
theorem fr_inv2 {α : Type} {Φ : Nat → Fn} {tg : Tg} {b : DSs} (g : α → D) : ∀ {ls : List α} {e : En} (P : Nat → En → Prop) (h0 : P 0 e) (hs : ∀ i a e, ls[i]? = some a → P i e → ∃ e1 e2, bindT tg (g a) e = some e1 ∧ evSs Φ b e1 = some (.ok .nx e2) ∧ P (i + 1) e2), ∃ e', fr Φ tg b (ls.map g) e = some (.ok .nx e') ∧ P ls.length e'
  | [], e, P, h0, _ => ⟨e, rfl, h0⟩
  | x :: xs, e, P, h0, hs => by
    obtain ⟨e1, e2, h1, h2, h3⟩ := hs 0 x e rfl h0
    obtain ⟨e', h4, h5⟩ := fr_inv2 (ls := xs) (e := e2) g (fun i => P (i + 1)) h3 (fun i a e hi p => hs (i + 1) a e (by simpa using hi) p)
    exact ⟨e', by rw [List.map_cons, fr_nx h1 h2]; exact h4, h5⟩
end Cy
end
section
set_option linter.all false
set_option maxRecDepth 100000
set_option maxHeartbeats 4000000
/-! Plain: what a set can be given. -/
namespace Cy
open PySem
def addAt (v : List Nat) (i x : Nat) : List Nat := v.set i (v.getD i 0 + x)
theorem addAt_len (v : List Nat) (i x : Nat) : (addAt v i x).length = v.length := by simp [addAt]
/-- a guest's most at its line, while it is there -/
def stepG (gs : List Gd) (t : Nat) (v : List Nat) (n : Nat) : List Nat := match gs[n]? with
  | some g => if g.first ≤ t ∧ t ≤ g.last then addAt v g.line g.most else v
  | none => v
def initR (L : Nat) (gs : List Gd) (some : List Nat) (t : Nat) : List Nat := some.foldl (stepG gs t) (List.replicate L 0)
def bnd (Y : Yd) (l t : Nat) : Nat := ((Y.ls.getD l (none, [])).2).getD t 0
def abo (Y : Yd) (l : Nat) : Nat := ((Y.ls.getD l (none, [])).1).getD 0
/-- line l passes on what it can -/
def stepL (Y : Yd) (t : Nat) (v : List Nat) (l : Nat) : List Nat := addAt v (abo Y l) (min (bnd Y l t) (v.getD l 0))
/-- the lines from the last one to line 1 -/
def downs (L : Nat) : List Nat := (List.range (L - 1)).map fun i => L - 1 - i
def reachR (Y : Yd) (gs : List Gd) (some : List Nat) (t : Nat) : List Nat := (downs Y.ls.length).foldl (stepL Y t) (initR Y.ls.length gs some t)
def givAt (Y : Yd) (gs : List Gd) (some : List Nat) (t : Nat) : Nat := min (bnd Y 0 t) ((reachR Y gs some t).getD 0 0)
def cySum (n : Nat) (f : Nat → Nat) : Nat := ((List.range n).map f).sum
def givMost (Y : Yd) (gs : List Gd) (some : List Nat) : Nat := cySum Y.T (givAt Y gs some)
theorem stepG_len (gs : List Gd) (t : Nat) (v : List Nat) (n : Nat) : (stepG gs t v n).length = v.length := by
  unfold stepG
  split
  · split <;> simp [addAt_len]
  · rfl
theorem foldG_len (gs : List Gd) (t : Nat) : ∀ (ss : List Nat) (v : List Nat), (ss.foldl (stepG gs t) v).length = v.length
  | [], _ => rfl
  | s :: ss, v => by rw [List.foldl_cons, foldG_len gs t ss, stepG_len]
theorem foldL_len (Y : Yd) (t : Nat) : ∀ (ss : List Nat) (v : List Nat), (ss.foldl (stepL Y t) v).length = v.length
  | [], _ => rfl
  | s :: ss, v => by rw [List.foldl_cons, foldL_len Y t ss]; simp [stepL, addAt_len]
theorem initR_len (L : Nat) (gs : List Gd) (some : List Nat) (t : Nat) : (initR L gs some t).length = L := by
  unfold initR; rw [foldG_len, List.length_replicate]
theorem natD_get (v : List Nat) (i : Nat) (h : i < v.length) : (natD v)[i]? = some (.int ((v.getD i 0 : Nat) : Int)) := by
  simp [natD, h]
theorem ix_natD (v : List Nat) (i : Nat) (h : i < v.length) : ixD (.lst (natD v)) (.int (i : Int)) = some (.int ((v.getD i 0 : Nat) : Int)) := by
  have : (i : Int) < ((natD v).length : Nat) := by rw [natD_len]; omega
  simp only [ixD, ixP]
  rw [if_pos (by omega), if_pos this]
  simpa using natD_get v i h
theorem set_natD (v : List Nat) (i x : Nat) (h : i < v.length) : setD (.lst (natD v)) (.int (i : Int)) (.int (x : Int)) = some (.lst (natD (v.set i x))) := by
  have : (i : Int) < ((natD v).length : Nat) := by rw [natD_len]; omega
  simp only [setD, ixP]
  rw [if_pos (by omega), if_pos this]
  simp only [Option.map_some, Int.toNat_natCast]
  congr 2
  simp [natD, List.map_set]
/-- v[i] += x -/
theorem aug_natD (v : List Nat) (i x : Nat) (h : i < v.length) : updD [] (fAug .add (.int (i : Int)) (.int (x : Int))) (.lst (natD v)) = some (.lst (natD (addAt v i x))) := by
  simp only [updD, fAug, ix_natD v i h, Option.bind_some]
  rw [show binD .add (.int ((v.getD i 0 : Nat) : Int)) (.int (x : Int)) = some (.int ((v.getD i 0 + x : Nat) : Int)) from rfl]
  simp only [Option.bind_some]
  exact set_natD v i _ h
theorem chk_natD (e : En) (j : Nat) (v : List Nat) (i : Nat) (h : i < v.length) (he : e[j]? = some (some (.lst (natD v)))) : chkP j [] e = true ∧ chkI j [] (.int (i : Int)) e = true := by
  have := ix_natD v i h
  constructor
  · simp [chkP, he, getP]
  · simp only [chkI, he, getP, this]
/-- a line of a yard -/
theorem line_at {Y : Yd} (ok : Y.Ok) {l : Nat} (h : l < Y.ls.length) : ∃ a bs, Y.ls[l]? = some (a, bs) ∧ bs.length = Y.T ∧ (0 < l → a = some (abo Y l) ∧ abo Y l < l) ∧ (∀ t, t < Y.T → bs[t]? = some (bnd Y l t)) ∧ (l = 0 → a = none) := by
  have e : Y.ls[l]? = some Y.ls[l] := List.getElem?_eq_getElem h
  obtain ⟨⟨a, bs⟩, hx⟩ : ∃ p, Y.ls[l] = p := ⟨_, rfl⟩
  rw [hx] at e
  have k := ok.ln l _ e
  have gd : Y.ls.getD l (none, []) = (a, bs) := by rw [List.getD_eq_getElem?_getD, e]; rfl
  refine ⟨a, bs, e, k.len, fun h0 => ?_, fun t ht => ?_, fun z => k.root z⟩
  · obtain ⟨j, hj, hjl⟩ := k.up h0
    dsimp only at hj
    subst hj
    have : abo Y l = j := by unfold abo; rw [gd]; rfl
    rw [this]; exact ⟨rfl, hjl⟩
  · have hb : t < bs.length := by rw [k.len]; exact ht
    unfold bnd
    rw [gd, List.getD_eq_getElem?_getD, List.getElem?_eq_getElem hb]; rfl
def numsD (ss : List Nat) : D := .lst (natD ss)
def SetOk (gs : List Gd) (ss : List Nat) : Prop := ss.length ≤ 100 ∧ ∀ s ∈ ss, s < gs.length
def ReachS (F : Fn) : Prop := ∀ (Y : Yd) (gs : List Gd) (ss : List Nat) (t : Nat), Y.Ok → (∀ g ∈ gs, g.Ok Y) → gs.length ≤ 8 → SetOk gs ss → t < Y.T → F [Y.d, gsD gs, numsD ss, .int (t : Int)] = some (.ret (.lst (natD (reachR Y gs ss t))) [])
theorem rep0 (n : Nat) (h : n < 100000) : binD .rep (.lst [.int 0]) (.int (n : Int)) = some (.lst (natD (List.replicate n 0))) := by
  have h1 : (-100000 : Int) < (n : Int) := by omega
  have h2 : (n : Int) < 100000 := by omega
  simp only [binD]
  rw [if_pos ⟨h1, h2, by decide, by simp [PU]⟩]
  congr 2
  simp only [Int.toNat_natCast]
  induction n with
  | zero => rfl
  | succ n ih =>
    rw [List.replicate_succ, List.replicate_succ, List.flatten_cons, ih (by omega) (by omega) (by omega)]
    rfl
theorem ls_ix (Y : Yd) (l : Nat) (a : Option Nat) (bs : List Nat) (h : Y.ls[l]? = some (a, bs)) : ixD (.tup (Y.ls.map lineD)) (.int (l : Int)) = some (.tup [aboD a, .tup (natD bs)]) := by
  have hl := (List.getElem?_eq_some_iff.mp h).1
  simp only [ixD, ixP, List.length_map]
  rw [if_pos (by omega), if_pos (by omega)]
  simp only [Option.bind_some, Int.toNat_natCast, List.getElem?_map, h]; rfl
theorem tup_natD (bs : List Nat) (t b : Nat) (h : bs[t]? = some b) : ixD (.tup (natD bs)) (.int (t : Int)) = some (.int (b : Int)) := by
  have hl := (List.getElem?_eq_some_iff.mp h).1
  have : (t : Int) < ((natD bs).length : Nat) := by rw [natD_len]; omega
  simp only [ixD, ixP]
  rw [if_pos (by omega), if_pos this]
  simp only [Option.bind_some, Int.toNat_natCast, natD, List.getElem?_map, h]; rfl
theorem gs_ix (gs : List Gd) (n : Nat) (g : Gd) (h : gs[n]? = some g) : ixD (gsD gs) (.int (n : Int)) = some g.d := by
  have hl := (List.getElem?_eq_some_iff.mp h).1
  simp only [gsD, ixD, ixP, List.length_map]
  rw [if_pos (by omega), if_pos (by omega)]
  simp only [Option.bind_some, Int.toNat_natCast, List.getElem?_map, h]; rfl
theorem minN (a b : Nat) : biD .min [.int (a : Int), .int (b : Int)] = some (.int ((min a b : Nat) : Int)) := by
  simp only [biD]
  congr 2
  rw [Nat.min_def]
  split <;> split <;> omega
theorem s_reached (Φ : Nat → Fn) : ReachS (runP Φ 4 df_reached_at) := by
  intro Y gs ss t ok gok gl sok ht
  have ll1 := ok.l1
  have ll5 := ok.l5
  have Yd' : Y.d = .tup [.int (Y.T : Int), .tup (Y.ls.map lineD)] := rfl
  have ln : biD .len [.tup (Y.ls.map lineD)] = some (.int (Y.ls.length : Int)) := by simp [biD]
  have r0 := rep0 Y.ls.length (by omega)
  have it : itemsD (numsD ss) = some (ss.map fun (n : Nat) => D.int (n : Int)) := rfl
  have hb : bindT (.t [.n 7, .n 8]) Y.d [some Y.d, some (gsD gs), some (numsD ss), some (.int (t : Int)), none, none, none, none, none, none, none, none, none, none, none] =
      some [some Y.d, some (gsD gs), some (numsD ss), some (.int (t : Int)), none, none, none, some (.int (Y.T : Int)), some (.tup (Y.ls.map lineD)), none, none, none, none, none, none] := rfl
  generalize Y.d = yd at *
  generalize hgs : gsD gs = gd' at *
  generalize numsD ss = sd at *
  obtain ⟨e1, lp1, x5, x6, x9, x10, x11, x12, he1⟩ := fr_inv2 (Φ := Φ) (tg := .n 5) (b := (.cons (.asg (.t [(.n 6), (.n 9), (.n 10), (.n 11), (.n 12)]) (.ix (.v 1) (.v 5))) (.cons (.ifs (.chn .le .le (.v 9) (.v 3) (.v 10)) (.cons (.upd 4 [] (.aug .add (.v 6) (.v 12)) []) .nil) .nil) .nil))) (fun (n : Nat) => D.int (n : Int)) (ls := ss)
    (e := [some yd, some gd', some sd, some (.int (t : Int)), some (.lst (natD (List.replicate Y.ls.length 0))), none, none, some (.int (Y.T : Int)), some (.tup (Y.ls.map lineD)), none, none, none, none, none, none])
    (fun i e => ∃ x5 x6 x9 x10 x11 x12 : Option D, e = [some yd, some gd', some sd, some (.int (t : Int)), some (.lst (natD ((ss.take i).foldl (stepG gs t) (List.replicate Y.ls.length 0)))), x5, x6, some (.int (Y.T : Int)), some (.tup (Y.ls.map lineD)), x9, x10, x11, x12, none, none])
    ⟨_, _, _, _, _, _, rfl⟩ (fun i n e hi ⟨x5, x6, x9, x10, x11, x12, he⟩ => by
      have hn := sok.2 n (List.mem_of_getElem? hi)
      have hg : gs[n]? = some gs[n] := List.getElem?_eq_getElem hn
      have gk := gok _ (List.mem_of_getElem? hg)
      have gx := gs_ix gs n _ hg
      rw [hgs] at gx
      have hf : (ss.take (i + 1)).foldl (stepG gs t) (List.replicate Y.ls.length 0) = stepG gs t ((ss.take i).foldl (stepG gs t) (List.replicate Y.ls.length 0)) n := by
        rw [List.take_succ, hi]; simp
      have vl : ((ss.take i).foldl (stepG gs t) (List.replicate Y.ls.length 0)).length = Y.ls.length := by rw [foldG_len, List.length_replicate]
      generalize (ss.take i).foldl (stepG gs t) (List.replicate Y.ls.length 0) = v at *
      generalize gs[n] = g at *
      have st : stepG gs t v n = if g.first ≤ t ∧ t ≤ g.last then addAt v g.line g.most else v := by unfold stepG; rw [hg]
      have lv : g.line < v.length := by rw [vl]; exact gk.ln
      have au := aug_natD v g.line g.most lv
      refine ⟨[some yd, some gd', some sd, some (.int (t : Int)), some (.lst (natD v)), some (.int (n : Int)), x6, some (.int (Y.T : Int)), some (.tup (Y.ls.map lineD)), x9, x10, x11, x12, none, none], [some yd, some gd', some sd, some (.int (t : Int)), some (.lst (natD (stepG gs t v n))), some (.int (n : Int)), some (.int (g.line : Int)), some (.int (Y.T : Int)), some (.tup (Y.ls.map lineD)), some (.int (g.first : Int)), some (.int (g.last : Int)), some (.int (g.want : Int)), some (.int (g.most : Int)), none, none], by rw [he]; rfl, ?_, _, _, _, _, _, _, by rw [hf]⟩
      have ck := chk_natD [some yd, some gd', some sd, some (.int (t : Int)), some (.lst (natD v)), some (.int (n : Int)), some (.int (g.line : Int)), some (.int (Y.T : Int)), some (.tup (Y.ls.map lineD)), some (.int (g.first : Int)), some (.int (g.last : Int)), some (.int (g.want : Int)), some (.int (g.most : Int)), none, none] 4 v g.line lv rfl
      by_cases c1 : g.first ≤ t
      · by_cases c2 : t ≤ g.last
        · rw [st, if_pos ⟨c1, c2⟩]
          simp [EV, ES, RC, RD, RU, ioE, ioL, bindT, bindTs, gx, Gd.d, cmpD, c1, c2, PU, ck.1, ck.2, au, kil]
        · rw [st, if_neg (fun z => c2 z.2)]
          simp [EV, ES, RC, RD, RU, ioE, ioL, bindT, bindTs, gx, Gd.d, cmpD, c1, c2, PU]
      · rw [st, if_neg (fun z => c1 z.1)]
        simp [EV, ES, RC, RD, RU, ioE, ioL, bindT, bindTs, gx, Gd.d, cmpD, c1, PU])
  rw [List.take_length] at he1
  have dn : (((rangeL 1 (Y.ls.length : Int)).map D.int).reverse) = (downs Y.ls.length).map fun (n : Nat) => D.int (n : Int) := by
    refine List.ext_getElem? fun i => ?_
    have hlen : (rangeL 1 (Y.ls.length : Int)).length = Y.ls.length - 1 := by
      unfold rangeL
      rw [List.length_map, List.length_range]
      omega
    by_cases hi : i < Y.ls.length - 1
    · rw [List.getElem?_reverse (by rw [List.length_map, hlen]; exact hi), List.getElem?_map, List.getElem?_map, List.length_map, hlen]
      unfold rangeL downs
      rw [List.getElem?_map, List.getElem?_map, List.getElem?_range (by omega), List.getElem?_range (by omega)]
      simp only [Option.map_some]
      refine congrArg (fun z => some (D.int z)) ?_
      omega
    · rw [List.getElem?_eq_none (by rw [List.length_reverse, List.length_map, hlen]; omega), List.getElem?_eq_none (by simp [downs]; omega)]
  obtain ⟨e2, lp2, y6, y13, y14, he2⟩ := fr_inv2 (Φ := Φ) (tg := .n 6) (b := (.cons (.asg (.t [(.n 13), (.n 14)]) (.ix (.v 8) (.v 6))) (.cons (.upd 4 [] (.aug .add (.v 13) (.bi .min (.cons (.ix (.v 14) (.v 3)) (.cons (.ix (.v 4) (.v 6)) .nil)))) []) .nil))) (fun (n : Nat) => D.int (n : Int)) (ls := downs Y.ls.length)
    (e := [some yd, some gd', some sd, some (.int (t : Int)), some (.lst (natD (initR Y.ls.length gs ss t))), x5, x6, some (.int (Y.T : Int)), some (.tup (Y.ls.map lineD)), x9, x10, x11, x12, none, none])
    (fun i e => ∃ y6 y13 y14 : Option D, e = [some yd, some gd', some sd, some (.int (t : Int)), some (.lst (natD (((downs Y.ls.length).take i).foldl (stepL Y t) (initR Y.ls.length gs ss t)))), x5, y6, some (.int (Y.T : Int)), some (.tup (Y.ls.map lineD)), x9, x10, x11, x12, y13, y14])
    ⟨_, _, _, rfl⟩ (fun i n e hi ⟨y6, y13, y14, he⟩ => by
      have hn : 0 < n ∧ n < Y.ls.length := by
        obtain ⟨j, hj, rfl⟩ := List.mem_map.mp (List.mem_of_getElem? hi)
        have := List.mem_range.mp hj
        omega
      obtain ⟨a, bs, la, lb, lc, ld, _⟩ := line_at ok hn.2
      obtain ⟨rfl, lab⟩ := lc hn.1
      have lx := ls_ix Y n _ _ la
      have hf : ((downs Y.ls.length).take (i + 1)).foldl (stepL Y t) (initR Y.ls.length gs ss t) = stepL Y t (((downs Y.ls.length).take i).foldl (stepL Y t) (initR Y.ls.length gs ss t)) n := by
        rw [List.take_succ, hi]; simp
      have vl : (((downs Y.ls.length).take i).foldl (stepL Y t) (initR Y.ls.length gs ss t)).length = Y.ls.length := by rw [foldL_len, initR_len]
      generalize ((downs Y.ls.length).take i).foldl (stepL Y t) (initR Y.ls.length gs ss t) = v at *
      have bx := tup_natD bs t _ (ld t ht)
      have vx := ix_natD v n (by omega)
      have mn := minN (bnd Y n t) (v.getD n 0)
      have au := aug_natD v (abo Y n) (min (bnd Y n t) (v.getD n 0)) (by omega)
      have st : stepL Y t v n = addAt v (abo Y n) (min (bnd Y n t) (v.getD n 0)) := rfl
      rw [← st] at au
      have ck := chk_natD [some yd, some gd', some sd, some (.int (t : Int)), some (.lst (natD v)), x5, some (.int (n : Int)), some (.int (Y.T : Int)), some (.tup (Y.ls.map lineD)), x9, x10, x11, x12, some (.int (abo Y n : Int)), some (.tup (natD bs))] 4 v (abo Y n) (by omega) rfl
      refine ⟨[some yd, some gd', some sd, some (.int (t : Int)), some (.lst (natD v)), x5, some (.int (n : Int)), some (.int (Y.T : Int)), some (.tup (Y.ls.map lineD)), x9, x10, x11, x12, y13, y14], [some yd, some gd', some sd, some (.int (t : Int)), some (.lst (natD (stepL Y t v n))), x5, some (.int (n : Int)), some (.int (Y.T : Int)), some (.tup (Y.ls.map lineD)), x9, x10, x11, x12, some (.int (abo Y n : Int)), some (.tup (natD bs))], by rw [he]; rfl, ?_, _, _, _, by rw [hf]⟩
      generalize stepL Y t v n = v2 at *
      generalize min (bnd Y n t) (v.getD n 0) = mm at *
      generalize v.getD n 0 = vn at *
      generalize bnd Y n t = bn at *
      simp [EV, ES, RC, RD, RU, ioE, ioL, bindT, bindTs, lx, aboD, bx, vx, mn, PU, ck.1, ck.2, au, kil])
  rw [List.take_length] at he2
  rw [he1] at lp1
  rw [he2] at lp2
  have rg : rngD [.int 1, .int (Y.ls.length : Int)] = some (rangeL 1 (Y.ls.length : Int)) := by
    have : Y.ls.length < 4000000 := by omega
    simp [rngD, this]
  unfold initR at lp2
  unfold reachR initR
  generalize (List.foldl (stepG gs t) (List.replicate Y.ls.length 0) ss) = v1 at *
  generalize (List.foldl (stepL Y t) v1 (downs Y.ls.length)) = v2 at *
  simp [↓hb, ↓lp1, ↓lp2, df_reached_at, runP_eq, EV, ES, RC, RD, ioE, ioL, bindT, PU, hb, ln, r0, it, rg, dn]
def GivS (F : Fn) : Prop := ∀ (Y : Yd) (gs : List Gd) (ss : List Nat) (t : Nat), Y.Ok → (∀ g ∈ gs, g.Ok Y) → gs.length ≤ 8 → SetOk gs ss → t < Y.T → F [Y.d, gsD gs, numsD ss, .int (t : Int)] = some (.ret (.int (givAt Y gs ss t : Int)) [])
theorem reach_len (Y : Yd) (gs : List Gd) (ss : List Nat) (t : Nat) : (reachR Y gs ss t).length = Y.ls.length := by unfold reachR; rw [foldL_len, initR_len]
theorem s_given_at {Φ : Nat → Fn} {c : Nat} (hc : ReachS (Φ c)) : GivS (runP Φ 4 (df_given_at c)) := by
  intro Y gs ss t ok gok gl sok ht
  have h := hc Y gs ss t ok gok gl sok ht
  have ll1 := ok.l1
  obtain ⟨a, bs, la, lb, _, ld, _⟩ := line_at ok (show 0 < Y.ls.length by omega)
  have i1 : ixD Y.d (.int 1) = some (.tup (Y.ls.map lineD)) := by simp [Yd.d, ixD, ixP]
  have lx : ixD (.tup (Y.ls.map lineD)) (.int 0) = some (.tup [aboD a, .tup (natD bs)]) := ls_ix Y 0 a bs la
  have i2 : ixD (.tup [aboD a, .tup (natD bs)]) (.int 1) = some (.tup (natD bs)) := rfl
  have bx := tup_natD bs t _ (ld t ht)
  have vx : ixD (.lst (natD (reachR Y gs ss t))) (.int 0) = some (.int (((reachR Y gs ss t).getD 0 0 : Nat) : Int)) := ix_natD _ 0 (by rw [reach_len]; omega)
  have mn := minN (bnd Y 0 t) ((reachR Y gs ss t).getD 0 0)
  have gv : givAt Y gs ss t = min (bnd Y 0 t) ((reachR Y gs ss t).getD 0 0) := rfl
  rw [← gv] at mn
  generalize givAt Y gs ss t = gg at *
  generalize (reachR Y gs ss t).getD 0 0 = r0 at *
  generalize bnd Y 0 t = bn at *
  generalize Y.d = yd at *
  simp [df_given_at, runP_eq, EV, ES, RC, RD, ioE, ioL, PU, h, i1, lx, i2, bx, vx, mn]
def MostS (F : Fn) : Prop := ∀ (Y : Yd) (gs : List Gd) (ss : List Nat), Y.Ok → (∀ g ∈ gs, g.Ok Y) → gs.length ≤ 8 → SetOk gs ss → F [Y.d, gsD gs, numsD ss] = some (.ret (.int (givMost Y gs ss : Int)) [])
theorem intsOf_nat : ∀ (v : List Nat), intsOf (natD v) = some (v.map fun (n : Nat) => (n : Int))
  | [] => rfl
  | x :: v => by
    show intsOf (.int (x : Int) :: natD v) = _
    simp only [intsOf, intsOf_nat v, Option.map_some, List.map_cons]
theorem sum_nat : ∀ (v : List Nat), (v.map fun (n : Nat) => (n : Int)).sum = ((v.sum : Nat) : Int)
  | [] => rfl
  | x :: v => by simp [sum_nat v]
theorem sumN (v : List Nat) : biD .sum [.lst (natD v)] = some (.int ((v.sum : Nat) : Int)) := by
  simp only [biD, intsOf_nat, Option.map_some, sum_nat]
theorem rangeL_nat (n : Nat) : (rangeL 0 (n : Int)).map D.int = (List.range n).map fun (i : Nat) => D.int (i : Int) := by
  simp [rangeL, Function.comp_def]
theorem s_given_most {Φ : Nat → Fn} {c : Nat} (hc : GivS (Φ c)) : MostS (runP Φ 3 (df_given_most c)) := by
  intro Y gs ss ok gok gl sok
  have t8 := ok.t8
  have i0 : ixD Y.d (.int 0) = some (.int (Y.T : Int)) := by simp [Yd.d, ixD, ixP]
  have rg := rng_nat Y.T (by omega)
  have c0 : cp Φ (.call c (.cons (.v 0) (.cons (.v 1) (.cons (.v 2) (.cons (.v 3) .nil))))) (.n 3) .nil [3] ((List.range Y.T).map fun (i : Nat) => D.int (i : Int)) [some Y.d, some (gsD gs), some (numsD ss), none] = some (natD ((List.range Y.T).map (givAt Y gs ss))) := by
    have z := cp_map2 (Φ := Φ) (elt := .call c (.cons (.v 0) (.cons (.v 1) (.cons (.v 2) (.cons (.v 3) .nil))))) (tg := .n 3) (os := [3]) (e1 := [some Y.d, some (gsD gs), some (numsD ss), none]) (fun (i : Nat) => D.int (i : Int)) (fun i => D.int (givAt Y gs ss i : Int)) (List.range Y.T) (fun t ht => by
      have := hc Y gs ss t ok gok gl sok (List.mem_range.mp ht)
      refine ⟨_, rfl, [some Y.d, some (gsD gs), some (numsD ss), some (.int (t : Int))], ?_⟩
      simp [EV, RC, RD, ioL, ioE, wipeE, this]) (by rw [List.length_range]; omega)
    rw [z]
    simp [natD]
  have sm := sumN ((List.range Y.T).map (givAt Y gs ss))
  have gm : givMost Y gs ss = ((List.range Y.T).map (givAt Y gs ss)).sum := rfl
  rw [← gm] at sm
  generalize givMost Y gs ss = g0 at *
  generalize natD ((List.range Y.T).map (givAt Y gs ss)) = nd at *
  generalize Y.d = yd at *
  simp [↓c0, df_given_most, runP_eq, EV, ES, RC, RD, ioE, ioL, ioI, PU, i0, rg, rangeL_nat, sm]
end Cy
end
section
set_option linter.all false
set_option maxRecDepth 100000
set_option maxHeartbeats 4000000
/-! Plain: sets picked, what they lack. -/
namespace Cy
open PySem
def PickS (F : Fn) : Prop := ∀ n m : Nat, m ≤ 100 → ∃ ss : List Nat, F [.int (n : Int), .int (m : Int)] = some (.ret (numsD ss) []) ∧ ss.length ≤ m ∧ (∀ s ∈ ss, s < m) ∧ ss.Pairwise (· < ·)
theorem s_picked (Φ : Nat → Fn) : PickS (runP Φ 2 df_law_picked) := by
  intro n m hm
  have rg := rng_nat m (by omega)
  obtain ⟨e', lp, num, ss, x3, he, h1, h2, h3⟩ := fr_inv2 (Φ := Φ) (tg := .n 3) (b := (.cons (.ifs (.cmp .eq (.bin .mod (.v 0) (.c (.int 2))) (.c (.int 1))) (.cons (.upd 2 [] (.app (.pur (.v 3))) []) .nil) .nil) (.cons (.asg (.n 0) (.bin .fdiv (.v 0) (.c (.int 2)))) .nil))) (fun (i : Nat) => D.int (i : Int)) (ls := List.range m) (e := [some (.int (n : Int)), some (.int (m : Int)), some (.lst []), none])
    (fun i e => ∃ (num : Nat) (ss : List Nat) (x3 : Option D), e = [some (.int (num : Int)), some (.int (m : Int)), some (.lst (natD ss)), x3] ∧ ss.length ≤ i ∧ (∀ s ∈ ss, s < i) ∧ ss.Pairwise (· < ·))
    ⟨n, [], none, rfl, Nat.le_refl _, (fun s h => nomatch h), List.Pairwise.nil⟩ (fun i k e hi ⟨num, ss, x3, he, h1, h2, h3⟩ => by
      obtain ⟨hk, hk2⟩ := List.getElem?_eq_some_iff.mp hi
      rw [List.length_range] at hk
      rw [List.getElem_range] at hk2
      subst hk2
      have b1 : binD .mod (.int (num : Int)) (.int 2) = some (.int ((num % 2 : Nat) : Int)) := nMod num 2 (by decide)
      have b2 : binD .fdiv (.int (num : Int)) (.int 2) = some (.int ((num / 2 : Nat) : Int)) := nDiv num 2 (by decide) (dvbN (by decide))
      have l2 : num % 2 < 2 := Nat.mod_lt _ (by decide)
      generalize num % 2 = r at b1 l2
      generalize num / 2 = q at b2
      have hz : ss.length < 1000000 := by omega
      by_cases hr : r = 1
      · subst hr
        refine ⟨_, [some (.int (q : Int)), some (.int (m : Int)), some (.lst (natD (ss ++ [i]))), some (.int (i : Int))], by rw [he]; rfl, ?_, q, ss ++ [i], _, rfl, by simp; omega, fun s hs => ?_, ?_⟩
        · simp [EV, ES, RC, RD, RU, ioE, bindT, b1, b2, cmpD, SHP, EQ, PU, chkP, getP, updD, fApp, natD_len, hz, LMX, kil, natD]
        · rcases List.mem_append.mp hs with hs | hs
          · exact Nat.lt_succ_of_lt (h2 s hs)
          · rw [List.mem_singleton.mp hs]; exact Nat.lt_succ_self _
        · rw [List.pairwise_append]
          exact ⟨h3, List.pairwise_singleton _ _, fun a ha b hb => by rw [List.mem_singleton.mp hb]; exact h2 a ha⟩
      · have hr2 : ((r : Int) == 1) = false := by simp; omega
        refine ⟨_, [some (.int (q : Int)), some (.int (m : Int)), some (.lst (natD ss)), some (.int (i : Int))], by rw [he]; rfl, ?_, q, ss, _, rfl, by omega, fun s hs => Nat.lt_succ_of_lt (h2 s hs), h3⟩
        simp [EV, ES, RC, RD, RU, ioE, bindT, b1, b2, cmpD, SHP, EQ, PU, hr2])
  rw [List.length_range] at h1 h2
  refine ⟨ss, ?_, h1, h2, h3⟩
  rw [he] at lp
  simp [↓lp, df_law_picked, runP_eq, EV, ES, RC, RD, ioE, ioL, bindT, rg, rangeL_nat, numsD]
def wantOf (gs : List Gd) (s : Nat) : Nat := match gs[s]? with
  | some g => g.want
  | none => 0
def wantS (gs : List Gd) (ss : List Nat) : Nat := (ss.map (wantOf gs)).sum
theorem want_ix (gs : List Gd) (s : Nat) (h : s < gs.length) : ∃ g, ixD (gsD gs) (.int (s : Int)) = some g ∧ ixD g (.int 3) = some (.int (wantOf gs s : Int)) := by
  have e : gs[s]? = some gs[s] := List.getElem?_eq_getElem h
  refine ⟨_, gs_ix gs s _ e, ?_⟩
  unfold wantOf
  rw [e]; rfl
def ShortS (F : Fn) : Prop := ∀ (Y : Yd) (gs : List Gd) (ss : List Nat), Y.Ok → (∀ g ∈ gs, g.Ok Y) → gs.length ≤ 8 → SetOk gs ss → F [Y.d, gsD gs, numsD ss] = some (.ret (.int ((wantS gs ss : Int) - (givMost Y gs ss : Int))) [])
/-- the wants of a set, gone through -/
theorem cp_wants {Φ : Nat → Fn} {a b i : Nat} (gs : List Gd) (ss : List Nat) (sok : SetOk gs ss) (e1 : En) (hi : i < e1.length) (ha : a ≠ i) (hg : e1[a]? = some (some (gsD gs))) : cp Φ (.ix (.ix (.v a) (.v i)) (.c (.int 3))) (.n i) .nil [i] (natD ss) e1 = some (natD (ss.map (wantOf gs))) := by
  have z := cp_map2 (Φ := Φ) (elt := .ix (.ix (.v a) (.v i)) (.c (.int 3))) (tg := .n i) (os := [i]) (e1 := e1) (fun (s : Nat) => D.int (s : Int)) (fun s => D.int (wantOf gs s : Int)) ss (fun s hs => by
    obtain ⟨g, h1, h2⟩ := want_ix gs s (sok.2 s hs)
    refine ⟨_, rfl, (wipeE [i] e1).set i (some (.int (s : Int))), ?_⟩
    have g1 : ((wipeE [i] e1).set i (some (.int (s : Int))))[i]? = some (some (.int (s : Int))) := by
      rw [List.getElem?_set_self]
      simp [wipeE, hi]
    have g2 : ((wipeE [i] e1).set i (some (.int (s : Int))))[a]? = some (some (gsD gs)) := by
      rw [List.getElem?_set_ne (Ne.symm ha)]
      simp only [wipeE]
      rw [List.getElem?_set_ne (Ne.symm ha)]; exact hg
    simp [EV, RC, RD, ioE, g1, g2, h1, h2]) (by have := sok.1; omega)
  unfold natD at z ⊢
  rw [z]; simp
theorem s_short {Φ : Nat → Fn} {c : Nat} (hc : MostS (Φ c)) : ShortS (runP Φ 3 (df_short_of c)) := by
  intro Y gs ss ok gok gl sok
  have h := hc Y gs ss ok gok gl sok
  have c0 := cp_wants (Φ := Φ) (a := 1) (b := 0) (i := 3) gs ss sok [some Y.d, some (gsD gs), some (numsD ss), none] (by simp) (by decide) rfl
  have sm := sumN (ss.map (wantOf gs))
  have ws : wantS gs ss = (ss.map (wantOf gs)).sum := rfl
  rw [← ws] at sm
  have it : itemsD (numsD ss) = some (natD ss) := rfl
  generalize wantS gs ss = wt at *
  generalize givMost Y gs ss = g0 at *
  generalize natD (ss.map (wantOf gs)) = nd at *
  have sb : binD .sub (.int (wt : Int)) (.int (g0 : Int)) = some (.int ((wt : Int) - (g0 : Int))) := rfl
  generalize Y.d = yd at *
  simp [↓c0, df_short_of, runP_eq, EV, ES, RC, RD, ioE, ioL, ioI, PU, it, h, sm, sb]
end Cy
end
section
set_option linter.all false
set_option maxRecDepth 100000
set_option maxHeartbeats 4000000
/-! Plain: ways up, lines beneath. -/
namespace Cy
open PySem
def abv (Y : Yd) (l : Nat) : Option Nat := (Y.ls.getD l (none, [])).1
def upF (Y : Yd) : Nat → Option Nat → List Nat
  | 0, _ => []
  | _ + 1, none => []
  | n + 1, some l => l :: upF Y n (abv Y l)
def upO (Y : Yd) : Option Nat → List Nat
  | none => []
  | some l => upF Y (l + 1) (some l)
def upY (Y : Yd) (l : Nat) : List Nat := upO Y (some l)
theorem abv_lt {Y : Yd} (ok : Y.Ok) {l a : Nat} (h : l < Y.ls.length) (e : abv Y l = some a) : a < l ∧ a < Y.ls.length := by
  have e1 : Y.ls[l]? = some Y.ls[l] := List.getElem?_eq_getElem h
  have k := ok.ln l _ e1
  have gd : Y.ls.getD l (none, []) = Y.ls[l] := by rw [List.getD_eq_getElem?_getD, e1]; rfl
  unfold abv at e
  rw [gd] at e
  rcases Nat.eq_zero_or_pos l with z | z
  · rw [k.root z] at e; cases e
  · obtain ⟨j, h1, h2⟩ := k.up z
    rw [h1] at e
    cases e
    exact ⟨h2, by omega⟩
theorem abv_ix (Y : Yd) {l : Nat} (h : l < Y.ls.length) : ∃ r, ixD (.tup (Y.ls.map lineD)) (.int (l : Int)) = some r ∧ ixD r (.int 0) = some (aboD (abv Y l)) := by
  have e1 : Y.ls[l]? = some Y.ls[l] := List.getElem?_eq_getElem h
  obtain ⟨⟨a, bs⟩, hx⟩ : ∃ p, Y.ls[l] = p := ⟨_, rfl⟩
  rw [hx] at e1
  have gd : Y.ls.getD l (none, []) = (a, bs) := by rw [List.getD_eq_getElem?_getD, e1]; rfl
  refine ⟨_, ls_ix Y l a bs e1, ?_⟩
  unfold abv
  rw [gd]; rfl
theorem upF_none (Y : Yd) (n : Nat) : upF Y n none = [] := by cases n <;> rfl
theorem upF_eq {Y : Yd} (ok : Y.Ok) : ∀ (k l n m : Nat), l < k → l < n → l < m → l < Y.ls.length → upF Y n (some l) = upF Y m (some l)
  | 0, l, _, _, h, _, _, _ => absurd h (Nat.not_lt_zero _)
  | k + 1, l, 0, _, _, h, _, _ => absurd h (Nat.not_lt_zero _)
  | k + 1, l, _, 0, _, _, h, _ => absurd h (Nat.not_lt_zero _)
  | k + 1, l, n + 1, m + 1, h1, h2, h3, hl => by
    simp only [upF]
    congr 1
    cases q : abv Y l with
    | none => rw [upF_none, upF_none]
    | some a =>
      have ha := abv_lt ok hl q
      exact upF_eq ok k a n m (by omega) (by omega) (by omega) ha.2
theorem upY_eq {Y : Yd} (ok : Y.Ok) {l : Nat} (hl : l < Y.ls.length) : upY Y l = l :: upO Y (abv Y l) := by
  show upF Y (l + 1) (some l) = _
  simp only [upF]
  congr 1
  cases q : abv Y l with
  | none => exact upF_none _ _
  | some a =>
    have ha := abv_lt ok hl q
    exact upF_eq ok (a + 1) a _ _ (by omega) (by omega) (by omega) ha.2
/-- what is on the way up -/
theorem upY_le {Y : Yd} (ok : Y.Ok) : ∀ (k l : Nat), l < k → l < Y.ls.length → (∀ x ∈ upY Y l, x ≤ l) ∧ (upY Y l).length ≤ l + 1 ∧ (upY Y l).Nodup
  | 0, l, h, _ => absurd h (Nat.not_lt_zero _)
  | k + 1, l, h, hl => by
    rw [upY_eq ok hl]
    cases q : abv Y l with
    | none => exact ⟨fun x hx => by simp [upO] at hx; omega, by simp [upO], by simp [upO]⟩
    | some a =>
      have ha := abv_lt ok hl q
      obtain ⟨h1, h2, h3⟩ := upY_le ok k a (by omega) ha.2
      refine ⟨fun x hx => ?_, ?_, ?_⟩
      · rcases List.mem_cons.mp hx with rfl | hx
        · exact Nat.le_refl _
        · have := h1 x hx; omega
      · have : (upO Y (some a)).length ≤ a + 1 := h2
        simp only [List.length_cons]; omega
      · refine List.nodup_cons.mpr ⟨fun hx => ?_, h3⟩
        have := h1 l hx; omega
theorem upY_mem {Y : Yd} (ok : Y.Ok) {l : Nat} (hl : l < Y.ls.length) : l ∈ upY Y l := by
  rw [upY_eq ok hl]; exact List.mem_cons_self ..
theorem wl_up {Φ : Nat → Fn} (Y : Yd) (ok : Y.Ok) (x1 : Option D) : ∀ (k : Nat) (o : Option Nat) (pre : List Nat), (∀ l, o = some l → l < k ∧ l < Y.ls.length) → pre.length + k ≤ 100 →
    wl Φ (.cmp .notN (.v 3) (.c .non)) (.cons (.upd 2 [] (.app (.pur (.v 3))) []) (.cons (.asg (.n 3) (.ix (.ix (.ix (.v 0) (.c (.int 1))) (.v 3)) (.c (.int 0)))) .nil)) [some Y.d, x1, some (.lst (natD pre)), some (aboD o)] = some (.ok .nx [some Y.d, x1, some (.lst (natD (pre ++ upO Y o))), some .non])
  | k, none, pre, h, hk => by
    rw [wl_done (e1 := [some Y.d, x1, some (.lst (natD pre)), some .non]) (by simp [EV, RC, RD, ioE, PU, aboD, cmpD, isNonD])]
    simp [upO]
  | 0, some l, pre, h, _ => absurd (h l rfl).1 (Nat.not_lt_zero _)
  | k + 1, some l, pre, h, hk => by
    obtain ⟨h1, h2⟩ := h l rfl
    have i1 : ixD Y.d (.int 1) = some (.tup (Y.ls.map lineD)) := by simp [Yd.d, ixD, ixP]
    obtain ⟨r, r1, r2⟩ := abv_ix Y h2
    have hz : pre.length < 1000000 := by omega
    have ih := wl_up (Φ := Φ) Y ok x1 k (abv Y l) (pre ++ [l]) (fun a ha => by have := abv_lt ok h2 ha; omega) (by simp; omega)
    refine (wl_nx (e1 := [some Y.d, x1, some (.lst (natD pre)), some (.int (l : Int))]) (e2 := [some Y.d, x1, some (.lst (natD (pre ++ [l]))), some (aboD (abv Y l))]) ?_ ?_ (ih.trans ?_))
    · simp [EV, RC, RD, ioE, PU, aboD, cmpD, isNonD]
    · generalize Y.d = yd at *
      simp [EV, ES, RC, RD, RU, ioE, bindT, PU, chkP, getP, updD, fApp, natD_len, hz, kil, natD, i1, r1, r2]
    · have e := upY_eq ok h2
      rw [show upO Y (some l) = upY Y l from rfl, e, List.append_assoc]; rfl
def WayS (F : Fn) : Prop := ∀ (Y : Yd) (l : Nat), Y.Ok → l < Y.ls.length → F [Y.d, .int (l : Int)] = some (.ret (numsD (upY Y l)) [])
theorem s_way_up (Φ : Nat → Fn) : WayS (runP Φ 2 df_way_up) := by
  intro Y l ok hl
  have l5 := ok.l5
  have lp := wl_up (Φ := Φ) Y ok (some (.int (l : Int))) l (abv Y l) [l] (fun a ha => abv_lt ok hl ha) (by simp; omega)
  rw [show [l] ++ upO Y (abv Y l) = upY Y l from (upY_eq ok hl).symm] at lp
  have i1 : ixD Y.d (.int 1) = some (.tup (Y.ls.map lineD)) := by simp [Yd.d, ixD, ixP]
  obtain ⟨r, r1, r2⟩ := abv_ix Y hl
  have n1 : natD [l] = [.int (l : Int)] := rfl
  rw [n1] at lp
  generalize Y.d = yd at *
  simp [↓lp, df_way_up, runP_eq, EV, ES, RC, RD, ioE, ioL, bindT, PU, i1, r1, r2, numsD]
theorem wl_lup {Φ : Nat → Fn} (Y : Yd) (ok : Y.Ok) : ∀ (k : Nat) (o : Option Nat) (pre : List Nat), (∀ l, o = some l → l < k ∧ l < Y.ls.length) → pre.length + k ≤ 100 →
    wl Φ (.cmp .notN (.v 1) (.c .non)) (.cons (.upd 2 [] (.app (.pur (.v 1))) []) (.cons (.asg (.n 1) (.ix (.ix (.ix (.v 0) (.c (.int 1))) (.v 1)) (.c (.int 0)))) .nil)) [some Y.d, some (aboD o), some (.lst (natD pre))] = some (.ok .nx [some Y.d, some .non, some (.lst (natD (pre ++ upO Y o)))])
  | k, none, pre, h, hk => by
    rw [wl_done (e1 := [some Y.d, some .non, some (.lst (natD pre))]) (by simp [EV, RC, RD, ioE, PU, aboD, cmpD, isNonD])]
    simp [upO]
  | 0, some l, pre, h, _ => absurd (h l rfl).1 (Nat.not_lt_zero _)
  | k + 1, some l, pre, h, hk => by
    obtain ⟨h1, h2⟩ := h l rfl
    have i1 : ixD Y.d (.int 1) = some (.tup (Y.ls.map lineD)) := by simp [Yd.d, ixD, ixP]
    obtain ⟨r, r1, r2⟩ := abv_ix Y h2
    have hz : pre.length < 1000000 := by omega
    have ih := wl_lup (Φ := Φ) Y ok k (abv Y l) (pre ++ [l]) (fun a ha => by have := abv_lt ok h2 ha; omega) (by simp; omega)
    refine (wl_nx (e1 := [some Y.d, some (.int (l : Int)), some (.lst (natD pre))]) (e2 := [some Y.d, some (aboD (abv Y l)), some (.lst (natD (pre ++ [l])))]) ?_ ?_ (ih.trans ?_))
    · simp [EV, RC, RD, ioE, PU, aboD, cmpD, isNonD]
    · generalize Y.d = yd at *
      simp [EV, ES, RC, RD, RU, ioE, bindT, PU, chkP, getP, updD, fApp, natD_len, hz, kil, natD, i1, r1, r2]
    · have e := upY_eq ok h2
      rw [show upO Y (some l) = upY Y l from rfl, e, List.append_assoc]; rfl
theorem s_law_up (Φ : Nat → Fn) : WayS (runP Φ 2 df_law_up) := by
  intro Y l ok hl
  have l5 := ok.l5
  have lp := wl_lup (Φ := Φ) Y ok (l + 1) (some l) [] (fun a ha => by cases ha; omega) (by simp; omega)
  rw [List.nil_append] at lp
  change _ = some (Rs.ok Ou.nx [some Y.d, some .non, some (.lst (natD (upY Y l)))]) at lp
  have n1 : natD [] = [] := rfl
  have n2 : aboD (some l) = .int (l : Int) := rfl
  rw [n1, n2] at lp
  generalize Y.d = yd at *
  simp [↓lp, df_law_up, runP_eq, EV, ES, RC, RD, ioE, ioL, bindT, PU, numsD]
/-- a line and all beneath it -/
def beneath (Y : Yd) (l : Nat) : List Nat := (List.range Y.ls.length).filter fun m => decide (l ∈ upY Y m)
def BenS (F : Fn) : Prop := ∀ (Y : Yd) (l : Nat), Y.Ok → l < Y.ls.length → F [Y.d, .int (l : Int)] = some (.ret (numsD (beneath Y l)) [])
theorem flat_natD (v : List Nat) : (natD v).all flatD = true := by
  rw [List.all_eq_true]
  intro x hx
  obtain ⟨n, _, rfl⟩ := List.mem_map.mp hx
  rfl
theorem in_natD (v : List Nat) (n : Nat) : inD (.int (n : Int)) (natD v) = decide (n ∈ v) := by
  induction v with
  | nil => rfl
  | cons x v ih =>
    unfold inD natD at *
    simp only [List.map_cons, List.any_cons, ih, EQ]
    by_cases h : n = x
    · subst h; simp
    · have h2 : ((x : Int) == (n : Int)) = false := by simp; omega
      have h3 : ((n : Int) == (x : Int)) = false := by simp; omega
      simp [h, h2, h3]
theorem non_natD (v : List Nat) : inD .non (natD v) = false := by
  induction v with
  | nil => rfl
  | cons x v ih =>
    unfold inD natD at *
    simp only [List.map_cons, List.any_cons, ih, EQ]
    rfl
theorem cmp_in (v : List Nat) (n : Nat) : cmpD .inn (.int (n : Int)) (numsD v) = some (decide (n ∈ v)) := by
  unfold numsD
  simp only [cmpD, flat_natD, in_natD]; rfl
theorem cmp_in_abo (v : List Nat) (o : Option Nat) : cmpD .inn (aboD o) (numsD v) = some (match o with | some n => decide (n ∈ v) | none => false) := by
  cases o with
  | some n => exact cmp_in v n
  | none =>
    show cmpD .inn .non (numsD v) = _
    unfold numsD
    simp only [cmpD, flat_natD, non_natD]; rfl
theorem s_beneath (Φ : Nat → Fn) : BenS (runP Φ 2 df_lines_beneath) := by
  intro Y l ok hl
  have l5 := ok.l5
  have i1 : ixD Y.d (.int 1) = some (.tup (Y.ls.map lineD)) := by simp [Yd.d, ixD, ixP]
  have ln : biD .len [.tup (Y.ls.map lineD)] = some (.int (Y.ls.length : Int)) := by simp [biD]
  have b1 : binD .add (.int (l : Int)) (.int 1) = some (.int ((l + 1 : Nat) : Int)) := nAdd l 1
  have rg : rngD [.int ((l + 1 : Nat) : Int), .int (Y.ls.length : Int)] = some (rangeL ((l + 1 : Nat) : Int) (Y.ls.length : Int)) := by
    have h1 : ((l + 1 : Nat) : Int).natAbs < 4000000 := by omega
    have h2 : (Y.ls.length : Int).natAbs < 4000000 := by omega
    simp only [rngD]
    rw [if_pos (by first | exact ⟨h1, h2⟩ | (constructor <;> omega) | omega)]
  have rr : (rangeL ((l + 1 : Nat) : Int) (Y.ls.length : Int)).map D.int = ((List.range (Y.ls.length - (l + 1))).map fun i => l + 1 + i).map fun (n : Nat) => D.int (n : Int) := by
    unfold rangeL
    have : ((Y.ls.length : Int) - ((l + 1 : Nat) : Int)).toNat = Y.ls.length - (l + 1) := by omega
    rw [this]
    simp [Function.comp_def]
  obtain ⟨e', lp, x3, he⟩ := fr_inv2 (Φ := Φ) (tg := .n 3) (b := (.cons (.ifs (.cmp .inn (.ix (.ix (.ix (.v 0) (.c (.int 1))) (.v 3)) (.c (.int 0))) (.v 2)) (.cons (.upd 2 [] (.app (.pur (.v 3))) []) .nil) .nil) .nil)) (fun (n : Nat) => D.int (n : Int)) (ls := (List.range (Y.ls.length - (l + 1))).map fun i => l + 1 + i)
    (e := [some Y.d, some (.int (l : Int)), some (numsD [l]), none])
    (fun i e => ∃ x3 : Option D, e = [some Y.d, some (.int (l : Int)), some (numsD ((List.range (l + 1 + i)).filter fun m => decide (l ∈ upY Y m))), x3])
    ⟨none, by
      rw [Nat.add_zero, List.range_succ, List.filter_append]
      have : (List.range l).filter (fun m => decide (l ∈ upY Y m)) = [] := by
        rw [List.filter_eq_nil_iff]
        intro m hm hx
        have hm := List.mem_range.mp hm
        have := (upY_le ok (m + 1) m (by omega) (by omega)).1 l (by simpa using hx)
        omega
      rw [this]
      simp [upY_mem ok hl]⟩ (fun i n e hi ⟨x3, he⟩ => by
      obtain ⟨hk, hk2⟩ := List.getElem?_eq_some_iff.mp hi
      rw [List.length_map, List.length_range] at hk
      rw [List.getElem_map, List.getElem_range] at hk2
      subst hk2
      have hn : l + 1 + i < Y.ls.length := by omega
      obtain ⟨r, r1, r2⟩ := abv_ix Y hn
      have e2 : (List.range (l + 1 + (i + 1))).filter (fun m => decide (l ∈ upY Y m)) = ((List.range (l + 1 + i)).filter fun m => decide (l ∈ upY Y m)) ++ (if l ∈ upY Y (l + 1 + i) then [l + 1 + i] else []) := by
        rw [show l + 1 + (i + 1) = (l + 1 + i) + 1 from rfl, List.range_succ, List.filter_append]
        congr 1
        by_cases h : l ∈ upY Y (l + 1 + i) <;> simp [h]
      have cm := cmp_in_abo ((List.range (l + 1 + i)).filter fun m => decide (l ∈ upY Y m)) (abv Y (l + 1 + i))
      have key : (match abv Y (l + 1 + i) with | some n => decide (n ∈ (List.range (l + 1 + i)).filter fun m => decide (l ∈ upY Y m)) | none => false) = decide (l ∈ upY Y (l + 1 + i)) := by
        rw [upY_eq ok hn]
        cases q : abv Y (l + 1 + i) with
        | none =>
          have : ¬ l = l + 1 + i := by omega
          simp [upO]; omega
        | some a =>
          have ha := abv_lt ok hn q
          have : ¬ l = l + 1 + i := by omega
          have h3 : (l = l + 1 + i) = False := by simp; omega
          simp [List.mem_filter, ha.1, h3, upY]
          try rfl
      rw [key] at cm
      have hz : ((List.range (l + 1 + i)).filter fun m => decide (l ∈ upY Y m)).length < 1000000 := by
        have := List.length_filter_le (fun m => decide (l ∈ upY Y m)) (List.range (l + 1 + i))
        rw [List.length_range] at this
        omega
      refine ⟨_, [some Y.d, some (.int (l : Int)), some (numsD ((List.range (l + 1 + (i + 1))).filter fun m => decide (l ∈ upY Y m))), some (.int ((l + 1 + i : Nat) : Int))], by rw [he]; rfl, ?_, _, rfl⟩
      rw [e2]
      generalize ((List.range (l + 1 + i)).filter fun m => decide (l ∈ upY Y m)) = fd at *
      generalize l + 1 + i = n at *
      generalize Y.d = yd at *
      by_cases h : l ∈ upY Y n
      · simp [h] at cm
        have ap : updD [] (fApp (.int (n : Int))) (numsD fd) = some (numsD (fd ++ [n])) := by
          simp [updD, fApp, numsD, natD_len, hz, natD]
        unfold numsD at *
        simp [EV, ES, RC, RD, RU, ioE, bindT, PU, i1, r1, r2, cm, h, chkP, getP, ap, kil]
      · simp [h] at cm
        simp [EV, ES, RC, RD, RU, ioE, bindT, PU, i1, r1, r2, cm, h])
  rw [List.length_map, List.length_range, show l + 1 + (Y.ls.length - (l + 1)) = Y.ls.length by omega] at he
  rw [he] at lp
  have lp : fr Φ (.n 3) (.cons (.ifs (.cmp .inn (.ix (.ix (.ix (.v 0) (.c (.int 1))) (.v 3)) (.c (.int 0))) (.v 2)) (.cons (.upd 2 [] (.app (.pur (.v 3))) []) .nil) .nil) .nil) (((List.range (Y.ls.length - (l + 1))).map fun i => l + 1 + i).map fun (n : Nat) => D.int (n : Int)) [some Y.d, some (.int (l : Int)), some (.lst [.int (l : Int)]), none] = some (.ok .nx [some Y.d, some (.int (l : Int)), some (numsD (beneath Y l)), x3]) := lp
  rw [← rr] at lp
  generalize numsD (beneath Y l) = rs at *
  generalize (l + 1 : Nat) = l1 at *
  generalize Y.d = yd at *
  simp [↓lp, df_lines_beneath, runP_eq, EV, ES, RC, RD, ioE, ioL, bindT, PU, i1, ln, b1, rg]
end Cy
end
section
set_option linter.all false
set_option maxRecDepth 100000
set_option maxHeartbeats 4000000
/-! Plain: fillings drawn. -/
namespace Cy
open PySem
def df_law_taken : Df := ⟨3, [], (.cons (.asg (.n 2) (.bin .mod (.v 0) (.c (.int 4)))) (.cons (.asg (.n 0) (.bin .fdiv (.v 0) (.c (.int 4)))) (.cons (.ifs (.cmp .eq (.v 2) (.c (.int 0))) (.cons (.ret (.tup (.cons (.c (.int 0)) (.cons (.pur (.v 0)) .nil)))) .nil) .nil) (.cons (.ifs (.cmp .eq (.v 2) (.c (.int 1))) (.cons (.ret (.tup (.cons (.bin .mod (.v 0) (.c (.int 10))) (.cons (.bin .fdiv (.v 0) (.c (.int 10))) .nil)))) .nil) .nil) (.cons (.ifs (.cmp .eq (.v 2) (.c (.int 2))) (.cons (.ret (.tup (.cons (.pur (.v 1)) (.cons (.pur (.v 0)) .nil)))) .nil) .nil) (.cons (.ret (.tup (.cons (.bin .mod (.v 0) (.bin .add (.v 1) (.c (.int 1)))) (.cons (.bin .fdiv (.v 0) (.bin .add (.v 1) (.c (.int 1)))) .nil)))) .nil))))))⟩
def df_law_good (c_law_number : Nat) (c_law_taken : Nat) (c_law_up : Nat) : Df := ⟨17, [], (.cons (.asg (.n 3) (.comp (.bi .list (.cons (.pur (.ix (.v 9) (.c (.int 1)))) .nil)) (.n 9) (.val (.ix (.v 1) (.c (.int 1)))) .nil [9])) (.cons (.asg (.n 4) (.lst .nil)) (.cons (.for (.n 5) (.rng (.cons (.bi .len (.cons (.v 2) .nil)) .nil)) (.cons (.asg (.t [(.n 9), (.n 10), (.n 11), (.n 12), (.n 13)]) (.ix (.v 2) (.v 5))) (.cons (.asg (.n 6) (.call c_law_number (.cons (.v 0) (.cons (.bin .add (.c (.int 14)) (.v 5)) .nil)))) (.cons (.asg (.n 7) (.bin .rep (.lst (.cons (.c (.int 0)) .nil)) (.ix (.v 1) (.c (.int 0))))) (.cons (.for (.n 8) (.rng (.cons (.v 10) (.cons (.bin .add (.v 11) (.c (.int 1))) .nil))) (.cons (.asg (.t [(.n 16), (.n 6)]) (.call c_law_taken (.cons (.v 6) (.cons (.v 13) .nil)))) (.cons (.asg (.n 14) (.call c_law_up (.cons (.v 1) (.cons (.v 9) .nil)))) (.cons (.upd 7 [] (.set (.v 8) (.bi .min (.cons (.bin .cat (.lst (.cons (.v 16) (.cons (.v 13) (.cons (.bin .sub (.v 12) (.bi .sum (.cons (.v 7) .nil))) .nil)))) (.comp (.ix (.ix (.v 3) (.v 15)) (.v 8)) (.n 15) (.val (.v 14)) .nil [15])) .nil))) []) (.cons (.for (.n 15) (.val (.v 14)) (.cons (.upd 3 [.i (.v 15)] (.set (.v 8) (.bin .sub (.ix (.ix (.v 3) (.v 15)) (.v 8)) (.ix (.v 7) (.v 8)))) []) .nil)) .nil))))) (.cons (.upd 4 [] (.app (.mv 7)) []) .nil)))))) (.cons (.ret (.mv 4)) .nil))))⟩
def df_law_bent (c_law_number : Nat) : Df := ⟨12, [], (.cons (.asg (.n 4) (.comp (.bi .listp (.cons (.v 11) .nil)) (.n 11) (.val (.v 3)) .nil [11])) (.cons (.asg (.n 5) (.call c_law_number (.cons (.v 0) (.cons (.c (.int 22)) .nil)))) (.cons (.for (.n 6) (.rng (.cons (.bin .mul (.bin .mod (.v 5) (.c (.int 4))) (.bi .int (.cons (.cmp .ne (.v 2) (.lst .nil)) .nil))) .nil)) (.cons (.asg (.n 5) (.bin .fdiv (.v 5) (.c (.int 6)))) (.cons (.asg (.n 7) (.bin .mod (.v 5) (.bi .len (.cons (.v 2) .nil)))) (.cons (.asg (.n 5) (.bin .fdiv (.v 5) (.bi .len (.cons (.v 2) .nil)))) (.cons (.asg (.n 8) (.bin .mod (.v 5) (.ix (.v 1) (.c (.int 0))))) (.cons (.asg (.n 5) (.bin .fdiv (.v 5) (.ix (.v 1) (.c (.int 0))))) (.cons (.asg (.n 9) (.ix (.ix (.v 4) (.v 7)) (.v 8))) (.cons (.asg (.n 10) (.lst (.cons (.bin .sub (.neg (.c (.int 1))) (.bin .mod (.bin .fdiv (.v 5) (.c (.int 6))) (.bin .pow (.c (.int 10)) (.c (.int 20))))) (.cons (.bin .add (.v 9) (.c (.int 1))) (.cons (.bin .add (.v 9) (.bin .mod (.bin .fdiv (.v 5) (.c (.int 6))) (.bin .pow (.c (.int 10)) (.c (.int 30))))) (.cons (.bin .mod (.bin .fdiv (.v 5) (.c (.int 6))) (.bin .pow (.c (.int 10)) (.c (.int 31)))) .nil)))))) (.cons (.upd 4 [.i (.v 7)] (.set (.v 8) (.pur (.ix (.bin .cat (.v 10) (.lst (.cons (.bin .add (.ix (.ix (.v 2) (.v 7)) (.c (.int 4))) (.c (.int 1))) (.cons (.bin .add (.v 9) (.ix (.ix (.v 2) (.v 7)) (.c (.int 3)))) .nil)))) (.bin .mod (.v 5) (.c (.int 6)))))) [9]) (.cons (.asg (.n 5) (.bin .fdiv (.v 5) (.bin .pow (.c (.int 6)) (.c (.int 9))))) .nil)))))))))) (.cons (.ret (.mv 4)) .nil))))⟩
def df_totals_of : Df := ⟨2, [], (.cons (.ret (.comp (.bi .sum (.cons (.v 1) .nil)) (.n 1) (.val (.v 0)) .nil [1])) .nil)⟩
def df_lacks_of (c_totals_of : Nat) : Df := ⟨4, [], (.cons (.ret (.comp (.bin .sub (.ix (.v 2) (.c (.int 3))) (.v 3)) (.t [(.n 2), (.n 3)]) (.zip (.cons (.v 0) (.cons (.call c_totals_of (.cons (.v 1) .nil)) .nil))) .nil [2, 3])) .nil)⟩
def df_loads_of (c_lines_beneath : Nat) : Df := ⟨10, [], (.cons (.asg (.n 3) (.lst .nil)) (.cons (.for (.n 4) (.rng (.cons (.bi .len (.cons (.ix (.v 0) (.c (.int 1))) .nil)) .nil)) (.cons (.asg (.n 5) (.call c_lines_beneath (.cons (.v 0) (.cons (.v 4) .nil)))) (.cons (.asg (.n 6) (.comp (.v 8) (.t [(.n 7), (.n 8)]) (.zip (.cons (.v 1) (.cons (.v 2) .nil))) (.cons (.cmp .inn (.ix (.v 7) (.c (.int 0))) (.v 5)) .nil) [7, 8])) (.cons (.upd 3 [] (.app (.comp (.bi .sum (.cons (.comp (.ix (.v 8) (.v 9)) (.n 8) (.val (.v 6)) .nil [8]) .nil)) (.n 9) (.rng (.cons (.ix (.v 0) (.c (.int 0))) .nil)) .nil [9])) []) .nil)))) (.cons (.ret (.mv 3)) .nil)))⟩
def df_guest_fault : Df := ⟨10, [], (.cons (.asg (.t [(.n 3), (.n 4), (.n 5), (.n 6), (.n 7)]) (.v 0)) (.cons (.for (.t [(.n 8), (.n 9)]) (.enu (.v 2)) (.cons (.ifs (.cmp .lt (.v 9) (.c (.int 0))) (.cons (.ret (.tup (.cons (.c (.str "below")) (.cons (.pur (.v 1)) (.cons (.pur (.v 8)) .nil))))) .nil) .nil) (.cons (.ifs (.and (.cons (.cmp .gt (.v 9) (.c (.int 0))) (.cons (.not (.chn .le .le (.v 4) (.v 8) (.v 5))) .nil))) (.cons (.ret (.tup (.cons (.c (.str "away")) (.cons (.pur (.v 1)) (.cons (.pur (.v 8)) .nil))))) .nil) .nil) (.cons (.ifs (.cmp .gt (.v 9) (.v 7)) (.cons (.ret (.tup (.cons (.c (.str "most")) (.cons (.pur (.v 1)) (.cons (.pur (.v 8)) .nil))))) .nil) .nil) .nil)))) (.cons (.ifs (.cmp .gt (.bi .sum (.cons (.v 2) .nil)) (.v 6)) (.cons (.ret (.tup (.cons (.c (.str "want")) (.cons (.pur (.v 1)) .nil)))) .nil) .nil) (.cons (.ret (.c .non)) .nil))))⟩
def df_fault_of (c_guest_fault : Nat) (c_loads_of : Nat) : Df := ⟨10, [], (.cons (.for (.t [(.n 3), (.n 4)]) (.enu (.v 1)) (.cons (.asg (.n 5) (.call c_guest_fault (.cons (.v 4) (.cons (.v 3) (.cons (.ix (.v 2) (.v 3)) .nil))))) (.cons (.ifs (.cmp .notN (.v 5) (.c .non)) (.cons (.ret (.pur (.v 5))) .nil) .nil) .nil))) (.cons (.for (.t [(.n 6), (.n 7)]) (.enu (.call c_loads_of (.cons (.v 0) (.cons (.v 1) (.cons (.v 2) .nil))))) (.cons (.for (.t [(.n 8), (.n 9)]) (.enu (.v 7)) (.cons (.ifs (.cmp .gt (.v 9) (.ix (.ix (.ix (.ix (.v 0) (.c (.int 1))) (.v 6)) (.c (.int 1))) (.v 8))) (.cons (.ret (.tup (.cons (.c (.str "line")) (.cons (.pur (.v 6)) (.cons (.pur (.v 8)) .nil))))) .nil) .nil) .nil)) .nil)) (.cons (.ret (.c .non)) .nil)))⟩

/-! ### tables -/
def rowD (T : Nat) (g : Nat → Int) : D := .lst ((List.range T).map fun t => .int (g t))
def tabD (L T : Nat) (f : Nat → Nat → Int) : D := .lst ((List.range L).map fun l => rowD T (f l))
def put (g : Nat → Int) (t : Nat) (x : Int) : Nat → Int := fun u => if u = t then x else g u
def put2 (f : Nat → Nat → Int) (l t : Nat) (x : Int) : Nat → Nat → Int := fun l' => if l' = l then put (f l) t x else f l'
theorem row_ix {T t : Nat} (g : Nat → Int) (h : t < T) : ixD (rowD T g) (.int (t : Int)) = some (.int (g t)) := by
  simp only [rowD, ixD, ixP, List.length_map, List.length_range]
  rw [if_pos (by omega), if_pos (by omega)]
  simp [h]
theorem tab_ix {L T l : Nat} (f : Nat → Nat → Int) (h : l < L) : ixD (tabD L T f) (.int (l : Int)) = some (rowD T (f l)) := by
  simp only [tabD, ixD, ixP, List.length_map, List.length_range]
  rw [if_pos (by omega), if_pos (by omega)]
  simp [h]
theorem row_set {T t : Nat} (g : Nat → Int) (x : Int) (h : t < T) : setD (rowD T g) (.int (t : Int)) (.int x) = some (rowD T (put g t x)) := by
  simp only [rowD, setD, ixP, List.length_map, List.length_range]
  rw [if_pos (by omega), if_pos (by omega)]
  simp only [Option.map_some, Int.toNat_natCast]
  congr 2
  refine List.ext_getElem? fun i => ?_
  by_cases hi : i = t
  · subst hi
    rw [List.getElem?_set_self (by simpa using h)]
    simp [h, put]
  · rw [List.getElem?_set_ne (Ne.symm hi)]
    by_cases h2 : i < T
    · simp [h2, put, hi]
    · rw [List.getElem?_eq_none (by simpa using h2), List.getElem?_eq_none (by simpa using h2)]
theorem tab_set {L T l : Nat} (f : Nat → Nat → Int) (g : Nat → Int) (h : l < L) : setD (tabD L T f) (.int (l : Int)) (rowD T g) = some (tabD L T (fun l' => if l' = l then g else f l')) := by
  simp only [tabD, setD, ixP, List.length_map, List.length_range]
  rw [if_pos (by omega), if_pos (by omega)]
  simp only [Option.map_some, Int.toNat_natCast]
  congr 2
  refine List.ext_getElem? fun i => ?_
  by_cases hi : i = l
  · subst hi
    rw [List.getElem?_set_self (by simpa using h)]
    simp [h]
  · rw [List.getElem?_set_ne (Ne.symm hi)]
    by_cases h2 : i < L
    · simp [h2, hi]
    · rw [List.getElem?_eq_none (by simpa using h2), List.getElem?_eq_none (by simpa using h2)]
theorem tab_upd {L T l t : Nat} (f : Nat → Nat → Int) (x : Int) (h : l < L) (ht : t < T) : updD [.i (.int (l : Int))] (fSet (.int (t : Int)) (.int x)) (tabD L T f) = some (tabD L T (put2 f l t x)) := by
  simp only [updD, tab_ix f h, Option.bind_some, fSet, row_set (f l) x ht]
  exact tab_set f _ h
theorem tab_chk {L T l i : Nat} {e : En} (f : Nat → Nat → Int) (h : l < L) (he : e[i]? = some (some (tabD L T f))) : chkP i [.i (.int (l : Int))] e = true := by
  have := tab_ix (T := T) f h
  unfold tabD at this he
  simp only [chkP, he, getP, this, Option.bind_some]
  rfl
theorem row_rep (T : Nat) (h : T < 100000) : binD .rep (.lst [.int 0]) (.int (T : Int)) = some (rowD T fun _ => 0) := by
  rw [rep0 T h]
  unfold rowD natD
  congr 2
  simp [List.map_const']
def sumI (T : Nat) (g : Nat → Int) : Int := ((List.range T).map g).sum
theorem intsOf_map (v : List Int) : intsOf (v.map D.int) = some v := by
  induction v with
  | nil => rfl
  | cons x v ih => simp only [List.map_cons, intsOf, ih, Option.map_some]
theorem row_sum (T : Nat) (g : Nat → Int) : biD .sum [rowD T g] = some (.int (sumI T g)) := by
  have : (List.range T).map (fun t => D.int (g t)) = ((List.range T).map g).map D.int := by simp
  simp only [rowD, biD, this, intsOf_map]; rfl
theorem sumI_succ (T : Nat) (g : Nat → Int) : sumI (T + 1) g = sumI T g + g T := by
  unfold sumI
  rw [List.range_succ, List.map_append, List.sum_append]; simp
theorem sumI_congr {T : Nat} {g h : Nat → Int} (e : ∀ t, t < T → g t = h t) : sumI T g = sumI T h := by
  unfold sumI
  rw [List.map_congr_left fun t ht => e t (List.mem_range.mp ht)]
theorem sumI_put (T : Nat) (g : Nat → Int) (t : Nat) (x : Int) (h : t < T) : sumI T (put g t x) = sumI T g - g t + x := by
  induction T with
  | zero => omega
  | succ T ih =>
    rw [sumI_succ, sumI_succ]
    by_cases h2 : t = T
    · subst h2
      have : sumI t (put g t x) = sumI t g := sumI_congr fun u hu => by unfold put; rw [if_neg (by omega)]
      have h3 : put g t x t = x := by unfold put; rw [if_pos rfl]
      rw [this, h3]; omega
    · have h3 : put g t x T = g T := by unfold put; rw [if_neg (by omega)]
      rw [ih (by omega), h3]; omega
theorem sumI_zero (T : Nat) : sumI T (fun _ => 0) = 0 := by
  induction T with
  | zero => rfl
  | succ T ih => rw [sumI_succ, ih]; rfl
theorem minL_ok : ∀ (ms : List Int) (m : Int), (minL m ms = m ∨ minL m ms ∈ ms) ∧ minL m ms ≤ m ∧ ∀ x ∈ ms, minL m ms ≤ x
  | [], m => ⟨Or.inl rfl, Int.le_refl _, fun x h => nomatch h⟩
  | y :: ms, m => by
    obtain ⟨h1, h2, h3⟩ := minL_ok ms (if y < m then y else m)
    have e : minL m (y :: ms) = minL (if y < m then y else m) ms := rfl
    rw [e]
    refine ⟨?_, ?_, fun x hx => ?_⟩
    · rcases h1 with h1 | h1
      · rw [h1]; split
        · exact Or.inr (List.mem_cons_self ..)
        · exact Or.inl rfl
      · exact Or.inr (List.mem_cons_of_mem _ h1)
    · exact Int.le_trans h2 (by split <;> omega)
    · rcases List.mem_cons.mp hx with rfl | hx
      · exact Int.le_trans h2 (by split <;> omega)
      · exact h3 x hx
theorem min_list (m : Int) (ms : List Int) : ∃ x, biD .min [.lst ((m :: ms).map D.int)] = some (.int x) ∧ (x ∈ m :: ms) ∧ ∀ y ∈ m :: ms, x ≤ y := by
  obtain ⟨h1, h2, h3⟩ := minL_ok ms m
  refine ⟨minL m ms, ?_, ?_, fun y hy => ?_⟩
  · simp only [biD, intsOf_map, Option.bind_some]
  · rcases h1 with h1 | h1
    · rw [h1]; exact List.mem_cons_self ..
    · exact List.mem_cons_of_mem _ h1
  · rcases List.mem_cons.mp hy with rfl | hy
    · exact h2
    · exact h3 y hy
/-! ### fillings -/
abbrev Fil := List (Gd × (Nat → Int))
def fillL (T : Nat) (ps : Fil) : List D := ps.map fun p => rowD T p.2
def fillD (T : Nat) (ps : Fil) : D := .lst (fillL T ps)
def loadY (Y : Yd) (ps : Fil) (l t : Nat) : Int := (ps.map fun p => if l ∈ upY Y p.1.line then p.2 t else 0).sum
structure RowOk (T : Nat) (p : Gd × (Nat → Int)) : Prop where
  lo : ∀ t, t < T → 0 ≤ p.2 t
  hi : ∀ t, t < T → p.2 t ≤ (p.1.most : Int)
  at' : ∀ t, t < T → p.2 t ≠ 0 → p.1.first ≤ t ∧ t ≤ p.1.last
  sm : sumI T p.2 ≤ (p.1.want : Int)
structure FilOk (Y : Yd) (gs : List Gd) (ps : Fil) : Prop where
  fst : ps.map Prod.fst = gs
  row : ∀ p ∈ ps, RowOk Y.T p
  ld : ∀ l t, l < Y.ls.length → t < Y.T → loadY Y ps l t ≤ (bnd Y l t : Int)
def TakS (F : Fn) : Prop := ∀ n most : Nat, most < 10 ^ 40 → ∃ a m : Nat, F [.int (n : Int), .int (most : Int)] = some (.ret (.tup [.int (a : Int), .int (m : Int)]) [])
theorem s_taken (Φ : Nat → Fn) : TakS (runP Φ 2 df_law_taken) := by
  intro n most hmost
  have b1 : binD .mod (.int (n : Int)) (.int 4) = some (.int ((n % 4 : Nat) : Int)) := nMod n 4 (by decide)
  have b2 : binD .fdiv (.int (n : Int)) (.int 4) = some (.int ((n / 4 : Nat) : Int)) := nDiv n 4 (by decide) (dvbN (by decide))
  generalize n % 4 = w at b1
  generalize n / 4 = q at b2
  have b3 : binD .mod (.int (q : Int)) (.int 10) = some (.int ((q % 10 : Nat) : Int)) := nMod q 10 (by decide)
  have b4 : binD .fdiv (.int (q : Int)) (.int 10) = some (.int ((q / 10 : Nat) : Int)) := nDiv q 10 (by decide) (dvbN (by decide))
  have b5 : binD .add (.int (most : Int)) (.int 1) = some (.int ((most + 1 : Nat) : Int)) := nAdd most 1
  have b6 := nMod q (most + 1) (by omega)
  have b7 := nDiv q (most + 1) (by omega) (dvbN (by omega))
  generalize most + 1 = m1 at *
  by_cases h0 : w = 0
  · refine ⟨0, q, ?_⟩
    subst h0
    simp [df_law_taken, runP_eq, EV, ES, RC, RD, ioE, ioL, bindT, b1, b2, cmpD, SHP, EQ, PU]
  · have w0 : ((w : Int) == 0) = false := by simp; omega
    by_cases h1 : w = 1
    · refine ⟨q % 10, q / 10, ?_⟩
      subst h1
      generalize q % 10 = qm at *
      generalize q / 10 = qd at *
      simp [df_law_taken, runP_eq, EV, ES, RC, RD, ioE, ioL, bindT, b1, b2, b3, b4, cmpD, SHP, EQ, PU]
    · have w1 : ((w : Int) == 1) = false := by simp; omega
      by_cases h2 : w = 2
      · refine ⟨most, q, ?_⟩
        subst h2
        simp [df_law_taken, runP_eq, EV, ES, RC, RD, ioE, ioL, bindT, b1, b2, cmpD, SHP, EQ, PU]
      · have w2 : ((w : Int) == 2) = false := by simp; omega
        refine ⟨q % m1, q / m1, ?_⟩
        generalize q % m1 = qm at *
        generalize q / m1 = qd at *
        simp [df_law_taken, runP_eq, EV, ES, RC, RD, ioE, ioL, bindT, b1, b2, b5, b6, b7, cmpD, SHP, EQ, PU, w0, w1, w2]
theorem lines_tab {Y : Yd} (ok : Y.Ok) : Y.ls.map (fun l => D.lst (natD l.2)) = (List.range Y.ls.length).map fun l => rowD Y.T fun t => (bnd Y l t : Int) := by
  refine List.ext_getElem? fun i => ?_
  by_cases hi : i < Y.ls.length
  · obtain ⟨a, bs, la, lb, _, ld, _⟩ := line_at ok hi
    rw [List.getElem?_map, la, List.getElem?_map, List.getElem?_range hi]
    simp only [Option.map_some]
    congr 1
    unfold rowD natD
    congr 1
    refine List.ext_getElem? fun t => ?_
    by_cases ht : t < Y.T
    · rw [List.getElem?_map, List.getElem?_map, ld t ht, List.getElem?_range ht]; rfl
    · rw [List.getElem?_eq_none (by simp; omega), List.getElem?_eq_none (by simpa using ht)]
  · rw [List.getElem?_eq_none (by simpa using hi), List.getElem?_eq_none (by simpa using hi)]
def GoodS (F : Fn) (ns : List Int) (Y : Yd) (gs : List Gd) : Prop := ∃ ps : Fil, F [.scr ns, Y.d, gsD gs] = some (.ret (fillD Y.T ps) []) ∧ FilOk Y gs ps
theorem load_app (Y : Yd) (ps qs : Fil) (l t : Nat) : loadY Y (ps ++ qs) l t = loadY Y ps l t + loadY Y qs l t := by
  unfold loadY; rw [List.map_append, List.sum_append]
theorem s_good {Φ : Nat → Fn} {n tk u : Nat} (ns : List Int) (hn : NumS (Φ n) ns) (ht : TakS (Φ tk)) (hu : WayS (Φ u)) (Y : Yd) (ok : Y.Ok) (gs : List Gd) (gok : ∀ g ∈ gs, g.Ok Y) (gl : gs.length ≤ 8) : GoodS (runP Φ 3 (df_law_good n tk u)) ns Y gs := by
  have t8 := ok.t8
  have ll1 := ok.l1
  have ll5 := ok.l5
  have i0 : ixD Y.d (.int 0) = some (.int (Y.T : Int)) := by simp [Yd.d, ixD, ixP]
  have i1 : ixD Y.d (.int 1) = some (.tup (Y.ls.map lineD)) := by simp [Yd.d, ixD, ixP]
  have len : biD .len [gsD gs] = some (.int (gs.length : Int)) := by simp [biD, gsD]
  have rg := rng_nat gs.length (by omega)
  have rp := row_rep Y.T (by omega)
  have c0 : cp Φ (.bi .list (.cons (.pur (.ix (.v 9) (.c (.int 1)))) .nil)) (.n 9) .nil [9] (Y.ls.map lineD) [some (.scr ns), some Y.d, some (gsD gs), none, none, none, none, none, none, none, none, none, none, none, none, none, none] = some ((List.range Y.ls.length).map fun l => rowD Y.T fun t => (bnd Y l t : Int)) := by
    rw [← lines_tab ok]
    refine cp_map2 (Φ := Φ) (elt := (.bi .list (.cons (.pur (.ix (.v 9) (.c (.int 1)))) .nil))) (tg := (.n 9)) (os := [9]) lineD (fun l => D.lst (natD l.2)) Y.ls (fun l hl => ?_) (by omega)
    refine ⟨_, rfl, [some (.scr ns), some Y.d, some (gsD gs), none, none, none, none, none, none, some (lineD l), none, none, none, none, none, none, none], ?_⟩
    have i2 : ixD (lineD l) (.int 1) = some (.tup (natD l.2)) := rfl
    have pb := pure_natD l.2
    generalize lineD l = ld at *
    generalize Y.d = yd at *
    simp [wipeE, EV, RC, RD, ioE, PU, i2, biD, pb]
  have itl : itemsD (.tup (Y.ls.map lineD)) = some (Y.ls.map lineD) := rfl
  have f0 : D.lst ((List.range Y.ls.length).map fun l => rowD Y.T fun t => (bnd Y l t : Int)) = tabD Y.ls.length Y.T (fun l t => (bnd Y l t : Int)) := rfl
  generalize hyd : Y.d = yd at *
  generalize hgs : gsD gs = gd' at *
  obtain ⟨e', lp, ps, f, y5, y6, y7, y8, y9, y10, y11, y12, y13, y14, y15, y16, he, h1, h2, h3⟩ := fr_inv2 (Φ := Φ) (tg := .n 5) (b := (.cons (.asg (.t [(.n 9), (.n 10), (.n 11), (.n 12), (.n 13)]) (.ix (.v 2) (.v 5))) (.cons (.asg (.n 6) (.call n (.cons (.v 0) (.cons (.bin .add (.c (.int 14)) (.v 5)) .nil)))) (.cons (.asg (.n 7) (.bin .rep (.lst (.cons (.c (.int 0)) .nil)) (.ix (.v 1) (.c (.int 0))))) (.cons (.for (.n 8) (.rng (.cons (.v 10) (.cons (.bin .add (.v 11) (.c (.int 1))) .nil))) (.cons (.asg (.t [(.n 16), (.n 6)]) (.call tk (.cons (.v 6) (.cons (.v 13) .nil)))) (.cons (.asg (.n 14) (.call u (.cons (.v 1) (.cons (.v 9) .nil)))) (.cons (.upd 7 [] (.set (.v 8) (.bi .min (.cons (.bin .cat (.lst (.cons (.v 16) (.cons (.v 13) (.cons (.bin .sub (.v 12) (.bi .sum (.cons (.v 7) .nil))) .nil)))) (.comp (.ix (.ix (.v 3) (.v 15)) (.v 8)) (.n 15) (.val (.v 14)) .nil [15])) .nil))) []) (.cons (.for (.n 15) (.val (.v 14)) (.cons (.upd 3 [.i (.v 15)] (.set (.v 8) (.bin .sub (.ix (.ix (.v 3) (.v 15)) (.v 8)) (.ix (.v 7) (.v 8)))) []) .nil)) .nil))))) (.cons (.upd 4 [] (.app (.mv 7)) []) .nil)))))) (fun (i : Nat) => D.int (i : Int)) (ls := List.range gs.length)
    (e := [some (.scr ns), some yd, some gd', some (tabD Y.ls.length Y.T (fun l t => (bnd Y l t : Int))), some (.lst []), none, none, none, none, none, none, none, none, none, none, none, none])
    (fun k e => ∃ (ps : Fil) (f : Nat → Nat → Int) (y5 y6 y7 y8 y9 y10 y11 y12 y13 y14 y15 y16 : Option D), e = [some (.scr ns), some yd, some gd', some (tabD Y.ls.length Y.T f), some (.lst (fillL Y.T ps)), y5, y6, y7, y8, y9, y10, y11, y12, y13, y14, y15, y16] ∧
      ps.map Prod.fst = gs.take k ∧ (∀ p ∈ ps, RowOk Y.T p) ∧ ∀ l t, l < Y.ls.length → t < Y.T → f l t = (bnd Y l t : Int) - loadY Y ps l t ∧ 0 ≤ f l t)
    ⟨[], _, _, _, _, _, _, _, _, _, _, _, _, _, rfl, by simp, (fun p h => nomatch h), fun l t hl ht => ⟨by simp [loadY], by omega⟩⟩ (fun k k' e hi ⟨ps, f, y5, y6, y7, y8, y9, y10, y11, y12, y13, y14, y15, y16, he, h1, h2, h3⟩ => by
      obtain ⟨hk, hk2⟩ := List.getElem?_eq_some_iff.mp hi
      rw [List.length_range] at hk
      rw [List.getElem_range] at hk2
      subst hk2
      have hg : gs[k]? = some gs[k] := List.getElem?_eq_getElem hk
      have gk := gok _ (List.mem_of_getElem? hg)
      have gx := gs_ix gs k _ hg
      rw [hgs] at gx
      have tk1 : gs.take (k + 1) = gs.take k ++ [gs[k]] := by rw [List.take_succ, hg]; rfl
      generalize gs[k] = g at *
      obtain ⟨num, hnum⟩ := hn (14 + k) (by omega)
      have a1 : binD .add (.int 14) (.int (k : Int)) = some (.int ((14 + k : Nat) : Int)) := nAdd 14 k
      generalize 14 + k = ki at hnum a1
      have pl : ps.length ≤ 8 := by
        have := congrArg List.length h1
        rw [List.length_map, List.length_take] at this
        omega
      have fl := gk.fl
      have lt := gk.lt
      have gln := gk.ln
      have b1 : binD .add (.int (g.last : Int)) (.int 1) = some (.int ((g.last + 1 : Nat) : Int)) := nAdd g.last 1
      have rg2 : rngD [.int (g.first : Int), .int ((g.last + 1 : Nat) : Int)] = some (rangeL (g.first : Int) ((g.last + 1 : Nat) : Int)) := by
        have h1 : (g.first : Int).natAbs < 4000000 := by omega
        have h2 : ((g.last + 1 : Nat) : Int).natAbs < 4000000 := by omega
        simp only [rngD]
        rw [if_pos (by first | exact ⟨h1, h2⟩ | (constructor <;> omega) | omega)]
      have rr : (rangeL (g.first : Int) ((g.last + 1 : Nat) : Int)).map D.int = ((List.range (g.last + 1 - g.first)).map fun i => g.first + i).map fun (n : Nat) => D.int (n : Int) := by
        unfold rangeL
        have : (((g.last + 1 : Nat) : Int) - (g.first : Int)).toNat = g.last + 1 - g.first := by omega
        rw [this]
        simp [Function.comp_def]
      have hup := hu Y g.line ok gln
      rw [hyd] at hup
      obtain ⟨ule, ulen, und⟩ := upY_le ok (g.line + 1) g.line (by omega) gln
      have most40 : g.most < 10 ^ 40 := Nat.lt_trans gk.m2 (by decide)
      obtain ⟨e1, lp1, num1, r, f1, z8, z14, z15, z16, he1, r1, r2, r3, r4⟩ := fr_inv2 (Φ := Φ) (tg := .n 8) (b := (.cons (.asg (.t [(.n 16), (.n 6)]) (.call tk (.cons (.v 6) (.cons (.v 13) .nil)))) (.cons (.asg (.n 14) (.call u (.cons (.v 1) (.cons (.v 9) .nil)))) (.cons (.upd 7 [] (.set (.v 8) (.bi .min (.cons (.bin .cat (.lst (.cons (.v 16) (.cons (.v 13) (.cons (.bin .sub (.v 12) (.bi .sum (.cons (.v 7) .nil))) .nil)))) (.comp (.ix (.ix (.v 3) (.v 15)) (.v 8)) (.n 15) (.val (.v 14)) .nil [15])) .nil))) []) (.cons (.for (.n 15) (.val (.v 14)) (.cons (.upd 3 [.i (.v 15)] (.set (.v 8) (.bin .sub (.ix (.ix (.v 3) (.v 15)) (.v 8)) (.ix (.v 7) (.v 8)))) []) .nil)) .nil))))) (fun (i : Nat) => D.int (i : Int)) (ls := (List.range (g.last + 1 - g.first)).map fun i => g.first + i)
        (e := [some (.scr ns), some yd, some gd', some (tabD Y.ls.length Y.T f), some (.lst (fillL Y.T ps)), some (.int (k : Int)), some (.int (num : Int)), some (rowD Y.T fun _ => 0), y8, some (.int (g.line : Int)), some (.int (g.first : Int)), some (.int (g.last : Int)), some (.int (g.want : Int)), some (.int (g.most : Int)), y14, y15, y16])
        (fun i e => ∃ (num1 : Nat) (r : Nat → Int) (f1 : Nat → Nat → Int) (z8 z14 z15 z16 : Option D), e = [some (.scr ns), some yd, some gd', some (tabD Y.ls.length Y.T f1), some (.lst (fillL Y.T ps)), some (.int (k : Int)), some (.int (num1 : Int)), some (rowD Y.T r), z8, some (.int (g.line : Int)), some (.int (g.first : Int)), some (.int (g.last : Int)), some (.int (g.want : Int)), some (.int (g.most : Int)), z14, z15, z16] ∧
          (∀ t, t < Y.T → 0 ≤ r t ∧ r t ≤ (g.most : Int)) ∧ (∀ t, r t ≠ 0 → g.first ≤ t ∧ t < g.first + i) ∧ sumI Y.T r ≤ (g.want : Int) ∧
          ∀ l t, l < Y.ls.length → t < Y.T → f1 l t = f l t - (if l ∈ upY Y g.line then r t else 0) ∧ 0 ≤ f1 l t)
        ⟨num, fun _ => 0, f, _, _, _, _, rfl, fun t _ => ⟨Int.le_refl _, Int.natCast_nonneg _⟩, (fun t h => absurd rfl h), by rw [sumI_zero]; omega, fun l t hl ht => ⟨by simp, (h3 l t hl ht).2⟩⟩ (fun i t e hi ⟨num1, r, f1, z8, z14, z15, z16, he, r1, r2, r3, r4⟩ => by
          obtain ⟨hk, hk2⟩ := List.getElem?_eq_some_iff.mp hi
          rw [List.length_map, List.length_range] at hk
          rw [List.getElem_map, List.getElem_range] at hk2
          have htT : t < Y.T := by omega
          obtain ⟨am, num2, htk⟩ := ht num1 g.most most40
          have r0 : r t = 0 := by
            by_cases z : r t = 0
            · exact z
            · have := r2 t z; omega
          have sm := row_sum Y.T r
          have sb : binD .sub (.int (g.want : Int)) (.int (sumI Y.T r)) = some (.int ((g.want : Int) - sumI Y.T r)) := rfl
          have c1 : cp Φ (.ix (.ix (.v 3) (.v 15)) (.v 8)) (.n 15) .nil [15] (natD (upY Y g.line)) [some (.scr ns), some yd, some gd', some (tabD Y.ls.length Y.T f1), some (.lst (fillL Y.T ps)), some (.int (k : Int)), some (.int (num2 : Int)), some (rowD Y.T r), some (.int (t : Int)), some (.int (g.line : Int)), some (.int (g.first : Int)), some (.int (g.last : Int)), some (.int (g.want : Int)), some (.int (g.most : Int)), some (numsD (upY Y g.line)), z15, some (.int (am : Int))] = some (((upY Y g.line).map fun l => f1 l t).map D.int) := by
            have z := cp_map2 (Φ := Φ) (elt := (.ix (.ix (.v 3) (.v 15)) (.v 8))) (tg := (.n 15)) (os := [15]) (e1 := [some (.scr ns), some yd, some gd', some (tabD Y.ls.length Y.T f1), some (.lst (fillL Y.T ps)), some (.int (k : Int)), some (.int (num2 : Int)), some (rowD Y.T r), some (.int (t : Int)), some (.int (g.line : Int)), some (.int (g.first : Int)), some (.int (g.last : Int)), some (.int (g.want : Int)), some (.int (g.most : Int)), some (numsD (upY Y g.line)), z15, some (.int (am : Int))]) (fun (s : Nat) => D.int (s : Int)) (fun l => D.int (f1 l t)) (upY Y g.line) (fun l hl => by
              have hlL : l < Y.ls.length := by have := ule l hl; omega
              have x1 := tab_ix (T := Y.T) f1 hlL
              have x2 := row_ix (f1 l) htT
              refine ⟨_, rfl, [some (.scr ns), some yd, some gd', some (tabD Y.ls.length Y.T f1), some (.lst (fillL Y.T ps)), some (.int (k : Int)), some (.int (num2 : Int)), some (rowD Y.T r), some (.int (t : Int)), some (.int (g.line : Int)), some (.int (g.first : Int)), some (.int (g.last : Int)), some (.int (g.want : Int)), some (.int (g.most : Int)), some (numsD (upY Y g.line)), some (.int (l : Int)), some (.int (am : Int))], ?_⟩
              generalize tabD Y.ls.length Y.T f1 = tb at *
              simp [wipeE, EV, RC, RD, ioE, PU, x1, x2]) (by omega)
            unfold natD at z ⊢
            rw [z, List.map_map]; rfl
          have cat : binD .cat (.lst [.int (am : Int), .int (g.most : Int), .int ((g.want : Int) - sumI Y.T r)]) (.lst (((upY Y g.line).map fun l => f1 l t).map D.int)) = some (.lst (((am : Int) :: (g.most : Int) :: ((g.want : Int) - sumI Y.T r) :: (upY Y g.line).map fun l => f1 l t).map D.int)) := by
            have hz : (((upY Y g.line).map fun l => f1 l t).map D.int).length ≤ 100 := by rw [List.length_map, List.length_map]; omega
            simp only [binD]
            have hx : LMX = 1000000 := rfl
            rw [if_pos (by simp; omega)]; rfl
          obtain ⟨x, mn, xm, xl⟩ := min_list (am : Int) ((g.most : Int) :: ((g.want : Int) - sumI Y.T r) :: (upY Y g.line).map fun l => f1 l t)
          have x0 : 0 ≤ x := by
            rcases List.mem_cons.mp xm with rfl | xm
            · omega
            · rcases List.mem_cons.mp xm with rfl | xm
              · omega
              · rcases List.mem_cons.mp xm with rfl | xm
                · omega
                · obtain ⟨l, hl, rfl⟩ := List.mem_map.mp xm
                  exact (r4 l t (by have := ule l hl; omega) htT).2
          have xmost : x ≤ (g.most : Int) := xl _ (List.mem_cons_of_mem _ (List.mem_cons_self ..))
          have xwant : x ≤ (g.want : Int) - sumI Y.T r := xl _ (List.mem_cons_of_mem _ (List.mem_cons_of_mem _ (List.mem_cons_self ..)))
          have xup : ∀ l ∈ upY Y g.line, x ≤ f1 l t := fun l hl => xl _ (List.mem_cons_of_mem _ (List.mem_cons_of_mem _ (List.mem_cons_of_mem _ (List.mem_map_of_mem hl))))
          have st := row_set r x htT
          have px := row_ix (put r t x) htT
          have pt : put r t x t = x := by unfold put; rw [if_pos rfl]
          rw [pt] at px
          have itn : itemsD (numsD (upY Y g.line)) = some (natD (upY Y g.line)) := rfl
          have ckr : ∀ (e : En), e[7]? = some (some (rowD Y.T r)) → chkP 7 [] e = true := fun e h => by simp [chkP, h, getP, rowD]
          -- down the way up
          obtain ⟨e2, lp2, f2, w15, he2, q1⟩ := fr_inv2 (Φ := Φ) (tg := .n 15) (b := (.cons (.upd 3 [.i (.v 15)] (.set (.v 8) (.bin .sub (.ix (.ix (.v 3) (.v 15)) (.v 8)) (.ix (.v 7) (.v 8)))) []) .nil)) (fun (i : Nat) => D.int (i : Int)) (ls := upY Y g.line)
            (e := [some (.scr ns), some yd, some gd', some (tabD Y.ls.length Y.T f1), some (.lst (fillL Y.T ps)), some (.int (k : Int)), some (.int (num2 : Int)), some (rowD Y.T (put r t x)), some (.int (t : Int)), some (.int (g.line : Int)), some (.int (g.first : Int)), some (.int (g.last : Int)), some (.int (g.want : Int)), some (.int (g.most : Int)), some (numsD (upY Y g.line)), z15, some (.int (am : Int))])
            (fun j e => ∃ (f2 : Nat → Nat → Int) (w15 : Option D), e = [some (.scr ns), some yd, some gd', some (tabD Y.ls.length Y.T f2), some (.lst (fillL Y.T ps)), some (.int (k : Int)), some (.int (num2 : Int)), some (rowD Y.T (put r t x)), some (.int (t : Int)), some (.int (g.line : Int)), some (.int (g.first : Int)), some (.int (g.last : Int)), some (.int (g.want : Int)), some (.int (g.most : Int)), some (numsD (upY Y g.line)), w15, some (.int (am : Int))] ∧
              ∀ l t', f2 l t' = f1 l t' - (if l ∈ (upY Y g.line).take j ∧ t' = t then x else 0))
            ⟨f1, _, rfl, fun l t' => by simp⟩ (fun j l e hj ⟨f2, w15, he, q1⟩ => by
              have hlm := List.mem_of_getElem? hj
              have hlL : l < Y.ls.length := by have := ule l hlm; omega
              have x1 := tab_ix (T := Y.T) f2 hlL
              have x2 := row_ix (f2 l) htT
              have sb2 : binD .sub (.int (f2 l t)) (.int x) = some (.int (f2 l t - x)) := rfl
              have up := tab_upd f2 (f2 l t - x) hlL htT
              have tkj : (upY Y g.line).take (j + 1) = (upY Y g.line).take j ++ [l] := by rw [List.take_succ, hj]; rfl
              have nin : ¬ l ∈ (upY Y g.line).take j := fun h => by
                have h2 : ((upY Y g.line).take (j + 1)).Nodup := und.sublist (List.take_sublist _ _)
                rw [tkj, List.nodup_append] at h2
                exact h2.2.2 l h l (List.mem_singleton.mpr rfl) rfl
              refine ⟨_, [some (.scr ns), some yd, some gd', some (tabD Y.ls.length Y.T (put2 f2 l t (f2 l t - x))), some (.lst (fillL Y.T ps)), some (.int (k : Int)), some (.int (num2 : Int)), some (rowD Y.T (put r t x)), some (.int (t : Int)), some (.int (g.line : Int)), some (.int (g.first : Int)), some (.int (g.last : Int)), some (.int (g.want : Int)), some (.int (g.most : Int)), some (numsD (upY Y g.line)), some (.int (l : Int)), some (.int (am : Int))], by rw [he]; rfl, ?_, _, _, rfl, fun l' t' => ?_⟩
              · have ck : ∀ (e : En), e[3]? = some (some (tabD Y.ls.length Y.T f2)) → chkP 3 [.i (.int (l : Int))] e = true := fun e h => tab_chk f2 hlL h
                generalize tabD Y.ls.length Y.T (put2 f2 l t (f2 l t - x)) = tb2 at *
                generalize tabD Y.ls.length Y.T f2 = tb at *
                generalize rowD Y.T (put r t x) = rw' at *
                generalize rowD Y.T (f2 l) = rl at *
                generalize f2 l t = flt at *
                simp [EV, ES, RC, RD, RU, ioE, PU, x1, x2, px, sb2, up, ck, kil]
              · rw [tkj]
                unfold put2 put
                by_cases e1 : l' = l
                · subst e1
                  rw [if_pos rfl]
                  by_cases e2 : t' = t
                  · subst e2
                    have q := q1 l' t'
                    rw [if_neg (fun z => nin z.1)] at q
                    rw [if_pos rfl, if_pos ⟨List.mem_append_right _ (List.mem_singleton.mpr rfl), rfl⟩, q]; omega
                  · have q := q1 l' t'
                    rw [if_neg (fun z => e2 z.2)] at q
                    rw [if_neg e2, if_neg (fun z => e2 z.2), q]
                · rw [if_neg e1]
                  have q := q1 l' t'
                  have : (l' ∈ (upY Y g.line).take j ++ [l] ∧ t' = t) ↔ (l' ∈ (upY Y g.line).take j ∧ t' = t) := by
                    simp [e1]
                  rw [q]; simp only [this])
          rw [List.take_length] at q1
          rw [he2] at lp2
          have lp2 : fr Φ (.n 15) (.cons (.upd 3 [.i (.v 15)] (.set (.v 8) (.bin .sub (.ix (.ix (.v 3) (.v 15)) (.v 8)) (.ix (.v 7) (.v 8)))) []) .nil) (natD (upY Y g.line)) [some (.scr ns), some yd, some gd', some (tabD Y.ls.length Y.T f1), some (.lst (fillL Y.T ps)), some (.int (k : Int)), some (.int (num2 : Int)), some (rowD Y.T (put r t x)), some (.int (t : Int)), some (.int (g.line : Int)), some (.int (g.first : Int)), some (.int (g.last : Int)), some (.int (g.want : Int)), some (.int (g.most : Int)), some (numsD (upY Y g.line)), z15, some (.int (am : Int))] = _ := lp2
          refine ⟨_, [some (.scr ns), some yd, some gd', some (tabD Y.ls.length Y.T f2), some (.lst (fillL Y.T ps)), some (.int (k : Int)), some (.int (num2 : Int)), some (rowD Y.T (put r t x)), some (.int (t : Int)), some (.int (g.line : Int)), some (.int (g.first : Int)), some (.int (g.last : Int)), some (.int (g.want : Int)), some (.int (g.most : Int)), some (numsD (upY Y g.line)), w15, some (.int (am : Int))], by rw [he]; rfl, ?_, num2, put r t x, f2, _, _, _, _, rfl, fun t' h' => ?_, fun t' h' => ?_, ?_, fun l t' hl h' => ?_⟩
          · generalize ((am : Int) :: (g.most : Int) :: ((g.want : Int) - sumI Y.T r) :: (upY Y g.line).map fun l => f1 l t).map D.int = ml at *
            generalize ((upY Y g.line).map fun l => f1 l t).map D.int = ul at *
            generalize tabD Y.ls.length Y.T f1 = tb at *
            generalize tabD Y.ls.length Y.T f2 = tb2 at *
            generalize rowD Y.T (put r t x) = rw' at *
            generalize rowD Y.T r = rw0 at *
            generalize natD (upY Y g.line) = nu at *
            generalize numsD (upY Y g.line) = un at *
            generalize (g.want : Int) - sumI Y.T r = wr at *
            generalize sumI Y.T r = sr at *
            simp [↓c1, ↓lp2, EV, ES, RC, RD, RU, ioE, ioL, ioI, bindT, bindTs, PU, htk, hup, itn, sm, sb, cat, mn, updD, fSet, st, ckr, kil]
          · unfold put
            split
            · exact ⟨x0, xmost⟩
            · exact r1 t' h'
          · unfold put at h'
            by_cases e1 : t' = t
            · omega
            · rw [if_neg e1] at h'
              have := r2 t' h'
              omega
          · rw [sumI_put Y.T r t x htT, r0]; omega
          · have q := q1 l t'
            have r4' := r4 l t' hl h'
            unfold put
            by_cases e1 : t' = t
            · subst e1
              rw [if_pos rfl]
              by_cases e2 : l ∈ upY Y g.line
              · rw [if_pos ⟨e2, rfl⟩] at q
                rw [if_pos e2] at r4'
                have := xup l e2
                rw [if_pos e2]
                omega
              · rw [if_neg (fun z => e2 z.1)] at q
                rw [if_neg e2] at r4' ⊢
                omega
            · rw [if_neg (fun z => e1 z.2)] at q
              rw [if_neg e1]
              omega)
      rw [List.length_map, List.length_range, show g.first + (g.last + 1 - g.first) = g.last + 1 by omega] at r2
      rw [he1, ← rr] at lp1
      have hz : (fillL Y.T ps).length < 1000000 := by unfold fillL; rw [List.length_map]; omega
      have fla : fillL Y.T (ps ++ [(g, r)]) = fillL Y.T ps ++ [rowD Y.T r] := by unfold fillL; rw [List.map_append]; rfl
      refine ⟨_, [some (.scr ns), some yd, some gd', some (tabD Y.ls.length Y.T f1), some (.lst (fillL Y.T (ps ++ [(g, r)]))), some (.int (k : Int)), some (.int (num1 : Int)), none, z8, some (.int (g.line : Int)), some (.int (g.first : Int)), some (.int (g.last : Int)), some (.int (g.want : Int)), some (.int (g.most : Int)), z14, z15, z16], by rw [he]; rfl, ?_, ps ++ [(g, r)], f1, _, _, _, _, _, _, _, _, _, _, _, _, rfl, ?_, fun p hp => ?_, fun l t hl h' => ?_⟩
      · rw [fla]
        generalize fillL Y.T ps = fp at *
        generalize tabD Y.ls.length Y.T f = tb at *
        generalize tabD Y.ls.length Y.T f1 = tb2 at *
        generalize rowD Y.T r = rw' at *
        generalize (rowD Y.T fun _ => 0) = rw0 at *
        generalize g.last + 1 = gl1 at *
        simp [↓lp1, EV, ES, RC, RD, RU, ioE, ioL, bindT, bindTs, PU, gx, Gd.d, a1, hnum, i0, rp, b1, rg2, chkP, getP, updD, fApp, hz, kil]
      · rw [List.map_append, h1, tk1]; rfl
      · rcases List.mem_append.mp hp with hp | hp
        · exact h2 p hp
        · rw [List.mem_singleton.mp hp]
          exact ⟨fun t h => (r1 t h).1, fun t h => (r1 t h).2, fun t h z => by have := r2 t z; exact ⟨this.1, by show t ≤ g.last; omega⟩, r3⟩
      · have q := r4 l t hl h'
        have q2 := h3 l t hl h'
        rw [load_app]
        have : loadY Y [(g, r)] l t = if l ∈ upY Y g.line then r t else 0 := by simp [loadY]
        rw [this]
        omega)
  rw [List.length_range, List.take_of_length_le (Nat.le_refl _)] at h1
  rw [he, ← rangeL_nat] at lp
  refine ⟨ps, ?_, h1, h2, fun l t hl ht => ?_⟩
  · rw [hyd, hgs]
    unfold fillD
    generalize fillL Y.T ps = fp at *
    generalize tabD Y.ls.length Y.T f = tb at *
    rw [← f0] at lp
    generalize (List.range Y.ls.length).map (fun l => rowD Y.T fun t => (bnd Y l t : Int)) = bl at *
    simp [↓c0, ↓lp, df_law_good, runP_eq, EV, ES, RC, RD, ioE, ioL, ioI, bindT, PU, i1, itl, len, rg]
  · have := h3 l t hl ht
    omega
end Cy
end
section
set_option linter.all false
set_option maxRecDepth 100000
set_option maxHeartbeats 4000000
/-! Plain: fillings bent, totals, lacks. -/
namespace Cy
open PySem
def ofTab (gs : List Gd) (f : Nat → Nat → Int) : Fil := gs.zipIdx.map fun p => (p.1, f p.2)
theorem ofTab_fst (gs : List Gd) (f : Nat → Nat → Int) : (ofTab gs f).map Prod.fst = gs := by
  unfold ofTab
  rw [List.map_map]
  have : (Prod.fst ∘ fun p : Gd × Nat => (p.1, f p.2)) = Prod.fst := rfl
  rw [this]
  refine List.ext_getElem? fun i => ?_
  simp
theorem ofTab_d (T : Nat) (gs : List Gd) (f : Nat → Nat → Int) : fillD T (ofTab gs f) = tabD gs.length T f := by
  unfold fillD fillL ofTab tabD
  congr 1
  rw [List.map_map]
  refine List.ext_getElem? fun i => ?_
  by_cases h : i < gs.length
  · simp [h]
  · rw [List.getElem?_eq_none (by simp; omega), List.getElem?_eq_none (by simp; omega)]
theorem fill_tab (T : Nat) (ps : Fil) : ∃ f, fillD T ps = tabD ps.length T f ∧ ∀ k p, ps[k]? = some p → f k = p.2 := by
  refine ⟨fun k => match ps[k]? with | some p => p.2 | none => fun _ => 0, ?_, fun k p h => by simp only [h]⟩
  unfold fillD fillL tabD
  congr 1
  refine List.ext_getElem? fun i => ?_
  by_cases h : i < ps.length
  · simp [h]
  · rw [List.getElem?_eq_none (by simp; omega), List.getElem?_eq_none (by simp; omega)]
theorem fil_len {gs : List Gd} {ps : Fil} (h : ps.map Prod.fst = gs) : ps.length = gs.length := by rw [← h, List.length_map]
def BentS (F : Fn) (ns : List Int) : Prop := ∀ (Y : Yd) (gs : List Gd) (ps : Fil), Y.Ok → (∀ g ∈ gs, g.Ok Y) → gs.length ≤ 8 → ps.map Prod.fst = gs → ∃ ps' : Fil, F [.scr ns, Y.d, gsD gs, fillD Y.T ps] = some (.ret (fillD Y.T ps') []) ∧ ps'.map Prod.fst = gs
theorem pick6 (a b c d e f : Int) (r : Nat) (h : r < 6) : ∃ x : Int, ixD (.lst [.int a, .int b, .int c, .int d, .int e, .int f]) (.int (r : Int)) = some (.int x) := by
  have : r = 0 ∨ r = 1 ∨ r = 2 ∨ r = 3 ∨ r = 4 ∨ r = 5 := by omega
  rcases this with rfl | rfl | rfl | rfl | rfl | rfl
  · exact ⟨a, rfl⟩
  · exact ⟨b, rfl⟩
  · exact ⟨c, rfl⟩
  · exact ⟨d, rfl⟩
  · exact ⟨e, rfl⟩
  · exact ⟨f, rfl⟩
theorem rowD_pure (T : Nat) (g : Nat → Int) : pureDs ((List.range T).map fun t => D.int (g t)) = true := by
  rw [pureDs_all]; simp [PU]
theorem rows_cp {Φ : Nat → Fn} {ps : Fil} {T : Nat} {e1 : En} {i : Nat} (hi : i < e1.length) (hl : ps.length ≤ 100) : cp Φ (.bi .listp (.cons (.v i) .nil)) (.n i) .nil [i] (fillL T ps) e1 = some (fillL T ps) := by
  unfold fillL
  refine cp_map2 (Φ := Φ) (elt := .bi .listp (.cons (.v i) .nil)) (tg := .n i) (os := [i]) (e1 := e1) (fun p : Gd × (Nat → Int) => rowD T p.2) (fun p => rowD T p.2) ps (fun p hp => ?_) (by omega)
  refine ⟨_, rfl, (wipeE [i] e1).set i (some (rowD T p.2)), ?_⟩
  have g1 : ((wipeE [i] e1).set i (some (rowD T p.2)))[i]? = some (some (rowD T p.2)) := by
    rw [List.getElem?_set_self]
    simp [wipeE, hi]
  have b : biD .listp [rowD T p.2] = some (rowD T p.2) := by
    unfold rowD
    simp only [biD, rowD_pure, if_pos]
  simp [EV, RC, RD, ioL, g1, b]
theorem s_bent {Φ : Nat → Fn} {n : Nat} (ns : List Int) (hn : NumS (Φ n) ns) : BentS (runP Φ 4 (df_law_bent n)) ns := by
  intro Y gs ps ok gok gl hfst
  have t1 := ok.t1
  have t8 := ok.t8
  have i0 : ixD Y.d (.int 0) = some (.int (Y.T : Int)) := by simp [Yd.d, ixD, ixP]
  have len : biD .len [gsD gs] = some (.int (gs.length : Int)) := by simp [biD, gsD]
  have plen := fil_len hfst
  obtain ⟨num, hnum⟩ := hn 22 (by omega)
  have hnum : Φ n [.scr ns, .int 22] = some (.ret (.int (num : Int)) []) := hnum
  have c0 := rows_cp (Φ := Φ) (ps := ps) (T := Y.T) (e1 := [some (.scr ns), some Y.d, some (gsD gs), some (fillD Y.T ps), none, none, none, none, none, none, none, none]) (i := 11) (by simp) (by omega)
  have itl : itemsD (fillD Y.T ps) = some (fillL Y.T ps) := rfl
  obtain ⟨f0, hf0, _⟩ := fill_tab Y.T ps
  have fL : fillD Y.T ps = .lst (fillL Y.T ps) := rfl
  have b1 : binD .mod (.int (num : Int)) (.int 4) = some (.int ((num % 4 : Nat) : Int)) := nMod num 4 (by decide)
  have l4 : num % 4 < 4 := Nat.mod_lt _ (by decide)
  have ne : cmpD .ne (gsD gs) (.lst []) = some (!decide (gs = [])) := by
    simp only [cmpD, gs_shp]
    cases gs with
    | nil => simp [gsD, SHP, EQ]
    | cons g gs => simp [gsD, SHP, EQ]
  have p20 : binD .pow (.int 10) (.int 20) = some (.int 100000000000000000000) := rfl
  have p30 : binD .pow (.int 10) (.int 30) = some (.int 1000000000000000000000000000000) := rfl
  have p31 : binD .pow (.int 10) (.int 31) = some (.int 10000000000000000000000000000000) := rfl
  have p9 : binD .pow (.int 6) (.int 9) = some (.int 10077696) := rfl
  by_cases hg0 : gs = []
  · subst hg0
    have hps : ps = [] := by simpa using plen
    subst hps
    have ne : cmpD .ne (gsD []) (.lst []) = some false := ne
    have m0 : binD .mul (.int ((num % 4 : Nat) : Int)) (.int 0) = some (.int 0) := by
      have := nMul (num % 4) 0 (bigN (by omega)) (bigN (by decide))
      simpa using this
    have r0 : rngD [.int 0] = some [] := rfl
    have bi : biD .int [.bl false] = some (.int 0) := rfl
    refine ⟨[], ?_, rfl⟩
    generalize num % 4 = q at *
    have fe : fillL Y.T [] = [] := rfl
    rw [fe] at c0 itl
    have fe2 : fillD Y.T [] = .lst [] := rfl
    rw [fe2] at c0 itl ⊢
    generalize gsD [] = gd at *
    generalize Y.d = yd at *
    simp [↓c0, df_law_bent, runP_eq, EV, ES, RC, RD, ioE, ioL, ioI, bindT, PU, itl, hnum, b1, ne, bi, m0, r0, fr_nil]
  · have gpos : 0 < gs.length := by
      cases gs with
      | nil => exact absurd rfl hg0
      | cons _ _ => simp
    have ne : cmpD .ne (gsD gs) (.lst []) = some true := by rw [ne]; simp [hg0]
    have bi : biD .int [.bl true] = some (.int 1) := rfl
    have m0 : binD .mul (.int ((num % 4 : Nat) : Int)) (.int 1) = some (.int ((num % 4 : Nat) : Int)) := by
      have := nMul (num % 4) 1 (bigN (by omega)) (bigN (by decide))
      simpa using this
    have rg := rng_nat (num % 4) (by omega)
    generalize num % 4 = q at *
    obtain ⟨e', lp, num2, f, y6, y7, y8, y9, y10, y11, he⟩ := fr_inv2 (Φ := Φ) (tg := .n 6) (b := (.cons (.asg (.n 5) (.bin .fdiv (.v 5) (.c (.int 6)))) (.cons (.asg (.n 7) (.bin .mod (.v 5) (.bi .len (.cons (.v 2) .nil)))) (.cons (.asg (.n 5) (.bin .fdiv (.v 5) (.bi .len (.cons (.v 2) .nil)))) (.cons (.asg (.n 8) (.bin .mod (.v 5) (.ix (.v 1) (.c (.int 0))))) (.cons (.asg (.n 5) (.bin .fdiv (.v 5) (.ix (.v 1) (.c (.int 0))))) (.cons (.asg (.n 9) (.ix (.ix (.v 4) (.v 7)) (.v 8))) (.cons (.asg (.n 10) (.lst (.cons (.bin .sub (.neg (.c (.int 1))) (.bin .mod (.bin .fdiv (.v 5) (.c (.int 6))) (.bin .pow (.c (.int 10)) (.c (.int 20))))) (.cons (.bin .add (.v 9) (.c (.int 1))) (.cons (.bin .add (.v 9) (.bin .mod (.bin .fdiv (.v 5) (.c (.int 6))) (.bin .pow (.c (.int 10)) (.c (.int 30))))) (.cons (.bin .mod (.bin .fdiv (.v 5) (.c (.int 6))) (.bin .pow (.c (.int 10)) (.c (.int 31)))) .nil)))))) (.cons (.upd 4 [.i (.v 7)] (.set (.v 8) (.pur (.ix (.bin .cat (.v 10) (.lst (.cons (.bin .add (.ix (.ix (.v 2) (.v 7)) (.c (.int 4))) (.c (.int 1))) (.cons (.bin .add (.v 9) (.ix (.ix (.v 2) (.v 7)) (.c (.int 3)))) .nil)))) (.bin .mod (.v 5) (.c (.int 6)))))) [9]) (.cons (.asg (.n 5) (.bin .fdiv (.v 5) (.bin .pow (.c (.int 6)) (.c (.int 9))))) .nil)))))))))) (fun (i : Nat) => D.int (i : Int)) (ls := List.range q)
      (e := [some (.scr ns), some Y.d, some (gsD gs), some (fillD Y.T ps), some (fillD Y.T ps), some (.int (num : Int)), none, none, none, none, none, none])
      (fun i e => ∃ (num2 : Nat) (f : Nat → Nat → Int) (y6 y7 y8 y9 y10 y11 : Option D), e = [some (.scr ns), some Y.d, some (gsD gs), some (fillD Y.T ps), some (tabD gs.length Y.T f), some (.int (num2 : Int)), y6, y7, y8, y9, y10, y11])
      ⟨num, f0, _, _, _, _, _, _, by rw [hf0, plen]⟩ (fun i k' e hi ⟨num2, f, y6, y7, y8, y9, y10, y11, he⟩ => by
        have d1 : binD .fdiv (.int (num2 : Int)) (.int 6) = some (.int ((num2 / 6 : Nat) : Int)) := nDiv num2 6 (by decide) (dvbN (by decide))
        generalize num2 / 6 = n1 at d1
        have d2 := nMod n1 gs.length gpos
        have d3 := nDiv n1 gs.length gpos (dvbN (by omega))
        have kl : n1 % gs.length < gs.length := Nat.mod_lt _ gpos
        generalize n1 % gs.length = k at d2 kl
        generalize n1 / gs.length = n2 at d3
        have d4 := nMod n2 Y.T (by omega)
        have d5 := nDiv n2 Y.T (by omega) (dvbN (by omega))
        have al : n2 % Y.T < Y.T := Nat.mod_lt _ (by omega)
        generalize n2 % Y.T = a at d4 al
        generalize n2 / Y.T = n3 at d5
        have x1 := tab_ix (T := Y.T) f kl
        have x2 := row_ix (f k) al
        have d6 : binD .fdiv (.int (n3 : Int)) (.int 6) = some (.int ((n3 / 6 : Nat) : Int)) := nDiv n3 6 (by decide) (dvbN (by decide))
        generalize n3 / 6 = n4 at d6
        have d7 : binD .mod (.int (n4 : Int)) (.int 100000000000000000000) = some (.int ((n4 % 100000000000000000000 : Nat) : Int)) := nMod n4 100000000000000000000 (by decide)
        have d8 : binD .mod (.int (n4 : Int)) (.int 1000000000000000000000000000000) = some (.int ((n4 % 1000000000000000000000000000000 : Nat) : Int)) := nMod n4 1000000000000000000000000000000 (by decide)
        have d9 : binD .mod (.int (n4 : Int)) (.int 10000000000000000000000000000000) = some (.int ((n4 % 10000000000000000000000000000000 : Nat) : Int)) := nMod n4 10000000000000000000000000000000 (by decide)
        generalize n4 % 100000000000000000000 = m20 at d7
        generalize n4 % 1000000000000000000000000000000 = m30 at d8
        generalize n4 % 10000000000000000000000000000000 = m31 at d9
        have da : binD .mod (.int (n3 : Int)) (.int 6) = some (.int ((n3 % 6 : Nat) : Int)) := nMod n3 6 (by decide)
        have rl : n3 % 6 < 6 := Nat.mod_lt _ (by decide)
        generalize n3 % 6 = r at da rl
        have db : binD .fdiv (.int (n3 : Int)) (.int 10077696) = some (.int ((n3 / 10077696 : Nat) : Int)) := nDiv n3 10077696 (by decide) (dvbN (by decide))
        generalize n3 / 10077696 = n5 at db
        have hg : gs[k]? = some gs[k] := List.getElem?_eq_getElem kl
        have gx := gs_ix gs k _ hg
        generalize gs[k] = g at *
        have g4 : ixD g.d (.int 4) = some (.int (g.most : Int)) := rfl
        have g3 : ixD g.d (.int 3) = some (.int (g.want : Int)) := rfl
        have s1 : binD .sub (.int (-1)) (.int (m20 : Int)) = some (.int (-1 - (m20 : Int))) := rfl
        have s2 : binD .add (.int (f k a)) (.int 1) = some (.int (f k a + 1)) := rfl
        have s3 : binD .add (.int (f k a)) (.int (m30 : Int)) = some (.int (f k a + (m30 : Int))) := rfl
        have s4 : binD .add (.int (g.most : Int)) (.int 1) = some (.int ((g.most : Int) + 1)) := rfl
        have s5 : binD .add (.int (f k a)) (.int (g.want : Int)) = some (.int (f k a + (g.want : Int))) := rfl
        generalize -1 - (m20 : Int) = v1 at *
        generalize f k a + 1 = v2 at *
        generalize f k a + (m30 : Int) = v3 at *
        generalize (g.most : Int) + 1 = v4 at *
        generalize f k a + (g.want : Int) = v5 at *
        have cat : binD .cat (.lst [.int v1, .int v2, .int v3, .int (m31 : Int)]) (.lst [.int v4, .int v5]) = some (.lst [.int v1, .int v2, .int v3, .int (m31 : Int), .int v4, .int v5]) := rfl
        obtain ⟨x, px⟩ := pick6 v1 v2 v3 (m31 : Int) v4 v5 r rl
        have up := tab_upd f x kl al
        have ck : ∀ (e : En), e[4]? = some (some (tabD gs.length Y.T f)) → chkP 4 [.i (.int (k : Int))] e = true := fun e h => tab_chk f kl h
        refine ⟨_, [some (.scr ns), some Y.d, some (gsD gs), some (fillD Y.T ps), some (tabD gs.length Y.T (put2 f k a x)), some (.int (n5 : Int)), some (.int (k' : Int)), some (.int (k : Int)), some (.int (a : Int)), some (.int (f k a)), some (.lst [.int v1, .int v2, .int v3, .int (m31 : Int)]), y11], by rw [he]; rfl, ?_, n5, put2 f k a x, _, _, _, _, _, _, rfl⟩
        generalize tabD gs.length Y.T (put2 f k a x) = tb2 at *
        generalize tabD gs.length Y.T f = tb at *
        generalize rowD Y.T (f k) = rk at *
        generalize f k a = fka at *
        generalize g.d = gd at *
        generalize gsD gs = gsd at *
        generalize fillD Y.T ps = fd at *
        generalize Y.d = yd at *
        simp [EV, ES, RC, RD, RU, ioE, ioL, bindT, PU, d1, len, d2, d3, i0, d4, d5, x1, x2, p20, p30, p31, p9, d6, d7, d8, d9, da, db, gx, g4, g3, s1, s2, s3, s4, s5, cat, px, up, ck, kil])
    refine ⟨ofTab gs f, ?_, ofTab_fst gs f⟩
    rw [ofTab_d]
    rw [he, ← rangeL_nat] at lp
    generalize hfl : fillD Y.T ps = fd at *
    generalize tabD gs.length Y.T f = tb at *
    generalize gsD gs = gsd at *
    generalize Y.d = yd at *
    rw [fL] at lp c0 itl ⊢
    generalize fillL Y.T ps = fl at *
    simp [↓c0, ↓lp, df_law_bent, runP_eq, EV, ES, RC, RD, ioE, ioL, ioI, bindT, PU, itl, hnum, b1, ne, bi, m0, rg]
def totD (T : Nat) (ps : Fil) : D := .lst ((ps.map fun p => sumI T p.2).map D.int)
def lackD (T : Nat) (ps : Fil) : D := .lst ((ps.map fun p => (p.1.want : Int) - sumI T p.2).map D.int)
def TotS (F : Fn) : Prop := ∀ (T : Nat) (ps : Fil), ps.length ≤ 100 → F [fillD T ps] = some (.ret (totD T ps) [])
theorem s_totals (Φ : Nat → Fn) : TotS (runP Φ 1 df_totals_of) := by
  intro T ps hl
  have c0 : cp Φ (.bi .sum (.cons (.v 1) .nil)) (.n 1) .nil [1] (fillL T ps) [some (fillD T ps), none] = some ((ps.map fun p => sumI T p.2).map D.int) := by
    unfold fillL
    rw [List.map_map]
    refine cp_map2 (Φ := Φ) (elt := (.bi .sum (.cons (.v 1) .nil))) (tg := (.n 1)) (os := [1]) (fun p : Gd × (Nat → Int) => rowD T p.2) (fun p => .int (sumI T p.2)) ps (fun p hp => ?_) (by omega)
    have := row_sum T p.2
    refine ⟨_, rfl, [some (fillD T ps), some (rowD T p.2)], ?_⟩
    simp [wipeE, EV, RC, RD, ioL, this]
  have itl : itemsD (fillD T ps) = some (fillL T ps) := rfl
  unfold totD
  generalize fillD T ps = fd at *
  generalize (ps.map fun p => sumI T p.2).map D.int = td at *
  simp [↓c0, df_totals_of, runP_eq, EV, ES, RC, RD, ioE, ioL, ioI, PU, itl]
theorem zip_ps (T : Nat) : ∀ ps : Fil, zipL ((ps.map Prod.fst).map Gd.d) ((ps.map fun p => sumI T p.2).map D.int) = ps.map fun p => .tup [p.1.d, .int (sumI T p.2)]
  | [] => rfl
  | p :: ps => by
    simp only [List.map_cons, zipL, zip_ps T ps]
def LackS (F : Fn) : Prop := ∀ (T : Nat) (ps : Fil) (gs : List Gd), ps.map Prod.fst = gs → ps.length ≤ 100 → F [gsD gs, fillD T ps] = some (.ret (lackD T ps) [])
theorem s_lacks {Φ : Nat → Fn} {c : Nat} (hc : TotS (Φ c)) : LackS (runP Φ 2 (df_lacks_of c)) := by
  intro T ps gs hg hl
  subst hg
  have h := hc T ps hl
  have c0 : cp Φ (.bin .sub (.ix (.v 2) (.c (.int 3))) (.v 3)) (.t [(.n 2), (.n 3)]) .nil [2, 3] (zipL ((ps.map Prod.fst).map Gd.d) ((ps.map fun p => sumI T p.2).map D.int)) [some (gsD (ps.map Prod.fst)), some (fillD T ps), none, none] = some ((ps.map fun p => (p.1.want : Int) - sumI T p.2).map D.int) := by
    rw [zip_ps, List.map_map]
    refine cp_map2 (Φ := Φ) (elt := (.bin .sub (.ix (.v 2) (.c (.int 3))) (.v 3))) (tg := (.t [(.n 2), (.n 3)])) (os := [2, 3]) (fun p : Gd × (Nat → Int) => .tup [p.1.d, .int (sumI T p.2)]) (fun p => .int ((p.1.want : Int) - sumI T p.2)) ps (fun p hp => ?_) (by omega)
    have g3 : ixD p.1.d (.int 3) = some (.int (p.1.want : Int)) := rfl
    have sb : binD .sub (.int (p.1.want : Int)) (.int (sumI T p.2)) = some (.int ((p.1.want : Int) - sumI T p.2)) := rfl
    refine ⟨[some (gsD (ps.map Prod.fst)), some (fillD T ps), some p.1.d, some (.int (sumI T p.2))], rfl, [some (gsD (ps.map Prod.fst)), some (fillD T ps), some p.1.d, some (.int (sumI T p.2))], ?_⟩
    simp [EV, RC, RD, ioE, PU, g3, sb]
  unfold totD at h
  unfold lackD
  have gd' : gsD (ps.map Prod.fst) = .lst ((ps.map Prod.fst).map Gd.d) := rfl
  rw [gd'] at c0 ⊢
  generalize fillD T ps = fd at *
  generalize (ps.map fun p => sumI T p.2).map D.int = td at *
  generalize (ps.map fun p => (p.1.want : Int) - sumI T p.2).map D.int = ld at *
  generalize (ps.map Prod.fst).map Gd.d = gl at *
  simp [↓c0, df_lacks_of, runP_eq, EV, ES, RC, RD, ioE, ioL, ioI, PU, h]
end Cy
end
section
set_option linter.all false
set_option maxRecDepth 100000
set_option maxHeartbeats 4000000
/-! Plain: loads. -/
namespace Cy
open PySem
def intsD (v : List Int) : D := .lst (v.map D.int)
theorem shp_ints (v : List Int) : shps 59 (v.map D.int) = true := by rw [shps_all]; simp [SHP]
theorem eq_ints (v : List Int) : eqD (intsD v) (intsD v) = true := eqD_refl 60 _ (by unfold intsD; simp only [SHP, shp_ints])
theorem cmp_ints (v : List Int) : cmpD .eq (intsD v) (intsD v) = some true ∧ cmpD .ne (intsD v) (intsD v) = some false := by
  have h : shp 60 (intsD v) = true := by unfold intsD; simp only [SHP, shp_ints]
  constructor <;> simp [cmpD, h, eq_ints]
theorem shp_fill (T : Nat) (ps : Fil) : shp 60 (fillD T ps) = true := by
  unfold fillD
  simp only [SHP, shps_all]
  simp [fillL, rowD, SHP, shps_all]
theorem ne_fill (T : Nat) (ps : Fil) : cmpD .ne (fillD T ps) (fillD T ps) = some false := by
  simp [cmpD, shp_fill, eqD_refl 60 _ (shp_fill T ps)]
theorem map_range_get {α β : Type} (l : List α) (f : α → β) (d : β) : (List.range l.length).map (fun k => (l[k]?).elim d f) = l.map f := by
  refine List.ext_getElem? fun i => ?_
  by_cases h : i < l.length
  · simp [h]
  · rw [List.getElem?_eq_none (by simpa using h), List.getElem?_eq_none (by simpa using h)]
theorem ix_ints (v : List Int) (k : Nat) (x : Int) (h : v[k]? = some x) : ixD (intsD v) (.int (k : Int)) = some (.int x) := by
  have hl := (List.getElem?_eq_some_iff.mp h).1
  simp only [intsD, ixD, ixP, List.length_map]
  rw [if_pos (by omega), if_pos (by omega)]
  simp [h]
theorem rows_cp2 {Φ : Nat → Fn} {ps : Fil} {T : Nat} {e1 : En} {i : Nat} (hi : i < e1.length) (hl : ps.length ≤ 100) : cp Φ (.bi .list (.cons (.v i) .nil)) (.n i) .nil [i] (fillL T ps) e1 = some (fillL T ps) := by
  unfold fillL
  refine cp_map2 (Φ := Φ) (elt := .bi .list (.cons (.v i) .nil)) (tg := .n i) (os := [i]) (e1 := e1) (fun p : Gd × (Nat → Int) => rowD T p.2) (fun p => rowD T p.2) ps (fun p hp => ?_) (by omega)
  refine ⟨_, rfl, (wipeE [i] e1).set i (some (rowD T p.2)), ?_⟩
  have g1 : ((wipeE [i] e1).set i (some (rowD T p.2)))[i]? = some (some (rowD T p.2)) := by
    rw [List.getElem?_set_self]
    simp [wipeE, hi]
  have b : biD .list [rowD T p.2] = some (rowD T p.2) := rfl
  simp [EV, RC, RD, ioL, g1, b]
theorem zip_fill (T : Nat) : ∀ ps : Fil, zipL ((ps.map Prod.fst).map Gd.d) (fillL T ps) = ps.map fun p => .tup [p.1.d, rowD T p.2]
  | [] => rfl
  | p :: ps => by
    have := zip_fill T ps
    unfold fillL at this ⊢
    simp only [List.map_cons, zipL, this]
theorem sum_filter {α : Type} (q : α → Bool) (f : α → Int) : ∀ ps : List α, ((ps.filter q).map f).sum = (ps.map fun p => if q p = true then f p else 0).sum
  | [] => rfl
  | p :: ps => by
    have := sum_filter q f ps
    by_cases h : q p = true
    · simp [List.filter_cons, h, this]
    · simp [List.filter_cons, h, this]
theorem mem_beneath {Y : Yd} {l m : Nat} (hm : m < Y.ls.length) : m ∈ beneath Y l ↔ l ∈ upY Y m := by
  unfold beneath
  simp [List.mem_filter, hm]
def LoadsS (F : Fn) : Prop := ∀ (Y : Yd) (gs : List Gd) (ps : Fil), Y.Ok → (∀ g ∈ gs, g.Ok Y) → gs.length ≤ 8 → ps.map Prod.fst = gs → F [Y.d, gsD gs, fillD Y.T ps] = some (.ret (tabD Y.ls.length Y.T (loadY Y ps)) [])
theorem sum_ints (v : List Int) : biD .sum [.lst (v.map D.int)] = some (.int v.sum) := by
  simp only [biD, intsOf_map]; rfl
theorem s_loads {Φ : Nat → Fn} {c : Nat} (hc : BenS (Φ c)) : LoadsS (runP Φ 3 (df_loads_of c)) := by
  intro Y gs ps ok gok gl hfst
  have t8 := ok.t8
  have ll5 := ok.l5
  have pl := fil_len hfst
  have i0 : ixD Y.d (.int 0) = some (.int (Y.T : Int)) := by simp [Yd.d, ixD, ixP]
  have i1 : ixD Y.d (.int 1) = some (.tup (Y.ls.map lineD)) := by simp [Yd.d, ixD, ixP]
  have len : biD .len [.tup (Y.ls.map lineD)] = some (.int (Y.ls.length : Int)) := by simp [biD]
  have rgL := rng_nat Y.ls.length (by omega)
  have rgT := rng_nat Y.T (by omega)
  have hgl : gsD gs = .lst ((ps.map Prod.fst).map Gd.d) := by rw [hfst]; rfl
  have hfl : fillD Y.T ps = .lst (fillL Y.T ps) := rfl
  have e0 : D.lst ((List.range 0).map fun l => rowD Y.T (loadY Y ps l)) = .lst [] := rfl
  obtain ⟨e', lp, y4, y5, y6, y7, y8, y9, he⟩ := fr_inv2 (Φ := Φ) (tg := .n 4) (b := (.cons (.asg (.n 5) (.call c (.cons (.v 0) (.cons (.v 4) .nil)))) (.cons (.asg (.n 6) (.comp (.v 8) (.t [(.n 7), (.n 8)]) (.zip (.cons (.v 1) (.cons (.v 2) .nil))) (.cons (.cmp .inn (.ix (.v 7) (.c (.int 0))) (.v 5)) .nil) [7, 8])) (.cons (.upd 3 [] (.app (.comp (.bi .sum (.cons (.comp (.ix (.v 8) (.v 9)) (.n 8) (.val (.v 6)) .nil [8]) .nil)) (.n 9) (.rng (.cons (.ix (.v 0) (.c (.int 0))) .nil)) .nil [9])) []) .nil)))) (fun (i : Nat) => D.int (i : Int)) (ls := List.range Y.ls.length)
    (e := [some Y.d, some (gsD gs), some (fillD Y.T ps), some (.lst []), none, none, none, none, none, none])
    (fun i e => ∃ y4 y5 y6 y7 y8 y9 : Option D, e = [some Y.d, some (gsD gs), some (fillD Y.T ps), some (.lst ((List.range i).map fun l => rowD Y.T (loadY Y ps l))), y4, y5, y6, y7, y8, y9])
    ⟨_, _, _, _, _, _, rfl⟩ (fun i k e hi ⟨y4, y5, y6, y7, y8, y9, he⟩ => by
      obtain ⟨hk, hk2⟩ := List.getElem?_eq_some_iff.mp hi
      rw [List.length_range] at hk
      rw [List.getElem_range] at hk2
      subst hk2
      have hb := hc Y i ok hk
      have c0 : cp Φ (.v 8) (.t [(.n 7), (.n 8)]) (.cons (.cmp .inn (.ix (.v 7) (.c (.int 0))) (.v 5)) .nil) [7, 8] (zipL ((ps.map Prod.fst).map Gd.d) (fillL Y.T ps)) [some Y.d, some (gsD gs), some (fillD Y.T ps), some (.lst ((List.range i).map fun l => rowD Y.T (loadY Y ps l))), some (.int (i : Int)), some (numsD (beneath Y i)), y6, y7, y8, y9] = some (fillL Y.T (ps.filter fun p => decide (p.1.line ∈ beneath Y i))) := by
        rw [zip_fill]
        refine cp_filter2 (Φ := Φ) (elt := (.v 8)) (tg := (.t [(.n 7), (.n 8)])) (ifs := (.cons (.cmp .inn (.ix (.v 7) (.c (.int 0))) (.v 5)) .nil)) (os := [7, 8]) (fun p : Gd × (Nat → Int) => .tup [p.1.d, rowD Y.T p.2]) (fun p : Gd × (Nat → Int) => rowD Y.T p.2) (fun p => decide (p.1.line ∈ beneath Y i)) ps (fun p hp => ?_) (by omega)
        have g0 : ixD p.1.d (.int 0) = some (.int (p.1.line : Int)) := rfl
        have cm := cmp_in (beneath Y i) p.1.line
        refine ⟨_, rfl, [some Y.d, some (gsD gs), some (fillD Y.T ps), some (.lst ((List.range i).map fun l => rowD Y.T (loadY Y ps l))), some (.int (i : Int)), some (numsD (beneath Y i)), y6, some p.1.d, some (rowD Y.T p.2), y9], ?_, fun _ => ⟨_, by simp [EV, RC, RD]; rfl⟩⟩
        generalize decide (p.1.line ∈ beneath Y i) = bb at *
        generalize numsD (beneath Y i) = nb at *
        generalize p.1.d = pd at *
        cases bb <;> simp [wipeE, EV, RC, RD, ioE, PU, g0, cm]
      have c1 : cp Φ (.bi .sum (.cons (.comp (.ix (.v 8) (.v 9)) (.n 8) (.val (.v 6)) .nil [8]) .nil)) (.n 9) .nil [9] ((rangeL 0 (Y.T : Int)).map D.int) [some Y.d, some (gsD gs), some (fillD Y.T ps), some (.lst ((List.range i).map fun l => rowD Y.T (loadY Y ps l))), some (.int (i : Int)), some (numsD (beneath Y i)), some (.lst (fillL Y.T (ps.filter fun p => decide (p.1.line ∈ beneath Y i)))), y7, y8, y9] = some ((List.range Y.T).map fun t => D.int (loadY Y ps i t)) := by
        rw [rangeL_nat]
        refine cp_map2 (Φ := Φ) (elt := (.bi .sum (.cons (.comp (.ix (.v 8) (.v 9)) (.n 8) (.val (.v 6)) .nil [8]) .nil))) (tg := (.n 9)) (os := [9]) (fun (t : Nat) => D.int (t : Int)) (fun (t : Nat) => D.int (loadY Y ps i t)) (List.range Y.T) (fun t ht => ?_) (by rw [List.length_range]; omega)
        have ht := List.mem_range.mp ht
        have c2 : cp Φ (.ix (.v 8) (.v 9)) (.n 8) .nil [8] (fillL Y.T (ps.filter fun p => decide (p.1.line ∈ beneath Y i))) [some Y.d, some (gsD gs), some (fillD Y.T ps), some (.lst ((List.range i).map fun l => rowD Y.T (loadY Y ps l))), some (.int (i : Int)), some (numsD (beneath Y i)), some (.lst (fillL Y.T (ps.filter fun p => decide (p.1.line ∈ beneath Y i)))), y7, y8, some (.int (t : Int))] = some ((ps.filter fun p => decide (p.1.line ∈ beneath Y i)).map (fun p => p.2 t) |>.map D.int) := by
          rw [List.map_map]
          refine cp_map2 (Φ := Φ) (elt := (.ix (.v 8) (.v 9))) (tg := (.n 8)) (os := [8]) (fun p : Gd × (Nat → Int) => rowD Y.T p.2) (fun p : Gd × (Nat → Int) => D.int (p.2 t)) _ (fun p hp => ?_) ?_
          · have rx := row_ix p.2 ht
            refine ⟨_, rfl, [some Y.d, some (gsD gs), some (fillD Y.T ps), some (.lst ((List.range i).map fun l => rowD Y.T (loadY Y ps l))), some (.int (i : Int)), some (numsD (beneath Y i)), some (.lst (fillL Y.T (ps.filter fun p => decide (p.1.line ∈ beneath Y i)))), y7, some (rowD Y.T p.2), some (.int (t : Int))], ?_⟩
            generalize rowD Y.T p.2 = rw' at *
            simp [wipeE, EV, RC, RD, ioE, PU, rx]
          · have := List.length_filter_le (fun p : Gd × (Nat → Int) => decide (p.1.line ∈ beneath Y i)) ps
            omega
        have sm := sum_ints ((ps.filter fun p => decide (p.1.line ∈ beneath Y i)).map (fun p => p.2 t))
        have se : ((ps.filter fun p => decide (p.1.line ∈ beneath Y i)).map (fun p => p.2 t)).sum = loadY Y ps i t := by
          rw [sum_filter]
          unfold loadY
          congr 1
          refine List.map_congr_left fun p hp => ?_
          have hg : p.1 ∈ gs := by rw [← hfst]; exact List.mem_map_of_mem hp
          have := mem_beneath (l := i) (gok _ hg).ln
          simp only [decide_eq_true_eq, this]
        rw [se] at sm
        refine ⟨_, rfl, [some Y.d, some (gsD gs), some (fillD Y.T ps), some (.lst ((List.range i).map fun l => rowD Y.T (loadY Y ps l))), some (.int (i : Int)), some (numsD (beneath Y i)), some (.lst (fillL Y.T (ps.filter fun p => decide (p.1.line ∈ beneath Y i)))), y7, y8, some (.int (t : Int))], ?_⟩
        generalize ((ps.filter fun p => decide (p.1.line ∈ beneath Y i)).map (fun p => p.2 t) |>.map D.int) = sl at *
        generalize fillL Y.T (ps.filter fun p => decide (p.1.line ∈ beneath Y i)) = fq at *
        have itq : itemsD (.lst fq) = some fq := rfl
        generalize (List.range i).map (fun l => rowD Y.T (loadY Y ps l)) = ll at *
        generalize loadY Y ps i t = lit at *
        generalize fillD Y.T ps = fp at *
        simp [wipeE, ↓c2, EV, RC, RD, ioE, ioL, ioI, PU, itq, sm]
      have sc : (List.range (i + 1)).map (fun l => rowD Y.T (loadY Y ps l)) = (List.range i).map (fun l => rowD Y.T (loadY Y ps l)) ++ [rowD Y.T (loadY Y ps i)] := by
        rw [List.range_succ, List.map_append]; rfl
      have hz : ((List.range i).map (fun l => rowD Y.T (loadY Y ps l))).length < 1000000 := by rw [List.length_map, List.length_range]; omega
      refine ⟨_, [some Y.d, some (gsD gs), some (fillD Y.T ps), some (.lst ((List.range i).map (fun l => rowD Y.T (loadY Y ps l)) ++ [rowD Y.T (loadY Y ps i)])), some (.int (i : Int)), some (numsD (beneath Y i)), some (.lst (fillL Y.T (ps.filter fun p => decide (p.1.line ∈ beneath Y i)))), y7, y8, y9], by rw [he]; rfl, ?_, _, _, _, _, _, _, by rw [sc]⟩
      have rd : rowD Y.T (loadY Y ps i) = .lst ((List.range Y.T).map fun t => D.int (loadY Y ps i t)) := rfl
      rw [rd, hgl, hfl]
      rw [hgl, hfl] at c0 c1
      generalize fillL Y.T (ps.filter fun p => decide (p.1.line ∈ beneath Y i)) = fq at *
      generalize (List.range i).map (fun l => rowD Y.T (loadY Y ps l)) = ll at *
      generalize (List.range Y.T).map (fun t => D.int (loadY Y ps i t)) = lr at *
      generalize numsD (beneath Y i) = nb at *
      generalize fillL Y.T ps = fp at *
      generalize (ps.map Prod.fst).map Gd.d = gp at *
      generalize Y.d = yd at *
      simp [↓c0, ↓c1, EV, ES, RC, RD, RU, ioE, ioL, ioI, bindT, PU, hb, i0, rgT, chkP, getP, updD, fApp, hz, kil])
  rw [List.length_range] at he
  rw [he, ← rangeL_nat] at lp
  unfold tabD
  generalize (List.range Y.ls.length).map (fun l => rowD Y.T (loadY Y ps l)) = ll at *
  generalize fillD Y.T ps = fp at *
  generalize gsD gs = gp at *
  generalize Y.d = yd at *
  simp [↓lp, df_loads_of, runP_eq, EV, ES, RC, RD, ioE, ioL, ioI, bindT, PU, i1, len, rgL]
end Cy
end
section
set_option linter.all false
set_option maxRecDepth 100000
set_option maxHeartbeats 4000000
/-! Plain: the first fault. -/
namespace Cy
open PySem
def df_law_fault (c_law_up : Nat) : Df := ⟨12, [], (.cons (.for (.n 3) (.rng (.cons (.bi .len (.cons (.v 1) .nil)) .nil)) (.cons (.asg (.t [(.n 4), (.n 6), (.n 7), (.n 8), (.n 9)]) (.ix (.v 1) (.v 3))) (.cons (.for (.n 5) (.rng (.cons (.ix (.v 0) (.c (.int 0))) .nil)) (.cons (.asg (.n 10) (.ix (.ix (.v 2) (.v 3)) (.v 5))) (.cons (.ifs (.cmp .lt (.v 10) (.c (.int 0))) (.cons (.ret (.tup (.cons (.c (.str "below")) (.cons (.pur (.v 3)) (.cons (.pur (.v 5)) .nil))))) .nil) .nil) (.cons (.ifs (.and (.cons (.cmp .ne (.v 10) (.c (.int 0))) (.cons (.or (.cons (.cmp .lt (.v 5) (.v 6)) (.cons (.cmp .gt (.v 5) (.v 7)) .nil))) .nil))) (.cons (.ret (.tup (.cons (.c (.str "away")) (.cons (.pur (.v 3)) (.cons (.pur (.v 5)) .nil))))) .nil) .nil) (.cons (.ifs (.cmp .gt (.v 10) (.v 9)) (.cons (.ret (.tup (.cons (.c (.str "most")) (.cons (.pur (.v 3)) (.cons (.pur (.v 5)) .nil))))) .nil) .nil) .nil))))) (.cons (.ifs (.cmp .gt (.bi .sum (.cons (.ix (.v 2) (.v 3)) .nil)) (.v 8)) (.cons (.ret (.tup (.cons (.c (.str "want")) (.cons (.pur (.v 3)) .nil)))) .nil) .nil) .nil)))) (.cons (.for (.n 4) (.rng (.cons (.bi .len (.cons (.ix (.v 0) (.c (.int 1))) .nil)) .nil)) (.cons (.for (.n 5) (.rng (.cons (.ix (.v 0) (.c (.int 0))) .nil)) (.cons (.asg (.n 11) (.bi .sum (.cons (.comp (.ix (.ix (.v 2) (.v 3)) (.v 5)) (.n 3) (.rng (.cons (.bi .len (.cons (.v 1) .nil)) .nil)) (.cons (.cmp .inn (.v 4) (.call c_law_up (.cons (.v 0) (.cons (.ix (.ix (.v 1) (.v 3)) (.c (.int 0))) .nil)))) .nil) [3]) .nil))) (.cons (.ifs (.cmp .gt (.v 11) (.ix (.ix (.ix (.ix (.v 0) (.c (.int 1))) (.v 4)) (.c (.int 1))) (.v 5))) (.cons (.ret (.tup (.cons (.c (.str "line")) (.cons (.pur (.v 4)) (.cons (.pur (.v 5)) .nil))))) .nil) .nil) .nil))) .nil)) (.cons (.ret (.c .non)) .nil)))⟩
theorem fr_find {α : Type} {Φ : Nat → Fn} {tg : Tg} {b : DSs} (g : α → D) (q : α → Option D) : ∀ {ls : List α} {e : En} (P : Nat → En → Prop) (h0 : P 0 e)
    (hs : ∀ i a e, ls[i]? = some a → P i e → ∃ e1, bindT tg (g a) e = some e1 ∧ (∀ d, q a = some d → ∃ e2, evSs Φ b e1 = some (.ok (.rt d) e2)) ∧ (q a = none → ∃ e2, evSs Φ b e1 = some (.ok .nx e2) ∧ P (i + 1) e2)),
    (∀ d, ls.findSome? q = some d → ∃ e2, fr Φ tg b (ls.map g) e = some (.ok (.rt d) e2)) ∧ (ls.findSome? q = none → ∃ e', fr Φ tg b (ls.map g) e = some (.ok .nx e') ∧ P ls.length e')
  | [], e, P, h0, _ => ⟨fun d h => by simp at h, fun _ => ⟨e, rfl, h0⟩⟩
  | x :: xs, e, P, h0, hs => by
    obtain ⟨e1, h1, h2, h3⟩ := hs 0 x e rfl h0
    cases hq : q x with
    | some d0 =>
      obtain ⟨e2, h4⟩ := h2 d0 hq
      refine ⟨fun d h => ?_, fun h => ?_⟩
      · rw [List.findSome?_cons, hq] at h
        simp only [Option.some.injEq] at h
        subst h
        exact ⟨e2, by rw [List.map_cons, fr_rt h1 h4]⟩
      · rw [List.findSome?_cons, hq] at h; cases h
    | none =>
      obtain ⟨e2, h4, h5⟩ := h3 hq
      obtain ⟨i1, i2⟩ := fr_find (Φ := Φ) (tg := tg) (b := b) g q (ls := xs) (e := e2) (fun i => P (i + 1)) h5 (fun i a e hi p => hs (i + 1) a e (by simpa using hi) p)
      refine ⟨fun d h => ?_, fun h => ?_⟩
      · rw [List.findSome?_cons, hq] at h
        obtain ⟨e3, h6⟩ := i1 d h
        exact ⟨e3, by rw [List.map_cons, fr_nx h1 h4]; exact h6⟩
      · rw [List.findSome?_cons, hq] at h
        obtain ⟨e3, h6, h7⟩ := i2 h
        exact ⟨e3, by rw [List.map_cons, fr_nx h1 h4]; exact h6, h7⟩
theorem enumL_eq : ∀ (xs : List D) (n : Nat), enumL n xs = (List.range xs.length).map fun k => .tup [.int ((n + k : Nat) : Int), xs.getD k .non]
  | [], _ => rfl
  | x :: xs, n => by
    rw [List.length_cons, List.range_succ_eq_map, List.map_cons, List.map_map]
    simp only [enumL, enumL_eq xs (n + 1)]
    congr 1
    refine List.map_congr_left fun k _ => ?_
    simp only [Function.comp]
    congr 2
    · congr 2
      omega
theorem enum0 (xs : List D) : enumL 0 xs = (List.range xs.length).map fun k => .tup [.int (k : Int), xs.getD k .non] := by
  rw [enumL_eq]
  simp
def tF (k : Nat) (p : Gd × (Nat → Int)) (t : Nat) : Option D :=
  if p.2 t < 0 then some (.tup [.str "below", .int (k : Int), .int (t : Int)])
  else if 0 < p.2 t ∧ ¬ (p.1.first ≤ t ∧ t ≤ p.1.last) then some (.tup [.str "away", .int (k : Int), .int (t : Int)])
  else if (p.1.most : Int) < p.2 t then some (.tup [.str "most", .int (k : Int), .int (t : Int)]) else none
def wF (T k : Nat) (p : Gd × (Nat → Int)) : Option D := if (p.1.want : Int) < sumI T p.2 then some (.tup [.str "want", .int (k : Int)]) else none
def gF (T k : Nat) (p : Gd × (Nat → Int)) : Option D := ((List.range T).findSome? (tF k p)).or (wF T k p)
def lF (Y : Yd) (f : Nat → Nat → Int) (l t : Nat) : Option D := if (bnd Y l t : Int) < f l t then some (.tup [.str "line", .int (l : Int), .int (t : Int)]) else none
def gsF (Y : Yd) (ps : Fil) : Option D := (List.range ps.length).findSome? fun k => (ps[k]?).elim none (gF Y.T k)
def lsF (Y : Yd) (ps : Fil) : Option D := (List.range Y.ls.length).findSome? fun l => (List.range Y.T).findSome? (lF Y (loadY Y ps) l)
def faultF (Y : Yd) (ps : Fil) : D := ((gsF Y ps).or (lsF Y ps)).getD .non
def GFltS (F : Fn) : Prop := ∀ (T k : Nat) (p : Gd × (Nat → Int)), F [p.1.d, .int (k : Int), rowD T p.2] = some (.ret ((gF T k p).getD .non) [])
theorem s_guest_fault (Φ : Nat → Fn) : GFltS (runP Φ 3 df_guest_fault) := by
  intro T k p
  have en : enumL 0 ((List.range T).map fun t => D.int (p.2 t)) = (List.range T).map fun t => .tup [.int (t : Int), .int (p.2 t)] := by
    rw [enum0]
    simp only [List.length_map, List.length_range]
    exact List.map_congr_left fun t ht => by simp [List.mem_range.mp ht]
  have sm := row_sum T p.2
  obtain ⟨i1, i2⟩ := fr_find (Φ := Φ) (tg := .t [.n 8, .n 9]) (b := (.cons (.ifs (.cmp .lt (.v 9) (.c (.int 0))) (.cons (.ret (.tup (.cons (.c (.str "below")) (.cons (.pur (.v 1)) (.cons (.pur (.v 8)) .nil))))) .nil) .nil) (.cons (.ifs (.and (.cons (.cmp .gt (.v 9) (.c (.int 0))) (.cons (.not (.chn .le .le (.v 4) (.v 8) (.v 5))) .nil))) (.cons (.ret (.tup (.cons (.c (.str "away")) (.cons (.pur (.v 1)) (.cons (.pur (.v 8)) .nil))))) .nil) .nil) (.cons (.ifs (.cmp .gt (.v 9) (.v 7)) (.cons (.ret (.tup (.cons (.c (.str "most")) (.cons (.pur (.v 1)) (.cons (.pur (.v 8)) .nil))))) .nil) .nil) .nil)))) (fun t : Nat => D.tup [.int (t : Int), .int (p.2 t)]) (tF k p) (ls := List.range T)
    (e := [some p.1.d, some (.int (k : Int)), some (rowD T p.2), some (.int (p.1.line : Int)), some (.int (p.1.first : Int)), some (.int (p.1.last : Int)), some (.int (p.1.want : Int)), some (.int (p.1.most : Int)), none, none])
    (fun i e => ∃ y8 y9 : Option D, e = [some p.1.d, some (.int (k : Int)), some (rowD T p.2), some (.int (p.1.line : Int)), some (.int (p.1.first : Int)), some (.int (p.1.last : Int)), some (.int (p.1.want : Int)), some (.int (p.1.most : Int)), y8, y9])
    ⟨_, _, rfl⟩ (fun i t e hi ⟨y8, y9, he⟩ => by
      refine ⟨[some p.1.d, some (.int (k : Int)), some (rowD T p.2), some (.int (p.1.line : Int)), some (.int (p.1.first : Int)), some (.int (p.1.last : Int)), some (.int (p.1.want : Int)), some (.int (p.1.most : Int)), some (.int (t : Int)), some (.int (p.2 t))], by rw [he]; rfl, ?_⟩
      unfold tF
      generalize p.1.d = pd at *
      generalize p.2 t = x at *
      by_cases c1 : x < 0
      · simp only [if_pos c1]
        refine ⟨fun d h => ⟨[some pd, some (.int (k : Int)), some (rowD T p.2), some (.int (p.1.line : Int)), some (.int (p.1.first : Int)), some (.int (p.1.last : Int)), some (.int (p.1.want : Int)), some (.int (p.1.most : Int)), some (.int (t : Int)), some (.int x)], ?_⟩, fun h => nomatch h⟩
        cases h
        simp [EV, ES, RC, RD, ioE, PU, cmpD, c1]
      · simp only [if_neg c1]
        by_cases c2 : 0 < x ∧ ¬ (p.1.first ≤ t ∧ t ≤ p.1.last)
        · simp only [if_pos c2]
          refine ⟨fun d h => ⟨[some pd, some (.int (k : Int)), some (rowD T p.2), some (.int (p.1.line : Int)), some (.int (p.1.first : Int)), some (.int (p.1.last : Int)), some (.int (p.1.want : Int)), some (.int (p.1.most : Int)), some (.int (t : Int)), some (.int x)], ?_⟩, fun h => nomatch h⟩
          cases h
          obtain ⟨c3, c4⟩ := c2
          by_cases c5 : p.1.first ≤ t
          · have c6 : ¬ t ≤ p.1.last := fun z => c4 ⟨c5, z⟩
            simp [EV, ES, RC, RD, ioE, PU, cmpD, c1, c3, c5, c6]
          · simp [EV, ES, RC, RD, ioE, PU, cmpD, c1, c3, c5]
        · simp only [if_neg c2]
          by_cases c7 : (p.1.most : Int) < x
          · simp only [if_pos c7]
            refine ⟨fun d h => ⟨[some pd, some (.int (k : Int)), some (rowD T p.2), some (.int (p.1.line : Int)), some (.int (p.1.first : Int)), some (.int (p.1.last : Int)), some (.int (p.1.want : Int)), some (.int (p.1.most : Int)), some (.int (t : Int)), some (.int x)], ?_⟩, fun h => nomatch h⟩
            cases h
            have c3 : 0 < x := by omega
            have c5 : p.1.first ≤ t := by
              by_cases z : p.1.first ≤ t
              · exact z
              · exact absurd ⟨c3, fun y => z y.1⟩ c2
            have c6 : t ≤ p.1.last := by
              by_cases z : t ≤ p.1.last
              · exact z
              · exact absurd ⟨c3, fun y => z y.2⟩ c2
            simp [EV, ES, RC, RD, ioE, PU, cmpD, c1, c3, c5, c6, c7]
          · simp only [if_neg c7]
            refine ⟨(fun d h => nomatch h), fun _ => ⟨[some pd, some (.int (k : Int)), some (rowD T p.2), some (.int (p.1.line : Int)), some (.int (p.1.first : Int)), some (.int (p.1.last : Int)), some (.int (p.1.want : Int)), some (.int (p.1.most : Int)), some (.int (t : Int)), some (.int x)], ?_, _, _, rfl⟩⟩
            by_cases c3 : 0 < x
            · have c5 : p.1.first ≤ t := by
                by_cases z : p.1.first ≤ t
                · exact z
                · exact absurd ⟨c3, fun y => z y.1⟩ c2
              have c6 : t ≤ p.1.last := by
                by_cases z : t ≤ p.1.last
                · exact z
                · exact absurd ⟨c3, fun y => z y.2⟩ c2
              simp [EV, ES, RC, RD, ioE, PU, cmpD, c1, c3, c5, c6, c7]
            · simp [EV, ES, RC, RD, ioE, PU, cmpD, c1, c3, c7])
  rw [← en] at i1 i2
  have hb : bindT (.t [.n 3, .n 4, .n 5, .n 6, .n 7]) p.1.d [some p.1.d, some (.int (k : Int)), some (rowD T p.2), none, none, none, none, none, none, none] =
    some [some p.1.d, some (.int (k : Int)), some (rowD T p.2), some (.int (p.1.line : Int)), some (.int (p.1.first : Int)), some (.int (p.1.last : Int)), some (.int (p.1.want : Int)), some (.int (p.1.most : Int)), none, none] := rfl
  have rd : rowD T p.2 = .lst ((List.range T).map fun t => D.int (p.2 t)) := rfl
  unfold gF wF
  generalize p.1.d = pd at *
  cases hq : (List.range T).findSome? (tF k p) with
  | some d =>
    obtain ⟨e2, lp⟩ := i1 d hq
    rw [rd] at lp hb ⊢
    generalize (List.range T).map (fun t => D.int (p.2 t)) = rl at *
    simp [↓hb, ↓lp, df_guest_fault, runP_eq, EV, ES, RC, RD, ioE, ioL, PU, hb, lp]
  | none =>
    obtain ⟨e2, lp, y8, y9, he⟩ := i2 hq
    rw [he] at lp
    rw [rd] at lp hb sm ⊢
    generalize (List.range T).map (fun t => D.int (p.2 t)) = rl at *
    generalize sumI T p.2 = sx at *
    by_cases c : (p.1.want : Int) < sx
    · simp [↓hb, ↓lp, df_guest_fault, runP_eq, EV, ES, RC, RD, ioE, ioL, PU, hb, lp, sm, cmpD, c]
    · simp [↓hb, ↓lp, df_guest_fault, runP_eq, EV, ES, RC, RD, ioE, ioL, PU, hb, lp, sm, cmpD, c]
theorem or_elim {a : Option D} : a.or none = a := by cases a <;> rfl
/-- what a fault looks like -/
def FltV (d : D) : Prop := d = .non ∨ ∃ (x : Str) (xs : List Int), d = .tup (.str x :: xs.map D.int) ∧ strOkB x = true ∧ xs.length ≤ 2
theorem find_prop {α : Type} {q : α → Option D} {R : D → Prop} : ∀ (ls : List α) (h : ∀ a d, q a = some d → R d) (d : D), ls.findSome? q = some d → R d
  | [], _, d, e => by simp at e
  | x :: xs, h, d, e => by
    rw [List.findSome?_cons] at e
    cases hq : q x with
    | some d0 => rw [hq] at e; cases e; exact h x _ hq
    | none => rw [hq] at e; exact find_prop xs h d e
def FltT (d : D) : Prop := ∃ (x : Str) (xs : List Int), d = .tup (.str x :: xs.map D.int) ∧ strOkB x = true ∧ xs.length ≤ 2
theorem tF_T {k : Nat} {p : Gd × (Nat → Int)} {t : Nat} {d : D} (h : tF k p t = some d) : FltT d := by
  unfold tF at h
  split at h
  · cases h; exact ⟨"below", [(k : Int), (t : Int)], rfl, by decide +kernel, by simp⟩
  · split at h
    · cases h; exact ⟨"away", [(k : Int), (t : Int)], rfl, by decide +kernel, by simp⟩
    · split at h
      · cases h; exact ⟨"most", [(k : Int), (t : Int)], rfl, by decide +kernel, by simp⟩
      · cases h
theorem gF_T {T k : Nat} {p : Gd × (Nat → Int)} {d : D} (h : gF T k p = some d) : FltT d := by
  unfold gF at h
  cases hq : (List.range T).findSome? (tF k p) with
  | some d0 => rw [hq] at h; cases h; exact find_prop (R := FltT) _ (fun a d e => tF_T e) _ hq
  | none =>
    rw [hq] at h
    have h : wF T k p = some d := h
    unfold wF at h
    split at h
    · cases h; exact ⟨"want", [(k : Int)], rfl, by decide +kernel, by simp⟩
    · cases h
theorem faultV (Y : Yd) (ps : Fil) : FltV (faultF Y ps) := by
  unfold faultF
  cases hg : gsF Y ps with
  | some d =>
    refine Or.inr (find_prop (R := FltT) _ (fun k d e => ?_) d hg)
    cases hk : ps[k]? with
    | none => rw [hk] at e; cases e
    | some p => rw [hk] at e; exact gF_T e
  | none =>
    cases hl : lsF Y ps with
    | none => exact Or.inl rfl
    | some d =>
      refine Or.inr (find_prop (R := FltT) _ (fun l d e => ?_) d hl)
      refine find_prop (R := FltT) _ (fun t d e => ?_) d e
      unfold lF at e
      split at e
      · cases e; exact ⟨"line", [(l : Int), (t : Int)], rfl, by decide +kernel, by simp⟩
      · cases e
theorem flt_pure {d : D} (h : FltV d) : pureD d = true := by
  rcases h with rfl | ⟨x, xs, rfl, _, _⟩
  · rfl
  · simp only [PU, Bool.true_and]
    rw [pureDs_all]; simp [PU]
theorem flt_shp {d : D} (h : FltV d) : shp 60 d = true := by
  rcases h with rfl | ⟨x, xs, rfl, hx, _⟩
  · rfl
  · have : shps 59 (xs.map D.int) = true := by rw [shps_all]; simp [SHP]
    simp only [SHP, hx, this]; rfl
def FltS (F : Fn) : Prop := ∀ (Y : Yd) (gs : List Gd) (ps : Fil), Y.Ok → (∀ g ∈ gs, g.Ok Y) → gs.length ≤ 8 → ps.map Prod.fst = gs → F [Y.d, gsD gs, fillD Y.T ps] = some (.ret (faultF Y ps) [])
theorem fill_ix {ps : Fil} {T k : Nat} {p : Gd × (Nat → Int)} (h : ps[k]? = some p) : ixD (fillD T ps) (.int (k : Int)) = some (rowD T p.2) := by
  have hl := (List.getElem?_eq_some_iff.mp h).1
  simp only [fillD, fillL, ixD, ixP, List.length_map]
  rw [if_pos (by omega), if_pos (by omega)]
  simp [h]
theorem s_fault_of {Φ : Nat → Fn} {g l : Nat} (hg : GFltS (Φ g)) (hl : LoadsS (Φ l)) : FltS (runP Φ 3 (df_fault_of g l)) := by
  intro Y gs ps ok gok gl hfst
  have pl := fil_len hfst
  have ld := hl Y gs ps ok gok gl hfst
  have t8 := ok.t8
  have ll5 := ok.l5
  have i1 : ixD Y.d (.int 1) = some (.tup (Y.ls.map lineD)) := by simp [Yd.d, ixD, ixP]
  have en : enumL 0 (gs.map Gd.d) = (List.range ps.length).map fun k => .tup [.int (k : Int), (ps[k]?).elim .non fun p => p.1.d] := by
    rw [enum0, List.length_map, pl]
    refine List.map_congr_left fun k hk => ?_
    have hk := List.mem_range.mp hk
    obtain ⟨p, hp⟩ : ∃ p, ps[k]? = some p := ⟨_, List.getElem?_eq_getElem (by omega)⟩
    have hg : gs[k]? = some p.1 := by rw [← hfst, List.getElem?_map, hp]; rfl
    rw [List.getD_eq_getElem?_getD, List.getElem?_map, hg, hp]; rfl
  obtain ⟨a1, a2⟩ := fr_find (Φ := Φ) (tg := .t [.n 3, .n 4]) (b := (.cons (.asg (.n 5) (.call g (.cons (.v 4) (.cons (.v 3) (.cons (.ix (.v 2) (.v 3)) .nil))))) (.cons (.ifs (.cmp .notN (.v 5) (.c .non)) (.cons (.ret (.pur (.v 5))) .nil) .nil) .nil))) (fun k : Nat => D.tup [.int (k : Int), (ps[k]?).elim .non fun p => p.1.d]) (fun k => (ps[k]?).elim none (gF Y.T k)) (ls := List.range ps.length)
    (e := [some Y.d, some (gsD gs), some (fillD Y.T ps), none, none, none, none, none, none, none])
    (fun i e => ∃ y3 y4 y5 : Option D, e = [some Y.d, some (gsD gs), some (fillD Y.T ps), y3, y4, y5, none, none, none, none])
    ⟨_, _, _, rfl⟩ (fun i k e hi ⟨y3, y4, y5, he⟩ => by
      obtain ⟨hk, hk2⟩ := List.getElem?_eq_some_iff.mp hi
      rw [List.length_range] at hk
      rw [List.getElem_range] at hk2
      subst hk2
      have hp : ps[i]? = some ps[i] := List.getElem?_eq_getElem hk
      have fx := fill_ix (T := Y.T) hp
      have hgi := hg Y.T i ps[i]
      have gv : FltV ((gF Y.T i ps[i]).getD .non) := by
        cases q : gF Y.T i ps[i] with
        | none => exact Or.inl rfl
        | some d => exact Or.inr (gF_T q)
      have gp := flt_pure gv
      rw [hp]
      simp only [Option.elim]
      refine ⟨[some Y.d, some (gsD gs), some (fillD Y.T ps), some (.int (i : Int)), some ps[i].1.d, y5, none, none, none, none], by rw [he]; rfl, fun d h => ⟨[some Y.d, some (gsD gs), some (fillD Y.T ps), some (.int (i : Int)), some ps[i].1.d, some d, none, none, none, none], ?_⟩, fun h => ⟨[some Y.d, some (gsD gs), some (fillD Y.T ps), some (.int (i : Int)), some ps[i].1.d, some .non, none, none, none, none], ?_, _, _, _, rfl⟩⟩
      · rw [h] at hgi gp
        have hgi : Φ g [ps[i].1.d, .int (i : Int), rowD Y.T ps[i].2] = some (.ret d []) := hgi
        have gp : pureD d = true := gp
        have nn : cmpD .notN d .non = some true := by
          obtain ⟨x, xs, rfl, _⟩ := gF_T h
          rfl
        generalize fillD Y.T ps = fp at *
        generalize rowD Y.T ps[i].2 = rw' at *
        generalize ps[i].1.d = pd at *
        simp [EV, ES, RC, RD, ioE, ioL, bindT, PU, fx, hgi, nn, gp]
      · rw [h] at hgi
        have hgi : Φ g [ps[i].1.d, .int (i : Int), rowD Y.T ps[i].2] = some (.ret .non []) := hgi
        have nn : cmpD .notN .non .non = some false := rfl
        generalize fillD Y.T ps = fp at *
        generalize rowD Y.T ps[i].2 = rw' at *
        generalize ps[i].1.d = pd at *
        simp [EV, ES, RC, RD, ioE, ioL, bindT, PU, fx, hgi, nn])
  rw [← en] at a1 a2
  have gd0 : gsD gs = .lst (gs.map Gd.d) := rfl
  cases hq : gsF Y ps with
  | some d =>
    obtain ⟨e2, lp⟩ := a1 d hq
    have : faultF Y ps = d := by unfold faultF; rw [hq]; rfl
    rw [this]
    rw [gd0] at lp ⊢
    generalize gs.map Gd.d = gd' at *
    generalize fillD Y.T ps = fp at *
    generalize Y.d = yd at *
    simp [↓lp, df_fault_of, runP_eq, EV, ES, RC, RD, ioE, ioL, PU, lp]
  | none =>
    obtain ⟨e2, lp, y3, y4, y5, he⟩ := a2 hq
    have hf : faultF Y ps = (lsF Y ps).getD .non := by unfold faultF; rw [hq]; rfl
    rw [hf]
    rw [he] at lp
    have en2 : enumL 0 ((List.range Y.ls.length).map fun l => rowD Y.T (loadY Y ps l)) = (List.range Y.ls.length).map fun l => .tup [.int (l : Int), rowD Y.T (loadY Y ps l)] := by
      rw [enum0, List.length_map, List.length_range]
      exact List.map_congr_left fun t ht => by simp [List.mem_range.mp ht]
    have td : tabD Y.ls.length Y.T (loadY Y ps) = .lst ((List.range Y.ls.length).map fun l => rowD Y.T (loadY Y ps l)) := rfl
    obtain ⟨b1, b2⟩ := fr_find (Φ := Φ) (tg := .t [.n 6, .n 7]) (b := (.cons (.for (.t [(.n 8), (.n 9)]) (.enu (.v 7)) (.cons (.ifs (.cmp .gt (.v 9) (.ix (.ix (.ix (.ix (.v 0) (.c (.int 1))) (.v 6)) (.c (.int 1))) (.v 8))) (.cons (.ret (.tup (.cons (.c (.str "line")) (.cons (.pur (.v 6)) (.cons (.pur (.v 8)) .nil))))) .nil) .nil) .nil)) .nil)) (fun l : Nat => D.tup [.int (l : Int), rowD Y.T (loadY Y ps l)]) (fun l => (List.range Y.T).findSome? (lF Y (loadY Y ps) l)) (ls := List.range Y.ls.length)
      (e := [some Y.d, some (gsD gs), some (fillD Y.T ps), y3, y4, y5, none, none, none, none])
      (fun i e => ∃ y6 y7 y8 y9 : Option D, e = [some Y.d, some (gsD gs), some (fillD Y.T ps), y3, y4, y5, y6, y7, y8, y9])
      ⟨_, _, _, _, rfl⟩ (fun i l e hi ⟨y6, y7, y8, y9, he⟩ => by
        obtain ⟨hk, hk2⟩ := List.getElem?_eq_some_iff.mp hi
        rw [List.length_range] at hk
        rw [List.getElem_range] at hk2
        subst hk2
        obtain ⟨a, bs, la, lb, lc, lx, lr⟩ := line_at ok hk
        have lxx := ls_ix Y i a bs la
        have i2 : ixD (.tup [aboD a, .tup (natD bs)]) (.int 1) = some (.tup (natD bs)) := rfl
        have en3 : enumL 0 ((List.range Y.T).map fun t => D.int (loadY Y ps i t)) = (List.range Y.T).map fun t => .tup [.int (t : Int), .int (loadY Y ps i t)] := by
          rw [enum0]
          simp only [List.length_map, List.length_range]
          exact List.map_congr_left fun t ht => by simp [List.mem_range.mp ht]
        have rd : rowD Y.T (loadY Y ps i) = .lst ((List.range Y.T).map fun t => D.int (loadY Y ps i t)) := rfl
        obtain ⟨c1, c2⟩ := fr_find (Φ := Φ) (tg := .t [.n 8, .n 9]) (b := (.cons (.ifs (.cmp .gt (.v 9) (.ix (.ix (.ix (.ix (.v 0) (.c (.int 1))) (.v 6)) (.c (.int 1))) (.v 8))) (.cons (.ret (.tup (.cons (.c (.str "line")) (.cons (.pur (.v 6)) (.cons (.pur (.v 8)) .nil))))) .nil) .nil) .nil)) (fun t : Nat => D.tup [.int (t : Int), .int (loadY Y ps i t)]) (lF Y (loadY Y ps) i) (ls := List.range Y.T)
          (e := [some Y.d, some (gsD gs), some (fillD Y.T ps), y3, y4, y5, some (.int (i : Int)), some (rowD Y.T (loadY Y ps i)), y8, y9])
          (fun j e => ∃ y8 y9 : Option D, e = [some Y.d, some (gsD gs), some (fillD Y.T ps), y3, y4, y5, some (.int (i : Int)), some (rowD Y.T (loadY Y ps i)), y8, y9])
          ⟨_, _, rfl⟩ (fun j t e hj ⟨y8, y9, he⟩ => by
            obtain ⟨hk, hk2⟩ := List.getElem?_eq_some_iff.mp hj
            rw [List.length_range] at hk
            rw [List.getElem_range] at hk2
            subst hk2
            have bx := tup_natD bs j _ (lx j hk)
            unfold lF
            refine ⟨[some Y.d, some (gsD gs), some (fillD Y.T ps), y3, y4, y5, some (.int (i : Int)), some (rowD Y.T (loadY Y ps i)), some (.int (j : Int)), some (.int (loadY Y ps i j))], by rw [he]; rfl, fun d h => ⟨[some Y.d, some (gsD gs), some (fillD Y.T ps), y3, y4, y5, some (.int (i : Int)), some (rowD Y.T (loadY Y ps i)), some (.int (j : Int)), some (.int (loadY Y ps i j))], ?_⟩, fun h => ⟨[some Y.d, some (gsD gs), some (fillD Y.T ps), y3, y4, y5, some (.int (i : Int)), some (rowD Y.T (loadY Y ps i)), some (.int (j : Int)), some (.int (loadY Y ps i j))], ?_, _, _, rfl⟩⟩
            · split at h
              · rename_i c
                cases h
                generalize rowD Y.T (loadY Y ps i) = rw' at *
                generalize loadY Y ps i j = lj at *
                generalize bnd Y i j = bn at *
                generalize aboD a = ab at *
                generalize fillD Y.T ps = fp at *
                generalize Y.d = yd at *
                simp [EV, ES, RC, RD, ioE, PU, i1, lxx, i2, bx, cmpD, c]
              · cases h
            · split at h
              · cases h
              · rename_i c
                generalize rowD Y.T (loadY Y ps i) = rw' at *
                generalize loadY Y ps i j = lj at *
                generalize bnd Y i j = bn at *
                generalize aboD a = ab at *
                generalize fillD Y.T ps = fp at *
                generalize Y.d = yd at *
                simp [EV, ES, RC, RD, ioE, PU, i1, lxx, i2, bx, cmpD, c])
        rw [← en3] at c1 c2
        refine ⟨_, by rw [he]; rfl, fun d h => ?_, fun h => ?_⟩
        · obtain ⟨e3, lp3⟩ := c1 d h
          refine ⟨e3, ?_⟩
          rw [rd] at lp3 ⊢
          generalize (List.range Y.T).map (fun t => D.int (loadY Y ps i t)) = lr' at *
          generalize fillD Y.T ps = fp at *
          generalize Y.d = yd at *
          simp [↓lp3, EV, ES, RC, RD, ioE, PU, lp3]
        · obtain ⟨e3, lp3, y8', y9', he3⟩ := c2 h
          rw [he3] at lp3
          refine ⟨[some Y.d, some (gsD gs), some (fillD Y.T ps), y3, y4, y5, some (.int (i : Int)), some (rowD Y.T (loadY Y ps i)), y8', y9'], ?_, _, _, _, _, rfl⟩
          rw [rd] at lp3 ⊢
          generalize (List.range Y.T).map (fun t => D.int (loadY Y ps i t)) = lr' at *
          generalize fillD Y.T ps = fp at *
          generalize Y.d = yd at *
          simp [↓lp3, EV, ES, RC, RD, ioE, PU, lp3])
    rw [← en2] at b1 b2
    cases hq2 : lsF Y ps with
    | some d =>
      obtain ⟨e2, lp2⟩ := b1 d hq2
      rw [td] at ld
      rw [gd0] at lp lp2 ld ⊢
      generalize (List.range Y.ls.length).map (fun l => rowD Y.T (loadY Y ps l)) = ll at *
      generalize gs.map Gd.d = gd' at *
      generalize fillD Y.T ps = fp at *
      generalize Y.d = yd at *
      simp [↓lp, ↓lp2, df_fault_of, runP_eq, EV, ES, RC, RD, ioE, ioL, PU, lp, lp2, ld]
    | none =>
      obtain ⟨e2, lp2, y6, y7, y8, y9, he2⟩ := b2 hq2
      rw [he2] at lp2
      rw [td] at ld
      rw [gd0] at lp lp2 ld ⊢
      generalize (List.range Y.ls.length).map (fun l => rowD Y.T (loadY Y ps l)) = ll at *
      generalize gs.map Gd.d = gd' at *
      generalize fillD Y.T ps = fp at *
      generalize Y.d = yd at *
      simp [↓lp, ↓lp2, df_fault_of, runP_eq, EV, ES, RC, RD, ioE, ioL, PU, lp, lp2, ld]
end Cy
end
section
set_option linter.all false
set_option maxRecDepth 100000
set_option maxHeartbeats 4000000
/-! Plain: what sets can be given, together. -/
namespace Cy
open PySem
theorem downs_succ (n : Nat) : downs (n + 2) = (n + 1) :: downs (n + 1) := by
  unfold downs
  show (List.range (n + 1)).map _ = _
  rw [List.range_succ_eq_map, List.map_cons, List.map_map]
  congr 1
  exact List.map_congr_left fun i _ => by simp only [Function.comp]; omega
theorem downs_ind {β : Type} (f : β → Nat → β) (P : Nat → β → Prop) : ∀ (n : Nat) (v : β), P (n + 1) v → (∀ l w, 1 ≤ l → l < n + 1 → P (l + 1) w → P l (f w l)) → P 1 ((downs (n + 1)).foldl f v)
  | 0, v, h, _ => h
  | n + 1, v, h, hs => by
    rw [downs_succ, List.foldl_cons]
    exact downs_ind f P n _ (hs (n + 1) v (by omega) (by omega) h) fun l w h1 h2 => hs l w h1 (by omega)
theorem fold_fam {ι : Type} (f : List Nat → Nat → List Nat) : ∀ (ls : List Nat) (V : ι → List Nat) (i : ι), (ls.foldl (fun W l => fun j => f (W j) l) V) i = ls.foldl f (V i)
  | [], _, _ => rfl
  | l :: ls, V, i => by rw [List.foldl_cons, List.foldl_cons, fold_fam f ls]
theorem addAt_get (v : List Nat) (i x j : Nat) : (addAt v i x).getD j 0 = if j = i ∧ j < v.length then v.getD j 0 + x else v.getD j 0 := by
  unfold addAt
  rw [List.getD_eq_getElem?_getD]
  by_cases h : j = i
  · subst h
    by_cases hl : j < v.length
    · rw [List.getElem?_set_self hl, if_pos ⟨rfl, hl⟩]; rfl
    · rw [if_neg (fun z => hl z.2), List.getElem?_eq_none (by simpa using hl), List.getD_eq_getElem?_getD, List.getElem?_eq_none (by omega)]
  · rw [List.getElem?_set_ne (Ne.symm h), if_neg (fun z => h z.1), List.getD_eq_getElem?_getD]
theorem stepL_get (Y : Yd) (t : Nat) (v : List Nat) (l j : Nat) : (stepL Y t v l).getD j 0 = v.getD j 0 + if j = abo Y l ∧ j < v.length then min (bnd Y l t) (v.getD l 0) else 0 := by
  unfold stepL
  rw [addAt_get]
  split <;> omega
def wgt (gs : List Gd) (l t k : Nat) : Nat := match gs[k]? with
  | some g => if g.line = l ∧ g.first ≤ t ∧ t ≤ g.last then g.most else 0
  | none => 0
theorem stepG_get (gs : List Gd) (t : Nat) (v : List Nat) (k l : Nat) (hl : l < v.length) : (stepG gs t v k).getD l 0 = v.getD l 0 + wgt gs l t k := by
  unfold stepG wgt
  cases gs[k]? with
  | none => rfl
  | some g =>
    dsimp only
    by_cases h1 : g.first ≤ t ∧ t ≤ g.last
    · rw [if_pos h1, addAt_get]
      by_cases h2 : l = g.line
      · rw [if_pos ⟨h2, hl⟩, if_pos ⟨h2.symm, h1⟩]
      · rw [if_neg (fun z => h2 z.1), if_neg (fun z => h2 z.1.symm)]; rfl
    · rw [if_neg h1, if_neg (fun z => h1 z.2)]; rfl
theorem foldG_get (gs : List Gd) (t l : Nat) : ∀ (ss : List Nat) (v : List Nat), l < v.length → (ss.foldl (stepG gs t) v).getD l 0 = v.getD l 0 + (ss.map (wgt gs l t)).sum
  | [], v, _ => by simp
  | s :: ss, v, hl => by
    rw [List.foldl_cons, foldG_get gs t l ss _ (by rw [stepG_len]; exact hl), stepG_get gs t v s l hl, List.map_cons, List.sum_cons]
    omega
theorem initR_get (L : Nat) (gs : List Gd) (ss : List Nat) (t l : Nat) (hl : l < L) : (initR L gs ss t).getD l 0 = (ss.map (wgt gs l t)).sum := by
  unfold initR
  rw [foldG_get gs t l ss _ (by simpa using hl)]
  have : (List.replicate L 0).getD l 0 = 0 := by
    rw [List.getD_eq_getElem?_getD, List.getElem?_replicate]; split <;> rfl
  rw [this]; omega
/-- the numbers whose bits stand in a mask -/
def mems (n b : Nat) : List Nat := (List.range n).filter fun k => b.testBit k
theorem mems_sum (n b : Nat) (f : Nat → Nat) : ((mems n b).map f).sum = ((List.range n).map fun k => if b.testBit k then f k else 0).sum := by
  unfold mems
  induction List.range n with
  | nil => rfl
  | cons k ks ih =>
    by_cases h : b.testBit k = true
    · simp [List.filter_cons, h, ih]
    · simp [List.filter_cons, h, ih]
theorem sum4 (ks : List Nat) (f1 f2 f3 f4 : Nat → Nat) (h : ∀ k ∈ ks, f1 k + f2 k ≤ f3 k + f4 k) : (ks.map f1).sum + (ks.map f2).sum ≤ (ks.map f3).sum + (ks.map f4).sum := by
  induction ks with
  | nil => simp
  | cons k ks ih =>
    have a := h k (List.mem_cons_self ..)
    have b := ih fun k hk => h k (List.mem_cons_of_mem _ hk)
    simp only [List.map_cons, List.sum_cons]
    omega
theorem sum2 (ks : List Nat) (f1 f2 : Nat → Nat) (h : ∀ k ∈ ks, f1 k ≤ f2 k) : (ks.map f1).sum ≤ (ks.map f2).sum := by
  have := sum4 ks f1 (fun _ => 0) f2 (fun _ => 0) (fun k hk => by have := h k hk; omega)
  have z : ∀ ks : List Nat, (ks.map fun _ => 0).sum = 0 := fun ks => by induction ks <;> simp_all
  rw [z] at this
  omega
theorem cySum4 (T : Nat) (f1 f2 f3 f4 : Nat → Nat) (h : ∀ t, t < T → f1 t + f2 t ≤ f3 t + f4 t) : cySum T f1 + cySum T f2 ≤ cySum T f3 + cySum T f4 :=
  sum4 _ f1 f2 f3 f4 fun t ht => h t (List.mem_range.mp ht)
theorem cySum2 (T : Nat) (f1 f2 : Nat → Nat) (h : ∀ t, t < T → f1 t ≤ f2 t) : cySum T f1 ≤ cySum T f2 :=
  sum2 _ f1 f2 fun t ht => h t (List.mem_range.mp ht)
/-- four sets: one within both, one over both -/
structure Q4 (p a b q : Nat) : Prop where
  pa : p ≤ a
  pb : p ≤ b
  aq : a ≤ q
  bq : b ≤ q
  su : p + q ≤ a + b
theorem Q4.min {p a b q : Nat} (h : Q4 p a b q) (c : Nat) : Q4 (min c p) (min c a) (min c b) (min c q) := by
  obtain ⟨h1, h2, h3, h4, h5⟩ := h
  refine ⟨?_, ?_, ?_, ?_, ?_⟩ <;> omega
theorem Q4.add {p a b q p' a' b' q' : Nat} (h : Q4 p a b q) (k : Q4 p' a' b' q') : Q4 (p + p') (a + a') (b + b') (q + q') := by
  obtain ⟨h1, h2, h3, h4, h5⟩ := h
  obtain ⟨k1, k2, k3, k4, k5⟩ := k
  refine ⟨?_, ?_, ?_, ?_, ?_⟩ <;> omega
theorem Q4.zero : Q4 0 0 0 0 := ⟨Nat.le_refl _, Nat.le_refl _, Nat.le_refl _, Nat.le_refl _, Nat.le_refl _⟩
def fam (sp sa sb sq : List Nat) : Nat → List Nat
  | 0 => sp
  | 1 => sa
  | 2 => sb
  | _ => sq
theorem reach4 (Y : Yd) (gs : List Gd) (sp sa sb sq : List Nat) (t : Nat) (hL : 1 ≤ Y.ls.length)
    (h : ∀ l, l < Y.ls.length → Q4 ((sp.map (wgt gs l t)).sum) ((sa.map (wgt gs l t)).sum) ((sb.map (wgt gs l t)).sum) ((sq.map (wgt gs l t)).sum)) :
    Q4 ((reachR Y gs sp t).getD 0 0) ((reachR Y gs sa t).getD 0 0) ((reachR Y gs sb t).getD 0 0) ((reachR Y gs sq t).getD 0 0) := by
  obtain ⟨n, hn⟩ : ∃ n, Y.ls.length = n + 1 := ⟨Y.ls.length - 1, by omega⟩
  have key := downs_ind (β := Nat → List Nat) (fun W l => fun j => stepL Y t (W j) l) (fun _ W => (∀ j, (W j).length = Y.ls.length) ∧ ∀ l, l < Y.ls.length → Q4 ((W 0).getD l 0) ((W 1).getD l 0) ((W 2).getD l 0) ((W 3).getD l 0)) n
    (fun j => initR Y.ls.length gs (fam sp sa sb sq j) t)
    ⟨fun j => initR_len _ _ _ _, fun l hl => by simp only [initR_get _ _ _ _ _ hl]; exact h l hl⟩ (fun l W h1 h2 ⟨w1, w2⟩ => by
      refine ⟨fun j => by simp [stepL, addAt_len, w1 j], fun i hi => ?_⟩
      simp only [stepL_get, w1]
      refine (w2 i hi).add ?_
      by_cases c : i = abo Y l ∧ i < Y.ls.length
      · simp only [if_pos c]
        exact (w2 l (by omega)).min _
      · simp only [if_neg c]
        exact Q4.zero)
  have k2 := key.2 0 (by omega)
  simp only [fold_fam, ← hn] at k2
  exact k2
theorem givAt4 (Y : Yd) (gs : List Gd) (sp sa sb sq : List Nat) (t : Nat) (hL : 1 ≤ Y.ls.length)
    (h : ∀ l, l < Y.ls.length → Q4 ((sp.map (wgt gs l t)).sum) ((sa.map (wgt gs l t)).sum) ((sb.map (wgt gs l t)).sum) ((sq.map (wgt gs l t)).sum)) :
    Q4 (givAt Y gs sp t) (givAt Y gs sa t) (givAt Y gs sb t) (givAt Y gs sq t) := (reach4 Y gs sp sa sb sq t hL h).min _
def gvB (Y : Yd) (gs : List Gd) (b : Nat) : Nat := givMost Y gs (mems gs.length b)
theorem mems4 (gs : List Gd) (a b l t : Nat) : Q4 (((mems gs.length (a &&& b)).map (wgt gs l t)).sum) (((mems gs.length a).map (wgt gs l t)).sum) (((mems gs.length b).map (wgt gs l t)).sum) (((mems gs.length (a ||| b)).map (wgt gs l t)).sum) := by
  simp only [mems_sum]
  refine ⟨sum2 _ _ _ fun k _ => ?_, sum2 _ _ _ fun k _ => ?_, sum2 _ _ _ fun k _ => ?_, sum2 _ _ _ fun k _ => ?_, sum4 _ _ _ _ _ fun k _ => ?_⟩ <;>
    (simp only [Nat.testBit_and, Nat.testBit_or]; cases a.testBit k <;> cases b.testBit k <;> simp)
/-- sets together -/
theorem gv_sub (Y : Yd) (gs : List Gd) (hL : 1 ≤ Y.ls.length) (a b : Nat) : gvB Y gs (a ||| b) + gvB Y gs (a &&& b) ≤ gvB Y gs a + gvB Y gs b := by
  unfold gvB givMost
  refine cySum4 _ _ _ _ _ fun t _ => ?_
  have := (givAt4 Y gs _ _ _ _ t hL fun l _ => mems4 gs a b l t).su
  omega
theorem gv_mono (Y : Yd) (gs : List Gd) (hL : 1 ≤ Y.ls.length) (a b : Nat) : gvB Y gs a ≤ gvB Y gs (a ||| b) := by
  unfold gvB givMost
  exact cySum2 _ _ _ fun t _ => (givAt4 Y gs _ _ _ _ t hL fun l _ => mems4 gs a b l t).aq
/-- one more: at one line at most -/
theorem reach1 (Y : Yd) (ok : Y.Ok) (gs : List Gd) (sa sq : List Nat) (t M x : Nat) (hx : x < Y.ls.length)
    (h : ∀ l, l < Y.ls.length → (l ≠ x → (sq.map (wgt gs l t)).sum = (sa.map (wgt gs l t)).sum) ∧ (sq.map (wgt gs l t)).sum ≤ (sa.map (wgt gs l t)).sum + M) :
    (reachR Y gs sq t).getD 0 0 ≤ (reachR Y gs sa t).getD 0 0 + M := by
  have hL := ok.l1
  obtain ⟨n, hn⟩ : ∃ n, Y.ls.length = n + 1 := ⟨Y.ls.length - 1, by omega⟩
  have key := downs_ind (β := Bool → List Nat) (fun W l => fun j => stepL Y t (W j) l) (fun m W => (∀ j, (W j).length = Y.ls.length) ∧ ∃ x, x < m ∧ ∀ l, l < m → (l ≠ x → (W true).getD l 0 = (W false).getD l 0) ∧ (W true).getD l 0 ≤ (W false).getD l 0 + M) n
    (fun j => initR Y.ls.length gs (bif j then sq else sa) t)
    ⟨fun j => initR_len _ _ _ _, x, by omega, fun l hl => by rw [initR_get _ _ _ _ _ (by omega), initR_get _ _ _ _ _ (by omega)]; exact h l (by omega)⟩ (fun l W h1 h2 ⟨w1, x, hx, w2⟩ => by
      obtain ⟨a, bs, la, lb, lc, _, _⟩ := line_at ok (show l < Y.ls.length by omega)
      have ab := (lc h1).2
      refine ⟨fun j => by simp [stepL, addAt_len, w1 j], ?_⟩
      by_cases e : x = l
      · subst e
        refine ⟨abo Y x, ab, fun i hi => ?_⟩
        simp only [stepL_get, w1]
        have wi := w2 i (by omega)
        have wx := w2 x (by omega)
        have e1 := wi.1 (by omega)
        refine ⟨fun hne => ?_, ?_⟩
        · rw [if_neg (fun z => hne z.1), if_neg (fun z => hne z.1), e1]
        · rw [e1]
          split <;> omega
      · refine ⟨x, by omega, fun i hi => ?_⟩
        simp only [stepL_get, w1]
        have wi := w2 i (by omega)
        have wl := (w2 l (by omega)).1 (fun z => e z.symm)
        rw [wl]
        refine ⟨fun hne => by rw [wi.1 hne], ?_⟩
        have := wi.2
        omega)
  obtain ⟨_, x, hx, k2⟩ := key
  have k3 := (k2 0 (by omega)).2
  simp only [fold_fam, ← hn] at k3
  exact k3
theorem wgt_one (gs : List Gd) (n a k l t : Nat) (hk : k < n) : (((mems n (a ||| 2 ^ k)).map (wgt gs l t)).sum) ≤ ((mems n a).map (wgt gs l t)).sum + wgt gs l t k := by
  simp only [mems_sum]
  have hb : ∀ j, (a ||| 2 ^ k).testBit j = (a.testBit j || decide (j = k)) := fun j => by
    rw [Nat.testBit_or, Nat.testBit_two_pow]
    congr 1
    exact decide_eq_decide.mpr eq_comm
  have step : ∀ m, ((List.range m).map fun j => if (a ||| 2 ^ k).testBit j then wgt gs l t j else 0).sum ≤ ((List.range m).map fun j => if a.testBit j then wgt gs l t j else 0).sum + (if k < m then wgt gs l t k else 0) := fun m => by
    induction m with
    | zero => simp
    | succ m ih =>
      rw [List.range_succ, List.map_append, List.map_append, List.sum_append, List.sum_append]
      simp only [List.map_cons, List.map_nil, List.sum_cons, List.sum_nil, hb]
      simp only [hb] at ih
      generalize ((List.range m).map fun j => if (a.testBit j || decide (j = k)) = true then wgt gs l t j else 0).sum = s1 at *
      generalize ((List.range m).map fun j => if a.testBit j = true then wgt gs l t j else 0).sum = s2 at *
      by_cases e : m = k
      · subst e
        rw [if_neg (by omega)] at ih
        rw [if_pos (show m < m + 1 by omega)]
        cases a.testBit m <;> simp <;> omega
      · have e2 : decide (m = k) = false := by simp [e]
        rw [e2]
        have e3 : (if k < m + 1 then wgt gs l t k else 0) = if k < m then wgt gs l t k else 0 := by
          have : (k < m + 1) = (k < m) := propext (by omega)
          simp only [this]
        rw [e3]
        cases a.testBit m <;> simp <;> omega
  have := step n
  rw [if_pos hk] at this
  exact this
theorem wgt_ge (gs : List Gd) (n a k l t : Nat) : ((mems n a).map (wgt gs l t)).sum ≤ ((mems n (a ||| 2 ^ k)).map (wgt gs l t)).sum := by
  simp only [mems_sum]
  refine sum2 _ _ _ fun j _ => ?_
  rw [Nat.testBit_or]
  cases a.testBit j <;> simp
theorem cySum_succ (T : Nat) (f : Nat → Nat) : cySum (T + 1) f = cySum T f + f T := by
  unfold cySum
  rw [List.range_succ, List.map_append, List.sum_append]; simp
theorem cySum_add (T : Nat) (f g : Nat → Nat) : cySum T (fun t => f t + g t) = cySum T f + cySum T g := by
  induction T with
  | zero => rfl
  | succ T ih => rw [cySum_succ, cySum_succ, cySum_succ, ih]; omega
theorem cySum_ind (M a b : Nat) (hab : a ≤ b) : ∀ T, cySum T (fun t => if a ≤ t ∧ t ≤ b then M else 0) = M * (min T (b + 1) - a)
  | 0 => by simp [cySum]
  | T + 1 => by
    rw [cySum_succ, cySum_ind M a b hab T]
    by_cases h : a ≤ T ∧ T ≤ b
    · rw [if_pos h, ← Nat.mul_succ]
      congr 1
      omega
    · rw [if_neg h, Nat.add_zero]
      congr 1
      omega
theorem gv_one (Y : Yd) (ok : Y.Ok) (gs : List Gd) (a k : Nat) (g : Gd) (hg : gs[k]? = some g) (gk : g.Ok Y) : gvB Y gs (a ||| 2 ^ k) ≤ gvB Y gs a + g.most * (g.last + 1 - g.first) := by
  have hk : k < gs.length := (List.getElem?_eq_some_iff.mp hg).1
  unfold gvB givMost
  have hi := cySum_ind g.most g.first g.last gk.fl Y.T
  have e : min Y.T (g.last + 1) = g.last + 1 := by have := gk.lt; omega
  rw [e] at hi
  rw [← hi, ← cySum_add]
  refine cySum2 _ _ _ fun t ht => ?_
  have := reach1 Y ok gs (mems gs.length a) (mems gs.length (a ||| 2 ^ k)) t (if g.first ≤ t ∧ t ≤ g.last then g.most else 0) g.line gk.ln (fun l hl => by
    have h1 := wgt_one gs gs.length a k l t hk
    have h2 := wgt_ge gs gs.length a k l t
    have hw : wgt gs l t k = if g.line = l ∧ g.first ≤ t ∧ t ≤ g.last then g.most else 0 := by unfold wgt; rw [hg]
    rw [hw] at h1
    refine ⟨fun hne => ?_, ?_⟩
    · rw [if_neg (fun z => hne z.1.symm)] at h1
      omega
    · by_cases c : g.first ≤ t ∧ t ≤ g.last
      · rw [if_pos c]
        split at h1 <;> omega
      · rw [if_neg (fun z => c z.2)] at h1
        rw [if_neg c]
        omega)
  unfold givAt
  omega
theorem gv_zero (Y : Yd) (gs : List Gd) (hL : 1 ≤ Y.ls.length) : gvB Y gs 0 = 0 := by
  unfold gvB givMost
  have z : ∀ l t, ((mems gs.length 0).map (wgt gs l t)).sum = 0 := fun l t => by
    rw [mems_sum]
    have : ∀ ks : List Nat, (ks.map fun k => if (0 : Nat).testBit k then wgt gs l t k else 0).sum = 0 := fun ks => by induction ks <;> simp_all
    exact this _
  have g0 : ∀ t, givAt Y gs (mems gs.length 0) t = 0 := fun t => by
    have h := reach4 Y gs (mems gs.length 0) (mems gs.length 0) (mems gs.length 0) (mems gs.length 0) t hL (fun l _ => by rw [z]; exact Q4.zero)
    -- nothing reaches any line
    obtain ⟨n, hn⟩ : ∃ n, Y.ls.length = n + 1 := ⟨Y.ls.length - 1, by omega⟩
    have key := downs_ind (β := List Nat) (stepL Y t) (fun _ W => W.length = Y.ls.length ∧ ∀ l, l < Y.ls.length → W.getD l 0 = 0) n (initR Y.ls.length gs (mems gs.length 0) t)
      ⟨initR_len _ _ _ _, fun l hl => by rw [initR_get _ _ _ _ _ hl, z]⟩ (fun l W h1 h2 ⟨w1, w2⟩ => by
        refine ⟨by simp [stepL, addAt_len, w1], fun i hi => ?_⟩
        rw [stepL_get, w2 i hi, w2 l (by omega)]
        split <;> simp)
    have k2 := key.2 0 (by omega)
    rw [← hn] at k2
    unfold givAt
    have : (reachR Y gs (mems gs.length 0) t).getD 0 0 = 0 := k2
    rw [this, Nat.min_zero]
  have : givAt Y gs (mems gs.length 0) = fun _ => 0 := funext g0
  rw [this]
  unfold cySum
  induction List.range Y.T with
  | nil => rfl
  | cons k ks ih => simpa using ih
end Cy
end
section
set_option linter.all false
set_option maxRecDepth 100000
set_option maxHeartbeats 4000000
/-! Plain: what a set can be given, of yards of any bounds; cuts. -/
namespace Cy
open PySem
def df_cuts_at (c_reached_at : Nat) (c_way_up : Nat) : Df := ⟨8, [], (.cons (.asg (.n 4) (.call c_reached_at (.cons (.v 0) (.cons (.v 1) (.cons (.v 2) (.cons (.v 3) .nil)))))) (.cons (.asg (.n 5) (.comp (.v 6) (.n 6) (.rng (.cons (.bi .len (.cons (.ix (.v 0) (.c (.int 1))) .nil)) .nil)) (.cons (.cmp .gt (.ix (.v 4) (.v 6)) (.ix (.ix (.ix (.ix (.v 0) (.c (.int 1))) (.v 6)) (.c (.int 1))) (.v 3))) .nil) [6])) (.cons (.ret (.comp (.pur (.v 6)) (.n 6) (.val (.v 5)) (.cons (.not (.bi .any (.cons (.comp (.cmp .inn (.v 7) (.v 5)) (.n 7) (.val (.sl (.call c_way_up (.cons (.v 0) (.cons (.v 6) .nil))) (.so (.c (.int 1))) .no)) .nil [7]) .nil))) .nil) [6])) .nil)))⟩
def df_cuts_of (c_cuts_at : Nat) : Df := ⟨4, [], (.cons (.ret (.comp (.call c_cuts_at (.cons (.v 0) (.cons (.v 1) (.cons (.v 2) (.cons (.v 3) .nil))))) (.n 3) (.rng (.cons (.ix (.v 0) (.c (.int 0))) .nil)) .nil [3])) .nil)⟩
structure LnSh (T i : Nat) (l : Option Nat × List Nat) : Prop where
  len : l.2.length = T
  root : i = 0 → l.1 = none
  up : 0 < i → ∃ j, l.1 = some j ∧ j < i
structure Yd.Sh (Y : Yd) : Prop where
  t1 : 1 ≤ Y.T
  t8 : Y.T ≤ 8
  l1 : 1 ≤ Y.ls.length
  l5 : Y.ls.length ≤ 5
  ln : ∀ i l, Y.ls[i]? = some l → LnSh Y.T i l
structure Gd.Sh (Y : Yd) (g : Gd) : Prop where
  ln : g.line < Y.ls.length
  fl : g.first ≤ g.last
  lt : g.last < Y.T
theorem Yd.Ok.sh {Y : Yd} (ok : Y.Ok) : Y.Sh := ⟨ok.t1, ok.t8, ok.l1, ok.l5, fun i l h => ⟨(ok.ln i l h).len, (ok.ln i l h).root, (ok.ln i l h).up⟩⟩
theorem Gd.Ok.sh {Y : Yd} {g : Gd} (ok : g.Ok Y) : g.Sh Y := ⟨ok.ln, ok.fl, ok.lt⟩
/-- a line of a yard -/
theorem line_atW {Y : Yd} (ok : Y.Sh) {l : Nat} (h : l < Y.ls.length) : ∃ a bs, Y.ls[l]? = some (a, bs) ∧ bs.length = Y.T ∧ (0 < l → a = some (abo Y l) ∧ abo Y l < l) ∧ (∀ t, t < Y.T → bs[t]? = some (bnd Y l t)) ∧ (l = 0 → a = none) := by
  have e : Y.ls[l]? = some Y.ls[l] := List.getElem?_eq_getElem h
  obtain ⟨⟨a, bs⟩, hx⟩ : ∃ p, Y.ls[l] = p := ⟨_, rfl⟩
  rw [hx] at e
  have k := ok.ln l _ e
  have gd : Y.ls.getD l (none, []) = (a, bs) := by rw [List.getD_eq_getElem?_getD, e]; rfl
  refine ⟨a, bs, e, k.len, fun h0 => ?_, fun t ht => ?_, fun z => k.root z⟩
  · obtain ⟨j, hj, hjl⟩ := k.up h0
    dsimp only at hj
    subst hj
    have : abo Y l = j := by unfold abo; rw [gd]; rfl
    rw [this]; exact ⟨rfl, hjl⟩
  · have hb : t < bs.length := by rw [k.len]; exact ht
    unfold bnd
    rw [gd, List.getD_eq_getElem?_getD, List.getElem?_eq_getElem hb]; rfl
def ReachW (F : Fn) : Prop := ∀ (Y : Yd) (gs : List Gd) (ss : List Nat) (t : Nat), Y.Sh → (∀ g ∈ gs, g.Sh Y) → gs.length ≤ 8 → SetOk gs ss → t < Y.T → F [Y.d, gsD gs, numsD ss, .int (t : Int)] = some (.ret (.lst (natD (reachR Y gs ss t))) [])
theorem s_reachedW (Φ : Nat → Fn) : ReachW (runP Φ 4 df_reached_at) := by
  intro Y gs ss t ok gok gl sok ht
  have ll1 := ok.l1
  have ll5 := ok.l5
  have Yd' : Y.d = .tup [.int (Y.T : Int), .tup (Y.ls.map lineD)] := rfl
  have ln : biD .len [.tup (Y.ls.map lineD)] = some (.int (Y.ls.length : Int)) := by simp [biD]
  have r0 := rep0 Y.ls.length (by omega)
  have it : itemsD (numsD ss) = some (ss.map fun (n : Nat) => D.int (n : Int)) := rfl
  have hb : bindT (.t [.n 7, .n 8]) Y.d [some Y.d, some (gsD gs), some (numsD ss), some (.int (t : Int)), none, none, none, none, none, none, none, none, none, none, none] =
      some [some Y.d, some (gsD gs), some (numsD ss), some (.int (t : Int)), none, none, none, some (.int (Y.T : Int)), some (.tup (Y.ls.map lineD)), none, none, none, none, none, none] := rfl
  generalize Y.d = yd at *
  generalize hgs : gsD gs = gd' at *
  generalize numsD ss = sd at *
  obtain ⟨e1, lp1, x5, x6, x9, x10, x11, x12, he1⟩ := fr_inv2 (Φ := Φ) (tg := .n 5) (b := (.cons (.asg (.t [(.n 6), (.n 9), (.n 10), (.n 11), (.n 12)]) (.ix (.v 1) (.v 5))) (.cons (.ifs (.chn .le .le (.v 9) (.v 3) (.v 10)) (.cons (.upd 4 [] (.aug .add (.v 6) (.v 12)) []) .nil) .nil) .nil))) (fun (n : Nat) => D.int (n : Int)) (ls := ss)
    (e := [some yd, some gd', some sd, some (.int (t : Int)), some (.lst (natD (List.replicate Y.ls.length 0))), none, none, some (.int (Y.T : Int)), some (.tup (Y.ls.map lineD)), none, none, none, none, none, none])
    (fun i e => ∃ x5 x6 x9 x10 x11 x12 : Option D, e = [some yd, some gd', some sd, some (.int (t : Int)), some (.lst (natD ((ss.take i).foldl (stepG gs t) (List.replicate Y.ls.length 0)))), x5, x6, some (.int (Y.T : Int)), some (.tup (Y.ls.map lineD)), x9, x10, x11, x12, none, none])
    ⟨_, _, _, _, _, _, rfl⟩ (fun i n e hi ⟨x5, x6, x9, x10, x11, x12, he⟩ => by
      have hn := sok.2 n (List.mem_of_getElem? hi)
      have hg : gs[n]? = some gs[n] := List.getElem?_eq_getElem hn
      have gk := gok _ (List.mem_of_getElem? hg)
      have gx := gs_ix gs n _ hg
      rw [hgs] at gx
      have hf : (ss.take (i + 1)).foldl (stepG gs t) (List.replicate Y.ls.length 0) = stepG gs t ((ss.take i).foldl (stepG gs t) (List.replicate Y.ls.length 0)) n := by
        rw [List.take_succ, hi]; simp
      have vl : ((ss.take i).foldl (stepG gs t) (List.replicate Y.ls.length 0)).length = Y.ls.length := by rw [foldG_len, List.length_replicate]
      generalize (ss.take i).foldl (stepG gs t) (List.replicate Y.ls.length 0) = v at *
      generalize gs[n] = g at *
      have st : stepG gs t v n = if g.first ≤ t ∧ t ≤ g.last then addAt v g.line g.most else v := by unfold stepG; rw [hg]
      have lv : g.line < v.length := by rw [vl]; exact gk.ln
      have au := aug_natD v g.line g.most lv
      refine ⟨[some yd, some gd', some sd, some (.int (t : Int)), some (.lst (natD v)), some (.int (n : Int)), x6, some (.int (Y.T : Int)), some (.tup (Y.ls.map lineD)), x9, x10, x11, x12, none, none], [some yd, some gd', some sd, some (.int (t : Int)), some (.lst (natD (stepG gs t v n))), some (.int (n : Int)), some (.int (g.line : Int)), some (.int (Y.T : Int)), some (.tup (Y.ls.map lineD)), some (.int (g.first : Int)), some (.int (g.last : Int)), some (.int (g.want : Int)), some (.int (g.most : Int)), none, none], by rw [he]; rfl, ?_, _, _, _, _, _, _, by rw [hf]⟩
      have ck := chk_natD [some yd, some gd', some sd, some (.int (t : Int)), some (.lst (natD v)), some (.int (n : Int)), some (.int (g.line : Int)), some (.int (Y.T : Int)), some (.tup (Y.ls.map lineD)), some (.int (g.first : Int)), some (.int (g.last : Int)), some (.int (g.want : Int)), some (.int (g.most : Int)), none, none] 4 v g.line lv rfl
      by_cases c1 : g.first ≤ t
      · by_cases c2 : t ≤ g.last
        · rw [st, if_pos ⟨c1, c2⟩]
          simp [EV, ES, RC, RD, RU, ioE, ioL, bindT, bindTs, gx, Gd.d, cmpD, c1, c2, PU, ck.1, ck.2, au, kil]
        · rw [st, if_neg (fun z => c2 z.2)]
          simp [EV, ES, RC, RD, RU, ioE, ioL, bindT, bindTs, gx, Gd.d, cmpD, c1, c2, PU]
      · rw [st, if_neg (fun z => c1 z.1)]
        simp [EV, ES, RC, RD, RU, ioE, ioL, bindT, bindTs, gx, Gd.d, cmpD, c1, PU])
  rw [List.take_length] at he1
  have dn : (((rangeL 1 (Y.ls.length : Int)).map D.int).reverse) = (downs Y.ls.length).map fun (n : Nat) => D.int (n : Int) := by
    refine List.ext_getElem? fun i => ?_
    have hlen : (rangeL 1 (Y.ls.length : Int)).length = Y.ls.length - 1 := by
      unfold rangeL
      rw [List.length_map, List.length_range]
      omega
    by_cases hi : i < Y.ls.length - 1
    · rw [List.getElem?_reverse (by rw [List.length_map, hlen]; exact hi), List.getElem?_map, List.getElem?_map, List.length_map, hlen]
      unfold rangeL downs
      rw [List.getElem?_map, List.getElem?_map, List.getElem?_range (by omega), List.getElem?_range (by omega)]
      simp only [Option.map_some]
      refine congrArg (fun z => some (D.int z)) ?_
      omega
    · rw [List.getElem?_eq_none (by rw [List.length_reverse, List.length_map, hlen]; omega), List.getElem?_eq_none (by simp [downs]; omega)]
  obtain ⟨e2, lp2, y6, y13, y14, he2⟩ := fr_inv2 (Φ := Φ) (tg := .n 6) (b := (.cons (.asg (.t [(.n 13), (.n 14)]) (.ix (.v 8) (.v 6))) (.cons (.upd 4 [] (.aug .add (.v 13) (.bi .min (.cons (.ix (.v 14) (.v 3)) (.cons (.ix (.v 4) (.v 6)) .nil)))) []) .nil))) (fun (n : Nat) => D.int (n : Int)) (ls := downs Y.ls.length)
    (e := [some yd, some gd', some sd, some (.int (t : Int)), some (.lst (natD (initR Y.ls.length gs ss t))), x5, x6, some (.int (Y.T : Int)), some (.tup (Y.ls.map lineD)), x9, x10, x11, x12, none, none])
    (fun i e => ∃ y6 y13 y14 : Option D, e = [some yd, some gd', some sd, some (.int (t : Int)), some (.lst (natD (((downs Y.ls.length).take i).foldl (stepL Y t) (initR Y.ls.length gs ss t)))), x5, y6, some (.int (Y.T : Int)), some (.tup (Y.ls.map lineD)), x9, x10, x11, x12, y13, y14])
    ⟨_, _, _, rfl⟩ (fun i n e hi ⟨y6, y13, y14, he⟩ => by
      have hn : 0 < n ∧ n < Y.ls.length := by
        obtain ⟨j, hj, rfl⟩ := List.mem_map.mp (List.mem_of_getElem? hi)
        have := List.mem_range.mp hj
        omega
      obtain ⟨a, bs, la, lb, lc, ld, _⟩ := line_atW ok hn.2
      obtain ⟨rfl, lab⟩ := lc hn.1
      have lx := ls_ix Y n _ _ la
      have hf : ((downs Y.ls.length).take (i + 1)).foldl (stepL Y t) (initR Y.ls.length gs ss t) = stepL Y t (((downs Y.ls.length).take i).foldl (stepL Y t) (initR Y.ls.length gs ss t)) n := by
        rw [List.take_succ, hi]; simp
      have vl : (((downs Y.ls.length).take i).foldl (stepL Y t) (initR Y.ls.length gs ss t)).length = Y.ls.length := by rw [foldL_len, initR_len]
      generalize ((downs Y.ls.length).take i).foldl (stepL Y t) (initR Y.ls.length gs ss t) = v at *
      have bx := tup_natD bs t _ (ld t ht)
      have vx := ix_natD v n (by omega)
      have mn := minN (bnd Y n t) (v.getD n 0)
      have au := aug_natD v (abo Y n) (min (bnd Y n t) (v.getD n 0)) (by omega)
      have st : stepL Y t v n = addAt v (abo Y n) (min (bnd Y n t) (v.getD n 0)) := rfl
      rw [← st] at au
      have ck := chk_natD [some yd, some gd', some sd, some (.int (t : Int)), some (.lst (natD v)), x5, some (.int (n : Int)), some (.int (Y.T : Int)), some (.tup (Y.ls.map lineD)), x9, x10, x11, x12, some (.int (abo Y n : Int)), some (.tup (natD bs))] 4 v (abo Y n) (by omega) rfl
      refine ⟨[some yd, some gd', some sd, some (.int (t : Int)), some (.lst (natD v)), x5, some (.int (n : Int)), some (.int (Y.T : Int)), some (.tup (Y.ls.map lineD)), x9, x10, x11, x12, y13, y14], [some yd, some gd', some sd, some (.int (t : Int)), some (.lst (natD (stepL Y t v n))), x5, some (.int (n : Int)), some (.int (Y.T : Int)), some (.tup (Y.ls.map lineD)), x9, x10, x11, x12, some (.int (abo Y n : Int)), some (.tup (natD bs))], by rw [he]; rfl, ?_, _, _, _, by rw [hf]⟩
      generalize stepL Y t v n = v2 at *
      generalize min (bnd Y n t) (v.getD n 0) = mm at *
      generalize v.getD n 0 = vn at *
      generalize bnd Y n t = bn at *
      simp [EV, ES, RC, RD, RU, ioE, ioL, bindT, bindTs, lx, aboD, bx, vx, mn, PU, ck.1, ck.2, au, kil])
  rw [List.take_length] at he2
  rw [he1] at lp1
  rw [he2] at lp2
  have rg : rngD [.int 1, .int (Y.ls.length : Int)] = some (rangeL 1 (Y.ls.length : Int)) := by
    have : Y.ls.length < 4000000 := by omega
    simp [rngD, this]
  unfold initR at lp2
  unfold reachR initR
  generalize (List.foldl (stepG gs t) (List.replicate Y.ls.length 0) ss) = v1 at *
  generalize (List.foldl (stepL Y t) v1 (downs Y.ls.length)) = v2 at *
  simp [↓hb, ↓lp1, ↓lp2, df_reached_at, runP_eq, EV, ES, RC, RD, ioE, ioL, bindT, PU, hb, ln, r0, it, rg, dn]
def GivW (F : Fn) : Prop := ∀ (Y : Yd) (gs : List Gd) (ss : List Nat) (t : Nat), Y.Sh → (∀ g ∈ gs, g.Sh Y) → gs.length ≤ 8 → SetOk gs ss → t < Y.T → F [Y.d, gsD gs, numsD ss, .int (t : Int)] = some (.ret (.int (givAt Y gs ss t : Int)) [])
theorem s_given_atW {Φ : Nat → Fn} {c : Nat} (hc : ReachW (Φ c)) : GivW (runP Φ 4 (df_given_at c)) := by
  intro Y gs ss t ok gok gl sok ht
  have h := hc Y gs ss t ok gok gl sok ht
  have ll1 := ok.l1
  obtain ⟨a, bs, la, lb, _, ld, _⟩ := line_atW ok (show 0 < Y.ls.length by omega)
  have i1 : ixD Y.d (.int 1) = some (.tup (Y.ls.map lineD)) := by simp [Yd.d, ixD, ixP]
  have lx : ixD (.tup (Y.ls.map lineD)) (.int 0) = some (.tup [aboD a, .tup (natD bs)]) := ls_ix Y 0 a bs la
  have i2 : ixD (.tup [aboD a, .tup (natD bs)]) (.int 1) = some (.tup (natD bs)) := rfl
  have bx := tup_natD bs t _ (ld t ht)
  have vx : ixD (.lst (natD (reachR Y gs ss t))) (.int 0) = some (.int (((reachR Y gs ss t).getD 0 0 : Nat) : Int)) := ix_natD _ 0 (by rw [reach_len]; omega)
  have mn := minN (bnd Y 0 t) ((reachR Y gs ss t).getD 0 0)
  have gv : givAt Y gs ss t = min (bnd Y 0 t) ((reachR Y gs ss t).getD 0 0) := rfl
  rw [← gv] at mn
  generalize givAt Y gs ss t = gg at *
  generalize (reachR Y gs ss t).getD 0 0 = r0 at *
  generalize bnd Y 0 t = bn at *
  generalize Y.d = yd at *
  simp [df_given_at, runP_eq, EV, ES, RC, RD, ioE, ioL, PU, h, i1, lx, i2, bx, vx, mn]
def MostW (F : Fn) : Prop := ∀ (Y : Yd) (gs : List Gd) (ss : List Nat), Y.Sh → (∀ g ∈ gs, g.Sh Y) → gs.length ≤ 8 → SetOk gs ss → F [Y.d, gsD gs, numsD ss] = some (.ret (.int (givMost Y gs ss : Int)) [])
theorem s_given_mostW {Φ : Nat → Fn} {c : Nat} (hc : GivW (Φ c)) : MostW (runP Φ 3 (df_given_most c)) := by
  intro Y gs ss ok gok gl sok
  have t8 := ok.t8
  have i0 : ixD Y.d (.int 0) = some (.int (Y.T : Int)) := by simp [Yd.d, ixD, ixP]
  have rg := rng_nat Y.T (by omega)
  have c0 : cp Φ (.call c (.cons (.v 0) (.cons (.v 1) (.cons (.v 2) (.cons (.v 3) .nil))))) (.n 3) .nil [3] ((List.range Y.T).map fun (i : Nat) => D.int (i : Int)) [some Y.d, some (gsD gs), some (numsD ss), none] = some (natD ((List.range Y.T).map (givAt Y gs ss))) := by
    have z := cp_map2 (Φ := Φ) (elt := .call c (.cons (.v 0) (.cons (.v 1) (.cons (.v 2) (.cons (.v 3) .nil))))) (tg := .n 3) (os := [3]) (e1 := [some Y.d, some (gsD gs), some (numsD ss), none]) (fun (i : Nat) => D.int (i : Int)) (fun i => D.int (givAt Y gs ss i : Int)) (List.range Y.T) (fun t ht => by
      have := hc Y gs ss t ok gok gl sok (List.mem_range.mp ht)
      refine ⟨_, rfl, [some Y.d, some (gsD gs), some (numsD ss), some (.int (t : Int))], ?_⟩
      simp [EV, RC, RD, ioL, ioE, wipeE, this]) (by rw [List.length_range]; omega)
    rw [z]
    simp [natD]
  have sm := sumN ((List.range Y.T).map (givAt Y gs ss))
  have gm : givMost Y gs ss = ((List.range Y.T).map (givAt Y gs ss)).sum := rfl
  rw [← gm] at sm
  generalize givMost Y gs ss = g0 at *
  generalize natD ((List.range Y.T).map (givAt Y gs ss)) = nd at *
  generalize Y.d = yd at *
  simp [↓c0, df_given_most, runP_eq, EV, ES, RC, RD, ioE, ioL, ioI, PU, i0, rg, rangeL_nat, sm]

def narrow (Y : Yd) (gs : List Gd) (ss : List Nat) (t : Nat) : List Nat := (List.range Y.ls.length).filter fun l => decide (bnd Y l t < (reachR Y gs ss t).getD l 0)
def cutsAt (Y : Yd) (gs : List Gd) (ss : List Nat) (t : Nat) : List Nat := (narrow Y gs ss t).filter fun l => !((upY Y l).drop 1).any fun y => decide (y ∈ narrow Y gs ss t)
def cutsD (Y : Yd) (gs : List Gd) (ss : List Nat) : D := .lst ((List.range Y.T).map fun t => numsD (cutsAt Y gs ss t))
def CutS (F : Fn) : Prop := ∀ (Y : Yd) (gs : List Gd) (ss : List Nat) (t : Nat), Y.Ok → (∀ g ∈ gs, g.Ok Y) → gs.length ≤ 8 → SetOk gs ss → t < Y.T → F [Y.d, gsD gs, numsD ss, .int (t : Int)] = some (.ret (numsD (cutsAt Y gs ss t)) [])
theorem any_bls (bs : List Bool) : biD .any [.lst (bs.map D.bl)] = some (.bl (bs.any id)) := by
  have h : ∀ ys : List Bool, blsOf (ys.map D.bl) = some ys := fun ys => by
    induction ys with
    | nil => rfl
    | cons y ys ih => simp only [List.map_cons, blsOf, ih, Option.map_some]
  simp only [biD, h]; rfl
theorem sl_tail (xs : List D) : slD (.lst xs) (some 1) none = some (.lst (xs.drop 1)) := by
  simp only [slD, cutD, sIxD]
  rw [if_neg (by omega)]
  have h1 : Int.toNat 1 = 1 := rfl
  cases xs with
  | nil => rfl
  | cons x xs =>
    have : min (Int.toNat 1) (x :: xs).length = 1 := by rw [h1, List.length_cons]; omega
    rw [this, List.drop_succ_cons, List.drop_zero, List.length_cons, Nat.add_sub_cancel, List.take_length]
theorem cp_narrow {Φ : Nat → Fn} (Y : Yd) (ok : Y.Ok) (gs : List Gd) (ss : List Nat) (t : Nat) (ht : t < Y.T) (e1 : En) (hl : e1.length = 8) (h0 : e1[0]? = some (some Y.d)) (h3 : e1[3]? = some (some (.int (t : Int)))) (h4 : e1[4]? = some (some (.lst (natD (reachR Y gs ss t))))) :
    cp Φ (.v 6) (.n 6) (.cons (.cmp .gt (.ix (.v 4) (.v 6)) (.ix (.ix (.ix (.ix (.v 0) (.c (.int 1))) (.v 6)) (.c (.int 1))) (.v 3))) .nil) [6] ((rangeL 0 (Y.ls.length : Int)).map D.int) e1 = some (natD (narrow Y gs ss t)) := by
  have l5 := ok.l5
  have i1 : ixD Y.d (.int 1) = some (.tup (Y.ls.map lineD)) := by simp [Yd.d, ixD, ixP]
  rw [rangeL_nat]
  refine cp_filter2 (Φ := Φ) (elt := (.v 6)) (tg := (.n 6)) (ifs := (.cons (.cmp .gt (.ix (.v 4) (.v 6)) (.ix (.ix (.ix (.ix (.v 0) (.c (.int 1))) (.v 6)) (.c (.int 1))) (.v 3))) .nil)) (os := [6]) (fun l : Nat => D.int (l : Int)) (fun l : Nat => D.int (l : Int)) (fun l => decide (bnd Y l t < (reachR Y gs ss t).getD l 0)) (List.range Y.ls.length) (fun l hl2 => ?_) (by rw [List.length_range]; omega)
  have hl2 := List.mem_range.mp hl2
  obtain ⟨a, bs, la, lb, _, ld, _⟩ := line_at ok hl2
  have lx := ls_ix Y l a bs la
  have bx := tup_natD bs t _ (ld t ht)
  have vx := ix_natD (reachR Y gs ss t) l (by rw [reach_len]; exact hl2)
  have i2 : ixD (.tup [aboD a, .tup (natD bs)]) (.int 1) = some (.tup (natD bs)) := rfl
  have cg : cmpD .gt (.int ((reachR Y gs ss t).getD l 0 : Nat)) (.int (bnd Y l t : Int)) = some (decide (bnd Y l t < (reachR Y gs ss t).getD l 0)) := by simp [cmpD]
  have g6 : ((wipeE [6] e1).set 6 (some (.int (l : Int))))[6]? = some (some (.int (l : Int))) := by
    rw [List.getElem?_set_self]
    simp [wipeE, hl]
  have g0 : ((wipeE [6] e1).set 6 (some (.int (l : Int))))[0]? = some (some Y.d) := by
    rw [List.getElem?_set_ne (by decide)]
    simp only [wipeE]
    rw [List.getElem?_set_ne (by decide)]; exact h0
  have g3 : ((wipeE [6] e1).set 6 (some (.int (l : Int))))[3]? = some (some (.int (t : Int))) := by
    rw [List.getElem?_set_ne (by decide)]
    simp only [wipeE]
    rw [List.getElem?_set_ne (by decide)]; exact h3
  have g4 : ((wipeE [6] e1).set 6 (some (.int (l : Int))))[4]? = some (some (.lst (natD (reachR Y gs ss t)))) := by
    rw [List.getElem?_set_ne (by decide)]
    simp only [wipeE]
    rw [List.getElem?_set_ne (by decide)]; exact h4
  refine ⟨_, rfl, (wipeE [6] e1).set 6 (some (.int (l : Int))), ?_, fun _ => ⟨_, by simp [EV, RC, RD, g6]; rfl⟩⟩
  generalize (wipeE [6] e1).set 6 (some (.int (l : Int))) = ee at *
  generalize decide (bnd Y l t < (reachR Y gs ss t).getD l 0) = bb at *
  generalize (reachR Y gs ss t).getD l 0 = rl at *
  generalize natD (reachR Y gs ss t) = rv at *
  generalize bnd Y l t = bn at *
  generalize aboD a = ab at *
  generalize Y.d = yd at *
  cases bb <;> simp [EV, RC, RD, ioE, PU, g0, g3, g4, g6, i1, lx, bx, vx, i2, cg]
theorem s_cuts_at {Φ : Nat → Fn} {r w : Nat} (hr : ReachS (Φ r)) (hw : WayS (Φ w)) : CutS (runP Φ 4 (df_cuts_at r w)) := by
  intro Y gs ss t ok gok gl sok ht
  have l5 := ok.l5
  have h := hr Y gs ss t ok gok gl sok ht
  have i1 : ixD Y.d (.int 1) = some (.tup (Y.ls.map lineD)) := by simp [Yd.d, ixD, ixP]
  have len : biD .len [.tup (Y.ls.map lineD)] = some (.int (Y.ls.length : Int)) := by simp [biD]
  have rg := rng_nat Y.ls.length (by omega)
  have c0 := cp_narrow (Φ := Φ) Y ok gs ss t ht [some Y.d, some (gsD gs), some (numsD ss), some (.int (t : Int)), some (.lst (natD (reachR Y gs ss t))), none, none, none] rfl rfl rfl rfl
  have nl : (narrow Y gs ss t).length ≤ 5 := by
    have := List.length_filter_le (fun l => decide (bnd Y l t < (reachR Y gs ss t).getD l 0)) (List.range Y.ls.length)
    rw [List.length_range] at this
    unfold narrow
    omega
  have c1 : cp Φ (.pur (.v 6)) (.n 6) (.cons (.not (.bi .any (.cons (.comp (.cmp .inn (.v 7) (.v 5)) (.n 7) (.val (.sl (.call w (.cons (.v 0) (.cons (.v 6) .nil))) (.so (.c (.int 1))) .no)) .nil [7]) .nil))) .nil) [6] (natD (narrow Y gs ss t)) [some Y.d, some (gsD gs), some (numsD ss), some (.int (t : Int)), some (.lst (natD (reachR Y gs ss t))), some (.lst (natD (narrow Y gs ss t))), none, none] = some (natD (cutsAt Y gs ss t)) := by
    refine cp_filter2 (Φ := Φ) (elt := (.pur (.v 6))) (tg := (.n 6)) (ifs := (.cons (.not (.bi .any (.cons (.comp (.cmp .inn (.v 7) (.v 5)) (.n 7) (.val (.sl (.call w (.cons (.v 0) (.cons (.v 6) .nil))) (.so (.c (.int 1))) .no)) .nil [7]) .nil))) .nil)) (os := [6]) (fun l : Nat => D.int (l : Int)) (fun l : Nat => D.int (l : Int)) (fun l => !((upY Y l).drop 1).any fun y => decide (y ∈ narrow Y gs ss t)) (narrow Y gs ss t) (fun l hl => ?_) (by omega)
    have hlL : l < Y.ls.length := List.mem_range.mp (List.mem_filter.mp hl).1
    have hup := hw Y l ok hlL
    have ulen := (upY_le ok (l + 1) l (by omega) hlL).2.1
    have st := sl_tail (natD (upY Y l))
    have dd : (natD (upY Y l)).drop 1 = natD ((upY Y l).drop 1) := by unfold natD; rw [List.map_drop]
    rw [dd] at st
    have it : itemsD (.lst (natD ((upY Y l).drop 1))) = some (natD ((upY Y l).drop 1)) := rfl
    have c2 : cp Φ (.cmp .inn (.v 7) (.v 5)) (.n 7) .nil [7] (natD ((upY Y l).drop 1)) [some Y.d, some (gsD gs), some (numsD ss), some (.int (t : Int)), some (.lst (natD (reachR Y gs ss t))), some (.lst (natD (narrow Y gs ss t))), some (.int (l : Int)), none] = some ((((upY Y l).drop 1).map fun y => decide (y ∈ narrow Y gs ss t)).map D.bl) := by
      rw [List.map_map]
      refine cp_map2 (Φ := Φ) (elt := (.cmp .inn (.v 7) (.v 5))) (tg := (.n 7)) (os := [7]) (fun l : Nat => D.int (l : Int)) (fun y => D.bl (decide (y ∈ narrow Y gs ss t))) ((upY Y l).drop 1) (fun y hy => ?_) (by rw [List.length_drop]; omega)
      have cm := cmp_in (narrow Y gs ss t) y
      refine ⟨_, rfl, [some Y.d, some (gsD gs), some (numsD ss), some (.int (t : Int)), some (.lst (natD (reachR Y gs ss t))), some (.lst (natD (narrow Y gs ss t))), some (.int (l : Int)), some (.int (y : Int))], ?_⟩
      unfold numsD at cm
      generalize natD (narrow Y gs ss t) = nn at *
      generalize decide (y ∈ narrow Y gs ss t) = bb at *
      simp [wipeE, EV, RC, RD, ioE, PU, cm]
    have an := any_bls (((upY Y l).drop 1).map fun y => decide (y ∈ narrow Y gs ss t))
    rw [List.any_map] at an
    have an : biD .any [.lst ((((upY Y l).drop 1).map fun y => decide (y ∈ narrow Y gs ss t)).map D.bl)] = some (.bl (((upY Y l).drop 1).any fun y => decide (y ∈ narrow Y gs ss t))) := an
    refine ⟨_, rfl, [some Y.d, some (gsD gs), some (numsD ss), some (.int (t : Int)), some (.lst (natD (reachR Y gs ss t))), some (.lst (natD (narrow Y gs ss t))), some (.int (l : Int)), none], ?_, fun _ => ⟨_, by simp [EV, RC, RD, PU]; rfl⟩⟩
    unfold numsD at hup
    generalize ((((upY Y l).drop 1).map fun y => decide (y ∈ narrow Y gs ss t)).map D.bl) = bl at *
    generalize (((upY Y l).drop 1).any fun y => decide (y ∈ narrow Y gs ss t)) = bb at *
    generalize natD ((upY Y l).drop 1) = ud at *
    generalize natD (upY Y l) = un at *
    generalize Y.d = yd at *
    cases bb <;> simp [wipeE, ↓c2, EV, RC, RD, ioE, ioL, ioI, ioP, PU, hup, st, it, an]
  have it : itemsD (.lst (natD (narrow Y gs ss t))) = some (natD (narrow Y gs ss t)) := rfl
  unfold numsD at *
  generalize natD (cutsAt Y gs ss t) = cn at *
  generalize natD (narrow Y gs ss t) = nn at *
  generalize natD (reachR Y gs ss t) = rv at *
  generalize Y.d = yd at *
  generalize gsD gs = gd' at *
  simp [↓c0, ↓c1, df_cuts_at, runP_eq, EV, ES, RC, RD, ioE, ioL, ioI, bindT, PU, h, i1, len, rg, it]
def CutsS (F : Fn) : Prop := ∀ (Y : Yd) (gs : List Gd) (ss : List Nat), Y.Ok → (∀ g ∈ gs, g.Ok Y) → gs.length ≤ 8 → SetOk gs ss → F [Y.d, gsD gs, numsD ss] = some (.ret (cutsD Y gs ss) [])
theorem s_cuts_of {Φ : Nat → Fn} {c : Nat} (hc : CutS (Φ c)) : CutsS (runP Φ 3 (df_cuts_of c)) := by
  intro Y gs ss ok gok gl sok
  have t8 := ok.t8
  have i0 : ixD Y.d (.int 0) = some (.int (Y.T : Int)) := by simp [Yd.d, ixD, ixP]
  have rg := rng_nat Y.T (by omega)
  have c0 : cp Φ (.call c (.cons (.v 0) (.cons (.v 1) (.cons (.v 2) (.cons (.v 3) .nil))))) (.n 3) .nil [3] ((rangeL 0 (Y.T : Int)).map D.int) [some Y.d, some (gsD gs), some (numsD ss), none] = some ((List.range Y.T).map fun t => numsD (cutsAt Y gs ss t)) := by
    rw [rangeL_nat]
    refine cp_map2 (Φ := Φ) (elt := (.call c (.cons (.v 0) (.cons (.v 1) (.cons (.v 2) (.cons (.v 3) .nil)))))) (tg := (.n 3)) (os := [3]) (fun t : Nat => D.int (t : Int)) (fun t => numsD (cutsAt Y gs ss t)) (List.range Y.T) (fun t ht => ?_) (by rw [List.length_range]; omega)
    have := hc Y gs ss t ok gok gl sok (List.mem_range.mp ht)
    refine ⟨_, rfl, [some Y.d, some (gsD gs), some (numsD ss), some (.int (t : Int))], ?_⟩
    simp [wipeE, EV, RC, RD, ioL, ioE, this]
  unfold cutsD
  generalize (List.range Y.T).map (fun t => numsD (cutsAt Y gs ss t)) = cl at *
  generalize Y.d = yd at *
  simp [↓c0, df_cuts_of, runP_eq, EV, ES, RC, RD, ioE, ioL, ioI, PU, i0, rg]
end Cy
end
section
set_option linter.all false
set_option maxRecDepth 100000
set_option maxHeartbeats 4000000
namespace K51
open PySem Cy
def df_common_divisor : Df := ⟨2, [], (.cons (.asg (.n 0) (.bi .abs (.cons (.v 0) .nil))) (.cons (.whl (.cmp .gt (.v 1) (.c (.int 0))) (.cons (.par 0 1 (.v 1) (.bin .mod (.v 0) (.v 1))) .nil)) (.cons (.ret (.pur (.v 0))) .nil)))⟩
def df_common_bottom (c_common_divisor : Nat) : Df := ⟨4, [], (.cons (.asg (.n 1) (.c (.int 1))) (.cons (.for (.t [(.n 2), (.n 3)]) (.val (.v 0)) (.cons (.asg (.n 1) (.bin .mul (.v 1) (.bin .fdiv (.v 3) (.call c_common_divisor (.cons (.v 1) (.cons (.v 3) .nil)))))) .nil)) (.cons (.ret (.pur (.v 1))) .nil)))⟩
def df_scaled : Df := ⟨3, [], (.cons (.ret (.bi .sorted (.cons (.comp (.bin .mul (.ix (.v 2) (.c (.int 0))) (.bin .fdiv (.v 1) (.ix (.v 2) (.c (.int 1))))) (.n 2) (.val (.v 0)) .nil [2]) .nil))) .nil)⟩
def df_is_fairer (c_common_bottom : Nat) (c_scaled : Nat) : Df := ⟨5, [], (.cons (.asg (.n 2) (.call c_common_bottom (.cons (.bin .cat (.v 0) (.v 1)) .nil))) (.cons (.for (.t [(.n 3), (.n 4)]) (.zip (.cons (.call c_scaled (.cons (.v 0) (.cons (.v 2) .nil))) (.cons (.call c_scaled (.cons (.v 1) (.cons (.v 2) .nil))) .nil))) (.cons (.ifs (.cmp .ne (.v 3) (.v 4)) (.cons (.ret (.cmp .gt (.v 3) (.v 4))) .nil) .nil) .nil)) (.cons (.ret (.c (.bl false))) .nil)))⟩
def df_law_divisor : Df := ⟨2, [], (.cons (.whl (.cmp .gt (.v 1) (.c (.int 0))) (.cons (.par 0 1 (.v 1) (.bin .mod (.v 0) (.v 1))) .nil)) (.cons (.ret (.pur (.v 0))) .nil))⟩
def df_law_fraction (c_law_divisor : Nat) : Df := ⟨6, [], (.cons (.asg (.n 1) (.bin .mod (.v 0) (.c (.int 4)))) (.cons (.asg (.n 0) (.bin .fdiv (.bi .abs (.cons (.v 0) .nil)) (.c (.int 4)))) (.cons (.asg (.n 2) (.tup (.cons (.bin .mod (.v 0) (.bin .pow (.c (.int 10)) (.c (.int 30)))) (.cons (.bin .add (.c (.int 1)) (.bin .mod (.bin .fdiv (.v 0) (.bin .pow (.c (.int 10)) (.c (.int 30)))) (.bin .pow (.c (.int 10)) (.c (.int 30))))) .nil)))) (.cons (.asg (.t [(.n 4), (.n 5)]) (.ix (.lst (.cons (.tup (.cons (.c (.int 0)) (.cons (.c (.int 1)) .nil))) (.cons (.tup (.cons (.c (.int 1)) (.cons (.c (.int 1)) .nil))) (.cons (.tup (.cons (.bin .mod (.v 0) (.c (.int 13))) (.cons (.bin .add (.c (.int 1)) (.bin .mod (.bin .fdiv (.v 0) (.c (.int 13))) (.c (.int 12)))) .nil))) (.cons (.v 2) .nil))))) (.v 1))) (.cons (.asg (.n 3) (.call c_law_divisor (.cons (.v 4) (.cons (.v 5) .nil)))) (.cons (.ret (.tup (.cons (.bin .fdiv (.v 4) (.v 3)) (.cons (.bin .fdiv (.v 5) (.v 3)) .nil)))) .nil))))))⟩
def df_law_ordered : Df := ⟨4, [], (.cons (.asg (.n 1) (.lst .nil)) (.cons (.for (.n 2) (.val (.v 0)) (.cons (.asg (.n 3) (.c (.int 0))) (.cons (.whl (.and (.cons (.cmp .lt (.v 3) (.bi .len (.cons (.v 1) .nil))) (.cons (.cmp .lt (.bin .mul (.ix (.ix (.v 1) (.v 3)) (.c (.int 0))) (.ix (.v 2) (.c (.int 1)))) (.bin .mul (.ix (.v 2) (.c (.int 0))) (.ix (.ix (.v 1) (.v 3)) (.c (.int 1))))) .nil))) (.cons (.asg (.n 3) (.bin .add (.v 3) (.c (.int 1)))) .nil)) (.cons (.upd 1 [] (.ins (.v 3) (.v 2)) []) .nil)))) (.cons (.ret (.mv 1)) .nil)))⟩
def df_law_due (c_law_ordered : Nat) : Df := ⟨4, [], (.cons (.for (.t [(.n 2), (.n 3)]) (.zip (.cons (.call c_law_ordered (.cons (.v 0) .nil)) (.cons (.call c_law_ordered (.cons (.v 1) .nil)) .nil))) (.cons (.ifs (.cmp .ne (.v 2) (.v 3)) (.cons (.ret (.cmp .gt (.bin .mul (.ix (.v 2) (.c (.int 0))) (.ix (.v 3) (.c (.int 1)))) (.bin .mul (.ix (.v 3) (.c (.int 0))) (.ix (.v 2) (.c (.int 1)))))) .nil) .nil) .nil)) (.cons (.ret (.c (.bl false))) .nil))⟩
def df_law_told (c_is_fairer : Nat) (c_law_due : Nat) : Df := ⟨4, [], (.cons (.asg (.n 2) (.lst (.cons (.bi .list (.cons (.v 0) .nil)) (.cons (.bi .list (.cons (.v 1) .nil)) .nil)))) (.cons (.asg (.n 3) (.call c_is_fairer (.cons (.ix (.v 2) (.c (.int 0))) (.cons (.ix (.v 2) (.c (.int 1))) .nil)))) (.cons (.ret (.and (.cons (.bi (.isi .bool) (.cons (.v 3) .nil)) (.cons (.cmp .eq (.v 3) (.call c_law_due (.cons (.v 0) (.cons (.v 1) .nil)))) (.cons (.cmp .eq (.v 2) (.lst (.cons (.v 0) (.cons (.v 1) .nil)))) .nil))))) .nil)))⟩
def df_law (c_law_cell_at : Nat) (c_law_fraction : Nat) (c_law_told : Nat) (c_is_fairer : Nat) : Df := ⟨7, [], (.cons (.asg (.n 1) (.bi .abs (.cons (.call c_law_cell_at (.cons (.v 0) (.cons (.c (.int 0)) .nil))) .nil))) (.cons (.asg (.n 2) (.bin .mod (.v 1) (.c (.int 9)))) (.cons (.asg (.n 3) (.comp (.call c_law_fraction (.cons (.call c_law_cell_at (.cons (.v 0) (.cons (.bin .add (.c (.int 1)) (.v 6)) .nil))) .nil)) (.n 6) (.rng (.cons (.v 2) .nil)) .nil [6])) (.cons (.asg (.n 4) (.comp (.call c_law_fraction (.cons (.call c_law_cell_at (.cons (.v 0) (.cons (.bin .add (.c (.int 9)) (.v 6)) .nil))) .nil)) (.n 6) (.rng (.cons (.v 2) .nil)) .nil [6])) (.cons (.ifs (.and (.cons (.cmp .eq (.bin .mod (.bin .fdiv (.v 1) (.c (.int 9))) (.c (.int 3))) (.c (.int 1))) (.cons (.cmp .gt (.v 2) (.c (.int 0))) .nil))) (.cons (.asg (.n 5) (.bin .mod (.bin .fdiv (.v 1) (.c (.int 27))) (.v 2))) (.cons (.asg (.n 4) (.bin .cat (.slp (.v 3) (.so (.v 5)) .no) (.slp (.v 3) .no (.so (.v 5))))) (.cons (.ifs (.cmp .eq (.bin .mod (.bin .fdiv (.v 1) (.c (.int 243))) (.c (.int 2))) (.c (.int 1))) (.cons (.upd 4 [] (.set (.v 5) (.call c_law_fraction (.cons (.call c_law_cell_at (.cons (.v 0) (.cons (.c (.int 17)) .nil))) .nil))) []) .nil) .nil) .nil))) .nil) (.cons (.ifs (.or (.cons (.not (.call c_law_told (.cons (.v 3) (.cons (.v 4) .nil)))) (.cons (.not (.call c_law_told (.cons (.v 4) (.cons (.v 3) .nil)))) .nil))) (.cons (.ret (.c (.bl false))) .nil) .nil) (.cons (.ret (.and (.cons (.call c_law_told (.cons (.v 3) (.cons (.v 3) .nil))) (.cons (.call c_law_told (.cons (.v 3) (.cons (.sl3 (.v 3) .no .no (.neg (.c (.int 1)))) .nil))) (.cons (.cmp .isT (.call c_is_fairer (.cons (.lst .nil) (.cons (.lst .nil) .nil))) (.c (.bl false))) .nil))))) .nil)))))))⟩
noncomputable def f0 : Fn := runP (ph []) 2 (df_common_divisor)
/-! f0: common_divisor -/
noncomputable def f1 : Fn := runP (ph [f0]) 1 (df_common_bottom 0)
/-! f1: common_bottom -/
noncomputable def f2 : Fn := runP (ph [f0, f1]) 2 (df_scaled)
/-! f2: scaled -/
noncomputable def f3 : Fn := runP (ph [f0, f1, f2]) 2 (df_is_fairer 1 2)
/-! f3: is_fairer -/
noncomputable def f4 : Fn := runP (ph [f0, f1, f2, f3]) 2 (df_law_cell_at)
/-! f4: law_cell_at -/
noncomputable def f5 : Fn := runP (ph [f0, f1, f2, f3, f4]) 2 (df_law_divisor)
/-! f5: law_divisor -/
noncomputable def f6 : Fn := runP (ph [f0, f1, f2, f3, f4, f5]) 1 (df_law_fraction 5)
/-! f6: law_fraction -/
noncomputable def f7 : Fn := runP (ph [f0, f1, f2, f3, f4, f5, f6]) 1 (df_law_ordered)
/-! f7: law_ordered -/
noncomputable def f8 : Fn := runP (ph [f0, f1, f2, f3, f4, f5, f6, f7]) 2 (df_law_due 7)
/-! f8: law_due -/
noncomputable def f9 : Fn := runP (ph [f0, f1, f2, f3, f4, f5, f6, f7, f8]) 2 (df_law_told 3 8)
/-! f9: law_told -/
noncomputable def f10 : Fn := runP (ph [f0, f1, f2, f3, f4, f5, f6, f7, f8, f9]) 1 (df_law 4 6 9 3)
/-! f10: law -/
end K51
end
section
set_option linter.all false
set_option maxRecDepth 100000
set_option maxHeartbeats 4000000
namespace K51
open PySem Cy
abbrev Fr := Nat × Nat
def frD (f : Fr) : D := .tup [.int (f.1 : Int), .int (f.2 : Int)]
def frsD (xs : List Fr) : D := .lst (xs.map frD)
def FrOk (f : Fr) : Prop := 0 < f.2 ∧ f.2 < 2 ^ 100 ∧ f.1 < 2 ^ 100 ∧ Nat.gcd f.1 f.2 = 1
/-! ### sorting -/
theorem insP (x : Int) : ∀ l : List Int, (ins x l).Perm (x :: l)
  | [] => by simp [ins]
  | y :: ys => by
    simp only [ins]
    split
    · exact List.Perm.refl _
    · exact ((insP x ys).cons y).trans (List.Perm.swap ..)
theorem isortP : ∀ l : List Int, (isort l).Perm l
  | [] => by simp [isort]
  | x :: xs => by
    simp only [isort]
    exact (insP x _).trans ((isortP xs).cons x)
theorem insS (x : Int) : ∀ l : List Int, l.Pairwise (· ≤ ·) → (ins x l).Pairwise (· ≤ ·)
  | [], _ => by simp [ins]
  | y :: ys, h => by
    simp only [ins]
    split
    · rename_i hx
      refine List.pairwise_cons.mpr ⟨fun z hz => ?_, h⟩
      rcases List.mem_cons.mp hz with e | hz
      · subst e; exact hx
      · have := (List.pairwise_cons.mp h).1 z hz
        omega
    · rename_i hx
      obtain ⟨h1, h2⟩ := List.pairwise_cons.mp h
      refine List.pairwise_cons.mpr ⟨fun z hz => ?_, insS x ys h2⟩
      rcases List.mem_cons.mp ((insP x ys).mem_iff.mp hz) with e | hz
      · subst e; omega
      · exact h1 z hz
theorem isortS : ∀ l : List Int, (isort l).Pairwise (· ≤ ·)
  | [] => by simp [isort]
  | x :: xs => by
    simp only [isort]
    exact insS x _ (isortS xs)
theorem isortU {a b : List Int} (h : a.Perm b) (s : a.Pairwise (· ≤ ·)) : a = isort b :=
  List.Perm.eq_of_pairwise (fun x y _ _ h1 h2 => Int.le_antisymm h1 h2) s (isortS b) (h.trans (isortP b).symm)
/-! ### a bottom for all -/
def cbot : List Fr → Nat → Nat
  | [], n => n
  | f :: fs, n => cbot fs (Nat.lcm n f.2)
theorem lcm_eq (n b : Nat) : n * (b / Nat.gcd n b) = Nat.lcm n b := by
  unfold Nat.lcm
  rw [Nat.mul_div_assoc _ (Nat.gcd_dvd_right n b)]
theorem cbot_dvd : ∀ (fs : List Fr) (n : Nat), n ∣ cbot fs n ∧ ∀ f ∈ fs, f.2 ∣ cbot fs n
  | [], n => ⟨Nat.dvd_refl n, fun f h => nomatch h⟩
  | f :: fs, n => by
    obtain ⟨h1, h2⟩ := cbot_dvd fs (Nat.lcm n f.2)
    refine ⟨Nat.dvd_trans (Nat.dvd_lcm_left n f.2) h1, fun g hg => ?_⟩
    rcases List.mem_cons.mp hg with e | hg
    · subst e; exact Nat.dvd_trans (Nat.dvd_lcm_right n _) h1
    · exact h2 g hg
theorem cbot_pos : ∀ (fs : List Fr) (n : Nat), 0 < n → (∀ f ∈ fs, 0 < f.2) → 0 < cbot fs n
  | [], n, h, _ => h
  | f :: fs, n, h, h2 => cbot_pos fs _ (Nat.lcm_pos h (h2 f (List.mem_cons_self ..))) fun g hg => h2 g (List.mem_cons_of_mem _ hg)
theorem cbot_lt : ∀ (fs : List Fr) (n k : Nat), n < 2 ^ k → 0 < n → (∀ f ∈ fs, FrOk f) → cbot fs n < 2 ^ (k + 100 * fs.length)
  | [], n, k, h, _, _ => by simpa [cbot] using h
  | f :: fs, n, k, h, h0, h2 => by
    have hf := h2 f (List.mem_cons_self ..)
    have : Nat.lcm n f.2 < 2 ^ (k + 100) := by
      refine Nat.lt_of_le_of_lt (Nat.le_of_dvd (Nat.mul_pos h0 hf.1) (Nat.lcm_dvd_mul n f.2)) ?_
      rw [Nat.pow_add]
      exact Nat.mul_lt_mul'' h hf.2.1
    have z := cbot_lt fs _ (k + 100) this (Nat.lcm_pos h0 hf.1) fun g hg => h2 g (List.mem_cons_of_mem _ hg)
    rw [List.length_cons]
    have e : k + 100 * (fs.length + 1) = k + 100 + 100 * fs.length := by omega
    rw [e]; exact z
/-! ### values -/
def vl (L : Nat) (f : Fr) : Int := (f.1 : Int) * ((L / f.2 : Nat) : Int)
theorem vl_lt {L : Nat} {f g : Fr} (hL : 0 < L) (hf : f.2 ∣ L) (hg : g.2 ∣ L) : vl L f < vl L g ↔ f.1 * g.2 < g.1 * f.2 := by
  obtain ⟨a, ha⟩ := hf
  obtain ⟨c, hc⟩ := hg
  have f0 : 0 < f.2 := Nat.pos_of_ne_zero fun h => by rw [h] at ha; omega
  have g0 : 0 < g.2 := Nat.pos_of_ne_zero fun h => by rw [h] at hc; omega
  have ea : L / f.2 = a := by rw [ha]; exact Nat.mul_div_cancel_left a f0
  have ec : L / g.2 = c := by rw [hc]; exact Nat.mul_div_cancel_left c g0
  unfold vl
  rw [ea, ec, ← Int.natCast_mul, ← Int.natCast_mul, Int.ofNat_lt]
  have k1 : f.1 * a * (f.2 * g.2) = f.1 * g.2 * L := by rw [ha]; ac_rfl
  have k2 : g.1 * c * (f.2 * g.2) = g.1 * f.2 * L := by rw [hc]; ac_rfl
  have p : 0 < f.2 * g.2 := Nat.mul_pos f0 g0
  rw [← Nat.mul_lt_mul_right p, k1, k2, Nat.mul_lt_mul_right hL]
theorem vl_eq {L : Nat} {f g : Fr} (hL : 0 < L) (hf : f.2 ∣ L) (hg : g.2 ∣ L) (of : FrOk f) (og : FrOk g) : vl L f = vl L g ↔ f = g := by
  refine ⟨fun h => ?_, fun h => by rw [h]⟩
  have h1 : ¬ f.1 * g.2 < g.1 * f.2 := fun k => by have := (vl_lt hL hf hg).mpr k; omega
  have h2 : ¬ g.1 * f.2 < f.1 * g.2 := fun k => by have := (vl_lt hL hg hf).mpr k; omega
  have e : f.1 * g.2 = g.1 * f.2 := by omega
  have d1 : f.2 ∣ g.2 := Nat.Coprime.dvd_of_dvd_mul_left (k := f.2) (m := f.1) (n := g.2) (Nat.Coprime.symm of.2.2.2) ⟨g.1, by rw [e]; exact Nat.mul_comm _ _⟩
  have d2 : g.2 ∣ f.2 := Nat.Coprime.dvd_of_dvd_mul_left (k := g.2) (m := g.1) (n := f.2) (Nat.Coprime.symm og.2.2.2) ⟨f.1, by rw [← e]; exact Nat.mul_comm _ _⟩
  have e2 : f.2 = g.2 := Nat.dvd_antisymm d1 d2
  rw [e2] at e
  have e1 : f.1 = g.1 := Nat.eq_of_mul_eq_mul_right og.1 e
  exact Prod.ext e1 e2
def insF (f : Fr) : List Fr → List Fr
  | [] => [f]
  | r :: rs => if r.1 * f.2 < f.1 * r.2 then r :: insF f rs else f :: r :: rs
def place (f : Fr) (rs : List Fr) : Nat := (rs.takeWhile fun r => decide (r.1 * f.2 < f.1 * r.2)).length
theorem place_le (f : Fr) (rs : List Fr) : place f rs ≤ rs.length := (List.takeWhile_sublist _).length_le
theorem insF_eq (f : Fr) : ∀ rs : List Fr, insF f rs = rs.take (place f rs) ++ [f] ++ rs.drop (place f rs)
  | [] => rfl
  | r :: rs => by
    simp only [insF, place, List.takeWhile_cons]
    by_cases h : r.1 * f.2 < f.1 * r.2
    · simp only [h, if_true, decide_true, List.length_cons, List.take_succ_cons, List.drop_succ_cons, List.cons_append]
      rw [insF_eq f rs]; rfl
    · simp [h]
theorem insF_perm (f : Fr) : ∀ rs : List Fr, (insF f rs).Perm (f :: rs)
  | [] => by simp [insF]
  | r :: rs => by
    simp only [insF]
    split
    · exact ((insF_perm f rs).cons r).trans (List.Perm.swap ..)
    · exact List.Perm.refl _
theorem insF_vl {L : Nat} (hL : 0 < L) (f : Fr) (hf : f.2 ∣ L) : ∀ rs : List Fr, (∀ r ∈ rs, r.2 ∣ L) → (insF f rs).map (vl L) = ins (vl L f) (rs.map (vl L))
  | [], _ => rfl
  | r :: rs, h => by
    have hr := h r (List.mem_cons_self ..)
    have ih := insF_vl hL f hf rs fun g hg => h g (List.mem_cons_of_mem _ hg)
    have k := vl_lt hL hr hf
    simp only [insF, ins, List.map_cons]
    by_cases c : r.1 * f.2 < f.1 * r.2
    · have := k.mpr c
      rw [if_pos c, if_neg (by omega), List.map_cons, ih]
    · have : ¬ vl L r < vl L f := fun z => c (k.mp z)
      rw [if_neg c, if_pos (by omega)]; rfl
def ordF (rs xs : List Fr) : List Fr := xs.foldl (fun rs f => insF f rs) rs
theorem ordF_perm : ∀ (xs rs : List Fr), (ordF rs xs).Perm (xs ++ rs)
  | [], rs => List.Perm.refl _
  | x :: xs, rs => by
    refine (ordF_perm xs (insF x rs)).trans ?_
    refine ((insF_perm x rs).append_left xs).trans ?_
    exact List.perm_middle
theorem ordF_sorted {L : Nat} (hL : 0 < L) : ∀ (xs rs : List Fr), (∀ r ∈ xs, r.2 ∣ L) → (∀ r ∈ rs, r.2 ∣ L) → (rs.map (vl L)).Pairwise (· ≤ ·) → ((ordF rs xs).map (vl L)).Pairwise (· ≤ ·)
  | [], rs, _, _, h => h
  | x :: xs, rs, h1, h2, h => by
    have hx := h1 x (List.mem_cons_self ..)
    refine ordF_sorted hL xs (insF x rs) (fun r hr => h1 r (List.mem_cons_of_mem _ hr)) (fun r hr => ?_) ?_
    · rcases List.mem_cons.mp ((insF_perm x rs).mem_iff.mp hr) with e | e
      · rw [e]; exact hx
      · exact h2 r e
    · rw [insF_vl hL x hx rs h2]
      exact insS _ _ h
theorem ordF_vl {L : Nat} (hL : 0 < L) (xs : List Fr) (h : ∀ r ∈ xs, r.2 ∣ L) : (ordF [] xs).map (vl L) = isort (xs.map (vl L)) := by
  refine isortU ?_ (ordF_sorted hL xs [] h (fun _ h => nomatch h) List.Pairwise.nil)
  have := (ordF_perm xs []).map (vl L)
  rwa [List.append_nil] at this
/-- which is fairer, by the law's order -/
def dueQ (p : Fr × Fr) : Option D := if p.1 = p.2 then none else some (.bl (decide (p.2.1 * p.1.2 < p.1.1 * p.2.2)))
def dueF (xs ys : List Fr) : D := (((ordF [] xs).zip (ordF [] ys)).findSome? dueQ).getD (.bl false)
def fairQ (p : Int × Int) : Option D := if p.1 = p.2 then none else some (.bl (decide (p.2 < p.1)))
def fairF (xs ys : List Int) : D := ((xs.zip ys).findSome? fairQ).getD (.bl false)
theorem find_congr {α : Type} {q r : α → Option D} : ∀ ls : List α, (∀ a ∈ ls, q a = r a) → ls.findSome? q = ls.findSome? r
  | [], _ => rfl
  | a :: ls, h => by
    rw [List.findSome?_cons, List.findSome?_cons, h a (List.mem_cons_self ..), find_congr ls fun b hb => h b (List.mem_cons_of_mem _ hb)]
theorem fair_due {L : Nat} (hL : 0 < L) (xs ys : List Fr) (hx : ∀ r ∈ xs, FrOk r ∧ r.2 ∣ L) (hy : ∀ r ∈ ys, FrOk r ∧ r.2 ∣ L) : fairF (isort (xs.map (vl L))) (isort (ys.map (vl L))) = dueF xs ys := by
  unfold fairF dueF
  rw [← ordF_vl hL xs fun r hr => (hx r hr).2, ← ordF_vl hL ys fun r hr => (hy r hr).2, List.zip_map, List.findSome?_map]
  congr 1
  refine find_congr _ fun p hp => ?_
  obtain ⟨p1, p2⟩ := List.of_mem_zip (a := p.1) (b := p.2) hp
  have o1 := hx p.1 (by simpa using (ordF_perm xs []).mem_iff.mp p1)
  have o2 := hy p.2 (by simpa using (ordF_perm ys []).mem_iff.mp p2)
  simp only [Function.comp, Prod.map, fairQ, dueQ]
  simp only [vl_eq hL o1.2 o2.2 o1.1 o2.1, vl_lt hL o2.2 o1.2]
/-! ### the walk -/
theorem gc_loop (Φ : Nat → Fn) : ∀ b a : Nat, wl Φ (.cmp .gt (.v 1) (.c (.int 0))) (.cons (.par 0 1 (.v 1) (.bin .mod (.v 0) (.v 1))) .nil) [some (.int a), some (.int b)] = some (.ok .nx [some (.int (Nat.gcd a b : Nat)), some (.int 0)]) := by
  intro b
  induction b using Nat.strongRecOn with
  | ind b ih =>
    intro a
    by_cases hb : b = 0
    · subst hb
      rw [Nat.gcd_zero_right]
      refine wl_done ?_
      simp [EV, RC, RD, cmpD, ioE]
    · have hb2 : 0 < b := by omega
      refine wl_nx (e1 := [some (.int a), some (.int b)]) (e2 := [some (.int b), some (.int ((a % b : Nat) : Int))]) ?_ ?_ ?_
      · simp [EV, RC, RD, cmpD, ioE, hb2]
      · simp [EV, ES, RC, RD, binD, ioE, hb2]
      · rw [ih (a % b) (Nat.mod_lt _ hb2) b, Nat.gcd_comm b, ← Nat.gcd_rec, Nat.gcd_comm]
theorem s_div (Φ : Nat → Fn) (a b : Nat) : runP Φ 2 df_law_divisor [.int a, .int b] = some (.ret (.int (Nat.gcd a b : Nat)) []) := by
  simp [df_law_divisor, runP_eq, EV, ES, RC, RD, gc_loop, PU]
theorem s_common (Φ : Nat → Fn) (a : Int) (b : Nat) : runP Φ 2 df_common_divisor [.int a, .int b] = some (.ret (.int (Nat.gcd a.natAbs b : Nat)) []) := by
  simp [df_common_divisor, runP_eq, EV, ES, RC, RD, ioL, ioE, biD, bindT, gc_loop, PU]
theorem s_bottom {Φ : Nat → Fn} {c : Nat} (hc : ∀ (a : Int) (b : Nat), Φ c [.int a, .int b] = some (.ret (.int (Nat.gcd a.natAbs b : Nat)) [])) (xs : List Fr) (h : ∀ f ∈ xs, FrOk f) (hl : xs.length ≤ 16) :
    runP Φ 1 (df_common_bottom c) [frsD xs] = some (.ret (.int (cbot xs 1 : Nat)) []) := by
  have lp : ∀ (xs : List Fr) (n k : Nat) (y2 y3 : Option D) (s : D), n < 2 ^ k → 0 < n → (∀ f ∈ xs, FrOk f) → k + 100 * xs.length ≤ 5000 → ∃ z2 z3, fr Φ (.t [(.n 2), (.n 3)]) (.cons (.asg (.n 1) (.bin .mul (.v 1) (.bin .fdiv (.v 3) (.call c (.cons (.v 1) (.cons (.v 3) .nil)))))) .nil) (xs.map frD) [some s, some (.int (n : Nat)), y2, y3] = some (.ok .nx [some s, some (.int (cbot xs n : Nat)), z2, z3]) := by
    intro xs
    induction xs with
    | nil => intro n k y2 y3 s h1 h2 _ _; exact ⟨y2, y3, rfl⟩
    | cons f fs ih =>
      intro n k y2 y3 s h1 h2 h3 h4
      have hf := h3 f (List.mem_cons_self ..)
      have hc1 := hc (n : Int) f.2
      rw [Int.natAbs_natCast] at hc1
      have g0 : 0 < Nat.gcd n f.2 := Nat.gcd_pos_of_pos_right _ hf.1
      have g1 : Nat.gcd n f.2 < DVB := dvbN (Nat.lt_of_le_of_lt (Nat.gcd_le_right _ hf.1) (Nat.lt_trans hf.2.1 (Nat.pow_lt_pow_right (by decide) (by decide))))
      have d1 := nDiv f.2 (Nat.gcd n f.2) g0 g1
      rw [List.length_cons] at h4
      have nb : n < BIG := lt_BIG h1 (by omega)
      have db : f.2 / Nat.gcd n f.2 < BIG := Nat.lt_of_le_of_lt (Nat.div_le_self _ _) (lt_BIG hf.2.1 (by decide))
      have m1 := nMul n (f.2 / Nat.gcd n f.2) nb db
      rw [lcm_eq] at m1
      have hlt : Nat.lcm n f.2 < 2 ^ (k + 100) := by
        refine Nat.lt_of_le_of_lt (Nat.le_of_dvd (Nat.mul_pos h2 hf.1) (Nat.lcm_dvd_mul n f.2)) ?_
        rw [Nat.pow_add]
        exact Nat.mul_lt_mul'' h1 hf.2.1
      obtain ⟨z2, z3, e⟩ := ih (Nat.lcm n f.2) (k + 100) (some (.int (f.1 : Int))) (some (.int (f.2 : Int))) s hlt (Nat.lcm_pos h2 hf.1) (fun g hg => h3 g (List.mem_cons_of_mem _ hg)) (by omega)
      refine ⟨z2, z3, ?_⟩
      rw [List.map_cons, fr_nx (e1 := [some s, some (.int (n : Nat)), some (.int (f.1 : Int)), some (.int (f.2 : Int))]) (e2 := [some s, some (.int (Nat.lcm n f.2 : Nat)), some (.int (f.1 : Int)), some (.int (f.2 : Int))]) (by simp [frD, bindT, bindTs]) ?_]
      · exact e
      · generalize Nat.lcm n f.2 = ll at *
        generalize f.2 / Nat.gcd n f.2 = q1 at *
        generalize Nat.gcd n f.2 = gg at *
        simp [EV, ES, RC, RD, ioE, ioL, bindT, hc1, d1, m1]
  obtain ⟨z2, z3, e⟩ := lp xs 1 1 none none (frsD xs) (by decide) (by decide) h (by omega)
  have it : itemsD (frsD xs) = some (xs.map frD) := rfl
  generalize frsD xs = sd at *
  have e' := e
  rw [show ((1 : Nat) : Int) = 1 from rfl] at e'
  simp [df_common_bottom, runP_eq, EV, ES, RC, RD, ioE, ioL, ioI, bindT, it, e', PU]
theorem ints_map (xs : List Int) : intsOf (xs.map D.int) = some xs := by
  induction xs with
  | nil => rfl
  | cons x xs ih => simp [intsOf, ih]
theorem s_scaled (Φ : Nat → Fn) (xs : List Fr) (L : Nat) (h : ∀ f ∈ xs, FrOk f ∧ f.2 ∣ L) (hl : xs.length ≤ 8) (hL : L < 2 ^ 5000) : runP Φ 2 df_scaled [frsD xs, .int (L : Nat)] = some (.ret (.lst ((isort (xs.map (vl L))).map D.int)) []) := by
  have it : itemsD (frsD xs) = some (xs.map frD) := rfl
  generalize frsD xs = sd at *
  have c := cp_map2 (Φ := Φ) (elt := (.bin .mul (.ix (.v 2) (.c (.int 0))) (.bin .fdiv (.v 1) (.ix (.v 2) (.c (.int 1)))))) (tg := (.n 2)) (os := [2]) (e1 := [some sd, some (.int (L : Nat)), none]) frD (fun f => D.int (vl L f)) xs (fun f hf => by
    have hf := h f hf
    have d1 := nDiv L f.2 hf.1.1 (dvbN (Nat.lt_trans hf.1.2.1 (Nat.pow_lt_pow_right (by decide) (by decide))))
    have m1 := nMul f.1 (L / f.2) (lt_BIG hf.1.2.2.1 (by decide)) (Nat.lt_of_le_of_lt (Nat.div_le_self _ _) (lt_BIG hL (by decide)))
    rw [Int.natCast_mul] at m1
    have p0 : ixD (frD f) (.int 0) = some (.int (f.1 : Int)) := by simp [frD, ixD, ixP]
    have p1 : ixD (frD f) (.int 1) = some (.int (f.2 : Int)) := by simp [frD, ixD, ixP]
    refine ⟨[some sd, some (.int (L : Nat)), some (frD f)], by simp [bindT, wipeE], [some sd, some (.int (L : Nat)), some (frD f)], ?_⟩
    unfold vl
    generalize frD f = ff at *
    generalize L / f.2 = q1 at *
    simp [EV, RC, RD, ioE, p0, p1, d1, m1]) (by omega)
  have e : xs.map (fun f => D.int (vl L f)) = (xs.map (vl L)).map D.int := by rw [List.map_map]; rfl
  rw [e] at c
  generalize hcp : cp Φ = cpp at c
  generalize xs.map (vl L) = A at *
  have so : biD .sorted [.lst (A.map D.int)] = some (.lst ((isort A).map D.int)) := by
    simp only [biD, ints_map]; rfl
  generalize A.map D.int = A2 at *
  generalize (isort A).map D.int = A3 at *
  simp [df_scaled, runP_eq, EV, ES, RC, RD, ioE, ioL, ioI, it, hcp, c, so]
theorem zipL_map {α β : Type} (g : α → D) (h : β → D) : ∀ (xs : List α) (ys : List β), zipL (xs.map g) (ys.map h) = (xs.zip ys).map fun p => .tup [g p.1, h p.2]
  | [], _ => by simp [zipL]
  | _ :: _, [] => by simp [zipL]
  | x :: xs, y :: ys => by simp [zipL, zipL_map g h xs ys]
def FairS (F : Fn) : Prop := ∀ xs ys : List Fr, (∀ f ∈ xs, FrOk f) → (∀ f ∈ ys, FrOk f) → xs.length ≤ 8 → ys.length ≤ 8 → F [frsD xs, frsD ys] = some (.ret (dueF xs ys) [])
theorem s_fairer {Φ : Nat → Fn} {b s : Nat} (hb : ∀ xs : List Fr, (∀ f ∈ xs, FrOk f) → xs.length ≤ 16 → Φ b [frsD xs] = some (.ret (.int (cbot xs 1 : Nat)) []))
    (hs : ∀ (xs : List Fr) (L : Nat), (∀ f ∈ xs, FrOk f ∧ f.2 ∣ L) → xs.length ≤ 8 → L < 2 ^ 5000 → Φ s [frsD xs, .int (L : Nat)] = some (.ret (.lst ((isort (xs.map (vl L))).map D.int)) [])) : FairS (runP Φ 2 (df_is_fairer b s)) := by
  intro xs ys hx hy lx ly
  have hxy : ∀ f ∈ xs ++ ys, FrOk f := fun f hf => (List.mem_append.mp hf).elim (hx f) (hy f)
  have lxy : (xs ++ ys).length ≤ 16 := by rw [List.length_append]; omega
  have b1 := hb (xs ++ ys) hxy lxy
  have hL : 0 < cbot (xs ++ ys) 1 := cbot_pos _ _ (by decide) fun f hf => (hxy f hf).1
  have hd := (cbot_dvd (xs ++ ys) 1).2
  have hlt : cbot (xs ++ ys) 1 < 2 ^ 5000 := Nat.lt_of_lt_of_le (cbot_lt (xs ++ ys) 1 1 (by decide) (by decide) hxy) (Nat.pow_le_pow_right (by decide) (by omega))
  generalize cbot (xs ++ ys) 1 = L at *
  have ox : ∀ r ∈ xs, FrOk r ∧ r.2 ∣ L := fun r hr => ⟨hx r hr, hd r (List.mem_append_left _ hr)⟩
  have oy : ∀ r ∈ ys, FrOk r ∧ r.2 ∣ L := fun r hr => ⟨hy r hr, hd r (List.mem_append_right _ hr)⟩
  have s1 := hs xs L ox lx hlt
  have s2 := hs ys L oy ly hlt
  have ct : binD .cat (frsD xs) (frsD ys) = some (frsD (xs ++ ys)) := by
    have : xs.length + ys.length ≤ LMX := Nat.le_trans (by omega : xs.length + ys.length ≤ 16) (by decide)
    simp [frsD, binD, this]
  rw [← fair_due hL xs ys ox oy]
  generalize isort (xs.map (vl L)) = A at *
  generalize isort (ys.map (vl L)) = B at *
  generalize frsD (xs ++ ys) = xyd at *
  generalize frsD xs = xd at *
  generalize frsD ys = yd at *
  obtain ⟨f1, f2⟩ := fr_find (Φ := Φ) (tg := (.t [(.n 3), (.n 4)])) (b := (.cons (.ifs (.cmp .ne (.v 3) (.v 4)) (.cons (.ret (.cmp .gt (.v 3) (.v 4))) .nil) .nil) .nil)) (fun p : Int × Int => D.tup [.int p.1, .int p.2]) fairQ (ls := A.zip B) (e := [some xd, some yd, some (.int (L : Nat)), none, none]) (fun _ e => ∃ z3 z4, e = [some xd, some yd, some (.int (L : Nat)), z3, z4]) ⟨_, _, rfl⟩ (by
    rintro i ⟨p, q⟩ e hi ⟨z3, z4, rfl⟩
    refine ⟨_, by simp [bindT, bindTs]; rfl, fun d hd => ?_, fun hd => ?_⟩
    · simp only [fairQ] at hd
      split at hd
      · cases hd
      · rename_i c
        simp only [Option.some.injEq] at hd; subst hd
        refine ⟨[some xd, some yd, some (.int (L : Nat)), some (.int p), some (.int q)], ?_⟩
        have c2 : (p == q) = false := beq_eq_false_iff_ne.mpr c
        have cm : cmpD .ne (.int p) (.int q) = some true := by simp only [cmpD, SHP, EQ, c2]; rfl
        have cg : cmpD .gt (.int p) (.int q) = some (decide (q < p)) := rfl
        simp [EV, ES, RC, RD, ioE, cm, cg]
    · simp only [fairQ] at hd
      split at hd
      · rename_i c
        have c2 : p = q := c
        refine ⟨[some xd, some yd, some (.int (L : Nat)), some (.int p), some (.int q)], ?_, _, _, rfl⟩
        have cm : cmpD .ne (.int p) (.int q) = some false := by subst c2; simp [cmpD, SHP, EQ]
        simp [EV, ES, RC, RD, ioE, cm]
      · cases hd)
  have zz : zipL (A.map D.int) (B.map D.int) = (A.zip B).map (fun p : Int × Int => D.tup [.int p.1, .int p.2]) := zipL_map D.int D.int A B
  unfold fairF
  cases hq : (A.zip B).findSome? fairQ with
  | some d =>
    obtain ⟨e2, f3⟩ := f1 d hq
    simp [df_is_fairer, runP_eq, EV, ES, RC, RD, ioE, ioL, ioI, bindT, ct, b1, s1, s2, zz, f3]
  | none =>
    obtain ⟨e2, f3, z3, z4, rfl⟩ := f2 hq
    simp [df_is_fairer, runP_eq, EV, ES, RC, RD, ioE, ioL, ioI, bindT, ct, b1, s1, s2, zz, f3]
/-! ### the law's own order -/
theorem fr_pure (f : Fr) : pureD (frD f) = true := by simp [frD, PU]
theorem at_loop (Φ : Nat → Fn) (f : Fr) (hf : FrOk f) (x0 : Option D) : ∀ (post pre : List Fr), (∀ r ∈ pre ++ post, FrOk r) → pre.length + post.length ≤ 100 →
    wl Φ (.and (.cons (.cmp .lt (.v 3) (.bi .len (.cons (.v 1) .nil))) (.cons (.cmp .lt (.bin .mul (.ix (.ix (.v 1) (.v 3)) (.c (.int 0))) (.ix (.v 2) (.c (.int 1)))) (.bin .mul (.ix (.v 2) (.c (.int 0))) (.ix (.ix (.v 1) (.v 3)) (.c (.int 1))))) .nil))) (.cons (.asg (.n 3) (.bin .add (.v 3) (.c (.int 1)))) .nil) [x0, some (frsD (pre ++ post)), some (frD f), some (.int (pre.length : Int))] = some (.ok .nx [x0, some (frsD (pre ++ post)), some (frD f), some (.int ((pre.length + place f post : Nat) : Int))]) := by
  intro post
  induction post with
  | nil =>
    intro pre h hl
    refine wl_done ?_
    have ln : biD .len [frsD (pre ++ [])] = some (.int (pre.length : Int)) := by simp [biD, frsD]
    generalize frsD (pre ++ []) = rd at *
    simp [EV, RC, RD, ioE, ioL, ln, cmpD, place]
  | cons r rs ih =>
    intro pre h hl
    have ln : biD .len [frsD (pre ++ r :: rs)] = some (.int ((pre.length + rs.length + 1 : Nat) : Int)) := by
      simp only [biD, frsD, List.length_map, List.length_append, List.length_cons]
      refine congrArg (fun z => some (D.int z)) ?_
      omega
    have lt1 : cmpD .lt (.int (pre.length : Int)) (.int ((pre.length + rs.length + 1 : Nat) : Int)) = some true := by
      simp [cmpD]; omega
    have ix1 : ixD (frsD (pre ++ r :: rs)) (.int (pre.length : Int)) = some (frD r) := by
      have : pre.length < ((pre ++ r :: rs).map frD).length := by simp
      simp only [frsD, ixD, ixP]
      rw [if_pos (by omega), if_pos (by omega)]
      simp
    have hr := h r (by simp)
    have m1 := nMul r.1 f.2 (lt_BIG hr.2.2.1 (by decide)) (lt_BIG hf.2.1 (by decide))
    have m2 := nMul f.1 r.2 (lt_BIG hf.2.2.1 (by decide)) (lt_BIG hr.2.1 (by decide))
    have r0 : ixD (frD r) (.int 0) = some (.int (r.1 : Int)) := by simp [frD, ixD, ixP]
    have r1 : ixD (frD r) (.int 1) = some (.int (r.2 : Int)) := by simp [frD, ixD, ixP]
    have q0 : ixD (frD f) (.int 0) = some (.int (f.1 : Int)) := by simp [frD, ixD, ixP]
    have q1 : ixD (frD f) (.int 1) = some (.int (f.2 : Int)) := by simp [frD, ixD, ixP]
    have ih2 := ih (pre ++ [r]) (by simpa using h) (by simp at hl ⊢; omega)
    rw [List.append_assoc, List.singleton_append, List.length_append, List.length_singleton] at ih2
    generalize pre.length + rs.length + 1 = N at ln lt1
    generalize frsD (pre ++ r :: rs) = rd at *
    generalize frD r = rr at *
    generalize frD f = ff at *
    by_cases c : r.1 * f.2 < f.1 * r.2
    · have lt2 : cmpD .lt (.int ((r.1 * f.2 : Nat) : Int)) (.int ((f.1 * r.2 : Nat) : Int)) = some true := by
        simp only [cmpD]
        rw [decide_eq_true (Int.ofNat_lt.mpr c)]
      have pl : place f (r :: rs) = place f rs + 1 := by simp [place, c]
      rw [pl]
      generalize (r.1 * f.2 : Nat) = p1 at *
      generalize (f.1 * r.2 : Nat) = p2 at *
      refine wl_nx (e1 := [x0, some rd, some ff, some (.int (pre.length : Int))]) (e2 := [x0, some rd, some ff, some (.int ((pre.length + 1 : Nat) : Int))]) ?_ ?_ ?_
      · simp only [EV, RC, RD, ioE, ioL, ln, lt1, ix1, r0, r1, q0, q1, m1, m2, lt2]
        simp [EV, RC, RD, ioE, ioL, ln, lt1, ix1, r0, r1, q0, q1, m1, m2, lt2]
      · simp [EV, ES, RC, RD, ioE, binD, bindT]
      · rw [ih2]
        have e : pre.length + 1 + place f rs = pre.length + (place f rs + 1) := by omega
        rw [e]
    · have lt2 : cmpD .lt (.int ((r.1 * f.2 : Nat) : Int)) (.int ((f.1 * r.2 : Nat) : Int)) = some false := by
        simp only [cmpD]
        rw [decide_eq_false (fun k => c (Int.ofNat_lt.mp k))]
      have pl : place f (r :: rs) = 0 := by simp [place, c]
      rw [pl]
      generalize (r.1 * f.2 : Nat) = p1 at *
      generalize (f.1 * r.2 : Nat) = p2 at *
      refine wl_done ?_
      simp only [EV, RC, RD, ioE, ioL, ln, lt1, ix1, r0, r1, q0, q1, m1, m2, lt2]
      simp [EV, RC, RD, ioE, ioL, ln, lt1, ix1, r0, r1, q0, q1, m1, m2, lt2]
theorem insF_len (f : Fr) (rs : List Fr) : (insF f rs).length = rs.length + 1 := (insF_perm f rs).length_eq
theorem s_ordered (Φ : Nat → Fn) (xs : List Fr) (h : ∀ f ∈ xs, FrOk f) (hl : xs.length ≤ 8) : runP Φ 1 df_law_ordered [frsD xs] = some (.ret (frsD (ordF [] xs)) []) := by
  have lp : ∀ (xs rs : List Fr) (y2 y3 : Option D) (s : D), (∀ f ∈ xs, FrOk f) → (∀ f ∈ rs, FrOk f) → rs.length + xs.length ≤ 8 → ∃ z2 z3, fr Φ (.n 2) (.cons (.asg (.n 3) (.c (.int 0))) (.cons (.whl (.and (.cons (.cmp .lt (.v 3) (.bi .len (.cons (.v 1) .nil))) (.cons (.cmp .lt (.bin .mul (.ix (.ix (.v 1) (.v 3)) (.c (.int 0))) (.ix (.v 2) (.c (.int 1)))) (.bin .mul (.ix (.v 2) (.c (.int 0))) (.ix (.ix (.v 1) (.v 3)) (.c (.int 1))))) .nil))) (.cons (.asg (.n 3) (.bin .add (.v 3) (.c (.int 1)))) .nil)) (.cons (.upd 1 [] (.ins (.v 3) (.v 2)) []) .nil))) (xs.map frD) [some s, some (frsD rs), y2, y3] = some (.ok .nx [some s, some (frsD (ordF rs xs)), z2, z3]) := by
    intro xs
    induction xs with
    | nil => intro rs y2 y3 s _ _ _; exact ⟨y2, y3, rfl⟩
    | cons f fs ih =>
      intro rs y2 y3 s h1 h2 h3
      have hf := h1 f (List.mem_cons_self ..)
      rw [List.length_cons] at h3
      obtain ⟨z2, z3, e⟩ := ih (insF f rs) (some (frD f)) (some (.int (place f rs : Int))) s (fun g hg => h1 g (List.mem_cons_of_mem _ hg)) (fun g hg => (List.mem_cons.mp ((insF_perm f rs).mem_iff.mp hg)).elim (fun e => by rw [e]; exact hf) (h2 g)) (by rw [insF_len]; omega)
      refine ⟨z2, z3, ?_⟩
      have lp1 := at_loop Φ f hf (some s) rs [] h2 (by simp; omega)
      rw [List.nil_append, List.length_nil, Nat.zero_add] at lp1
      have pl := place_le f rs
      have pi : fIns (.int (place f rs : Int)) (frD f) (frsD rs) = some (frsD (insF f rs)) := by
        have c1 : rs.length < LMX := Nat.lt_of_le_of_lt (by omega : rs.length ≤ 8) (by decide)
        have c2 : ((place f rs : Nat) : Int) < 1000000 := by omega
        rw [insF_eq]
        simp [fIns, frsD, c1, c2]
      have fp := fr_pure f
      have ck : ∀ a b c, chkP 1 [] [a, some (frsD rs), b, c] = true := fun _ _ _ => rfl
      rw [List.map_cons, fr_nx (e1 := [some s, some (frsD rs), some (frD f), y3]) (e2 := [some s, some (frsD (insF f rs)), some (frD f), some (.int (place f rs : Int))]) (by simp [bindT]) ?_]
      · exact e
      · generalize frD f = ff at *
        generalize frsD (insF f rs) = rd2 at *
        generalize frsD rs = rd at *
        have lp2 := lp1
        rw [show (((0 : Nat)) : Int) = 0 from rfl] at lp2
        simp [EV, ES, ESi, ESj, RC, RD, RU, ioE, ioL, bindT, lp2, fp, pi, kil, ck, updD]
  obtain ⟨z2, z3, e⟩ := lp xs [] none none (frsD xs) h (fun _ h => nomatch h) (by simpa using hl)
  have it : itemsD (frsD xs) = some (xs.map frD) := rfl
  generalize frsD xs = sd at *
  have e0 : frsD [] = .lst [] := rfl
  rw [e0] at e
  generalize frsD (ordF [] xs) = od at *
  simp [df_law_ordered, runP_eq, EV, ES, RC, RD, ioE, ioL, ioI, bindT, it, e]
theorem cmp_fr (o : CO) (f g : Fr) (h : o = .ne) : cmpD o (frD f) (frD g) = some (!decide (f = g)) := by
  subst h
  have e : (decide (f = g)) = (((f.1 : Int) == (g.1 : Int)) && ((f.2 : Int) == (g.2 : Int))) := by
    rw [Bool.eq_iff_iff]
    simp only [decide_eq_true_eq, Bool.and_eq_true, beq_iff_eq, Int.ofNat_inj]
    exact Prod.ext_iff
  rw [e]
  simp [frD, cmpD, SHP, EQ]
theorem s_due {Φ : Nat → Fn} {o : Nat} (ho : ∀ xs : List Fr, (∀ f ∈ xs, FrOk f) → xs.length ≤ 8 → Φ o [frsD xs] = some (.ret (frsD (ordF [] xs)) [])) : FairS (runP Φ 2 (df_law_due o)) := by
  intro xs ys hx hy lx ly
  have o1 := ho xs hx lx
  have o2 := ho ys hy ly
  have kx : ∀ f ∈ ordF [] xs, FrOk f := fun f hf => hx f (by simpa using (ordF_perm xs []).mem_iff.mp hf)
  have ky : ∀ f ∈ ordF [] ys, FrOk f := fun f hf => hy f (by simpa using (ordF_perm ys []).mem_iff.mp hf)
  unfold dueF
  generalize ordF [] xs = A at *
  generalize ordF [] ys = B at *
  generalize frsD xs = xd at *
  generalize frsD ys = yd at *
  obtain ⟨f1, f2⟩ := fr_find (Φ := Φ) (tg := (.t [(.n 2), (.n 3)])) (b := (.cons (.ifs (.cmp .ne (.v 2) (.v 3)) (.cons (.ret (.cmp .gt (.bin .mul (.ix (.v 2) (.c (.int 0))) (.ix (.v 3) (.c (.int 1)))) (.bin .mul (.ix (.v 3) (.c (.int 0))) (.ix (.v 2) (.c (.int 1)))))) .nil) .nil) .nil)) (fun p : Fr × Fr => D.tup [frD p.1, frD p.2]) dueQ (ls := A.zip B) (e := [some xd, some yd, none, none]) (fun _ e => ∃ z3 z4, e = [some xd, some yd, z3, z4]) ⟨_, _, rfl⟩ (by
    rintro i ⟨p, q⟩ e hi ⟨z3, z4, rfl⟩
    obtain ⟨p1, p2⟩ := List.of_mem_zip (a := p) (b := q) (List.mem_of_getElem? hi)
    have hp := kx p p1
    have hq := ky q p2
    have m1 := nMul p.1 q.2 (lt_BIG hp.2.2.1 (by decide)) (lt_BIG hq.2.1 (by decide))
    have m2 := nMul q.1 p.2 (lt_BIG hq.2.2.1 (by decide)) (lt_BIG hp.2.1 (by decide))
    have p0 : ixD (frD p) (.int 0) = some (.int (p.1 : Int)) := by simp [frD, ixD, ixP]
    have p1 : ixD (frD p) (.int 1) = some (.int (p.2 : Int)) := by simp [frD, ixD, ixP]
    have q0 : ixD (frD q) (.int 0) = some (.int (q.1 : Int)) := by simp [frD, ixD, ixP]
    have q1 : ixD (frD q) (.int 1) = some (.int (q.2 : Int)) := by simp [frD, ixD, ixP]
    have cm := cmp_fr .ne p q rfl
    have cg : cmpD .gt (.int ((p.1 * q.2 : Nat) : Int)) (.int ((q.1 * p.2 : Nat) : Int)) = some (decide (q.1 * p.2 < p.1 * q.2)) := by
      have e : decide (((q.1 * p.2 : Nat) : Int) < ((p.1 * q.2 : Nat) : Int)) = decide (q.1 * p.2 < p.1 * q.2) := by
        rw [Bool.eq_iff_iff]
        simp only [decide_eq_true_eq, Int.ofNat_lt]
      simp only [cmpD, e]
    simp only [dueQ]
    generalize frD p = pd at *
    generalize frD q = qd at *
    generalize (p.1 * q.2 : Nat) = w1 at *
    generalize (q.1 * p.2 : Nat) = w2 at *
    refine ⟨[some xd, some yd, some pd, some qd], by simp [bindT, bindTs], fun d hd => ?_, fun hd => ?_⟩
    · split at hd
      · cases hd
      · rename_i c
        simp only [Option.some.injEq] at hd; subst hd
        rw [decide_eq_false c, Bool.not_false] at cm
        refine ⟨[some xd, some yd, some pd, some qd], ?_⟩
        clear hi
        generalize decide (w2 < w1) = bb at *
        simp only [EV, ES, RC, RD, ioE, cm]
        simp [EV, ES, RC, RD, ioE, cm, p0, p1, q0, q1, m1, m2, cg]
    · split at hd
      · rename_i c
        rw [decide_eq_true c, Bool.not_true] at cm
        refine ⟨[some xd, some yd, some pd, some qd], ?_, _, _, rfl⟩
        simp [EV, ES, RC, RD, ioE, cm]
      · cases hd)
  have zz : zipL (A.map frD) (B.map frD) = (A.zip B).map (fun p : Fr × Fr => D.tup [frD p.1, frD p.2]) := zipL_map frD frD A B
  have sA : frsD A = .lst (A.map frD) := rfl
  have sB : frsD B = .lst (B.map frD) := rfl
  rw [sA] at o1
  rw [sB] at o2
  cases hq : (A.zip B).findSome? dueQ with
  | some d =>
    obtain ⟨e2, f3⟩ := f1 d hq
    simp [df_law_due, runP_eq, EV, ES, RC, RD, ioE, ioL, ioI, bindT, o1, o2, zz, f3]
  | none =>
    obtain ⟨e2, f3, z3, z4, rfl⟩ := f2 hq
    simp [df_law_due, runP_eq, EV, ES, RC, RD, ioE, ioL, ioI, bindT, o1, o2, zz, f3]
theorem frs_shp (xs : List Fr) (n : Nat) : shps (n + 1) (xs.map frD) = true := by
  induction xs with
  | nil => simp [SHP]
  | cons x xs ih =>
    rw [List.map_cons]
    simp only [SHP, ih, Bool.and_true]
    simp [frD, SHP]
theorem frs_pure (xs : List Fr) : pureDs (xs.map frD) = true := by
  induction xs with
  | nil => simp [PU]
  | cons x xs ih => simp [PU, ih, fr_pure]
theorem due_bl (xs ys : List Fr) : ∃ b, dueF xs ys = .bl b := by
  unfold dueF
  cases hq : ((ordF [] xs).zip (ordF [] ys)).findSome? dueQ with
  | none => exact ⟨false, rfl⟩
  | some d =>
    obtain ⟨p, _, hp⟩ := List.exists_of_findSome?_eq_some hq
    simp only [dueQ] at hp
    split at hp
    · cases hp
    · simp only [Option.some.injEq] at hp; exact ⟨_, hp.symm⟩
def ToldS (F : Fn) : Prop := ∀ xs ys : List Fr, (∀ f ∈ xs, FrOk f) → (∀ f ∈ ys, FrOk f) → xs.length ≤ 8 → ys.length ≤ 8 → F [frsD xs, frsD ys] = some (.ret (.bl true) [])
theorem s_told {Φ : Nat → Fn} {a b : Nat} (ha : FairS (Φ a)) (hb : FairS (Φ b)) : ToldS (runP Φ 2 (df_law_told a b)) := by
  intro xs ys hx hy lx ly
  have h1 := ha xs ys hx hy lx ly
  have h2 := hb xs ys hx hy lx ly
  obtain ⟨z, hz⟩ := due_bl xs ys
  rw [hz] at h1 h2
  have l1 : biD .list [frsD xs] = some (frsD xs) := rfl
  have l2 : biD .list [frsD ys] = some (frsD ys) := rfl
  have sh : cmpD .eq (.lst [frsD xs, frsD ys]) (.lst [frsD xs, frsD ys]) = some true := by
    have e : shp 60 (.lst [frsD xs, frsD ys]) = true := by
      simp only [SHP, frsD, frs_shp xs 57, frs_shp ys 57, Bool.and_self]
    simp only [cmpD, e, Bool.and_self, if_true, eqD_refl 60 _ e]
  have ceq : cmpD .eq (.bl z) (.bl z) = some true := by cases z <;> rfl
  have ib : biD (.isi .bool) [.bl z] = some (.bl true) := rfl
  generalize frsD xs = xd at *
  generalize frsD ys = yd at *
  have i0 : ixD (.lst [xd, yd]) (.int 0) = some xd := by simp [ixD, ixP]
  have i1 : ixD (.lst [xd, yd]) (.int 1) = some yd := by simp [ixD, ixP]
  simp [df_law_told, runP_eq, EV, ES, RC, RD, ioE, ioL, bindT, l1, l2, i0, i1, h1, h2, ib, ceq, sh, LMX]
/-! ### the drawing -/
theorem red_ok {t b : Nat} (hb : 0 < b) (h1 : b < 2 ^ 100) (h2 : t < 2 ^ 100) : FrOk (t / Nat.gcd t b, b / Nat.gcd t b) := by
  have g0 : 0 < Nat.gcd t b := Nat.gcd_pos_of_pos_right _ hb
  refine ⟨Nat.div_pos (Nat.gcd_le_right _ hb) g0, Nat.lt_of_le_of_lt (Nat.div_le_self _ _) h1, Nat.lt_of_le_of_lt (Nat.div_le_self _ _) h2, ?_⟩
  show Nat.gcd (t / Nat.gcd t b) (b / Nat.gcd t b) = 1
  rw [Nat.gcd_div (Nat.gcd_dvd_left t b) (Nat.gcd_dvd_right t b), Nat.div_self g0]
theorem s_fraction {Φ : Nat → Fn} {c : Nat} (hc : ∀ a b : Nat, Φ c [.int a, .int b] = some (.ret (.int (Nat.gcd a b : Nat)) [])) (z : Int) : ∃ f : Fr, runP Φ 1 (df_law_fraction c) [.int z] = some (.ret (frD f) []) ∧ FrOk f := by
  have d4 : 4 < DVB := lt_DVB (k := 3) (by decide) (by decide)
  have d13 : 13 < DVB := lt_DVB (k := 4) (by decide) (by decide)
  have p30 : binD .pow (.int 10) (.int 30) = some (.int ((10 ^ 30 : Nat) : Int)) := by simp [binD]
  obtain ⟨wy, hw⟩ : ∃ n : Nat, z % 4 = n := ⟨(z % 4).toNat, by omega⟩
  have hw4 : wy < 4 := by omega
  have m4 : binD .mod (.int z) (.int 4) = some (.int (wy : Int)) := by simp [binD, hw]
  have ab : biD .abs [.int z] = some (.int (z.natAbs : Nat)) := rfl
  have f4 : binD .fdiv (.int (z.natAbs : Int)) (.int 4) = some (.int ((z.natAbs / 4 : Nat) : Int)) := nDiv z.natAbs 4 (by decide) d4
  generalize z.natAbs / 4 = u at *
  have hG : (10 ^ 30 : Nat) < 2 ^ 100 ∧ 13 < 10 ^ 30 := by decide
  generalize (10 ^ 30 : Nat) = G at *
  have e1 := nMod u G (by omega)
  have e2 := nDiv u G (by omega) (dvbN (Nat.lt_trans hG.1 (Nat.pow_lt_pow_right (by decide) (by decide))))
  have e3 := nMod (u / G) G (by omega)
  have e4 := nAdd 1 (u / G % G)
  have e5 := nMod u 13 (by decide)
  have e6 := nDiv u 13 (by decide) d13
  have e7 := nMod (u / 13) 12 (by decide)
  have e8 := nAdd 1 (u / 13 % 12)
  rw [show ((1 : Nat) : Int) = 1 from rfl] at e4 e8
  rw [show ((13 : Nat) : Int) = 13 from rfl] at e5 e6
  rw [show ((12 : Nat) : Int) = 12 from rfl] at e7
  have l1 : u % G < G := Nat.mod_lt _ (by omega)
  have l2 : u / G % G < G := Nat.mod_lt _ (by omega)
  have l3 : u % 13 < 13 := Nat.mod_lt _ (by decide)
  have l4 : u / 13 % 12 < 12 := Nat.mod_lt _ (by decide)
  obtain ⟨t, b, hpick, hb, h1, h2⟩ : ∃ t b : Nat, ixD (.lst [.tup [.int 0, .int 1], .tup [.int 1, .int 1], .tup [.int ((u % 13 : Nat) : Int), .int ((1 + u / 13 % 12 : Nat) : Int)], .tup [.int ((u % G : Nat) : Int), .int ((1 + u / G % G : Nat) : Int)]]) (.int (wy : Int)) = some (.tup [.int (t : Int), .int (b : Int)]) ∧ 0 < b ∧ b < 2 ^ 100 ∧ t < 2 ^ 100 := by
    rcases (show wy = 0 ∨ wy = 1 ∨ wy = 2 ∨ wy = 3 by omega) with e | e | e | e <;> subst e
    · exact ⟨0, 1, by simp [ixD, ixP], by decide, by decide, by decide⟩
    · exact ⟨1, 1, by simp [ixD, ixP], by decide, by decide, by decide⟩
    · exact ⟨u % 13, 1 + u / 13 % 12, by simp [ixD, ixP], by omega, by omega, by omega⟩
    · exact ⟨u % G, 1 + u / G % G, by simp [ixD, ixP], by omega, by omega, by omega⟩
  have hg := hc t b
  have g0 : 0 < Nat.gcd t b := Nat.gcd_pos_of_pos_right _ hb
  have g1 : Nat.gcd t b < DVB := dvbN (Nat.lt_of_le_of_lt (Nat.gcd_le_right _ hb) (Nat.lt_trans h1 (Nat.pow_lt_pow_right (by decide) (by decide))))
  have q1 := nDiv t (Nat.gcd t b) g0 g1
  have q2 := nDiv b (Nat.gcd t b) g0 g1
  refine ⟨(t / Nat.gcd t b, b / Nat.gcd t b), ?_, red_ok hb h1 h2⟩
  unfold frD
  generalize (t / Nat.gcd t b : Nat) = r1 at *
  generalize (b / Nat.gcd t b : Nat) = r2 at *
  generalize Nat.gcd t b = gg at *
  generalize (u % G : Nat) = x1 at *
  generalize (1 + u / G % G : Nat) = x2 at *
  generalize (u / G % G : Nat) = x3 at *
  generalize (u / G : Nat) = x4 at *
  generalize (u % 13 : Nat) = x5 at *
  generalize (1 + u / 13 % 12 : Nat) = x6 at *
  generalize (u / 13 % 12 : Nat) = x7 at *
  generalize (u / 13 : Nat) = x8 at *
  simp [df_law_fraction, runP_eq, EV, ES, RC, RD, ioE, ioL, bindT, bindTs, m4, ab, f4, p30, e1, e2, e3, e4, e5, e6, e7, e8, hpick, hg, q1, q2, LMX]
def FracS (F : Fn) : Prop := ∀ z : Int, ∃ f : Fr, F [.int z] = some (.ret (frD f) []) ∧ FrOk f
theorem c0 : FairS f3 := s_fairer (fun xs h hl => s_bottom (s_common _) xs h hl) (s_scaled _)
theorem c4 : CellS f4 := s_cell _
theorem c6 : FracS f6 := fun z => s_fraction (s_div _) z
theorem c9 : ToldS f9 := s_told c0 (s_due (s_ordered _))
theorem draw (k0 : Nat) (ns : List Int) (n : Nat) (hn : n ≤ 8) (a1 a2 a3 a4 a5 a6 : Option D) :
    ∃ xs : List Fr, cp (ph [f0, f1, f2, f3, f4, f5, f6, f7, f8, f9]) (.call 6 (.cons (.call 4 (.cons (.v 0) (.cons (.bin .add (.c (.int (k0 : Int))) (.v 6)) .nil))) .nil)) (.n 6) .nil [6] ((rangeL 0 (n : Int)).map D.int) [some (.scr ns), a1, a2, a3, a4, a5, a6] = some (xs.map frD) ∧ xs.length = n ∧ ∀ f ∈ xs, FrOk f := by
  have hex : ∀ i : Nat, ∃ f : Fr, f6 [.int (ns.getD (k0 + i) 0)] = some (.ret (frD f) []) ∧ FrOk f := fun i => c6 _
  let g : Nat → Fr := fun i => Classical.choose (hex i)
  have hg : ∀ i, f6 [.int (ns.getD (k0 + i) 0)] = some (.ret (frD (g i)) []) ∧ FrOk (g i) := fun i => Classical.choose_spec (hex i)
  generalize g = g at *
  refine ⟨(List.range n).map g, ?_, by simp, fun f hf => ?_⟩
  · have er : (rangeL 0 (n : Int)).map D.int = (List.range n).map fun i => D.int ((i : Nat) : Int) := by
      unfold rangeL
      rw [List.map_map]
      have : ((n : Int) - 0).toNat = n := by omega
      rw [this]
      refine List.map_congr_left fun i _ => ?_
      simp
    rw [er, List.map_map]
    refine cp_map2 (fun i : Nat => D.int (i : Int)) (fun i => frD (g i)) (List.range n) (fun i hi => ?_) (by rw [List.length_range]; omega)
    refine ⟨[some (.scr ns), a1, a2, a3, a4, a5, some (.int (i : Int))], by simp [bindT, wipeE], [some (.scr ns), a1, a2, a3, a4, a5, some (.int (i : Int))], ?_⟩
    have h1 : binD .add (.int (k0 : Int)) (.int (i : Int)) = some (.int ((k0 + i : Nat) : Int)) := nAdd k0 i
    have h2 : f4 [.scr ns, .int ((k0 + i : Nat) : Int)] = _ := c4 ns (k0 + i)
    have h3 := (hg i).1
    generalize frD (g i) = ff at *
    generalize k0 + i = kk at *
    generalize ns.getD kk 0 = cell at *
    generalize f4 = F4 at *
    generalize f6 = F6 at *
    simp [EV, RC, RD, ioE, ioL, h1, h2, h3, ph]
  · obtain ⟨i, _, rfl⟩ := List.mem_map.mp hf
    exact (hg i).2
theorem sl_drop (xs : List Fr) (k : Nat) (h : k ≤ xs.length) : slDp (frsD xs) (some (k : Int)) none = some (frsD (xs.drop k)) := by
  have m : min k xs.length = k := by omega
  have e : (if (k : Int) < 0 then ((k : Int) + (xs.length : Int)).toNat else min ((k : Int)).toNat xs.length) = k := by
    rw [if_neg (by omega), Int.toNat_natCast, m]
  simp only [slDp, frsD, frs_pure, if_true, cutD, sIxD, List.length_map]
  rw [e, List.take_of_length_le (by simp), List.map_drop]
theorem sl_take (xs : List Fr) (k : Nat) (h : k ≤ xs.length) : slDp (frsD xs) none (some (k : Int)) = some (frsD (xs.take k)) := by
  have m : min k xs.length = k := by omega
  have e : (if (k : Int) < 0 then ((k : Int) + (xs.length : Int)).toNat else min ((k : Int)).toNat xs.length) = k := by
    rw [if_neg (by omega), Int.toNat_natCast, m]
  simp only [slDp, frsD, frs_pure, if_true, cutD, sIxD, List.length_map]
  rw [e, List.drop_zero, Nat.sub_zero, List.map_take]
theorem cut_key : ∀ n : Fin 9, sliceRange (sliceBounds none none (some (-1)) n.val).1 (sliceBounds none none (some (-1)) n.val).2.1 (sliceBounds none none (some (-1)) n.val).2.2 = (List.range n.val).reverse := by decide +kernel
theorem pick_all {α : Type} (xs : List α) : (List.range xs.length).filterMap (fun k => xs[k]?) = xs := by
  induction xs with
  | nil => rfl
  | cons x xs ih =>
    rw [List.length_cons, List.range_succ_eq_map, List.filterMap_cons, List.filterMap_map]
    have : ((fun k => (x :: xs)[k]?) ∘ Nat.succ) = fun k => xs[k]? := by
      funext k; simp
    rw [this, ih]; rfl
theorem cut_rev {α : Type} (xs : List α) (h : xs.length ≤ 8) : cut3 xs none none (-1) = xs.reverse := by
  have k := cut_key ⟨xs.length, by omega⟩
  unfold cut3
  simp only at k
  rw [k, List.filterMap_reverse, pick_all]
theorem sl_rev (xs : List Fr) (h : xs.length ≤ 8) : slD3 (frsD xs) none none (-1) = some (frsD xs.reverse) := by
  simp only [slD3, frsD, frs_pure]
  rw [if_pos ⟨by decide, trivial⟩, cut_rev _ (by simpa using h), List.map_reverse]
theorem law_ok (ns : List Int) (h1 : ns.length ≤ 63) (h2 : ∀ z ∈ ns, bitsI z ≤ 1048576) : f10 [.scr ns] = some (.ret (.bl true) []) := by
  have h0 : f4 [.scr ns, .int 0] = some (.ret (.int (ns.getD 0 0)) []) := c4 ns 0
  have hab : biD .abs [.int (ns.getD 0 0)] = some (.int ((ns.getD 0 0).natAbs : Nat)) := rfl
  generalize ns.getD 0 0 = cell at *
  generalize cell.natAbs = n0 at *
  have e1 := nMod n0 9 (by decide)
  have l1 : n0 % 9 < 9 := Nat.mod_lt _ (by decide)
  have e2 := nDiv n0 9 (by decide) (dvbN (by decide))
  have e3 := nMod (n0 / 9) 3 (by decide)
  have e4 := nDiv n0 27 (by decide) (dvbN (by decide))
  have e6 := nDiv n0 243 (by decide) (dvbN (by decide))
  have e7 := nMod (n0 / 243) 2 (by decide)
  have e5 : 0 < n0 % 9 → binD .mod (.int ((n0 / 27 : Nat) : Int)) (.int ((n0 % 9 : Nat) : Int)) = some (.int ((n0 / 27 % (n0 % 9) : Nat) : Int)) := fun h => nMod (n0 / 27) (n0 % 9) h
  have at_lt : 0 < n0 % 9 → n0 / 27 % (n0 % 9) < n0 % 9 := fun h => Nat.mod_lt _ h
  rw [show ((9 : Nat) : Int) = 9 from rfl] at e1 e2
  rw [show ((3 : Nat) : Int) = 3 from rfl] at e3
  rw [show ((27 : Nat) : Int) = 27 from rfl] at e4
  rw [show ((243 : Nat) : Int) = 243 from rfl] at e6
  rw [show ((2 : Nat) : Int) = 2 from rfl] at e7
  generalize n0 / 9 % 3 = r3 at *
  generalize n0 / 9 = q9 at *
  generalize n0 / 243 % 2 = r2 at *
  generalize n0 / 243 = q243 at *
  generalize n0 / 27 % (n0 % 9) = at0 at *
  generalize n0 / 27 = q27 at *
  generalize n0 % 9 = n at *
  have rg := rng_nat n (by omega)
  obtain ⟨xs, c1, lx, ox⟩ := draw 1 ns n (by omega) (some (.int (n0 : Int))) (some (.int (n : Int))) none none none none
  rw [show ((1 : Nat) : Int) = 1 from rfl] at c1
  obtain ⟨ys, c2, ly, oy⟩ := draw 9 ns n (by omega) (some (.int (n0 : Int))) (some (.int (n : Int))) (some (frsD xs)) none none none
  rw [show ((9 : Nat) : Int) = 9 from rfl] at c2
  have ce3 : cmpD .eq (.int (r3 : Int)) (.int 1) = some (decide (r3 = 1)) := by
    by_cases h : r3 = 1
    · subst h; rfl
    · have : ¬ (r3 : Int) = 1 := by omega
      simp [cmpD, SHP, EQ, h]; omega
  have ce2 : cmpD .eq (.int (r2 : Int)) (.int 1) = some (decide (r2 = 1)) := by
    by_cases h : r2 = 1
    · subst h; rfl
    · have : ¬ (r2 : Int) = 1 := by omega
      simp [cmpD, SHP, EQ, h]; omega
  have cg0 : cmpD .gt (.int (n : Int)) (.int 0) = some (decide (0 < n)) := by
    have e : decide ((0 : Int) < (n : Int)) = decide (0 < n) := by
      rw [Bool.eq_iff_iff]; simp only [decide_eq_true_eq]; omega
    simp only [cmpD, e]
  have h17 : f4 [.scr ns, .int 17] = some (.ret (.int (ns.getD 17 0)) []) := c4 ns 17
  obtain ⟨f, hf, of⟩ := c6 (ns.getD 17 0)
  generalize ns.getD 17 0 = cell2 at *
  have t1 : ∀ zs : List Fr, (∀ f ∈ zs, FrOk f) → zs.length ≤ 8 → f9 [frsD xs, frsD zs] = some (.ret (.bl true) []) := fun zs h hl => c9 xs zs ox h (by omega) hl
  have t2 : ∀ zs : List Fr, (∀ f ∈ zs, FrOk f) → zs.length ≤ 8 → f9 [frsD zs, frsD xs] = some (.ret (.bl true) []) := fun zs h hl => c9 zs xs h ox hl (by omega)
  have tr := sl_rev xs (by omega)
  have t3 := t1 xs.reverse (fun g hg => ox g (List.mem_reverse.mp hg)) (by rw [List.length_reverse]; omega)
  have t4 := t1 xs ox (by omega)
  have t5 : f3 [.lst [], .lst []] = some (.ret (.bl false) []) := c0 [] [] (fun _ h => nomatch h) (fun _ h => nomatch h) (by decide) (by decide)
  have fin : ∀ (zs : List Fr) (a5 a6 : Option D), (∀ f ∈ zs, FrOk f) → zs.length ≤ 8 → evSs (ph [f0, f1, f2, f3, f4, f5, f6, f7, f8, f9]) (.cons (.ifs (.or (.cons (.not (.call 9 (.cons (.v 3) (.cons (.v 4) .nil)))) (.cons (.not (.call 9 (.cons (.v 4) (.cons (.v 3) .nil)))) .nil))) (.cons (.ret (.c (.bl false))) .nil) .nil) (.cons (.ret (.and (.cons (.call 9 (.cons (.v 3) (.cons (.v 3) .nil))) (.cons (.call 9 (.cons (.v 3) (.cons (.sl3 (.v 3) .no .no (.neg (.c (.int 1)))) .nil))) (.cons (.cmp .isT (.call 3 (.cons (.lst .nil) (.cons (.lst .nil) .nil))) (.c (.bl false))) .nil))))) .nil)) [some (.scr ns), some (.int (n0 : Int)), some (.int (n : Int)), some (frsD xs), some (frsD zs), a5, a6] = some (.ok (.rt (.bl true)) [some (.scr ns), some (.int (n0 : Int)), some (.int (n : Int)), some (frsD xs), some (frsD zs), a5, a6]) := by
    intro zs a5 a6 hz lz
    have u1 := t1 zs hz lz
    have u2 := t2 zs hz lz
    generalize frsD zs = zd at *
    generalize frsD xs.reverse = rd at *
    generalize frsD xs = xd at *
    generalize f9 = F9 at *
    generalize f3 = F3 at *
    have is1 : cmpD .isT (.bl false) (.bl false) = some true := rfl
    simp [EV, ESi, EV3, EV4, ES, RC, RD, ioE, ioL, ioP, ph, u1, u2, t3, t4, t5, tr, is1, LMX]
  show runP (ph [f0, f1, f2, f3, f4, f5, f6, f7, f8, f9]) 1 (df_law 4 6 9 3) [.scr ns] = _
  unfold df_law
  generalize ((.cons (.ifs (.or (.cons (.not (.call 9 (.cons (.v 3) (.cons (.v 4) .nil)))) (.cons (.not (.call 9 (.cons (.v 4) (.cons (.v 3) .nil)))) .nil))) (.cons (.ret (.c (.bl false))) .nil) .nil) (.cons (.ret (.and (.cons (.call 9 (.cons (.v 3) (.cons (.v 3) .nil))) (.cons (.call 9 (.cons (.v 3) (.cons (.sl3 (.v 3) .no .no (.neg (.c (.int 1)))) .nil))) (.cons (.cmp .isT (.call 3 (.cons (.lst .nil) (.cons (.lst .nil) .nil))) (.c (.bl false))) .nil))))) .nil)) : DSs) = tl at *
  by_cases hb : r3 = 1 ∧ 0 < n
  · obtain ⟨hb1, hb2⟩ := hb
    subst hb1
    have e5 := e5 hb2
    have at_lt := at_lt hb2
    have ce3 : cmpD .eq (.int 1) (.int 1) = some true := rfl
    rw [decide_eq_true hb2] at cg0
    have s1 := sl_drop xs at0 (by omega)
    have s2 := sl_take xs at0 (by omega)
    have lz : (xs.drop at0 ++ xs.take at0).length = n := by rw [List.length_append, List.length_drop, List.length_take]; omega
    have oz : ∀ f ∈ xs.drop at0 ++ xs.take at0, FrOk f := fun g hg => (List.mem_append.mp hg).elim (fun k => ox g (List.mem_of_mem_drop k)) (fun k => ox g (List.mem_of_mem_take k))
    have ct : binD .cat (frsD (xs.drop at0)) (frsD (xs.take at0)) = some (frsD (xs.drop at0 ++ xs.take at0)) := by
      have : (xs.drop at0).length + (xs.take at0).length ≤ LMX := Nat.le_trans (by rw [← List.length_append, lz]; omega : _ ≤ 16) (by decide)
      rw [List.length_drop, List.length_take] at this
      simp [frsD, binD, this]
    by_cases hr : r2 = 1
    · subst hr
      have ce2 : cmpD .eq (.int 1) (.int 1) = some true := rfl
      have st : fSet (.int (at0 : Int)) (frD f) (frsD (xs.drop at0 ++ xs.take at0)) = some (frsD ((xs.drop at0 ++ xs.take at0).set at0 f)) := by
        have e : ixP ((xs.drop at0 ++ xs.take at0).map frD).length (at0 : Int) = some at0 := by
          rw [List.length_map, lz]
          unfold ixP
          rw [if_pos (by omega), if_pos (by omega)]
          simp
        simp only [fSet, setD, frsD, e, Option.map_some, List.map_set]
      have ft := fin ((xs.drop at0 ++ xs.take at0).set at0 f) (some (.int (at0 : Int))) none (fun g hg => (List.mem_or_eq_of_mem_set hg).elim (oz g) (fun e => e ▸ of)) (by rw [List.length_set]; omega)
      have ck : ∀ a b c d u v : Option D, chkP 4 [] [a, b, c, d, some (frsD (xs.drop at0 ++ xs.take at0)), u, v] = true := fun _ _ _ _ _ _ => rfl
      clear fin
      generalize frsD ((xs.drop at0 ++ xs.take at0).set at0 f) = wd at *
      generalize frsD (xs.drop at0 ++ xs.take at0) = zd at *
      generalize frsD (xs.drop at0) = zd1 at *
      generalize frsD (xs.take at0) = zd2 at *
      have x3 : D.lst (xs.map frD) = frsD xs := rfl
      have y3 : D.lst (ys.map frD) = frsD ys := rfl
      generalize hxm : xs.map frD = xm at *
      generalize hym : ys.map frD = ym at *
      generalize frsD xs = xd at *
      generalize frsD ys = yd at *
      generalize frD f = fd at *
      generalize f4 = F4 at *
      generalize f6 = F6 at *
      generalize hcp : cp (ph [f0, f1, f2, f3, F4, f5, F6, f7, f8, f9]) = cpp at *
      simp [runP_eq, EV, ES, EV5, EV6, RC, RD, RU, ioE, ioL, ioI, ioP, bindT, h0, hab, e1, rg, hcp, c1, c2, x3, y3, e2, e3, ce3, cg0, e4, e5, s1, s2, ct, e6, e7, ce2, h17, hf, ck, st, updD, kil, ft, ph]
    · rw [decide_eq_false hr] at ce2
      have ft := fin (xs.drop at0 ++ xs.take at0) (some (.int (at0 : Int))) none oz (by omega)
      clear fin
      generalize frsD (xs.drop at0 ++ xs.take at0) = zd at *
      generalize frsD (xs.drop at0) = zd1 at *
      generalize frsD (xs.take at0) = zd2 at *
      have x3 : D.lst (xs.map frD) = frsD xs := rfl
      have y3 : D.lst (ys.map frD) = frsD ys := rfl
      generalize hxm : xs.map frD = xm at *
      generalize hym : ys.map frD = ym at *
      generalize frsD xs = xd at *
      generalize frsD ys = yd at *
      generalize f4 = F4 at *
      generalize f6 = F6 at *
      generalize hcp : cp (ph [f0, f1, f2, f3, F4, f5, F6, f7, f8, f9]) = cpp at *
      simp [runP_eq, EV, ES, EV5, EV6, RC, RD, RU, ioE, ioL, ioI, ioP, bindT, h0, hab, e1, rg, hcp, c1, c2, x3, y3, e2, e3, ce3, cg0, e4, e5, s1, s2, ct, e6, e7, ce2, ft, ph]
  · have ft := fin ys none none oy (by omega)
    clear fin
    have x3 : D.lst (xs.map frD) = frsD xs := rfl
    have y3 : D.lst (ys.map frD) = frsD ys := rfl
    generalize hxm : xs.map frD = xm at *
    generalize hym : ys.map frD = ym at *
    generalize frsD xs = xd at *
    generalize frsD ys = yd at *
    generalize f4 = F4 at *
    generalize f6 = F6 at *
    generalize hcp : cp (ph [f0, f1, f2, f3, F4, f5, F6, f7, f8, f9]) = cpp at *
    by_cases hr3 : r3 = 1
    · have hn0 : ¬ 0 < n := fun k => hb ⟨hr3, k⟩
      rw [decide_eq_true hr3] at ce3
      rw [decide_eq_false hn0] at cg0
      simp [runP_eq, EV, ES, EV5, EV6, RC, RD, RU, ioE, ioL, ioI, ioP, bindT, h0, hab, e1, rg, hcp, c1, c2, x3, y3, e2, e3, ce3, cg0, ft, ph]
    · rw [decide_eq_false hr3] at ce3
      simp [runP_eq, EV, ES, EV5, EV6, RC, RD, RU, ioE, ioL, ioI, ioP, bindT, h0, hab, e1, rg, hcp, c1, c2, x3, y3, e2, e3, ce3, cg0, ft, ph]
end K51
end
section
set_option Elab.async false
set_option linter.all false
set_option maxRecDepth 100000
set_option maxHeartbeats 0
namespace K51
open PySem PySem.Spec PyProof.Rows L2 Cy
def top (i : Nat) : Stmt := PySem.Challenge.pw_chargeyard_k51_which_list_is_fairer.main.body.getD i (.Pass ⟨0, 0, 0, 0⟩)
def gls : List (PySem.Str × Cy.D) := []
def bns : List PySem.Str := ["abs", "sorted", "zip", "len", "list", "isinstance", "bool", "range"]
def ct0 : Ct := ⟨["one", "other"], [], [], gls, bns⟩
theorem sc0 : FnScope ["one", "other"] ["one", "other"] (defScope (top 1)) := ⟨rfl, rfl, rfl, by decide +kernel, rfl, by decide +kernel, by decide +kernel⟩
def ct1 : Ct := ⟨["some", "found", "top", "bottom"], ["common_divisor"], [(false, true)], gls, bns⟩
theorem sc1 : FnScope ["some", "found", "top", "bottom"] ["some"] (defScope (top 2)) := ⟨rfl, rfl, rfl, by decide +kernel, rfl, by decide +kernel, by decide +kernel⟩
def ct2 : Ct := ⟨["some", "bottom", "one"], ["common_divisor", "common_bottom"], [(false, true), (false, true)], gls, bns⟩
theorem sc2 : FnScope ["some", "bottom", "one"] ["some", "bottom"] (defScope (top 3)) := ⟨rfl, rfl, rfl, by decide +kernel, rfl, by decide +kernel, by decide +kernel⟩
def ct3 : Ct := ⟨["one", "other", "bottom", "here", "there"], ["common_divisor", "common_bottom", "scaled"], [(false, true), (false, true), (false, true)], gls, bns⟩
theorem sc3 : FnScope ["one", "other", "bottom", "here", "there"] ["one", "other"] (defScope (top 4)) := ⟨rfl, rfl, rfl, by decide +kernel, rfl, by decide +kernel, by decide +kernel⟩
def ct4 : Ct := ⟨["_law_script", "_law_k"], ["common_divisor", "common_bottom", "scaled", "is_fairer"], [(false, true), (false, true), (false, true), (false, true)], gls, bns⟩
theorem sc4 : FnScope ["_law_script", "_law_k"] ["_law_script", "_law_k"] (defScope (top 6)) := ⟨rfl, rfl, rfl, by decide +kernel, rfl, by decide +kernel, by decide +kernel⟩
def ct5 : Ct := ⟨["_law_one", "_law_other"], ["common_divisor", "common_bottom", "scaled", "is_fairer", "_law_cell_at"], [(false, true), (false, true), (false, true), (false, true), (false, true)], gls, bns⟩
theorem sc5 : FnScope ["_law_one", "_law_other"] ["_law_one", "_law_other"] (defScope (top 7)) := ⟨rfl, rfl, rfl, by decide +kernel, rfl, by decide +kernel, by decide +kernel⟩
def ct6 : Ct := ⟨["_law_cell", "_law_way", "_law_great", "_law_by", "_law_top", "_law_bottom"], ["common_divisor", "common_bottom", "scaled", "is_fairer", "_law_cell_at", "_law_divisor"], [(false, true), (false, true), (false, true), (false, true), (false, true), (false, true)], gls, bns⟩
theorem sc6 : FnScope ["_law_cell", "_law_way", "_law_great", "_law_by", "_law_top", "_law_bottom"] ["_law_cell"] (defScope (top 8)) := ⟨rfl, rfl, rfl, by decide +kernel, rfl, by decide +kernel, by decide +kernel⟩
def ct7 : Ct := ⟨["_law_some", "_law_rows", "_law_one", "_law_at"], ["common_divisor", "common_bottom", "scaled", "is_fairer", "_law_cell_at", "_law_divisor", "_law_fraction"], [(false, true), (false, true), (false, true), (false, true), (false, true), (false, true), (false, true)], gls, bns⟩
theorem sc7 : FnScope ["_law_some", "_law_rows", "_law_one", "_law_at"] ["_law_some"] (defScope (top 9)) := ⟨rfl, rfl, rfl, by decide +kernel, rfl, by decide +kernel, by decide +kernel⟩
def ct8 : Ct := ⟨["_law_one", "_law_other", "_law_here", "_law_there"], ["common_divisor", "common_bottom", "scaled", "is_fairer", "_law_cell_at", "_law_divisor", "_law_fraction", "_law_ordered"], [(false, true), (false, true), (false, true), (false, true), (false, true), (false, true), (false, true), (false, true)], gls, bns⟩
theorem sc8 : FnScope ["_law_one", "_law_other", "_law_here", "_law_there"] ["_law_one", "_law_other"] (defScope (top 10)) := ⟨rfl, rfl, rfl, by decide +kernel, rfl, by decide +kernel, by decide +kernel⟩
def ct9 : Ct := ⟨["_law_one", "_law_other", "_law_handed", "_law_found"], ["common_divisor", "common_bottom", "scaled", "is_fairer", "_law_cell_at", "_law_divisor", "_law_fraction", "_law_ordered", "_law_due"], [(false, true), (false, true), (false, true), (false, true), (false, true), (false, true), (false, true), (false, true), (false, true)], gls, bns⟩
theorem sc9 : FnScope ["_law_one", "_law_other", "_law_handed", "_law_found"] ["_law_one", "_law_other"] (defScope (top 11)) := ⟨rfl, rfl, rfl, by decide +kernel, rfl, by decide +kernel, by decide +kernel⟩
def ct10 : Ct := ⟨["_law_script", "_law_first", "_law_many", "_law_one", "_law_other", "_law_at", "_law_k"], ["common_divisor", "common_bottom", "scaled", "is_fairer", "_law_cell_at", "_law_divisor", "_law_fraction", "_law_ordered", "_law_due", "_law_told"], [(false, true), (false, true), (false, true), (false, true), (false, true), (false, true), (false, true), (false, true), (false, true), (false, true)], gls, bns⟩
theorem sc10 : FnScope ["_law_script", "_law_first", "_law_many", "_law_one", "_law_other", "_law_at", "_law_k"] ["_law_script"] (defScope (top 12)) := ⟨rfl, rfl, rfl, by decide +kernel, rfl, by decide +kernel, by decide +kernel⟩
section
variable {P : Program} {w : World} {K : PySem.W.Frag} {mg : PySem.Str → Option Value} {base : Heap}
theorem ok0 {fa : Addr} {fd : FuncData} (F : FunD K "common_divisor" "common_divisor" (defArgs (top 1)) (defBody (top 1)) (defScope (top 1)) [] [] fa fd) (G : Gx P w K mg base ct0 (ph []) 0) : FnOk P w K mg base CX0 1 fa fd ["one", "other"] (spD K (false, true) f0) :=
  fn_ok (own := []) (vw := []) G F sc0 rfl rfl rfl (by decide +kernel) (by decide +kernel) (by decide +kernel)
theorem ok1 {fa : Addr} {fd : FuncData} (F : FunD K "common_bottom" "common_bottom" (defArgs (top 2)) (defBody (top 2)) (defScope (top 2)) [] [] fa fd) (G : Gx P w K mg base ct1 (ph [f0]) 1) : FnOk P w K mg base CX0 2 fa fd ["some"] (spD K (false, true) f1) :=
  fn_ok (own := []) (vw := []) G F sc1 rfl rfl rfl (by decide +kernel) (by decide +kernel) (by decide +kernel)
theorem ok2 {fa : Addr} {fd : FuncData} (F : FunD K "scaled" "scaled" (defArgs (top 3)) (defBody (top 3)) (defScope (top 3)) [] [] fa fd) (G : Gx P w K mg base ct2 (ph [f0, f1]) 2) : FnOk P w K mg base CX0 3 fa fd ["some", "bottom"] (spD K (false, true) f2) :=
  fn_ok (own := []) (vw := []) G F sc2 rfl rfl rfl (by decide +kernel) (by decide +kernel) (by decide +kernel)
theorem ok3 {fa : Addr} {fd : FuncData} (F : FunD K "is_fairer" "is_fairer" (defArgs (top 4)) (defBody (top 4)) (defScope (top 4)) [] [] fa fd) (G : Gx P w K mg base ct3 (ph [f0, f1, f2]) 3) : FnOk P w K mg base CX0 4 fa fd ["one", "other"] (spD K (false, true) f3) :=
  fn_ok (own := []) (vw := []) G F sc3 rfl rfl rfl (by decide +kernel) (by decide +kernel) (by decide +kernel)
theorem ok4 {fa : Addr} {fd : FuncData} (F : FunD K "_law_cell_at" "_law_cell_at" (defArgs (top 6)) (defBody (top 6)) (defScope (top 6)) [] [] fa fd) (G : Gx P w K mg base ct4 (ph [f0, f1, f2, f3]) 4) : FnOk P w K mg base CX0 5 fa fd ["_law_script", "_law_k"] (spD K (false, true) f4) :=
  fn_ok (own := []) (vw := []) G F sc4 rfl rfl rfl (by decide +kernel) (by decide +kernel) (by decide +kernel)
theorem ok5 {fa : Addr} {fd : FuncData} (F : FunD K "_law_divisor" "_law_divisor" (defArgs (top 7)) (defBody (top 7)) (defScope (top 7)) [] [] fa fd) (G : Gx P w K mg base ct5 (ph [f0, f1, f2, f3, f4]) 5) : FnOk P w K mg base CX0 6 fa fd ["_law_one", "_law_other"] (spD K (false, true) f5) :=
  fn_ok (own := []) (vw := []) G F sc5 rfl rfl rfl (by decide +kernel) (by decide +kernel) (by decide +kernel)
theorem ok6 {fa : Addr} {fd : FuncData} (F : FunD K "_law_fraction" "_law_fraction" (defArgs (top 8)) (defBody (top 8)) (defScope (top 8)) [] [] fa fd) (G : Gx P w K mg base ct6 (ph [f0, f1, f2, f3, f4, f5]) 6) : FnOk P w K mg base CX0 7 fa fd ["_law_cell"] (spD K (false, true) f6) :=
  fn_ok (own := []) (vw := []) G F sc6 rfl rfl rfl (by decide +kernel) (by decide +kernel) (by decide +kernel)
theorem ok7 {fa : Addr} {fd : FuncData} (F : FunD K "_law_ordered" "_law_ordered" (defArgs (top 9)) (defBody (top 9)) (defScope (top 9)) [] [] fa fd) (G : Gx P w K mg base ct7 (ph [f0, f1, f2, f3, f4, f5, f6]) 7) : FnOk P w K mg base CX0 8 fa fd ["_law_some"] (spD K (false, true) f7) :=
  fn_ok (own := [1]) (vw := []) G F sc7 rfl rfl rfl (by decide +kernel) (by decide +kernel) (by decide +kernel)
theorem ok8 {fa : Addr} {fd : FuncData} (F : FunD K "_law_due" "_law_due" (defArgs (top 10)) (defBody (top 10)) (defScope (top 10)) [] [] fa fd) (G : Gx P w K mg base ct8 (ph [f0, f1, f2, f3, f4, f5, f6, f7]) 8) : FnOk P w K mg base CX0 9 fa fd ["_law_one", "_law_other"] (spD K (false, true) f8) :=
  fn_ok (own := []) (vw := []) G F sc8 rfl rfl rfl (by decide +kernel) (by decide +kernel) (by decide +kernel)
theorem ok9 {fa : Addr} {fd : FuncData} (F : FunD K "_law_told" "_law_told" (defArgs (top 11)) (defBody (top 11)) (defScope (top 11)) [] [] fa fd) (G : Gx P w K mg base ct9 (ph [f0, f1, f2, f3, f4, f5, f6, f7, f8]) 9) : FnOk P w K mg base CX0 10 fa fd ["_law_one", "_law_other"] (spD K (false, true) f9) :=
  fn_ok (own := []) (vw := []) G F sc9 rfl rfl rfl (by decide +kernel) (by decide +kernel) (by decide +kernel)
theorem ok10 {fa : Addr} {fd : FuncData} (F : FunD K "law" "law" (defArgs (top 12)) (defBody (top 12)) (defScope (top 12)) [] [] fa fd) (G : Gx P w K mg base ct10 (ph [f0, f1, f2, f3, f4, f5, f6, f7, f8, f9]) 10) : FnOk P w K mg base CX0 11 fa fd ["_law_script"] (spD K (false, true) f10) :=
  fn_ok (own := [4]) (vw := []) G F sc10 rfl rfl rfl (by decide +kernel) (by decide +kernel) (by decide +kernel)
end
def d0 : He.DefD := ⟨("common_divisor", none), "common_divisor", "common_divisor", defArgs (top 1), defBody (top 1), defScope (top 1), [], []⟩
def d1 : He.DefD := ⟨("common_bottom", none), "common_bottom", "common_bottom", defArgs (top 2), defBody (top 2), defScope (top 2), [], []⟩
def d2 : He.DefD := ⟨("scaled", none), "scaled", "scaled", defArgs (top 3), defBody (top 3), defScope (top 3), [], []⟩
def d3 : He.DefD := ⟨("is_fairer", none), "is_fairer", "is_fairer", defArgs (top 4), defBody (top 4), defScope (top 4), [], []⟩
def d4 : He.DefD := ⟨("_law_cell_at", none), "_law_cell_at", "_law_cell_at", defArgs (top 6), defBody (top 6), defScope (top 6), [], []⟩
def d5 : He.DefD := ⟨("_law_divisor", none), "_law_divisor", "_law_divisor", defArgs (top 7), defBody (top 7), defScope (top 7), [], []⟩
def d6 : He.DefD := ⟨("_law_fraction", none), "_law_fraction", "_law_fraction", defArgs (top 8), defBody (top 8), defScope (top 8), [], []⟩
def d7 : He.DefD := ⟨("_law_ordered", none), "_law_ordered", "_law_ordered", defArgs (top 9), defBody (top 9), defScope (top 9), [], []⟩
def d8 : He.DefD := ⟨("_law_due", none), "_law_due", "_law_due", defArgs (top 10), defBody (top 10), defScope (top 10), [], []⟩
def d9 : He.DefD := ⟨("_law_told", none), "_law_told", "_law_told", defArgs (top 11), defBody (top 11), defScope (top 11), [], []⟩
def d10 : He.DefD := ⟨("law", none), "law", "law", defArgs (top 12), defBody (top 12), defScope (top 12), [], []⟩
def fn : List He.DefD := [d0, d1, d2, d3, d4, d5, d6, d7, d8, d9, d10]
def fa : List He.Fa := [.glo "common_divisor", .glo "common_bottom", .glo "scaled", .glo "is_fairer", .glo "_law_cell_at", .glo "_law_divisor", .glo "_law_fraction", .glo "_law_ordered", .glo "_law_due", .glo "_law_told", .glo "law", .free "abs", .free "sorted", .free "zip", .free "len", .free "list", .free "isinstance", .free "bool", .free "range"]
def lo : List PySem.Str := ["__name__", "common_divisor", "common_bottom", "scaled", "is_fairer", "_law_cell_at", "_law_divisor", "_law_fraction", "_law_ordered", "_law_due", "_law_told"]
abbrev R : PySem.W.OpenRow := PySem.W.OpenLaw.row PySem.Challenge.rw_chargeyard_k51_which_list_is_fairer
abbrev hk : PySem.W.Hook := He.hookD 4 fa fn
def ob (s : PySem.W.SharedT) : He.AlD := He.obsDG 4 fa fn (HandSHeadRun.getT s)
theorem ob_eq (s : PySem.W.SharedT) : ob s = hk.obs s.abs := He.obsDG_eq (HandSHeadRun.getT_eq s)
theorem run (w : World) : HandSHeadRun.RunEq R (PySem.W.view R.prog [12]) hk ob 3000 lo w := by
  intro os
  kernel_rfl
theorem facts {P : Program} {w : World} {K : PySem.W.Frag} {h : Heap} {mg : PySem.Str → Option Value} {f : Addr} (X : K.In h) (G : h.Ns mainGlobals mg) (hfa : mg ("law" : PySem.Str) = some (.ref f)) (c : He.SaysD fa fn K) :
    ∃ fd : FuncData, (∀ (s : Shared) (v : Value), BindsTo s fd ⟨[v], []⟩ [("_law_script", v)]) ∧ ∀ base : Heap, K.In base → base.Ns mainGlobals mg → FnOk P w K mg base CX0 11 f fd ["_law_script"] (spD K (false, true) f10) := by
  obtain ⟨fd0, F0⟩ := c.def_ 0 (d := d0) rfl
  obtain ⟨fd1, F1⟩ := c.def_ 1 (d := d1) rfl
  obtain ⟨fd2, F2⟩ := c.def_ 2 (d := d2) rfl
  obtain ⟨fd3, F3⟩ := c.def_ 3 (d := d3) rfl
  obtain ⟨fd4, F4⟩ := c.def_ 4 (d := d4) rfl
  obtain ⟨fd5, F5⟩ := c.def_ 5 (d := d5) rfl
  obtain ⟨fd6, F6⟩ := c.def_ 6 (d := d6) rfl
  obtain ⟨fd7, F7⟩ := c.def_ 7 (d := d7) rfl
  obtain ⟨fd8, F8⟩ := c.def_ 8 (d := d8) rfl
  obtain ⟨fd9, F9⟩ := c.def_ 9 (d := d9) rfl
  obtain ⟨fd10, F10⟩ := c.def_ 10 (d := d10) rfl
  have e := hfa.symm.trans (He.glo_ok X G (c.fact 10 (f := .glo "law") rfl))
  cases e
  have b := FunD.bindsA (ps := ["_law_script"]) F10 fun _ _ _ _ _ _ us hl => match us, hl with | [_], _ => rfl
  refine ⟨fd10, fun s v => b s [v] rfl, fun base _ _ => ?_⟩
  have hb : ∀ x ∈ bns, mg x = none := (List.forall_mem_cons.mpr ⟨He.free_ok X G (c.fact 11 (f := .free "abs") rfl), (List.forall_mem_cons.mpr ⟨He.free_ok X G (c.fact 12 (f := .free "sorted") rfl), (List.forall_mem_cons.mpr ⟨He.free_ok X G (c.fact 13 (f := .free "zip") rfl), (List.forall_mem_cons.mpr ⟨He.free_ok X G (c.fact 14 (f := .free "len") rfl), (List.forall_mem_cons.mpr ⟨He.free_ok X G (c.fact 15 (f := .free "list") rfl), (List.forall_mem_cons.mpr ⟨He.free_ok X G (c.fact 16 (f := .free "isinstance") rfl), (List.forall_mem_cons.mpr ⟨He.free_ok X G (c.fact 17 (f := .free "bool") rfl), (List.forall_mem_cons.mpr ⟨He.free_ok X G (c.fact 18 (f := .free "range") rfl), (fun x h => nomatch h)⟩)⟩)⟩)⟩)⟩)⟩)⟩)⟩)
  have hg : ∀ p ∈ gls, ∃ u v, mg p.1 = some u ∧ RelV v u ∧ ScV v p.2 := (fun x h => nomatch h)
  have G0 : Gx P w K mg base ct0 (ph []) 0 := Gx.nil hb hg
  have G1 : Gx P w K mg base ct1 (ph [f0]) 1 := (G0.names.snoc rfl rfl (He.glo_ok X G (c.fact 0 (f := .glo "common_divisor") rfl)) F0.kp (F0.bindsN (ps := ["one", "other"]) fun _ _ _ _ _ _ us hl => match us, hl with | [_, _], _ => rfl) (ok0 F0 G0))
  have G2 : Gx P w K mg base ct2 (ph [f0, f1]) 2 := (G1.names.snoc rfl rfl (He.glo_ok X G (c.fact 1 (f := .glo "common_bottom") rfl)) F1.kp (F1.bindsN (ps := ["some"]) fun _ _ _ _ _ _ us hl => match us, hl with | [_], _ => rfl) (ok1 F1 G1))
  have G3 : Gx P w K mg base ct3 (ph [f0, f1, f2]) 3 := (G2.names.snoc rfl rfl (He.glo_ok X G (c.fact 2 (f := .glo "scaled") rfl)) F2.kp (F2.bindsN (ps := ["some", "bottom"]) fun _ _ _ _ _ _ us hl => match us, hl with | [_, _], _ => rfl) (ok2 F2 G2))
  have G4 : Gx P w K mg base ct4 (ph [f0, f1, f2, f3]) 4 := (G3.names.snoc rfl rfl (He.glo_ok X G (c.fact 3 (f := .glo "is_fairer") rfl)) F3.kp (F3.bindsN (ps := ["one", "other"]) fun _ _ _ _ _ _ us hl => match us, hl with | [_, _], _ => rfl) (ok3 F3 G3))
  have G5 : Gx P w K mg base ct5 (ph [f0, f1, f2, f3, f4]) 5 := (G4.names.snoc rfl rfl (He.glo_ok X G (c.fact 4 (f := .glo "_law_cell_at") rfl)) F4.kp (F4.bindsN (ps := ["_law_script", "_law_k"]) fun _ _ _ _ _ _ us hl => match us, hl with | [_, _], _ => rfl) (ok4 F4 G4))
  have G6 : Gx P w K mg base ct6 (ph [f0, f1, f2, f3, f4, f5]) 6 := (G5.names.snoc rfl rfl (He.glo_ok X G (c.fact 5 (f := .glo "_law_divisor") rfl)) F5.kp (F5.bindsN (ps := ["_law_one", "_law_other"]) fun _ _ _ _ _ _ us hl => match us, hl with | [_, _], _ => rfl) (ok5 F5 G5))
  have G7 : Gx P w K mg base ct7 (ph [f0, f1, f2, f3, f4, f5, f6]) 7 := (G6.names.snoc rfl rfl (He.glo_ok X G (c.fact 6 (f := .glo "_law_fraction") rfl)) F6.kp (F6.bindsN (ps := ["_law_cell"]) fun _ _ _ _ _ _ us hl => match us, hl with | [_], _ => rfl) (ok6 F6 G6))
  have G8 : Gx P w K mg base ct8 (ph [f0, f1, f2, f3, f4, f5, f6, f7]) 8 := (G7.names.snoc rfl rfl (He.glo_ok X G (c.fact 7 (f := .glo "_law_ordered") rfl)) F7.kp (F7.bindsN (ps := ["_law_some"]) fun _ _ _ _ _ _ us hl => match us, hl with | [_], _ => rfl) (ok7 F7 G7))
  have G9 : Gx P w K mg base ct9 (ph [f0, f1, f2, f3, f4, f5, f6, f7, f8]) 9 := (G8.names.snoc rfl rfl (He.glo_ok X G (c.fact 8 (f := .glo "_law_due") rfl)) F8.kp (F8.bindsN (ps := ["_law_one", "_law_other"]) fun _ _ _ _ _ _ us hl => match us, hl with | [_, _], _ => rfl) (ok8 F8 G8))
  have G10 : Gx P w K mg base ct10 (ph [f0, f1, f2, f3, f4, f5, f6, f7, f8, f9]) 10 := (G9.names.snoc rfl rfl (He.glo_ok X G (c.fact 9 (f := .glo "_law_told") rfl)) F9.kp (F9.bindsN (ps := ["_law_one", "_law_other"]) fun _ _ _ _ _ _ us hl => match us, hl with | [_, _], _ => rfl) (ok9 F9 G9))
  exact ok10 F10 G10
end K51
open PySem PySem.W PySem.Calls PyProof.Rows
theorem PySem.Challenge.cw_chargeyard_k51_which_list_is_fairer_holds : PySem.Challenge.rw_chargeyard_k51_which_list_is_fairer.Holds := by
  w_on; o_law
  refine HandSHeadRun.head_any (r := OpenLaw.row PySem.Challenge.rw_chargeyard_k51_which_list_is_fairer) (q := view (OpenLaw.row PySem.Challenge.rw_chargeyard_k51_which_list_is_fairer).prog [12]) (H := K51.hk) (ob := K51.ob) (M := 3000) (loose := K51.lo) (d := HandSHeadRun.topDef (OpenLaw.row PySem.Challenge.rw_chargeyard_k51_which_list_is_fairer).prog 12) (kwd := []) K51.ob_eq
    (by kernel_rfl) (fun s => by kernel_rfl) K51.run (by kernel_rfl) (by kernel_rfl) (by kernel_rfl) (by rfl) (by first | assumption | decide +kernel) (by decide +kernel) ⟨rfl, rfl, rfl, rfl, rfl, by decide +kernel⟩ ?hw ?hc
  case hw => w_witness2
  case hc =>
    refine Cy.walk_ofEB (l := PySem.Challenge.rw_chargeyard_k51_which_list_is_fairer) (n := 63) (k := 11) (x := "_law_script") (F := K51.f10) (fr := true) rfl (by decide) (by kernel_rfl) ⟨rfl, by decide, by decide⟩ ?F (fun ns h1 h2 => K51.law_ok ns h1 h2)
    intro w mg fa h Y G hmg0
    obtain ⟨K, KX, c⟩ := Y
    have hmg : mg ("law" : PySem.Str) = some (.ref fa) := by
      have e : (HandSHeadRun.topDef (OpenLaw.row PySem.Challenge.rw_chargeyard_k51_which_list_is_fairer).prog 12).name = ("law" : PySem.Str) := by kernel_rfl
      rw [← e]
      exact hmg0
    obtain ⟨fd, hb, hF⟩ := K51.facts (P := (PySem.Challenge.rw_chargeyard_k51_which_list_is_fairer).prog) (w := w) KX G hmg c
    exact ⟨K, fd, KX, hb, hF⟩
end
