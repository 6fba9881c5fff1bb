import PyProof.Rows.All
import Wide.All
import OpenK.AllK
import Wide.FinOn
import PySem.Syntax
import PyProof.StrBlock2
import PyProof.StrCalls6
import PyProof.Rows.StrMul
import PyProof.SliceList
import PySem.Builtin.Slice.Common
import PyProof.StrBlockL
import KE.IntText
import HandS.ExcInit
import HandS.HeadHook2
import HandS.ExcIs
import HandS.ExcField
import KE.KExcIs
import KE.KStateDown
import HandS.ForMost
import HandS.EndBits
import HandS.Defaults
import HandS.Head0
import HandS.Head1
import HandS.Head2
import HandS.HeadEnd
import HandS.HeadHook1
import PySem.Challenge.RW_chargeyard_k01_what_is_a_yard
import HandS.Wide
import HandS.WideBits
import HandS.IsInst
import HandS.RevRange
import HandS.Conv
import HandS.SortInts
import HandS.Walk
import HandS.TupMul
import HandS.Style
import HandS.Text
import HandS.TupAny
import HandS.Deep
import KE.KEqNest
import HandS.Flt
import HandS.Exc
import HandS.ExcOwn
import HandS.WordsExc
import HandS.SetFor
import HandS.Strs
import HandS.ReplaceLit
import KE.GoesEnum
import PyProof.Draws
import HandS.Zip0
import HandS.Zip
import HandS.More
import HandS.TryOnly
section
set_option Elab.async false
set_option linter.all false
set_option autoImplicit false
namespace Cy
open PySem

abbrev Ky := Sum Int Str
/-- data by value -/
inductive D where
  | non | bl (b : Bool) | int (i : Int) | str (x : Str)
  | tup (xs : List D) | lst (xs : List D) | scr (ns : List Int)
  | dct (ks : List Ky) (vs : List D) | obj (c : Str) (fs : List Str) (vs : List D)
  | frz (xs : List D) | hol (a : Nat) | any
  | err (c : Str) (xs : List D)
mutual
/-- nothing in it can change -/
def pureD : D → Bool
  | .non | .bl _ | .int _ | .str _ | .scr _ => true
  | .tup xs | .frz xs | .err _ xs => pureDs xs
  | .hol _ | .any => true
  | .lst _ | .dct _ _ | .obj _ _ _ => false
def pureDs : List D → Bool
  | [] => true
  | x :: xs => pureD x && pureDs xs
end
theorem pureDs_all : ∀ xs : List D, pureDs xs = xs.all pureD
  | [] => rfl
  | x :: xs => by simp only [pureDs, List.all_cons, pureDs_all xs]
def b2i (b : Bool) : Int := if b then 1 else 0
mutual
/-- == of data -/
def eqD : D → D → Bool
  | .non, .non => true
  | .bl a, .bl b => a == b
  | .bl a, .int j => b2i a == j
  | .int i, .bl b => i == b2i b
  | .int i, .int j => i == j
  | .str x, .str y => x == y
  | .tup xs, .tup ys => eqDs xs ys
  | .lst xs, .lst ys => eqDs xs ys
  | _, _ => false
def eqDs : List D → List D → Bool
  | [], [] => true
  | x :: xs, y :: ys => eqD x y && eqDs xs ys
  | _, _ => false
end
/-- a text of code points -/
def strOkB (x : Str) : Bool := x.cps.toList.all (fun c => decide (c < 1114112)) && decide (x.cps.size ≤ 100000)
mutual
/-- data that may be compared: depth at most n -/
def shp : Nat → D → Bool
  | _, .non | _, .bl _ | _, .int _ => true
  | _, .str x => strOkB x
  | 0, .tup _ | 0, .lst _ => false
  | n + 1, .tup xs => shps n xs
  | n + 1, .lst xs => shps n xs
  | _, .scr _ | _, .dct _ _ | _, .obj _ _ _ | _, .frz _ | _, .hol _ | _, .any | _, .err _ _ => false
def shps : Nat → List D → Bool
  | _, [] => true
  | n, x :: xs => shp n x && shps n xs
end
theorem shps_all (n : Nat) : ∀ xs : List D, shps n xs = xs.all (shp n)
  | [] => by simp [shps]
  | x :: xs => by simp only [shps, List.all_cons, shps_all n xs]
/-- data that are alike, an empty dict among them: depth at most n -/
def eqL : D → D → Bool
  | .non, .non => true
  | .bl a, .bl b => a == b
  | .int i, .int j => i == j
  | .str x, .str y => x == y
  | _, _ => false
def eqzs (f : D → D → Bool) : List D → List D → Bool
  | [], [] => true
  | x :: xs, y :: ys => f x y && eqzs f xs ys
  | _, _ => false
def eqz : Nat → D → D → Bool
  | 0, x, y => eqL x y
  | n + 1, x, y => match x, y with
    | .tup xs, .tup ys => eqzs (eqz n) xs ys
    | .lst xs, .lst ys => eqzs (eqz n) xs ys
    | .dct ks vs, .dct ks2 vs2 => ks.isEmpty && vs.isEmpty && ks2.isEmpty && vs2.isEmpty
    | x, y => eqL x y
def eqzT : D → D → Bool
  | .tup xs, .tup ys => eqzs (eqz 58) xs ys
  | _, _ => false
/-- sizes, never unfolded -/
def BIG : Nat := 2 ^ 1000000
def DVB : Nat := 2 ^ 8000
/-- lists are kept below this -/
abbrev LMX : Nat := 1000000
inductive BO where | add | cat | rep | sub | mul | fdiv | mod | pow | shl | shr | band | bor | bxor
inductive CO where | lt | le | gt | ge | eq | ne | isN | notN | isT | notT | inn | nin
inductive TyN where | int | bool | list | tuple | dict | str
inductive Bi where | len | abs | sum | min | max | all | any | tuple | list | listp | lrng | sorted | int | str | isi (t : TyN) | dict | set | isx (cs : List Str)
inductive Mt where | bitlen | join | split | count | index | isdigit | replace | partition | upper
def intsOf : List D → Option (List Int)
  | [] => some []
  | .int i :: xs => (intsOf xs).map (i :: ·)
  | _ :: _ => none
def blsOf : List D → Option (List Bool)
  | [] => some []
  | .bl i :: xs => (blsOf xs).map (i :: ·)
  | _ :: _ => none
def strsOf : List D → Option (List Str)
  | [] => some []
  | .str i :: xs => (strsOf xs).map (i :: ·)
  | _ :: _ => none
def ins (x : Int) : List Int → List Int
  | [] => [x]
  | y :: ys => if x ≤ y then x :: y :: ys else y :: ins x ys
def isort : List Int → List Int
  | [] => []
  | x :: xs => ins x (isort xs)
def insU (x : Int) : List Int → List Int
  | [] => [x]
  | y :: ys => if x < y then x :: y :: ys else if x = y then y :: ys else y :: insU x ys
/-- rising, each once -/
def srtU : List Int → List Int
  | [] => []
  | x :: xs => insU x (srtU xs)
def minL : Int → List Int → Int
  | m, [] => m
  | m, x :: xs => minL (if x < m then x else m) xs
def maxL : Int → List Int → Int
  | m, [] => m
  | m, x :: xs => maxL (if m < x then x else m) xs
/-- the place of an index of any sign -/
def ixP (n : Nat) (i : Int) : Option Nat :=
  if 0 ≤ i then (if i < n then some i.toNat else none) else if 0 ≤ i + n then some (i + n).toNat else none
def sIxD (n d : Nat) : Option Int → Nat
  | none => d
  | some i => if i < 0 then (i + n).toNat else min i.toNat n
def cutD {α : Type} (xs : List α) (lo hi : Option Int) : List α := (xs.drop (sIxD xs.length 0 lo)).take (sIxD xs.length xs.length hi - sIxD xs.length 0 lo)
def binD : BO → D → D → Option D
  | .add, .int i, .int j => some (.int (i + j))
  | .cat, .lst xs, .lst ys => if xs.length + ys.length ≤ LMX then some (.lst (xs ++ ys)) else none
  | .cat, .tup xs, .tup ys => if xs.length + ys.length ≤ LMX then some (.tup (xs ++ ys)) else none
  | .add, .str x, .str y => if x.cps.size + y.cps.size ≤ LMX then some (.str ⟨x.cps ++ y.cps⟩) else none
  | .sub, .int i, .int j => some (.int (i - j))
  | .mul, .int i, .int j => if i.natAbs < BIG ∧ j.natAbs < BIG then some (.int (i * j)) else none
  | .rep, .lst xs, .int k => if -100000 < k ∧ k < 100000 ∧ xs.length < 10 ∧ pureDs xs = true then some (.lst (List.replicate k.toNat xs).flatten) else none
  | .rep, .str x, .int k => if 0 ≤ k ∧ k ≤ 10000 ∧ x.length ≤ 16 then some (.str (Txt.mul x k)) else none
  | .rep, .tup xs, .int k => if 0 < k ∧ k < 1000 ∧ 0 < xs.length ∧ xs.length < 10 ∧ pureDs xs = true then some (.tup (List.replicate k.toNat xs).flatten) else none
  | .fdiv, .int i, .int j => if 0 < j ∧ j.natAbs < DVB then some (.int (i / j)) else none
  | .mod, .int i, .int j => if 0 < j then some (.int (i % j)) else none
  | .pow, .int i, .int j => if 0 ≤ j ∧ j ≤ 10000 ∧ i.natAbs < 100000 then some (.int (i ^ j.toNat)) else none
  | .shl, .int i, .int j => if 0 ≤ j ∧ j ≤ 2000000 ∧ i.natAbs < BIG then some (.int (i * 2 ^ j.toNat)) else none
  | .shr, .int i, .int j => if 0 ≤ j then some (.int (i / 2 ^ j.toNat)) else none
  | .band, .int i, .int j => if 0 ≤ i ∧ 0 ≤ j then some (.int ((i.toNat &&& j.toNat : Nat) : Int)) else none
  | .bor, .int i, .int j => if 0 ≤ i ∧ 0 ≤ j then some (.int ((i.toNat ||| j.toNat : Nat) : Int)) else none
  | .bxor, .int i, .int j => if 0 ≤ i ∧ 0 ≤ j then some (.int ((i.toNat ^^^ j.toNat : Nat) : Int)) else none
  | _, _, _ => none
def keqB : Ky → Ky → Bool
  | .inl i, .inl j => i == j
  | .inr x, .inr y => x == y
  | _, _ => false
def memK (k : Ky) (ks : List Ky) : Bool := ks.any fun k' => keqB k' k
def flatD : D → Bool
  | .non | .bl _ | .int _ | .str _ => true
  | _ => false
def keyD : D → Option Ky
  | .int i => some (.inl i)
  | .str x => some (.inr x)
  | _ => none
def isNonD : D → Bool
  | .non => true
  | _ => false
def inD (x : D) (xs : List D) : Bool := xs.any fun y => eqD y x
mutual
/-- frozen lists as lists -/
def thw : D → D
  | .frz xs => .lst (thws xs)
  | .lst xs => .lst (thws xs)
  | .tup xs => .tup (thws xs)
  | d => d
def thws : List D → List D
  | [] => []
  | x :: xs => thw x :: thws xs
end
def cmpD : CO → D → D → Option Bool
  | .lt, .int i, .int j => some (decide (i < j))
  | .le, .int i, .int j => some (decide (i ≤ j))
  | .gt, .int i, .int j => some (decide (j < i))
  | .ge, .int i, .int j => some (decide (j ≤ i))
  | .eq, x, y => if shp 60 x && shp 60 y then some (eqD x y) else if eqzT x y then some true else none
  | .ne, x, y => if shp 60 x && shp 60 y then some (!eqD x y) else none
  | .isN, x, .non => some (isNonD x)
  | .notN, x, .non => some (!isNonD x)
  | .isT, .bl b, .bl c => some (b == c)
  | .notT, .bl b, .bl c => some (!(b == c))
  | .inn, x, .lst xs => if flatD x && xs.all flatD then some (inD x xs) else if shp 60 x && shp 60 (.lst xs) then some (inD x xs) else if shp 60 (thw x) && shps 59 (thws xs) then some (inD (thw x) (thws xs)) else none
  | .nin, x, .lst xs => if flatD x && xs.all flatD then some (!inD x xs) else if shp 60 x && shp 60 (.lst xs) then some (!inD x xs) else if shp 60 (thw x) && shps 59 (thws xs) then some (!inD (thw x) (thws xs)) else none
  | .inn, x, .tup xs => if flatD x && xs.all flatD then some (inD x xs) else none
  | .nin, x, .tup xs => if flatD x && xs.all flatD then some (!inD x xs) else none
  | .inn, x, .dct ks _ => (keyD x).map fun k => memK k ks
  | .nin, x, .dct ks _ => (keyD x).map fun k => !memK k ks
  | .inn, .str x, .str y => if x.cps.size = 1 then some (decide (x.cps.getD 0 0 ∈ y.cps.toList)) else none
  | .nin, .str x, .str y => if x.cps.size = 1 then some (!decide (x.cps.getD 0 0 ∈ y.cps.toList)) else none
  | _, _, _ => none
def lookD : Ky → List Ky → List D → Option D
  | k, k' :: ks, v :: vs => if keqB k' k then some v else lookD k ks vs
  | _, _, _ => none
/-- a subscript -/
def ixD : D → D → Option D
  | .lst xs, .int i => (ixP xs.length i).bind fun j => xs[j]?
  | .tup xs, .int i => (ixP xs.length i).bind fun j => xs[j]?
  | .frz xs, .int i => (ixP xs.length i).bind fun j => xs[j]?
  | .scr ns, .int i => (ixP ns.length i).bind fun j => (ns[j]?).map D.int
  | .str x, .int i => if x.cps.size ≤ LMX then (ixP x.cps.toList.length i).bind fun j => (x.cps.toList[j]?).map fun c => .str ⟨#[c]⟩ else none
  | .dct ks vs, k => (keyD k).bind fun k => lookD k ks vs
  | _, _ => none
def slD (d : D) (lo hi : Option Int) : Option D :=
  match d with
  | .lst xs => some (.lst (cutD xs lo hi))
  | .tup xs => some (.tup (cutD xs lo hi))
  | .str x => if x.cps.size ≤ LMX then some (.str ⟨(cutD x.cps.toList lo hi).toArray⟩) else none
  | _ => none
/-- xs[lo:hi:st] -/
def cut3 {α : Type} (xs : List α) (lo hi : Option Int) (st : Int) : List α :=
  (sliceRange (sliceBounds lo hi (some st) xs.length).1 (sliceBounds lo hi (some st) xs.length).2.1 (sliceBounds lo hi (some st) xs.length).2.2).filterMap fun k => xs[k]?
/-- a slice of a list without lists: a new list -/
def slDp (d : D) (lo hi : Option Int) : Option D :=
  match d with
  | .lst xs => if pureDs xs = true then some (.lst (cutD xs lo hi)) else none
  | _ => none
/-- xs[lo:hi:-1] of a tuple -/
def cutR {α : Type} (xs : List α) (lo hi : Option Int) : List α :=
  (List.range (Builtin.Slice.slicePlaces (Builtin.Slice.sliceAdjust lo hi (-1) (xs.length : Int)).1 (Builtin.Slice.sliceAdjust lo hi (-1) (xs.length : Int)).2 (-1))).filterMap fun (k : Nat) => xs[((Builtin.Slice.sliceAdjust lo hi (-1) (xs.length : Int)).1 + (k : Int) * (-1)).toNat]?
/-- of things without lists alone -/
def slD3 (d : D) (lo hi : Option Int) (st : Int) : Option D :=
  match d with
  | .lst xs => if st ≠ 0 ∧ pureDs xs = true then some (.lst (cut3 xs lo hi st)) else none
  | .tup xs => if st = -1 ∧ pureDs xs = true then some (.tup (cutR xs lo hi)) else none
  | _ => none
/-- the field of a class of error -/
def xfld (c : Str) : Str := if c = "NoRoom" then "some" else if c = "NoNumber" then "number" else "row"
/-- is the class of error c' (beneath) c? -/
def subX (c' c : Str) : Bool := decide (c' = c) || decide (c = "YardError")
/-- is it of one of these classes? -/
def isxD (cs : List Str) : D → Option Bool
  | .err c _ => some (cs.any fun c0 => subX c c0 || decide (c0 = "ValueError"))
  | .non => some false
  | _ => none
def isiD : TyN → D → Option Bool
  | .int, d => (match d with | .int _ => some true | .bl _ => some true | .obj _ _ _ => none | .hol _ => none | .any => none | .err _ _ => none | _ => some false)
  | .bool, d => (match d with | .bl _ => some true | .obj _ _ _ => none | .hol _ => none | .any => none | .err _ _ => none | _ => some false)
  | .list, d => (match d with | .lst _ => some true | .frz _ => some true | .scr _ => some true | .obj _ _ _ => none | .hol _ => none | .any => none | .err _ _ => none | _ => some false)
  | .tuple, d => (match d with | .tup _ => some true | .obj _ _ _ => none | .hol _ => none | .any => none | .err _ _ => none | _ => some false)
  | .dict, d => (match d with | .dct _ _ => some true | .obj _ _ _ => none | .hol _ => none | .any => none | .err _ _ => none | _ => some false)
  | .str, d => (match d with | .str _ => some true | .obj _ _ _ => none | .hol _ => none | .any => none | .err _ _ => none | _ => some false)
/-- an attribute -/
def getF (x : Str) : List Str → List D → Option D
  | f :: fs, v :: vs => if f = x then some v else getF x fs vs
  | _, _ => none
def setFv (x : Str) (d : D) : List Str → List D → List D
  | f :: fs, v :: vs => if f = x then d :: vs else v :: setFv x d fs vs
  | _, vs => vs
def fldD : D → Str → Option D
  | .obj _ fs vs, x => getF x fs vs
  | .err c [v], x => if x = xfld c then some v else none
  | _, _ => none
/-- of an attribute that is there: another value -/
def setF : D → Str → D → Option D
  | .obj c fs vs, x, d => some (.obj c fs (setFv x d fs vs))
  | _, _, _ => none
def putN (f : Str) : List Str → List Str
  | [] => [f]
  | g :: r => if g = f then g :: r else g :: putN f r
def putV (f : Str) (d : D) : List Str → List D → List D
  | [], _ => [d]
  | g :: r, v :: vs => if g = f then d :: vs else v :: putV f d r vs
  | _ :: _, [] => []
/-- an attribute is set -/
def putFD (d : D) (f : Str) (x : D) : Option D := match d with
  | .obj c fs vs => if fs.length < 1000 then some (.obj c (putN f fs) (putV f x fs vs)) else none
  | _ => none
def putKs (k : Ky) (ks : List Ky) : List Ky := if ks.any (fun k' => keqB k' k) then ks else ks ++ [k]
def putKv (k : Ky) (d : D) (ks : List Ky) (vs : List D) : List D := if ks.any (fun k' => keqB k' k) then (ks.zip vs).map fun p => if keqB p.1 k then d else p.2 else vs ++ [d]
/-- a key's value is set: one without lists -/
def putDD (d k x : D) : Option D := match d with
  | .dct ks vs => (keyD k).bind fun k => if ks.length < LMX ∧ pureD x = true then some (.dct (putKs k ks) (putKv k x ks vs)) else none
  | _ => none
/-- an instance of a class, without such an attribute -/
def isObj (c m : Str) (d : D) : Bool := match d with
  | .obj c' fs vs => decide (c' = c) && (getF m fs vs).isNone
  | _ => false
def objB : D → Bool
  | .obj _ _ _ => true
  | _ => false
def dctB : D → Bool
  | .dct _ _ => true
  | _ => false
def rangeL (a b : Int) : List Int := (List.range (b - a).toNat).map fun (i : Nat) => a + (i : Int)
/-- range(a, b, c): c below 0 -/
def rangeN (a b : Int) : List Int := (List.range (a - b).toNat).map fun (i : Nat) => a - (i : Int)
def rngD : List D → Option (List Int)
  | [.int b] => if b.natAbs < 4000000 then some (rangeL 0 b) else none
  | [.int a, .int b] => if a.natAbs < 4000000 ∧ b.natAbs < 4000000 then some (rangeL a b) else none
  | [.int a, .int b, .int c] => if a.natAbs < 4000000 ∧ b.natAbs < 4000000 ∧ c = -1 then some (rangeN a b) else none
  | _ => none
def biD : Bi → List D → Option D
  | .len, [.lst xs] => some (.int xs.length)
  | .len, [.tup xs] => some (.int xs.length)
  | .len, [.frz xs] => some (.int xs.length)
  | .len, [.scr xs] => some (.int xs.length)
  | .len, [.str x] => if x.cps.size ≤ LMX then some (.int x.cps.size) else none
  | .abs, [.int i] => some (.int i.natAbs)
  | .sum, [.lst xs] => (intsOf xs).map fun ns => .int ns.sum
  | .min, [.int i, .int j] => some (.int (if j < i then j else i))
  | .min, [.int i, .int j, .int k] => some (.int (if k < (if j < i then j else i) then k else (if j < i then j else i)))
  | .max, [.int i, .int j] => some (.int (if j > i then j else i))
  | .min, [.lst xs] => (intsOf xs).bind fun ns => (match ns with | [] => none | m :: ms => some (.int (minL m ms)))
  | .max, [.lst xs] => (intsOf xs).bind fun ns => (match ns with | [] => none | m :: ms => some (.int (maxL m ms)))
  | .all, [.lst xs] => (blsOf xs).map fun bs => .bl (bs.all id)
  | .any, [.lst xs] => (blsOf xs).map fun bs => .bl (bs.any id)
  | .tuple, [.lst xs] => some (.tup xs)
  | .tuple, [.tup xs] => some (.tup xs)
  | .list, [.lst xs] => some (.lst xs)
  | .list, [.tup xs] => some (.lst xs)
  | .listp, [.lst xs] => if pureDs xs = true then some (.lst xs) else none
  | .listp, [.tup xs] => if pureDs xs = true then some (.lst xs) else none
  | .lrng, ds => (rngD ds).bind fun ns => if ns.length ≤ LMX then some (.lst (ns.map D.int)) else none
  | .sorted, [.lst xs] => (intsOf xs).map fun ns => .lst ((isort ns).map D.int)
  | .set, [.lst xs] => (intsOf xs).bind fun ns => if ns.length < 60 then some (.lst ((srtU ns).map D.int)) else none
  | .int, [.int i] => some (.int i)
  | .int, [.bl b] => some (.int (if b then 1 else 0))
  | .int, [.str x] => if x.length ≤ 640 then (intText? x).map D.int else none
  | .str, [.int i] => if i.natAbs.log2 < 1920 then some (.str (Str.ofString (toString i))) else none
  | .str, [.str x] => some (.str x)
  | .str, [.non] => some (.str (Str.ofString "None"))
  | .isi t, [d] => (isiD t d).map D.bl
  | .isx cs, [d] => (isxD cs d).map D.bl
  | _, _ => none
/-- bits of a number -/
def bitsI (i : Int) : Nat := if i = 0 then 0 else i.natAbs.log2 + 1
def mtD : Mt → D → List D → Option D
  | .bitlen, .int i, [] => some (.int (bitsI i))
  | .join, .str a, [.lst xs] => (strsOf xs).bind fun ys => if (ys.map (·.length)).sum + ys.length * a.length ≤ LMX then some (.str (Str.join a ys)) else none
  | .split, .str a, [.str b] => if 0 < b.length ∧ a.length + 2 ≤ LMX then some (.lst ((Txt.split a b).map D.str)) else none
  | .count, .lst xs, [.bl b] => (blsOf xs).map fun bs => .int (bs.count b : Nat)
  | .replace, .str c, [.lst xs, .str r, .str y, .str z, .lst ys] => if r.length + (r.length + 1) * z.length ≤ LMX ∧ xs.length + 1 + ys.length ≤ LMX then (strsOf (xs ++ [D.str (Txt.replace r y z)] ++ ys)).bind fun ws => if (ws.map (·.length)).sum + ws.length * c.length ≤ LMX then some (.str (Str.join c ws)) else none else none
  | .index, .lst xs, [d] => if shp 60 (.lst xs) = true ∧ shp 60 d = true then ((xs.findIdx? fun y => eqD y d).map fun (j : Nat) => D.int (j : Int)) else none
  | _, _, _ => none
inductive Tg where
  | n (i : Nat) | t (ts : List Tg)
mutual
inductive DE where
  | v (i : Nat)
  | mv (i : Nat)
  | tk (i : Nat) (a : DE)
  | pur (e : DE)
  | c (d : D)
  | g (x : Str) (d : D)
  | bin (o : BO) (a b : DE)
  | neg (a : DE)
  | cmp (o : CO) (a b : DE)
  | chn (o o' : CO) (a b c : DE)
  | chn3 (o o' o2 : CO) (a b c d : DE)
  | and (es : DEs)
  | or (es : DEs)
  | not (a : DE)
  | tup (es : DEs)
  | lst (es : DEs)
  | dct0
  | dct2 (k1 : Str) (v1 : Int) (k2 : Str) (v2 : Int)
  | dct1 (a b : DE)
  | ix (a i : DE)
  | sl (a : DE) (lo hi : DO)
  | slp (a : DE) (lo hi : DO)
  | sl3 (a : DE) (lo hi : DO) (st : DE)
  | fld (a : DE) (f : Str)
  | call (f : Nat) (es : DEs)
  | cio (f j i : Nat) (es : DEs) (kl : List Nat)
  | meth (f : Nat) (c m : Str) (a : DE) (es : DEs)
  | mio (f : Nat) (c m : Str) (i : Nat) (p : List Str) (es : DEs) (kl : List Nat)
  | new (f : Nat) (c : Str) (es : DEs)
  | bi (b : Bi) (es : DEs)
  | mt (m : Mt) (a : DE) (es : DEs)
  | comp (elt : DE) (tg : Tg) (it : DI) (ifs : DEs) (own : List Nat)
  | comI (elt : DE) (tg : Tg) (es : DEs) (os : List Nat)
inductive DEs where
  | nil | cons (e : DE) (es : DEs)
inductive DO where
  | no | so (e : DE)
inductive DI where
  | val (e : DE) | rng (es : DEs) | enu (e : DE) | zip (es : DEs) | rev (e : DE) | rrg (es : DEs)
end
inductive UO where
  | app (e : DE) | ext (e : DE) | set (i e : DE) | aug (o : BO) (i e : DE) | clr | rvs | ins (e1 e2 : DE)
  | fset (f : Str) (e : DE) | faug (o : BO) (f : Str) (e : DE) | dset (i e : DE) | apph (e : DE)
inductive Ac where
  | f (x : Str) | i (e : DE)
/-- how a call's answer is taken -/
inductive CM where
  | asg (i : Nat) | ixk (i : Nat) (k : Int) | ex | tgt (tg : Tg)
/-- an except clause's suite -/
inductive Hd where
  | non (i : Nat) | fld (i j : Nat) (f : Str) | kp (i j : Nat)
mutual
inductive DS where
  | asg (tg : Tg) (e : DE)
  | par (i j : Nat) (a b : DE)
  | upd (i : Nat) (p : List Ac) (o : UO) (kl : List Nat)
  | aug (i : Nat) (o : BO) (e : DE)
  | ex (e : DE)
  | ifs (c : DE) (a b : DSs)
  | for (tg : Tg) (it : DI) (b : DSs)
  | whl (c : DE) (b : DSs)
  | ret (e : DE)
  | retN
  | brk | cnt | pas
  | rai (c : Str) (k : Bool) (es : DEs)
  | upx (i : Nat) (ks : List DE) (c : D) (kl : List Nat)
  | fap (i : Nat) (k : Int) (j : Nat) (c : D) (kl : List Nat)
  | fst (x i j l : Nat) (b : DE) (kl : List Nat)
  | calx (m : CM) (f : Nat) (es : DEs)
  | tryc (b : DSs) (c : Str) (h : Hd)
inductive DSs where
  | nil | cons (s : DS) (ss : DSs)
  | blk (i : Nat) (ss : DSs)
  | alb (i j : Nat) (a b : DS) (ss : DSs)
end
abbrev En := List (Option D)
inductive Rs (α : Type) where
  | ok (a : α) (e : En)
  | exn (c : Str) (x : Option D) (e : En)
inductive Fr where
  | ret (d : D) (io : List D)
  | exn (c : Str) (x : Option D) (io : List D)
abbrev Fn := List D → Option Fr
inductive Ou where
  | nx | rt (d : D) | bk | ct | xn (c : Str) (x : Option D)
def bd {α β : Type} (r : Option (Rs α)) (f : α → En → Option (Rs β)) : Option (Rs β) :=
  match r with
  | some (.ok a e) => f a e
  | _ => none
def lf {α : Type} (o : Option α) (e : En) : Option (Rs α) := o.map fun a => .ok a e
theorem bd_ok {α β : Type} (a : α) (e : En) (f : α → En → Option (Rs β)) : bd (some (.ok a e)) f = f a e := rfl
mutual
def ioE : DE → Bool
  | .v _ | .mv _ | .c _ | .g _ _ => false
  | .tk _ e => ioE e
  | .pur e | .neg e | .not e | .fld e _ => ioE e
  | .bin _ a b | .cmp _ a b | .ix a b => ioE a || ioE b
  | .chn _ _ a b c => ioE a || ioE b || ioE c
  | .chn3 _ _ _ a b c d => ioE a || (ioE b || (ioE c || ioE d))
  | .and es | .or es | .tup es | .lst es | .bi _ es => ioL es
  | .dct0 => false
  | .dct2 _ _ _ _ => false
  | .dct1 a b => ioE a || ioE b
  | .sl a lo hi => ioE a || ioP lo || ioP hi
  | .slp a lo hi => ioE a || ioP lo || ioP hi
  | .sl3 a lo hi st => ioE a || (ioP lo || (ioP hi || ioE st))
  | .call _ es => ioL es
  | .cio _ _ _ _ _ => true
  | .mio _ _ _ _ _ _ _ => true
  | .meth _ _ _ a es => ioE a || ioL es
  | .new _ _ es => ioL es
  | .mt _ a es => ioE a || ioL es
  | .comp e _ it ifs _ => ioE e || ioI it || ioL ifs
  | .comI _ _ _ _ => true
def ioL : DEs → Bool
  | .nil => false
  | .cons e es => ioE e || ioL es
def ioP : DO → Bool
  | .no => false
  | .so e => ioE e
def ioI : DI → Bool
  | .val e | .enu e | .rev e => ioE e
  | .rng es | .zip es | .rrg es => ioL es
end
/-- views that may no longer hold -/
def kil : List Nat → En → En
  | [], e => e
  | k :: ks, e => match e[k]? with
    | some (some d) => if pureD d then kil ks e else kil ks (e.set k none)
    | _ => kil ks e
mutual
def bindT : Tg → D → En → Option En
  | .n i, d, e => some (e.set i (some d))
  | .t ts, .tup xs, e => bindTs ts xs e
  | .t _, _, _ => none
def bindTs : List Tg → List D → En → Option En
  | [], [], e => some e
  | t :: ts, x :: xs, e => (bindT t x e).bind fun e1 => bindTs ts xs e1
  | _, _, _ => none
end
def wipeE : List Nat → En → En
  | [], e => e
  | v :: vs, e => (wipeE vs e).set v none
/-- the items of what is walked -/
def itemsD : D → Option (List D)
  | .lst xs => some xs
  | .tup xs => some xs
  | .frz xs => some xs
  | .str x => some (x.cps.toList.map fun c => .str ⟨#[c]⟩)
  | _ => none
def enumL : Nat → List D → List D
  | _, [] => []
  | n, x :: xs => .tup [.int n, x] :: enumL (n + 1) xs
def zipL : List D → List D → List D
  | x :: xs, y :: ys => .tup [x, y] :: zipL xs ys
  | _, _ => []
/-- a comprehension's turns -/
def compL (bt : D → Option En) (tst : En → Option (Rs Bool)) (elt : En → Option (Rs D)) : List D → Option (List D)
  | [] => some []
  | x :: xs => match bt x with
    | none => none
    | some e => match tst e with
      | some (.ok true e1) => (match elt e1 with
        | some (.ok d _) => (compL bt tst elt xs).bind fun ds => if ds.length < LMX then some (d :: ds) else none
        | _ => none)
      | some (.ok false _) => compL bt tst elt xs
      | _ => none
inductive AcV where
  | f (x : Str) | i (k : D)
/-- put a value at an index -/
def setD : D → D → D → Option D
  | .lst xs, .int i, v => (ixP xs.length i).map fun j => .lst (xs.set j v)
  | _, _, _ => none
/-- an item taken out -/
def setA : D → D → Option D
  | .lst xs, .int i => (ixP xs.length i).map fun j => .lst (xs.set j .any)
  | .tup xs, .int i => (ixP xs.length i).map fun j => .tup (xs.set j .any)
  | _, _ => none
/-- an item put, in a list or a tuple (whose item stays the same thing) -/
def setP : D → Int → D → Option D
  | .lst xs, i, v => (ixP xs.length i).map fun j => .lst (xs.set j v)
  | .tup xs, i, v => (ixP xs.length i).map fun j => .tup (xs.set j v)
  | _, _, _ => none
def getT : List Int → D → Option D
  | [], d => some d
  | k :: ks, .lst xs => (ixD (.lst xs) (.int k)).bind (getT ks)
  | k :: ks, .tup xs => (ixD (.tup xs) (.int k)).bind (getT ks)
  | _ :: _, _ => none
def updT : List Int → (D → Option D) → D → Option D
  | [], f, d => f d
  | k :: ks, f, d => (ixD d (.int k)).bind fun c => (updT ks f c).bind fun c' => setP d k c'
def apAll (c : D) : List D → Option (List D)
  | [] => some []
  | .lst xs :: ds => if xs.length < LMX then (apAll c ds).map (.lst (xs ++ [c]) :: ·) else none
  | _ :: _ => none
def stAll : List D → List D → List D → Option (List D)
  | xs, .int k :: ks, r :: rs => (ixP xs.length k).bind fun j => stAll (xs.set j r) ks rs
  | _, _ :: _, _ :: _ => none
  | xs, _, _ => some xs
def updD : List AcV → (D → Option D) → D → Option D
  | [], f, d => f d
  | .i k :: p, f, d => (ixD d k).bind fun c => (updD p f c).bind fun c' => setD d k c'
  | .f x :: p, f, d => (fldD d x).bind fun c => (updD p f c).bind fun c' => setF d x c'
def getP : List AcV → D → Option D
  | [], d => some d
  | .i k :: p, .lst xs => (ixD (.lst xs) k).bind fun c => getP p c
  | .f x :: p, .obj c fs vs => (fldD (.obj c fs vs) x).bind fun c => getP p c
  | _, _ => none
def chkB (b : D → Bool) (i : Nat) (q : List AcV) (e : En) : Bool := match e[i]? with
  | some (some d) => (match getP q d with | some t => b t | none => false)
  | _ => false
def pathF (p : List Str) : List AcV := p.map AcV.f
/-- the first n, one in the middle, the rest -/
def insAt {α : Type} (j : Nat) (d : α) (ds : List α) : List α := ds.take j ++ d :: ds.drop j
/-- a comprehension's turns that change what names hold -/
def comIL (bt : D → En → Option En) (elt : En → Option (Rs D)) (os : List Nat) : List D → En → Option (Rs (List D))
  | [], e => some (.ok [] e)
  | x :: xs, e => match bt x e with
    | none => none
    | some e2 => match elt e2 with
      | some (.ok d e3) => if pureD d = true then (match comIL bt elt os xs (wipeE os e3) with
        | some (.ok ds e4) => if ds.length < LMX then some (.ok (d :: ds) e4) else none
        | _ => none) else none
      | _ => none
section
variable (Φ : Nat → Fn)
mutual
def ev : DE → En → Option (Rs D)
  | .v i, e => (match e[i]? with | some (some d) => some (.ok d e) | _ => none)
  | .mv i, e => (match e[i]? with | some (some d) => some (.ok d (e.set i none)) | _ => none)
  | .tk i a, e => (match e[i]? with
    | some (some _) => bd (ev a e) fun k e1 => (match e1[i]? with
      | some (some d0) => (match ixD d0 k, setA d0 k with
        | some d, some d1 => if isNonD d then some (.ok d e1) else some (.ok d (e1.set i (some d1)))
        | _, _ => none)
      | _ => none)
    | _ => none)
  | .pur a, e => bd (ev a e) fun d e1 => if pureD d then some (.ok d e1) else none
  | .c d, e => some (.ok d e)
  | .g _ d, e => some (.ok d e)
  | .bin o a b, e => bd (ev a e) fun x e1 => if ioE b && !pureD x then none else bd (ev b e1) fun y e2 => lf (binD o x y) e2
  | .neg a, e => bd (ev a e) fun x e1 => (match x with | .int i => some (.ok (.int (-i)) e1) | _ => none)
  | .cmp o a b, e => bd (ev a e) fun x e1 => if ioE b && !pureD x then none else bd (ev b e1) fun y e2 => lf ((cmpD o x y).map D.bl) e2
  | .chn o o' a b c, e => bd (ev a e) fun x e1 => if (ioE b || ioE c) && !pureD x then none else bd (ev b e1) fun y e2 =>
      (match cmpD o x y with
      | some true => if ioE c && !pureD y then none else bd (ev c e2) fun z e3 => lf ((cmpD o' y z).map D.bl) e3
      | some false => some (.ok (.bl false) e2)
      | none => none)
  | .chn3 o o' o2 a b c d, e => if ioE b || (ioE c || ioE d) then none else bd (ev a e) fun x e1 => bd (ev b e1) fun y e2 =>
      (match cmpD o x y with
      | some true => bd (ev c e2) fun z e3 => (match cmpD o' y z with
        | some true => bd (ev d e3) fun w e4 => lf ((cmpD o2 z w).map D.bl) e4
        | some false => some (.ok (.bl false) e3)
        | none => none)
      | some false => some (.ok (.bl false) e2)
      | none => none)
  | .and es, e => evAnd es e
  | .or es, e => evOr es e
  | .not a, e => bd (ev a e) fun x e1 => (match x with | .bl b => some (.ok (.bl (!b)) e1) | _ => none)
  | .tup es, e => bd (evL es e) fun ds e1 => if ds.length ≤ LMX then some (.ok (.tup ds) e1) else none
  | .lst es, e => bd (evL es e) fun ds e1 => if ds.length ≤ LMX then some (.ok (.lst ds) e1) else none
  | .dct0, e => some (.ok (.dct [] []) e)
  | .dct2 k1 v1 k2 v2, e => if k1 = k2 then none else some (.ok (.dct [.inr k1, .inr k2] [.int v1, .int v2]) e)
  | .dct1 a b, e => bd (ev a e) fun x e1 => if ioE b && !pureD x then none else bd (ev b e1) fun y e2 => lf ((keyD x).map fun k => .dct [k] [y]) e2
  | .ix a i, e => bd (ev a e) fun x e1 => if ioE i && !pureD x then none else bd (ev i e1) fun y e2 => lf (ixD x y) e2
  | .sl a lo hi, e => bd (ev a e) fun x e1 => if (ioP lo || ioP hi) && !pureD x then none else bd (evP lo e1) fun l e2 => bd (evP hi e2) fun h e3 => lf (slD x l h) e3
  | .slp a lo hi, e => bd (ev a e) fun x e1 => if (ioP lo || ioP hi) && !pureD x then none else bd (evP lo e1) fun l e2 => bd (evP hi e2) fun h e3 => lf (slDp x l h) e3
  | .sl3 a lo hi st, e => bd (ev a e) fun x e1 => if (ioP lo || (ioP hi || ioE st)) && !pureD x then none else bd (evP lo e1) fun l e2 => bd (evP hi e2) fun h e3 => bd (ev st e3) fun s e4 => (match s with | .int i => lf (slD3 x l h i) e4 | _ => none)
  | .fld a f, e => bd (ev a e) fun d e1 => lf (fldD d f) e1
  | .call f es, e => bd (evL es e) fun ds e1 => (match Φ f ds with
      | some (.ret d []) => some (.ok d e1)
      | _ => none)
  | .cio f j i es kl, e => (match e[i]? with
    | some (some _) => bd (evL es e) fun ds e1 => (match e1[i]? with
      | some (some d0) => (match Φ f (insAt j d0 ds) with
        | some (.ret d [d1]) => some (.ok d (kil kl (e1.set i (some d1))))
        | _ => none)
      | _ => none)
    | _ => none)
  | .meth f c m a es, e => bd (ev a e) fun d0 e1 => if (ioL es && !pureD d0) || !isObj c m d0 then none else bd (evL es e1) fun ds e2 => (match Φ f (d0 :: ds) with
      | some (.ret d []) => some (.ok d e2)
      | _ => none)
  | .mio f c m i p es kl, e => (match e[i]? with
    | some (some d00) => if chkB (isObj c m) i (pathF p) e then bd (evL es e) fun ds e1 => (match e1[i]? with
      | some (some d0) => (match getP (pathF p) d0 with
        | some dt => (match Φ f (dt :: ds) with
          | some (.ret d [d1]) => (updD (pathF p) (fun _ => some d1) d0).map fun d' => .ok d (kil kl (e1.set i (some d')))
          | _ => none)
        | _ => none)
      | _ => none) else none
    | _ => none)
  | .new f c es, e => bd (evL es e) fun ds e1 => (match Φ f (.obj c [] [] :: ds) with
      | some (.ret .non [d1]) => some (.ok d1 e1)
      | _ => none)
  | .bi b es, e => bd (evL es e) fun ds e1 => lf (biD b ds) e1
  | .mt m a es, e => bd (ev a e) fun x e1 => if ioL es && !pureD x then none else bd (evL es e1) fun ds e2 => lf (mtD m x ds) e2
  | .comp elt tg it ifs own, e => bd (evI it e) fun xs e1 =>
      lf ((compL (fun x => bindT tg x (wipeE own e1)) (fun e2 => evTs ifs e2) (fun e2 => ev elt e2) xs).map D.lst) e1
  | .comI elt tg es os, e => bd (evL es e) fun ds e1 => (match rngD ds with
      | some ns => bd (comIL (fun x e2 => bindT tg x e2) (fun e2 => ev elt e2) os (ns.map D.int) (wipeE os e1)) fun ds e2 => some (.ok (.lst ds) e2)
      | none => none)
def evL : DEs → En → Option (Rs (List D))
  | .nil, e => some (.ok [] e)
  | .cons a es, e => bd (ev a e) fun d e1 => if ioL es && !pureD d then none else bd (evL es e1) fun ds e2 => some (.ok (d :: ds) e2)
def evAnd : DEs → En → Option (Rs D)
  | .nil, _ => none
  | .cons a .nil, e => bd (ev a e) fun x e1 => (match x with | .bl b => some (.ok (.bl b) e1) | _ => none)
  | .cons a es, e => bd (ev a e) fun x e1 => (match x with | .bl true => evAnd es e1 | .bl false => some (.ok (.bl false) e1) | _ => none)
def evOr : DEs → En → Option (Rs D)
  | .nil, _ => none
  | .cons a .nil, e => bd (ev a e) fun x e1 => (match x with | .bl b => some (.ok (.bl b) e1) | _ => none)
  | .cons a es, e => bd (ev a e) fun x e1 => (match x with | .bl false => evOr es e1 | .bl true => some (.ok (.bl true) e1) | _ => none)
def evTs : DEs → En → Option (Rs Bool)
  | .nil, e => some (.ok true e)
  | .cons a es, e => bd (ev a e) fun x e1 => (match x with | .bl true => evTs es e1 | .bl false => some (.ok false e1) | _ => none)
def evP : DO → En → Option (Rs (Option Int))
  | .no, e => some (.ok none e)
  | .so a, e => bd (ev a e) fun x e1 => (match x with | .int i => some (.ok (some i) e1) | _ => none)
def evI : DI → En → Option (Rs (List D))
  | .val a, e => bd (ev a e) fun x e1 => lf (itemsD x) e1
  | .rng es, e => bd (evL es e) fun ds e1 => lf ((rngD ds).map fun ns => ns.map D.int) e1
  | .rrg es, e => bd (evL es e) fun ds e1 => (match ds with
      | [.int _] | [.int _, .int _] => lf ((rngD ds).map fun ns => (ns.map D.int).reverse) e1
      | _ => none)
  | .enu a, e => bd (ev a e) fun x e1 => (match x with
      | .lst xs => some (.ok (enumL 0 xs) e1)
      | .tup xs => some (.ok (enumL 0 xs) e1)
      | _ => none)
  | .zip es, e => bd (evL es e) fun ds e1 => (match ds with
      | [.lst xs, .lst ys] => some (.ok (zipL xs ys) e1)
      | [.frz xs, .lst ys] => some (.ok (zipL xs ys) e1)
      | [.tup xs, .tup ys] => some (.ok (zipL xs ys) e1)
      | _ => none)
  | .rev a, e => bd (ev a e) fun x e1 => (match x with
      | .lst xs => some (.ok xs.reverse e1)
      | _ => none)
end

def evAc : List Ac → En → Option (Rs (List AcV))
  | [], e => some (.ok [] e)
  | .f x :: p, e => bd (evAc p e) fun q e1 => some (.ok (.f x :: q) e1)
  | .i a :: p, e => bd (ev Φ a e) fun d e1 => bd (evAc p e1) fun q e2 => some (.ok (.i d :: q) e2)
end
/-- a list stands there -/
def chkP (i : Nat) (q : List AcV) (e : En) : Bool := match e[i]? with
  | some (some d) => (match getP q d with | some (.lst _) => true | _ => false)
  | _ => false
/-- a number stands there -/
def chkI (i : Nat) (q : List AcV) (k : D) (e : En) : Bool := match e[i]? with
  | some (some d) => (match getP q d with
    | some (.lst xs) => (match ixD (.lst xs) k with | some (.int _) => true | _ => false)
    | _ => false)
  | _ => false
/-- a for's turns -/
def forL (bt : D → En → Option En) (body : En → Option (Rs Ou)) : List D → En → Option (Rs Ou)
  | [], e => some (.ok .nx e)
  | x :: xs, e => match bt x e with
    | none => none
    | some e1 => match body e1 with
      | some (.ok .nx e2) => forL bt body xs e2
      | some (.ok .ct e2) => forL bt body xs e2
      | some (.ok .bk e2) => some (.ok .nx e2)
      | r => r
/-- a while's turns, n at most -/
def whN (c : En → Option (Rs D)) (body : En → Option (Rs Ou)) : Nat → En → Option (Rs Ou)
  | 0, _ => none
  | n + 1, e => match c e with
    | some (.ok (.bl true) e1) => (match body e1 with
      | some (.ok .nx e2) => whN c body n e2
      | some (.ok .ct e2) => whN c body n e2
      | some (.ok .bk e2) => some (.ok .nx e2)
      | r => r)
    | some (.ok (.bl false) e1) => some (.ok .nx e1)
    | _ => none
open Classical in
noncomputable def wh (c : En → Option (Rs D)) (body : En → Option (Rs Ou)) (e : En) : Option (Rs Ou) :=
  if h : ∃ n, whN c body n e ≠ none then whN c body (Classical.choose h) e else none
section
variable (Φ : Nat → Fn)
def updE (i : Nat) (p : List AcV) (f : D → Option D) (kl : List Nat) (e : En) : Option (Rs Ou) :=
  match e[i]? with
  | some (some d) => (updD p f d).map fun d' => .ok .nx (kil kl (e.set i (some d')))
  | _ => none
/-- the attributes at a path's beginning -/
def lead : List Ac → List AcV
  | .f x :: p => .f x :: lead p
  | _ => []
/-- they are there -/
def preOk (p : List Ac) (d : D) : Bool := (getP (lead p) d).isSome
/-- the list that is changed: its path -/
def rcv (i : Nat) (p : List Ac) (e : En) : Option (Rs (List AcV)) :=
  match e[i]? with
  | some (some d0) => if preOk p d0 = true then bd (evAc Φ p e) fun q e1 => if chkP i q e1 then some (.ok q e1) else none else none
  | _ => none
def rcvB (b : D → Bool) (i : Nat) (p : List Ac) (e : En) : Option (Rs (List AcV)) :=
  match e[i]? with
  | some (some d0) => if preOk p d0 = true then bd (evAc Φ p e) fun q e1 => if chkB b i q e1 then some (.ok q e1) else none else none
  | _ => none
def allF : List Ac → Bool
  | [] => true
  | .f _ :: p => allF p
  | .i _ :: _ => false
/-- what m does where the list at the path stands apart -/
def HoleOk (m : En → Option (Rs D)) (i : Nat) (q : List AcV) (d0 : D) (e : En) (r : D × En) : Prop :=
  ∀ a : Nat, ∃ dh d1 dr, updD q (fun _ => some (.hol a)) d0 = some dh ∧ r.2[i]? = some (some d1) ∧ updD q (fun _ => some (.hol a)) d1 = some dr ∧ m (e.set i (some dh)) = some (.ok r.1 (r.2.set i (some dr)))
open Classical in
noncomputable def holeR (m : En → Option (Rs D)) (i : Nat) (q : List AcV) (d0 : D) (e : En) : Option (D × En) :=
  if h : ∃ r, HoleOk m i q d0 e r then some (Classical.choose h) else none
noncomputable def evU (i : Nat) (p : List Ac) (o : UO) (kl : List Nat) (e : En) : Option (Rs Ou) :=
  match o with
  | .app a => bd (rcv Φ i p e) fun q e1 => bd (ev Φ a e1) fun d e2 => updE i q (fun t => match t with | .lst xs => if xs.length < LMX then some (.lst (xs ++ [d])) else none | _ => none) kl e2
  | .ext a => bd (rcv Φ i p e) fun q e1 => bd (ev Φ a e1) fun d e2 => updE i q (fun t => match t, d with | .lst xs, .lst ys => if xs.length + ys.length ≤ LMX then some (.lst (xs ++ ys)) else none | _, _ => none) kl e2
  | .set j a => bd (ev Φ a e) fun d e1 => bd (rcv Φ i p e1) fun q e2 => bd (ev Φ j e2) fun k e3 => updE i q (fun t => setD t k d) kl e3
  | .aug b j a => bd (rcv Φ i p e) fun q e1 => bd (ev Φ j e1) fun k e2 => if !chkI i q k e2 then none else bd (ev Φ a e2) fun d e3 => updE i q (fun t => (ixD t k).bind fun x => (binD b x d).bind fun y => setD t k y) kl e3
  | .ins j a => bd (rcv Φ i p e) fun q e1 => bd (ev Φ j e1) fun k e2 => bd (ev Φ a e2) fun d e3 => if pureD d then updE i q (fun t => match t, k with | .lst xs, .int n => if xs.length < LMX ∧ 0 ≤ n ∧ n < 1000000 then some (.lst (xs.take n.toNat ++ [d] ++ xs.drop n.toNat)) else none | _, _ => none) kl e3 else none
  | .fset f a => bd (ev Φ a e) fun d e1 => bd (rcvB Φ objB i p e1) fun q e2 => updE i q (fun t => putFD t f d) kl e2
  | .dset k a => bd (ev Φ a e) fun d e1 => bd (rcvB Φ dctB i p e1) fun q e2 => bd (ev Φ k e2) fun kd e3 => updE i q (fun t => putDD t kd d) kl e3
  | .apph a => (match e[i]? with
    | some (some d0) => if allF p = true then (match getP (lead p) d0 with
      | some (.lst xs) => (match holeR (fun e => ev Φ a e) i (lead p) d0 e with
        | some (d, e') => if xs.length < LMX then updE i (lead p) (fun _ => some (.lst (xs ++ [d]))) kl e' else none
        | none => none)
      | _ => none) else none
    | _ => none)
  | .clr => bd (rcv Φ i p e) fun q e1 => updE i q (fun t => match t with | .lst _ => some (.lst []) | _ => none) kl e1
  | .rvs => bd (rcv Φ i p e) fun q e1 => updE i q (fun t => match t with | .lst xs => if pureDs xs = true then some (.lst xs.reverse) else none | _ => none) kl e1
  | _ => none
/-- a plain index -/
def kval : DE → En → Option Int
  | .v i, e => (match e[i]? with | some (some (.int k)) => some k | _ => none)
  | .c (.int k), _ => some k
  | _, _ => none
def kvals : List DE → En → Option (List Int)
  | [], _ => some []
  | a :: r, e => (kval a e).bind fun k => (kvals r e).map (k :: ·)
/-- a name's end -/
def blkR (i : Nat) (r : Option (Rs Ou)) : Option (Rs Ou) := match r with
  | some (.ok o e) => some (.ok o (e.set i none))
  | _ => none
def fAp1 (d : D) : D → Option D := fun t => match t with | .lst xs => if xs.length < LMX then some (.lst (xs ++ [d])) else none | _ => none
mutual
noncomputable def evS : DS → En → Option (Rs Ou)
  | .asg tg a, e => bd (ev Φ a e) fun d e1 => (bindT tg d e1).map fun e2 => .ok .nx e2
  | .par i j a b, e => bd (ev Φ a e) fun x e1 => if ioE b && !pureD x then none else bd (ev Φ b e1) fun y e2 => some (.ok .nx ((e2.set i (some x)).set j (some y)))
  | .upd i p o kl, e => evU Φ i p o kl e
  | .aug i o a, e => (match e[i]? with
      | some (some x) => bd (ev Φ a e) fun y e1 => if pureD x then (binD o x y).map fun z => .ok .nx (e1.set i (some z)) else none
      | _ => none)
  | .ex a, e => bd (ev Φ a e) fun _ e1 => some (.ok .nx e1)
  | .ifs c a b, e => bd (ev Φ c e) fun x e1 => (match x with | .bl true => evSs a e1 | .bl false => evSs b e1 | _ => none)
  | .for tg it b, e => bd (evI Φ it e) fun xs e1 => forL (fun x e2 => bindT tg x e2) (fun e2 => evSs b e2) xs e1
  | .whl c b, e => wh (fun e1 => ev Φ c e1) (fun e1 => evSs b e1) e
  | .ret a, e => bd (ev Φ a e) fun d e1 => some (.ok (.rt d) e1)
  | .retN, e => some (.ok (.rt .non) e)
  | .brk, e => some (.ok .bk e)
  | .cnt, e => some (.ok .ct e)
  | .pas, e => some (.ok .nx e)
  | .rai c k es, e => bd (evL Φ es e) fun ds e1 => (match ds with
      | [d] => some (.ok (.xn c (if k = true then some d else none)) e1)
      | [] => some (.ok (.xn c none) e1)
      | _ => none)
  | .upx i ks c kl, e => (kvals ks e).bind fun q => (match e[i]? with
      | some (some d0) => (updT q (fAp1 c) d0).map fun d' => .ok .nx (kil kl (e.set i (some d')))
      | _ => none)
  | .fap i k j c kl, e => (match e[i]? with
      | some (some d0) => (match ixD d0 (.int k) with
        | some (.lst rows) => if rows.length < LMX then (apAll c rows).bind fun rows' => (setP d0 k (.lst rows')).map fun d' => .ok .nx (kil kl ((e.set j none).set i (some d'))) else none
        | _ => none)
      | _ => none)
  | .fst x i j l b kl, e => (match e[l]? with
      | some (some _) => bd (ev Φ b e) fun d e1 => (match d, e1[l]?, e1[x]? with
        | .lst rs, some (some (.lst ks)), some (some (.lst xs)) => (stAll xs ks rs).map fun xs' => .ok .nx (kil kl (((e1.set i none).set j none).set x (some (.lst xs'))))
        | _, _, _ => none)
      | _ => none)
  | .calx m f es, e => bd (evL Φ es e) fun ds e1 => (match Φ f ds with
      | some (.ret d []) => (match m with
        | .asg i => some (.ok .nx (e1.set i (some d)))
        | .ixk i k => (ixD d (.int k)).bind fun x => if pureD x = true then some (.ok .nx (e1.set i (some x))) else none
        | .ex => some (.ok .nx e1)
        | .tgt tg => (bindT tg d e1).map fun e2 => .ok .nx e2)
      | some (.exn c x []) => some (.ok (.xn c x) e1)
      | _ => none)
  | .tryc b c h, e => (match evSs b e with
      | some (.ok (.xn c' x) e1) => if subX c' c = true then (match h with
        | .non i => some (.ok .nx (e1.set i (some .non)))
        | .fld i j f => (match x with
          | some d => if c' = c ∧ f = xfld c then some (.ok .nx ((e1.set i (some d)).set j none)) else none
          | none => none)
        | .kp i j => some (.ok .nx ((e1.set i (some (.err c' x.toList))).set j none))) else some (.ok (.xn c' x) e1)
      | r => r)
noncomputable def evSs : DSs → En → Option (Rs Ou)
  | .nil, e => some (.ok .nx e)
  | .cons s ss, e => (match evS s e with
      | some (.ok .nx e1) => evSs ss e1
      | r => r)
  | .blk i ss, e => blkR i (evSs ss (e.set i none))
  | .alb i j a b ss, e => (match e[j]? with
      | some (some d) => (match evS a (e.set i (some d)) with
        | some (.ok .nx e1) => (match evS b e1 with
          | some (.ok .nx e2) => evSs ss (e2.set j none)
          | _ => none)
        | _ => none)
      | _ => none)
end
end
def iosOf : List Nat → En → Option (List D)
  | [], _ => some []
  | i :: is, e => match e[i]? with
    | some (some d) => (iosOf is e).map (d :: ·)
    | _ => none
/-- a def: n names, the parameters first, the parameters at io changed -/
structure Df where
  n : Nat
  io : List Nat
  body : DSs
noncomputable def run (Φ : Nat → Fn) (f : Df) : Fn := fun ds =>
  match evSs Φ f.body (ds.map some ++ List.replicate (f.n - ds.length) none) with
  | some (.ok (.rt d) e) => (iosOf f.io e).map (Fr.ret d)
  | some (.ok .nx e) => (iosOf f.io e).map (Fr.ret .non)
  | some (.ok (.xn c x) e) => (iosOf f.io e).map (Fr.exn c x)
  | _ => none
end Cy
end
section
set_option Elab.async false
set_option linter.all false
set_option maxRecDepth 100000
set_option maxHeartbeats 4000000
namespace Cy
open PySem L2 PyProof.Rows
def obsE (fa : List He.Fa) (fx : List (PySem.W.Frag → Bool)) (fn : List He.DefD) (K : PySem.W.Frag) : He.AlD := ((fa.all fun f => f.ok K) && ((fx.all fun f => f K) && fn.all fun d => d.ok K), fn.map fun d => He.fnW K d.at_)
def SaysE (fa : List He.Fa) (fx : List (PySem.W.Frag → Bool)) (fn : List He.DefD) (K : PySem.W.Frag) : Prop := obsE fa fx fn K = He.valD fn
section
variable {fa : List He.Fa} {fx : List (PySem.W.Frag → Bool)} {fn : List He.DefD} {K : PySem.W.Frag}
theorem SaysE.fact (c : SaysE fa fx fn K) (i : Nat) {f : He.Fa} (h : fa[i]? = some f := by rfl) : f.ok K = true := by
  have c1 := (He.ba (show ((fa.all fun f => f.ok K) && ((fx.all fun f => f K) && fn.all fun d => d.ok K)) = true from congrArg (fun z : He.AlD => z.1) c)).1
  exact List.all_eq_true.mp c1 f (List.mem_of_getElem? h)
theorem SaysE.own (c : SaysE fa fx fn K) (i : Nat) {f : PySem.W.Frag → Bool} (h : fx[i]? = some f := by rfl) : f K = true := by
  have c1 := (He.ba (He.ba (show ((fa.all fun f => f.ok K) && ((fx.all fun f => f K) && fn.all fun d => d.ok K)) = true from congrArg (fun z : He.AlD => z.1) c)).2).1
  exact List.all_eq_true.mp c1 f (List.mem_of_getElem? h)
theorem SaysE.def_ (c : SaysE fa fx fn K) (i : Nat) {d : He.DefD} (h : fn[i]? = some d := by rfl) : ∃ fd, L2.FunD K d.name d.qual d.params d.body d.scope (d.dvs K) (d.kws K) (He.fAd K d.at_) fd := by
  have c2 := (He.ba (He.ba (show ((fa.all fun f => f.ok K) && ((fx.all fun f => f K) && fn.all fun d => d.ok K)) = true from congrArg (fun z : He.AlD => z.1) c)).2).2
  have e : fn.map (fun d => He.fnW K d.at_) = fn.map He.DefD.val := congrArg (fun z : He.AlD => z.2) c
  have e2 : (fn.map fun d => He.fnW K d.at_)[i]? = (fn.map He.DefD.val)[i]? := by rw [e]
  rw [List.getElem?_map, List.getElem?_map, h] at e2
  exact He.DefD.funD (Option.some.inj e2) (List.all_eq_true.mp c2 d (List.mem_of_getElem? h))
end
end Cy
end
section
set_option Elab.async false
set_option Elab.async false
set_option linter.all false
set_option maxRecDepth 100000
set_option maxHeartbeats 0
namespace K01
open PySem PySem.Spec PyProof.Rows L2 Cy
def top (i : Nat) : Stmt := PySem.Challenge.pw_chargeyard_k01_what_is_a_yard.main.body.getD i (.Pass ⟨0, 0, 0, 0⟩)
def gls : List (PySem.Str × Cy.D) := [("BEYOND", .int 1000000000000000000000000000000), ("MOST_TURNS", .int 8), ("MOST_LINES", .int 5)]
def bns : List PySem.Str := ["isinstance", "int", "bool", "tuple", "len", "all", "enumerate", "range", "abs", "list"]
def ats : List PySem.Str := []
def cls : List PySem.Str := []
def xcl : List (PySem.Str × Bool) := []
def xs : List PySem.Str := []
def d0 : He.DefD := ⟨("is_whole", none), "is_whole", "is_whole", defArgs (top 4), defBody (top 4), defScope (top 4), [], []⟩
def d1 : He.DefD := ⟨("is_line", none), "is_line", "is_line", defArgs (top 5), defBody (top 5), defScope (top 5), [], []⟩
def d2 : He.DefD := ⟨("is_yard", none), "is_yard", "is_yard", defArgs (top 6), defBody (top 6), defScope (top 6), [], []⟩
def d3 : He.DefD := ⟨("_law_cell_at", none), "_law_cell_at", "_law_cell_at", defArgs (top 8), defBody (top 8), defScope (top 8), [], []⟩
def d4 : He.DefD := ⟨("_law_number", none), "_law_number", "_law_number", defArgs (top 9), defBody (top 9), defScope (top 9), [], []⟩
def d5 : He.DefD := ⟨("_law_amount", none), "_law_amount", "_law_amount", defArgs (top 10), defBody (top 10), defScope (top 10), [], []⟩
def d6 : He.DefD := ⟨("_law_yard", none), "_law_yard", "_law_yard", defArgs (top 11), defBody (top 11), defScope (top 11), [], []⟩
def d7 : He.DefD := ⟨("_law_with_line", none), "_law_with_line", "_law_with_line", defArgs (top 12), defBody (top 12), defScope (top 12), [], []⟩
def d8 : He.DefD := ⟨("_law_odd_bounds", none), "_law_odd_bounds", "_law_odd_bounds", defArgs (top 13), defBody (top 13), defScope (top 13), [], []⟩
def d9 : He.DefD := ⟨("_law_odd_line", none), "_law_odd_line", "_law_odd_line", defArgs (top 14), defBody (top 14), defScope (top 14), [], []⟩
def d10 : He.DefD := ⟨("_law_spoilt", none), "_law_spoilt", "_law_spoilt", defArgs (top 15), defBody (top 15), defScope (top 15), [], []⟩
def d11 : He.DefD := ⟨("_law_told", none), "_law_told", "_law_told", defArgs (top 16), defBody (top 16), defScope (top 16), [], []⟩
def d12 : He.DefD := ⟨("law", none), "law", "law", defArgs (top 17), defBody (top 17), defScope (top 17), [], []⟩
def fn : List He.DefD := [d0, d1, d2, d3, d4, d5, d6, d7, d8, d9, d10, d11, d12]
def fx : List (PySem.W.Frag → Bool) := []
def fa : List He.Fa := [.glo "is_whole", .glo "is_line", .glo "is_yard", .glo "_law_cell_at", .glo "_law_number", .glo "_law_amount", .glo "_law_yard", .glo "_law_with_line", .glo "_law_odd_bounds", .glo "_law_odd_line", .glo "_law_spoilt", .glo "_law_told", .glo "law", .int "BEYOND" 1000000000000000000000000000000, .int "MOST_TURNS" 8, .int "MOST_LINES" 5, .free "isinstance", .free "int", .free "bool", .free "tuple", .free "len", .free "all", .free "enumerate", .free "range", .free "abs", .free "list"]
def lo : List PySem.Str := ["__name__", "MOST_TURNS", "MOST_LINES", "BEYOND", "is_whole", "is_line", "is_yard", "_law_cell_at", "_law_number", "_law_amount", "_law_yard", "_law_with_line", "_law_odd_bounds", "_law_odd_line", "_law_spoilt", "_law_told"]
abbrev R : PySem.W.OpenRow := PySem.W.OpenLaw.row PySem.Challenge.rw_chargeyard_k01_what_is_a_yard
abbrev hk : PySem.W.Hook := He.hookD 4 fa fn
def ob (s : PySem.W.SharedT) : He.AlD := He.obsDG 4 fa fn (HandSHeadRun.getT s)
theorem ob_eq (s : PySem.W.SharedT) : ob s = hk.obs s.abs := He.obsDG_eq (HandSHeadRun.getT_eq s)
theorem run (w : World) : HandSHeadRun.RunEq R (PySem.W.view R.prog [17]) hk ob 3000 lo w := by
  intro os
  kernel_rfl
end K01
end
section
set_option Elab.async false
set_option linter.all false
set_option maxRecDepth 100000
set_option maxHeartbeats 1000000
namespace Cy
open PySem L2

/-- the script -/
def SqF (K : PySem.W.Frag) (H : Hp) (a : Addr) (xs : List V) : Prop :=
  (∃ o, H a = some (.frz o (.lst xs))) ∨ ∃ (o : Obj) (its : Array Value) (n : Nat), K.lookup a = some o ∧ o.cls = .type "list" ∧ o.dict = none ∧ o.data = .seq its n ∧ its.size ≤ sizeLine ∧ Vals xs its.toList
theorem SqF.sq {K : PySem.W.Frag} {H : Hp} {a : Addr} {xs : List V} (h : SqF K H a xs) : SqL K H a xs := by
  rcases h with h | h
  · exact .inl (.inr h)
  · exact .inr h
theorem SqF.of {K : PySem.W.Frag} {H : Hp} {a : Addr} {xs : List V} (hO : Only H) (h : SqL K H a xs) : SqF K H a xs := by
  rcases h with (h | h) | h
  · rcases hO a with z | ⟨o, ys, z⟩
    · rw [h] at z; cases z
    · rw [h] at z; cases z
  · exact .inl h
  · exact .inr h
/-- the class at an address -/
class ClTab where
  is : Str → Addr → Prop
  /-- the classes of errors that may be asked for -/
  xs : List Str
  /-- errors may be kept -/
  kx : Bool
/-- may change in place -/
def mu : HO → Prop
  | .lst _ | .dK _ | .ins _ _ _ => True
  | _ => False
abbrev MO := {o : HO // mu o}
theorem mu_tup {xs : List V} : ∀ ys : MO, HO.tup xs ≠ ys.1 := fun ys e => by have := ys.2; rw [← e] at this; exact this
theorem mu_frz {o : Obj} {u : HO} : ∀ ys : MO, HO.frz o u ≠ ys.1 := fun ys e => by have := ys.2; rw [← e] at this; exact this
/-- an error that is kept: its class, its dict -/
def ErrO (cls : Value) (d : Option Addr) (a : Addr) : HO := .ext fun h => ∃ (oe : Obj) (vs : Array Value), h.get? a = some oe ∧ Zc cls d oe ∧ oe.data = .fields vs
theorem mu_err {cls : Value} {d : Option Addr} {a : Addr} : ∀ ys : MO, ErrO cls d a ≠ ys.1 := fun ys e => by have := ys.2; rw [← e] at this; exact this
theorem mu_xd {fs : List (Str × V)} : ∀ ys : MO, HO.xd fs ≠ ys.1 := fun ys e => by have := ys.2; rw [← e] at this; exact this
variable [ClTab]
mutual
inductive Rep (K : PySem.W.Frag) (H : Hp) : V → D → List Addr → Prop
  | non : Rep K H .non .non []
  | bl (b : Bool) : Rep K H (.bl b) (.bl b) []
  | int (i : Int) : Rep K H (.int i) (.int i) []
  | str (x : Str) : Rep K H (.str x) (.str x) []
  | tup {p : Addr} {vs : List V} {ds : List D} {A : List Addr} : SqT K H p vs → Reps K H vs ds A → Rep K H (.ref p) (.tup ds) A
  | lst {p : Addr} {vs : List V} {ds : List D} {A : List Addr} : H p = some (.lst vs) → Reps K H vs ds A → Rep K H (.ref p) (.lst ds) (p :: A)
  | scr {p : Addr} {ns : List Int} : SqF K H p (ns.map V.int) → Rep K H (.ref p) (.scr ns) []
  | dct {p : Addr} {kvs : List (Key × V)} {ks : List Ky} {ds : List D} {A : List Addr} : H p = some (.dK kvs) → kvs.map (·.1) = ks → Reps K H (kvs.map (·.2)) ds A → Rep K H (.ref p) (.dct ks ds) (p :: A)
  | obj {p C dx : Addr} {c : Str} {fvs : List (Str × V)} {fs : List Str} {ds : List D} {A : List Addr} : H p = some (.ins C dx fvs) → ClTab.is c C → fvs.map (·.1) = fs → Reps K H (fvs.map (·.2)) ds A → Rep K H (.ref p) (.obj c fs ds) (p :: A)
  | frz {p : Addr} {o : Obj} {vs : List V} {ds : List D} : H p = some (.frz o (.lst vs)) → Reps K H vs ds [] → Rep K H (.ref p) (.frz ds) []
  | hol (p : Addr) : Rep K H (.ref p) (.hol p) []
  | any {v : V} : v ≠ .non → Rep K H v .any []
  | er0 {p : Addr} {c : Str} {d : Option Addr} : H p = some (ErrO (.ref (He.ga K c)) d p) → ClTab.kx = true → c ∈ ClTab.xs → (∀ dd, d = some dd → ∃ fs, H dd = some (.xd fs)) → Rep K H (.ref p) (.err c []) []
  | er1 {p dd : Addr} {c : Str} {u : V} {x : D} {A : List Addr} : H p = some (ErrO (.ref (He.ga K c)) (some dd) p) → ClTab.kx = true → c ∈ ClTab.xs → H dd = some (.xd [(xfld c, u)]) → Rep K H u x A → Rep K H (.ref p) (.err c [x]) A
inductive Reps (K : PySem.W.Frag) (H : Hp) : List V → List D → List Addr → Prop
  | nil : Reps K H [] [] []
  | cons {v : V} {vs : List V} {d : D} {ds : List D} {A B : List Addr} : Rep K H v d A → Reps K H vs ds B → Reps K H (v :: vs) (d :: ds) (A ++ B)
end
/-- a list stands there -/
def MutH (H : Hp) (a : Addr) : Prop := ∃ xs : MO, H a = some xs.1
section
variable {K : PySem.W.Frag} {H H' : Hp}
theorem SqT.keep {a : Addr} {xs : List V} (k : ∀ a o, H a = some o → (∀ xs : MO, o ≠ xs.1) → H' a = some o) (h : SqT K H a xs) : SqT K H' a xs := by
  rcases h with (h | ⟨o, h⟩) | h
  · exact .inl (.inl (k _ _ h mu_tup))
  · exact .inl (.inr ⟨o, k _ _ h mu_frz⟩)
  · exact .inr h
theorem SqF.keep {a : Addr} {xs : List V} (k : ∀ a o, H a = some o → (∀ xs : MO, o ≠ xs.1) → H' a = some o) (h : SqF K H a xs) : SqF K H' a xs := by
  rcases h with ⟨o, h⟩ | h
  · exact .inl ⟨o, k _ _ h mu_frz⟩
  · exact .inr h
mutual
theorem Rep.keep (k : ∀ a o, H a = some o → (∀ xs : MO, o ≠ xs.1) → H' a = some o) : ∀ {d : D} {v : V} {A : List Addr}, Rep K H v d A → (∀ a ∈ A, ∀ o, H a = some o → H' a = some o) → Rep K H' v d A
  | _, _, _, .non, _ => .non
  | _, _, _, .bl b, _ => .bl b
  | _, _, _, .int i, _ => .int i
  | _, _, _, .str x, _ => .str x
  | _, _, _, .tup h r, g => .tup (SqT.keep k h) (Reps.keep k r g)
  | _, _, _, .lst h r, g => .lst (g _ (List.mem_cons_self ..) _ h) (Reps.keep k r fun a ha => g a (List.mem_cons_of_mem _ ha))
  | _, _, _, .scr h, _ => .scr (SqF.keep k h)
  | _, _, _, .dct h e r, g => .dct (g _ (List.mem_cons_self ..) _ h) e (Reps.keep k r fun a ha => g a (List.mem_cons_of_mem _ ha))
  | _, _, _, .obj h c e r, g => .obj (g _ (List.mem_cons_self ..) _ h) c e (Reps.keep k r fun a ha => g a (List.mem_cons_of_mem _ ha))
  | _, _, _, .frz h r, _ => .frz (k _ _ h mu_frz) (Reps.keep k r fun a ha => nomatch ha)
  | _, _, _, .hol p, _ => .hol p
  | _, _, _, .any h, _ => .any h
  | _, _, _, .er0 h1 hk hc h2, _ => .er0 (k _ _ h1 mu_err) hk hc fun dd e => by
    obtain ⟨fs, q⟩ := h2 dd e
    exact ⟨fs, k _ _ q mu_xd⟩
  | _, _, _, .er1 h1 hk hc h2 r, g => .er1 (k _ _ h1 mu_err) hk hc (k _ _ h2 mu_xd) (Rep.keep k r g)
theorem Reps.keep (k : ∀ a o, H a = some o → (∀ xs : MO, o ≠ xs.1) → H' a = some o) : ∀ {ds : List D} {vs : List V} {A : List Addr}, Reps K H vs ds A → (∀ a ∈ A, ∀ o, H a = some o → H' a = some o) → Reps K H' vs ds A
  | _, _, _, .nil, _ => .nil
  | _, _, _, .cons r t, g => .cons (Rep.keep k r fun a ha => g a (List.mem_append_left _ ha)) (Reps.keep k t fun a ha => g a (List.mem_append_right _ ha))
end
theorem Rep.mono {d : D} {v : V} {A : List Addr} (e : Same H H') (r : Rep K H v d A) : Rep K H' v d A := r.keep (fun a o h _ => e a o h) fun a _ o h => e a o h
theorem Reps.mono {d : List D} {v : List V} {A : List Addr} (e : Same H H') (r : Reps K H v d A) : Reps K H' v d A := r.keep (fun a o h _ => e a o h) fun a _ o h => e a o h
mutual
theorem Rep.mut : ∀ {d : D} {v : V} {A : List Addr}, Rep K H v d A → ∀ a ∈ A, MutH H a
  | _, _, _, .non, _, h => nomatch h
  | _, _, _, .bl b, _, h => nomatch h
  | _, _, _, .int i, _, h => nomatch h
  | _, _, _, .str x, _, h => nomatch h
  | _, _, _, .tup _ r, a, h => Reps.mut r a h
  | _, _, _, .lst h1 r, a, h => by
    rcases List.mem_cons.mp h with e | h
    · exact ⟨⟨.lst _, trivial⟩, e ▸ h1⟩
    · exact Reps.mut r a h
  | _, _, _, .scr _, _, h => nomatch h
  | _, _, _, .frz _ _, _, h => nomatch h
  | _, _, _, .hol _, _, h => nomatch h
  | _, _, _, .any _, _, h => nomatch h
  | _, _, _, .er0 _ _ _ _, _, h => nomatch h
  | _, _, _, .er1 _ _ _ _ r, a, h => Rep.mut r a h
  | _, _, _, .dct h1 _ r, a, h => by
    rcases List.mem_cons.mp h with e | h
    · exact ⟨⟨.dK _, trivial⟩, e ▸ h1⟩
    · exact Reps.mut r a h
  | _, _, _, .obj h1 _ _ r, a, h => by
    rcases List.mem_cons.mp h with e | h
    · exact ⟨⟨.ins _ _ _, trivial⟩, e ▸ h1⟩
    · exact Reps.mut r a h
theorem Reps.mut : ∀ {ds : List D} {vs : List V} {A : List Addr}, Reps K H vs ds A → ∀ a ∈ A, MutH H a
  | _, _, _, .nil, _, h => nomatch h
  | _, _, _, .cons r t, a, h => by
    rcases List.mem_append.mp h with h | h
    · exact Rep.mut r a h
    · exact Reps.mut t a h
end
mutual
theorem Rep.pure : ∀ {d : D} {v : V} {A : List Addr}, Rep K H v d A → pureD d = true → A = []
  | _, _, _, .non, _ => rfl
  | _, _, _, .bl b, _ => rfl
  | _, _, _, .int i, _ => rfl
  | _, _, _, .str x, _ => rfl
  | _, _, _, .tup _ r, h => Reps.pure r (by simpa only [pureD] using h)
  | _, _, _, .lst _ _, h => by simp [pureD] at h
  | _, _, _, .dct _ _ _, h => by simp [pureD] at h
  | _, _, _, .obj _ _ _ _, h => by simp [pureD] at h
  | _, _, _, .scr _, _ => rfl
  | _, _, _, .frz _ _, _ => rfl
  | _, _, _, .hol _, _ => rfl
  | _, _, _, .any _, _ => rfl
  | _, _, _, .er0 _ _ _ _, _ => rfl
  | _, _, _, .er1 _ _ _ _ r, h => Rep.pure r (by simpa only [pureD, pureDs, Bool.and_true] using h)
theorem Reps.pure : ∀ {ds : List D} {vs : List V} {A : List Addr}, Reps K H vs ds A → pureDs ds = true → A = []
  | _, _, _, .nil, _ => rfl
  | _, _, _, .cons r t, h => by
    simp only [pureDs, Bool.and_eq_true] at h
    rw [Rep.pure r h.1, Reps.pure t h.2]; rfl
end
theorem Reps.length : ∀ {ds : List D} {vs : List V} {A : List Addr}, Reps K H vs ds A → vs.length = ds.length
  | _, _, _, .nil => rfl
  | _, _, _, .cons _ t => by rw [List.length_cons, List.length_cons, Reps.length t]
theorem Reps.get : ∀ {ds : List D} {vs : List V} {A : List Addr} {i : Nat} {d : D}, Reps K H vs ds A → ds[i]? = some d → ∃ v B, vs[i]? = some v ∧ Rep K H v d B ∧ B.Sublist A
  | _, _, _, _, _, .nil, h => by simp at h
  | _, _, _, 0, d, .cons r t, h => by
    simp at h; subst h
    exact ⟨_, _, rfl, r, List.sublist_append_left _ _⟩
  | _, _, _, i + 1, d, .cons r t, h => by
    obtain ⟨v, B, h1, h2, h3⟩ := Reps.get (i := i) t (by simpa using h)
    exact ⟨v, B, by simpa using h1, h2, h3.trans (List.sublist_append_right _ _)⟩
theorem Reps.append {ds es : List D} : ∀ {vs ws : List V} {A B : List Addr}, Reps K H vs ds A → Reps K H ws es B → Reps K H (vs ++ ws) (ds ++ es) (A ++ B) := by
  induction ds with
  | nil => intro vs ws A B r s; cases r; exact s
  | cons d ds ih =>
    intro vs ws A B r s
    cases r with
    | cons r t =>
      rw [List.append_assoc]
      exact .cons r (ih t s)
theorem Reps.drop : ∀ (n : Nat) {ds : List D} {vs : List V} {A : List Addr}, Reps K H vs ds A → ∃ B, Reps K H (vs.drop n) (ds.drop n) B ∧ B.Sublist A
  | 0, _, _, A, r => ⟨A, r, List.Sublist.refl _⟩
  | n + 1, _, _, _, .nil => ⟨[], .nil, List.Sublist.refl _⟩
  | n + 1, _, _, _, .cons _ t => by
    obtain ⟨B, h1, h2⟩ := Reps.drop n t
    exact ⟨B, h1, h2.trans (List.sublist_append_right _ _)⟩
theorem Reps.take : ∀ (n : Nat) {ds : List D} {vs : List V} {A : List Addr}, Reps K H vs ds A → ∃ B, Reps K H (vs.take n) (ds.take n) B ∧ B.Sublist A
  | 0, _, _, A, r => ⟨[], .nil, List.nil_sublist _⟩
  | n + 1, _, _, _, .nil => ⟨[], .nil, List.Sublist.refl _⟩
  | n + 1, _, _, _, .cons r t => by
    obtain ⟨B, h1, h2⟩ := Reps.take n t
    exact ⟨_, .cons r h1, List.Sublist.append (List.Sublist.refl _) h2⟩
theorem Reps.one {v : V} {d : D} {A : List Addr} (r : Rep K H v d A) : Reps K H [v] [d] A := by
  have h := Reps.cons r Reps.nil
  rwa [List.append_nil] at h
theorem Reps.one_inv {vs : List V} {d : D} {A : List Addr} (r : Reps K H vs [d] A) : ∃ v, vs = [v] ∧ Rep K H v d A := by
  cases r with
  | cons r t =>
    cases t
    exact ⟨_, rfl, by rwa [List.append_nil]⟩
theorem Reps.set : ∀ {ds : List D} {vs : List V} {A : List Addr} (i : Nat) {d : D} {v : V} {B : List Addr}, Reps K H vs ds A → Rep K H v d B → i < ds.length →
    ∃ A1 C A2, A = A1 ++ C ++ A2 ∧ Reps K H (vs.set i v) (ds.set i d) (A1 ++ B ++ A2) ∧ ∀ d0, ds[i]? = some d0 → ∃ v0, vs[i]? = some v0 ∧ Rep K H v0 d0 C
  | _, _, _, _, _, _, _, .nil, _, h => by simp at h
  | _, _, _, 0, _, _, B, .cons (A := A0) (B := B0) r t, s, _ => ⟨[], A0, B0, by simp, by simpa using Reps.cons s t, fun d0 h => by simp at h; subst h; exact ⟨_, rfl, r⟩⟩
  | _, _, _, i + 1, _, _, B, .cons (A := A0) (B := B0) r t, s, h => by
    obtain ⟨A1, C, A2, e, q, g⟩ := Reps.set i t s (by simpa using h)
    refine ⟨A0 ++ A1, C, A2, by rw [e]; simp, ?_, fun d0 h0 => ?_⟩
    · have z := Reps.cons r q
      simpa using z
    · obtain ⟨v0, a, b⟩ := g d0 (by simpa using h0)
      exact ⟨v0, by simpa using a, b⟩
theorem reps_ints : ∀ {ds : List D} {vs : List V} {A : List Addr} {ns : List Int}, Reps K H vs ds A → intsOf ds = some ns → vs = ns.map V.int ∧ A = []
  | _, _, _, ns, .nil, h => by
    simp [intsOf] at h; subst h; exact ⟨rfl, rfl⟩
  | d :: ds, _, _, ns, .cons r t, h => by
    cases r with
    | int i =>
      simp only [intsOf, Option.map_eq_some_iff] at h
      obtain ⟨ms, h1, rfl⟩ := h
      obtain ⟨rfl, rfl⟩ := reps_ints t h1
      exact ⟨rfl, rfl⟩
    | _ => simp [intsOf] at h
theorem reps_bls : ∀ {ds : List D} {vs : List V} {A : List Addr} {ns : List Bool}, Reps K H vs ds A → blsOf ds = some ns → vs = ns.map V.bl ∧ A = []
  | _, _, _, ns, .nil, h => by
    simp [blsOf] at h; subst h; exact ⟨rfl, rfl⟩
  | d :: ds, _, _, ns, .cons r t, h => by
    cases r with
    | bl i =>
      simp only [blsOf, Option.map_eq_some_iff] at h
      obtain ⟨ms, h1, rfl⟩ := h
      obtain ⟨rfl, rfl⟩ := reps_bls t h1
      exact ⟨rfl, rfl⟩
    | _ => simp [blsOf] at h
theorem reps_strs : ∀ {ds : List D} {vs : List V} {A : List Addr} {ns : List Str}, Reps K H vs ds A → strsOf ds = some ns → vs = ns.map V.str ∧ A = []
  | _, _, _, ns, .nil, h => by
    simp [strsOf] at h; subst h; exact ⟨rfl, rfl⟩
  | d :: ds, _, _, ns, .cons r t, h => by
    cases r with
    | str i =>
      simp only [strsOf, Option.map_eq_some_iff] at h
      obtain ⟨ms, h1, rfl⟩ := h
      obtain ⟨rfl, rfl⟩ := reps_strs t h1
      exact ⟨rfl, rfl⟩
    | _ => simp [strsOf] at h
/-- a list parted -/
theorem Reps.part : ∀ (n : Nat) {ds : List D} {vs : List V} {A : List Addr}, Reps K H vs ds A → ∃ B C, A = B ++ C ∧ Reps K H (vs.take n) (ds.take n) B ∧ Reps K H (vs.drop n) (ds.drop n) C
  | 0, _, _, A, r => ⟨[], A, rfl, .nil, r⟩
  | n + 1, _, _, _, .nil => ⟨[], [], rfl, .nil, .nil⟩
  | n + 1, _, _, _, .cons (A := A0) r t => by
    obtain ⟨B, C, h1, h2, h3⟩ := Reps.part n t
    exact ⟨A0 ++ B, C, by rw [h1, List.append_assoc], .cons r h2, h3⟩
theorem reps_of_strs : ∀ ns : List Str, Reps K H (ns.map V.str) (ns.map D.str) []
  | [] => .nil
  | n :: ns => .cons (A := []) (.str n) (reps_of_strs ns)
theorem reps_of_ints : ∀ ns : List Int, Reps K H (ns.map V.int) (ns.map D.int) []
  | [] => .nil
  | n :: ns => .cons (A := []) (.int n) (reps_of_ints ns)
end

abbrev Asg := Nat → List Addr
/-- slots that keep their value -/
class Fxd where
  fx : Nat → Option V
variable [Fxd]
def OwA (own : List Nat) (As : Asg) (a : Addr) : Prop := ∃ i ∈ own, a ∈ As i
structure SR (K : PySem.W.Frag) (n : Nat) (own vw : List Nat) (Z P : Addr → Prop) (σ : L2.St) (H : Hp) (env : En) (As : Asg) : Prop where
  len : σ.length = n
  lenE : env.length = n
  rep : ∀ i d, env[i]? = some (some d) → ∃ v, σ[i]? = some (some v) ∧ Rep K H v d (As i)
  non : ∀ i, (∀ d, env[i]? ≠ some (some d)) → As i = []
  shr : ∀ i, i ∉ own → i ∉ vw → ∀ a ∈ As i, Z a
  nod : ∀ i ∈ own, (As i).Nodup
  noP : ∀ i ∈ own, ∀ a ∈ As i, ¬ P a
  dis : ∀ i ∈ own, ∀ j ∈ own, i ≠ j → ∀ a ∈ As i, a ∉ As j
  zp : ∀ a, Z a → P a
  ph : ∀ a, P a → H a ≠ none
  fix : ∀ i v, Fxd.fx i = some v → σ[i]? = some (some v)
/-- from one moment to a later one, within an expression -/
structure TR (own : List Nat) (io : Bool) (H : Hp) (As : Asg) (H' : Hp) (As' : Asg) : Prop where
  mono : ∀ a, H a ≠ none → H' a ≠ none
  keep : ∀ a o, H a = some o → (io = true → ¬ OwA own As a) → H' a = some o
  ow : ∀ a, OwA own As' a → OwA own As a ∨ H a = none
  al : ∀ j a, a ∈ As' j → (∃ i, a ∈ As i) ∨ H a = none
/-- of a value's lists: all its own, or at least none that may change unseen -/
def New (own : List Nat) (H : Hp) (As As' : Asg) (a : Addr) : Prop := (H a = none ∨ OwA own As a) ∧ ¬ OwA own As' a
def EF (own : List Nat) (Z : Addr → Prop) (fr sh : Bool) (H : Hp) (As As' : Asg) (A : List Addr) : Prop :=
  (fr = true → A.Nodup ∧ ∀ a ∈ A, New own H As As' a) ∧ (sh = true → ∀ a ∈ A, New own H As As' a ∨ Z a) ∧ ∀ a ∈ A, H a = none ∨ ∃ i, a ∈ As i
section
variable {K : PySem.W.Frag} {n : Nat} {own vw : List Nat} {Z P : Addr → Prop} {σ : L2.St} {H H1 H2 : Hp} {env env1 env2 : En} {As As1 As2 : Asg}
theorem TR.refl {io : Bool} : TR own io H As H As := ⟨fun _ h => h, fun _ _ h _ => h, fun _ h => .inl h, fun j _ h => .inl ⟨j, h⟩⟩
theorem TR.trans {i1 i2 io : Bool} (a : TR own i1 H As H1 As1) (b : TR own i2 H1 As1 H2 As2) (h1 : i1 = true → io = true) (h2 : i2 = true → io = true) : TR own io H As H2 As2 where
  mono := fun x h => b.mono x (a.mono x h)
  keep := fun x o h n => b.keep x o (a.keep x o h fun e => n (h1 e)) fun e c => by
    rcases a.ow x c with q | q
    · exact n (h2 e) q
    · rw [h] at q; cases q
  ow := fun x h => by
    rcases b.ow x h with q | q
    · exact a.ow x q
    · refine .inr ?_
      cases e : H x with
      | none => rfl
      | some o => exact absurd q (a.mono x (by rw [e]; simp))
  al := fun j x h => by
    rcases b.al j x h with ⟨i, q⟩ | q
    · exact a.al i x q
    · refine .inr ?_
      cases e : H x with
      | none => rfl
      | some o => exact absurd q (a.mono x (by rw [e]; simp))
theorem TR.back {i : Bool} (t : TR own i H As H1 As1) {a : Addr} (h : H1 a = none) : H a = none := by
  cases e : H a with
  | none => rfl
  | some o => exact absurd h (t.mono a (by rw [e]; simp))
theorem TR.weak {i io : Bool} (a : TR own i H As H1 As1) (h : i = true → io = true) : TR own io H As H1 As1 := ⟨a.mono, fun x o e n => a.keep x o e fun z => n (h z), a.ow, a.al⟩
/-- one state, more in the heap -/
theorem TR.grow {io : Bool} (e : Same H H1) : TR own io H As H1 As := ⟨fun a h => by
  cases q : H a with
  | none => exact absurd q h
  | some o => rw [e a o q]; simp, fun a o h _ => e a o h, fun _ h => .inl h, fun j _ h => .inl ⟨j, h⟩⟩
theorem SR.grow (S : SR K n own vw Z P σ H env As) (e : Same H H1) : SR K n own vw Z P σ H1 env As :=
  ⟨S.len, S.lenE, fun i d h => let ⟨v, a, b⟩ := S.rep i d h; ⟨v, a, b.mono e⟩, S.non, S.shr, S.nod, S.noP, S.dis, S.zp, fun a h => by
    have q := S.ph a h
    cases r : H a with
    | none => exact absurd r q
    | some o => rw [e a o r]; simp, S.fix⟩
theorem SR.slot_mut (S : SR K n own vw Z P σ H env As) {i : Nat} {a : Addr} (ha : a ∈ As i) : MutH H a := by
  by_cases q : ∃ d, env[i]? = some (some d)
  · obtain ⟨d, q⟩ := q
    obtain ⟨v, _, r⟩ := S.rep i d q
    exact r.mut a ha
  · rw [S.non i (fun d z => q ⟨d, z⟩)] at ha
    cases ha
/-- what no name holds is changed -/
theorem SR.apart (S : SR K n own vw Z P σ H env As) {d : Addr} {ho : HO} (hd : ∀ j, d ∉ As j) (mt : MutH H d) : SR K n own vw Z P σ (upd H d ho) env As :=
  ⟨S.len, S.lenE, fun i x h => by
    obtain ⟨v, a, b⟩ := S.rep i x h
    refine ⟨v, a, b.keep (fun a o h n => ?_) fun a ha o h => ?_⟩
    · obtain ⟨xs, m⟩ := mt
      rw [upd_ne (show a ≠ d from fun z => n xs (by rw [z, m] at h; exact (Option.some.inj h).symm))]; exact h
    · rw [upd_ne (show a ≠ d from fun z => hd i (z ▸ ha))]; exact h, S.non, S.shr, S.nod, S.noP, S.dis, S.zp, fun a h => by
    by_cases z : a = d
    · rw [z, upd_same]; simp
    · rw [upd_ne z]; exact S.ph a h, S.fix⟩
theorem SR.own_mut (S : SR K n own vw Z P σ H env As) {a : Addr} (h : OwA own As a) : MutH H a := by
  obtain ⟨i, _, ha⟩ := h
  by_cases q : ∃ d, env[i]? = some (some d)
  · obtain ⟨d, q⟩ := q
    obtain ⟨v, _, r⟩ := S.rep i d q
    exact r.mut a ha
  · rw [S.non i (fun d z => q ⟨d, z⟩)] at ha
    cases ha
theorem SR.own_some (S : SR K n own vw Z P σ H env As) {a : Addr} (h : OwA own As a) : H a ≠ none := by
  obtain ⟨xs, q⟩ := S.own_mut h
  rw [q]; simp
/-- a value made ahead of a step still stands behind it -/
theorem Rep.step {io : Bool} {v : V} {d : D} {A : List Addr} (S : SR K n own vw Z P σ H env As) (t : TR own io H As H1 As1) (r : Rep K H v d A) (p : io = true → pureD d = true) : Rep K H1 v d A := by
  refine r.keep (fun a o h n => t.keep a o h fun _ c => ?_) fun a ha o h => t.keep a o h fun e => ?_
  · obtain ⟨xs, q⟩ := S.own_mut c
    rw [h] at q
    exact n xs (Option.some.inj q)
  · rw [r.pure (p e)] at ha
    cases ha
theorem Reps.step {io : Bool} {v : List V} {d : List D} {A : List Addr} (S : SR K n own vw Z P σ H env As) (t : TR own io H As H1 As1) (r : Reps K H v d A) (p : io = true → pureDs d = true) : Reps K H1 v d A := by
  refine r.keep (fun a o h n => t.keep a o h fun _ c => ?_) fun a ha o h => t.keep a o h fun e => ?_
  · obtain ⟨xs, q⟩ := S.own_mut c
    rw [h] at q
    exact n xs (Option.some.inj q)
  · rw [r.pure (p e)] at ha
    cases ha
/-- what is new of a value stays so -/
theorem New.step {io : Bool} {a : Addr} (m : MutH H1 a) (t : TR own io H1 As1 H2 As2) (hn : New own H As As1 a) : New own H As As2 a := by
  refine ⟨hn.1, fun c => ?_⟩
  rcases t.ow a c with q | q
  · exact hn.2 q
  · obtain ⟨xs, e⟩ := m
    rw [e] at q; cases q
theorem New.back {i : Bool} {a : Addr} (t : TR own i H As H1 As1) (hn : New own H1 As1 As2 a) : New own H As As2 a := by
  refine ⟨?_, hn.2⟩
  rcases hn.1 with q | q
  · left
    cases e : H a with
    | none => rfl
    | some o => exact absurd q (t.mono a (by rw [e]; simp))
  · rcases t.ow a q with z | z
    · exact .inr z
    · exact .inl z
/-- what is new later is none of what was new ahead -/
theorem New.apart {a b : Addr} (m : MutH H1 a) (hn : New own H As As1 a) (n2 : New own H1 As1 As2 b) : a ≠ b := fun e => by
  subst e
  obtain ⟨xs, q⟩ := m
  rcases n2.1 with z | z
  · rw [q] at z; cases z
  · exact hn.2 z
theorem EF.pure {fr sh : Bool} : EF own Z fr sh H As As1 [] := ⟨fun _ => ⟨List.nodup_nil, (fun _ h => nomatch h)⟩, (fun _ _ h => nomatch h), (fun _ h => nomatch h)⟩
theorem EF.sub {fr sh : Bool} {A B : List Addr} (e : EF own Z fr sh H As As1 A) (s : B.Sublist A) : EF own Z fr sh H As As1 B :=
  ⟨fun h => ⟨(e.1 h).1.sublist s, fun a ha => (e.1 h).2 a (s.subset ha)⟩, fun h a ha => e.2.1 h a (s.subset ha), fun a ha => e.2.2 a (s.subset ha)⟩
theorem EF.step {io fr sh : Bool} {A : List Addr} (m : ∀ a ∈ A, MutH H1 a) (t : TR own io H1 As1 H2 As2) (e : EF own Z fr sh H As As1 A) : EF own Z fr sh H As As2 A :=
  ⟨fun h => ⟨(e.1 h).1, fun a ha => ((e.1 h).2 a ha).step (m a ha) t⟩, fun h a ha => (e.2.1 h a ha).imp (fun n => n.step (m a ha) t) id, e.2.2⟩
theorem EF.back {i fr sh : Bool} {A : List Addr} (t : TR own i H As H1 As1) (e : EF own Z fr sh H1 As1 As2 A) : EF own Z fr sh H As As2 A :=
  ⟨fun h => ⟨(e.1 h).1, fun a ha => ((e.1 h).2 a ha).back t⟩, fun h a ha => (e.2.1 h a ha).imp (fun n => n.back t) id, fun a ha => by
    rcases e.2.2 a ha with z | ⟨i, z⟩
    · exact .inl (t.back z)
    · exact (t.al i a z).symm⟩
theorem EF.weak {fr sh fr' sh' : Bool} {A : List Addr} (e : EF own Z fr sh H As As1 A) (h1 : fr' = true → fr = true) (h2 : sh' = true → sh = true) : EF own Z fr' sh' H As As1 A :=
  ⟨fun h => e.1 (h1 h), fun h => e.2.1 (h2 h), e.2.2⟩
/-- two values, one behind the other -/
theorem EF.app {i j f1 f2 s1 s2 : Bool} {A B : List Addr} (m : ∀ a ∈ A, MutH H1 a) (t1 : TR own i H As H1 As1) (t2 : TR own j H1 As1 H2 As2) (e1 : EF own Z f1 s1 H As As1 A) (e2 : EF own Z f2 s2 H1 As1 As2 B) :
    EF own Z (f1 && f2) (s1 && s2) H As As2 (A ++ B) := by
  refine ⟨fun h => ?_, fun h a ha => ?_, fun a ha => (List.mem_append.mp ha).elim (e1.2.2 a) ((e2.back t1).2.2 a)⟩
  · simp only [Bool.and_eq_true] at h
    obtain ⟨n1, g1⟩ := e1.1 h.1
    obtain ⟨n2, g2⟩ := e2.1 h.2
    refine ⟨List.nodup_append.mpr ⟨n1, n2, fun a ha b hb => (g1 a ha).apart (m a ha) (g2 b hb)⟩, fun a ha => ?_⟩
    rcases List.mem_append.mp ha with ha | ha
    · exact (g1 a ha).step (m a ha) t2
    · exact (g2 a ha).back t1
  · simp only [Bool.and_eq_true] at h
    rcases List.mem_append.mp ha with ha | ha
    · exact (e1.2.1 h.1 a ha).imp (fun n => n.step (m a ha) t2) id
    · exact (e2.2.1 h.2 a ha).imp (fun n => n.back t1) id
/-- a new list around -/
theorem EF.cons {fr sh : Bool} {A : List Addr} {p : Addr} (S : SR K n own vw Z P σ H1 env As1) (t : TR own false H As H1 As1 ∨ TR own true H As H1 As1) (m : ∀ a ∈ A, MutH H1 a) (hp : H1 p = none) (e : EF own Z fr sh H As As1 A) : EF own Z fr sh H As As1 (p :: A) := by
  have hH : H p = none := by
    cases q : H p with
    | none => rfl
    | some o => exact absurd hp ((t.elim (fun t => t.mono) (fun t => t.mono)) p (by rw [q]; simp))
  have np : New own H As As1 p := ⟨.inl hH, fun c => S.own_some c hp⟩
  refine ⟨fun h => ⟨List.nodup_cons.mpr ⟨fun c => ?_, (e.1 h).1⟩, fun a ha => ?_⟩, fun h a ha => ?_, fun a ha => ?_⟩
  · obtain ⟨xs, q⟩ := m p c
    rw [hp] at q; cases q
  · rcases List.mem_cons.mp ha with z | ha
    · exact z ▸ np
    · exact (e.1 h).2 a ha
  · rcases List.mem_cons.mp ha with z | ha
    · exact .inl (z ▸ np)
    · exact e.2.1 h a ha
  · rcases List.mem_cons.mp ha with z | ha
    · exact .inl (z ▸ hH)
    · exact e.2.2 a ha
end
theorem same_new {H : Hp} {p : Addr} {o : HO} (h : H p = none) : Same H (upd H p o) := fun a u e => by
  rw [upd_ne (ne_of_none e h)]
  exact e
section
variable {X : Cx}
def WE (X : Cx) (e : Expr) : TE := fun σ H Q => ∀ pins s, Inv X pins σ H s → wpAny (model X.prog X.w) X.A (eval e X.env) (EP X pins σ Q) X.xe s
def WT (X : Cx) (e : Expr) : TT := fun σ H Q => ∀ pins s, Inv X pins σ H s → wpAny (model X.prog X.w) X.A (isTrue e X.env (eval e X.env)) (TP X pins σ Q) X.xe s
def WW (X : Cx) (e : Expr) : TT := fun σ H Q => ∀ whole pins s, Inv X pins σ H s → wpAny (model X.prog X.w) X.A (isTrue e X.env whole) (TP X pins σ Q) X.xe s
def WA (X : Cx) (es : List Expr) : TA := fun σ H Q => ∀ pos pins s, Inv X pins σ H s → wpAny (model X.prog X.w) X.A (spliced (backTo pos (starEach es X.env))) (AP X pins σ Q) X.xe s
def WS (X : Cx) (st : Stmt) : TS := fun D σ H => ∀ pins s, Inv X pins σ H s → wpAny (model X.prog X.w) X.A (exec st X.env) (SP X pins D) X.xe s
def WSs (X : Cx) (st : List Stmt) : TS := fun D σ H => ∀ pins s, Inv X pins σ H s → wpAny (model X.prog X.w) X.A (execs st X.env) (SP X pins D) X.xe s
def WO (X : Cx) (e : Option Expr) : TO := fun σ H Q => ∀ pins s, Inv X pins σ H s → wpAny (model X.prog X.w) X.A (evalPart e X.env) (fun u s' => ∃ o H', Inv X pins σ H' s' ∧ IsPart u o ∧ Q o H') X.xe s
theorem we {e : Expr} : PE X e (WE X e) := ⟨fun pins s σ H Q I h => h pins s I⟩
theorem wt {e : Expr} : PT X e (WT X e) := ⟨fun pins s σ H Q I h => h pins s I⟩
theorem ww {e : Expr} : PW X e (WW X e) := ⟨fun whole pins s σ H Q I h => h whole pins s I⟩
theorem wa {es : List Expr} : PA X es (WA X es) := ⟨fun pos pins s σ H Q I h => h pos pins s I⟩
theorem ws {st : Stmt} : PS X st (WS X st) := ⟨fun pins s σ H D I h => h pins s I⟩
theorem wss {st : List Stmt} : PSs X st (WSs X st) := ⟨fun pins s σ H D I h => h pins s I⟩
theorem wo {e : Option Expr} : PO X e (WO X e) := ⟨fun pins s σ H Q I h => h pins s I⟩
theorem _root_.L2.PE.we {e : Expr} {t : TE} {σ : L2.St} {H : Hp} {Q : VK} (h : PE X e t) (q : t σ H Q) : WE X e σ H Q := fun pins s I => h.run pins s σ H Q I q
theorem _root_.L2.PT.we {e : Expr} {t : TT} {σ : L2.St} {H : Hp} {Q : Bool → Hp → Prop} (h : PT X e t) (q : t σ H Q) : WT X e σ H Q := fun pins s I => h.run pins s σ H Q I q
theorem _root_.L2.PW.we {e : Expr} {t : TT} {σ : L2.St} {H : Hp} {Q : Bool → Hp → Prop} (h : PW X e t) (q : t σ H Q) : WW X e σ H Q := fun wh pins s I => h.run wh pins s σ H Q I q
theorem _root_.L2.PA.we {e : List Expr} {t : TA} {σ : L2.St} {H : Hp} {Q : List V → Hp → Prop} (h : PA X e t) (q : t σ H Q) : WA X e σ H Q := fun pos pins s I => h.run pos pins s σ H Q I q
theorem _root_.L2.PS.we {e : Stmt} {t : TS} {σ : L2.St} {H : Hp} {D : Ends} (h : PS X e t) (q : t D σ H) : WS X e D σ H := fun pins s I => h.run pins s σ H D I q
theorem _root_.L2.PSs.we {e : List Stmt} {t : TS} {σ : L2.St} {H : Hp} {D : Ends} (h : PSs X e t) (q : t D σ H) : WSs X e D σ H := fun pins s I => h.run pins s σ H D I q
theorem _root_.L2.PO.we {e : Option Expr} {t : TO} {σ : L2.St} {H : Hp} {Q : Option Int → Hp → Prop} (h : PO X e t) (q : t σ H Q) : WO X e σ H Q := fun pins s I => h.run pins s σ H Q I q
end
end Cy
end
section
set_option Elab.async false
set_option linter.all false
set_option maxRecDepth 100000
set_option maxHeartbeats 4000000
namespace Cy
open PySem L2 PyProof.Rows
variable [ClTab] [Fxd]
/-- from a slot's value along a path -/
def NavV (H : Hp) (v0 : V) : List AcV → V → Prop
  | [], u => u = v0
  | .i (.int k) :: q, u => ∃ p vs j w, v0 = .ref p ∧ H p = some (.lst vs) ∧ ixP vs.length k = some j ∧ vs[j]? = some w ∧ NavV H w q u
  | .f x :: q, u => ∃ p C dx fs w, v0 = .ref p ∧ H p = some (.ins C dx fs) ∧ fs.lookup x = some w ∧ NavV H w q u
  | _, _ => False
abbrev Nav (H : Hp) (v0 : V) (q : List AcV) (t : Addr) : Prop := NavV H v0 q (.ref t)
theorem NavV.app {H : Hp} : ∀ {q : List AcV} {v0 w u : V} {q2 : List AcV}, NavV H v0 q w → NavV H w q2 u → NavV H v0 (q ++ q2) u
  | [], v0, w, u, q2, h, g => by
    simp only [NavV] at h; subst h; exact g
  | .i (.int k) :: q, v0, w, u, q2, h, g => by
    simp only [NavV] at h
    obtain ⟨p, vs, j, z, h1, h2, h3, h4, h5⟩ := h
    show NavV H v0 (.i (.int k) :: (q ++ q2)) u
    simp only [NavV]
    exact ⟨p, vs, j, z, h1, h2, h3, h4, NavV.app h5 g⟩
  | .f x :: q, v0, w, u, q2, h, g => by
    simp only [NavV] at h
    obtain ⟨p, C, dx, fs, z, h1, h2, h3, h5⟩ := h
    show NavV H v0 (.f x :: (q ++ q2)) u
    simp only [NavV]
    exact ⟨p, C, dx, fs, z, h1, h2, h3, NavV.app h5 g⟩
  | .i .non :: q, v0, w, u, q2, h, g => by simp [NavV] at h
  | .i (.bl _) :: q, v0, w, u, q2, h, g => by simp [NavV] at h
  | .i (.str _) :: q, v0, w, u, q2, h, g => by simp [NavV] at h
  | .i (.tup _) :: q, v0, w, u, q2, h, g => by simp [NavV] at h
  | .i (.lst _) :: q, v0, w, u, q2, h, g => by simp [NavV] at h
  | .i (.scr _) :: q, v0, w, u, q2, h, g => by simp [NavV] at h
  | .i (.dct _ _) :: q, v0, w, u, q2, h, g => by simp [NavV] at h
  | .i (.obj _ _ _) :: q, v0, w, u, q2, h, g => by simp [NavV] at h
  | .i (.frz _) :: q, v0, w, u, q2, h, g => by simp [NavV] at h
  | .i (.hol _) :: q, v0, w, u, q2, h, g => by simp [NavV] at h
  | .i .any :: q, v0, w, u, q2, h, g => by simp [NavV] at h
theorem NavV.keep {H1 H2 : Hp} (k : ∀ a o, H1 a = some o → H2 a = some o) : ∀ {q : List AcV} {v0 u : V}, NavV H1 v0 q u → NavV H2 v0 q u
  | [], v0, u, h => by simpa only [NavV] using h
  | .i (.int kk) :: q, v0, u, h => by
    simp only [NavV] at h ⊢
    obtain ⟨p, vs, j, z, h1, h2, h3, h4, h5⟩ := h
    exact ⟨p, vs, j, z, h1, k _ _ h2, h3, h4, NavV.keep k h5⟩
  | .f x :: q, v0, u, h => by
    simp only [NavV] at h ⊢
    obtain ⟨p, C, dx, fs, z, h1, h2, h3, h5⟩ := h
    exact ⟨p, C, dx, fs, z, h1, k _ _ h2, h3, NavV.keep k h5⟩
  | .i .non :: q, v0, u, h => by simp [NavV] at h
  | .i (.bl _) :: q, v0, u, h => by simp [NavV] at h
  | .i (.str _) :: q, v0, u, h => by simp [NavV] at h
  | .i (.tup _) :: q, v0, u, h => by simp [NavV] at h
  | .i (.lst _) :: q, v0, u, h => by simp [NavV] at h
  | .i (.scr _) :: q, v0, u, h => by simp [NavV] at h
  | .i (.dct _ _) :: q, v0, u, h => by simp [NavV] at h
  | .i (.obj _ _ _) :: q, v0, u, h => by simp [NavV] at h
  | .i (.frz _) :: q, v0, u, h => by simp [NavV] at h
  | .i (.hol _) :: q, v0, u, h => by simp [NavV] at h
  | .i .any :: q, v0, u, h => by simp [NavV] at h
section
variable {K : PySem.W.Frag} {n : Nat} {own vw : List Nat} {Z P : Addr → Prop} {σ : L2.St} {H H1 H2 : Hp} {env env1 env2 : En} {As As1 As2 : Asg}
theorem Nav.step {io : Bool} {v0 : V} {q : List AcV} {t : Addr} (T : TR own io H1 As1 H2 As2) (c : q = [] ∨ io = false) (h : Nav H1 v0 q t) : Nav H2 v0 q t := by
  rcases c with c | c
  · subst c
    simp only [Nav, NavV] at h ⊢
    exact h
  · exact NavV.keep (fun a o e => T.keep a o e (fun z => by rw [c] at z; cases z)) h
/-- one item exchanged -/
theorem Reps.sub : ∀ {ds : List D} {vs : List V} {A : List Addr} {j : Nat} {dj : D}, Reps K H vs ds A → ds[j]? = some dj →
    ∃ A1 C A2 v, A = A1 ++ C ++ A2 ∧ vs[j]? = some v ∧ Rep K H v dj C ∧ ∀ H' C' d', (∀ a o, H a = some o → (∀ xs : MO, o ≠ xs.1) → H' a = some o) → (∀ a, a ∈ A1 ∨ a ∈ A2 → ∀ o, H a = some o → H' a = some o) → Rep K H' v d' C' → Reps K H' vs (ds.set j d') (A1 ++ C' ++ A2)
  | _, _, _, _, _, .nil, h => by simp at h
  | _, _, _, 0, dj, .cons (v := v) (vs := vs) (A := A0) (B := B0) r t, h => by
    simp at h; subst h
    refine ⟨[], A0, B0, v, by simp, rfl, r, fun H' C' d' k1 k2 r' => ?_⟩
    have := Reps.cons r' (t.keep k1 fun a ha => k2 a (.inr ha))
    simpa using this
  | _, _, _, j + 1, dj, .cons (v := v) (vs := vs) (A := A0) (B := B0) r t, h => by
    obtain ⟨A1, C, A2, w, e, g, rw', f⟩ := Reps.sub (j := j) t (by simpa using h)
    refine ⟨A0 ++ A1, C, A2, w, by rw [e]; simp, by simpa using g, rw', fun H' C' d' k1 k2 r' => ?_⟩
    have z := Reps.cons (r.keep k1 fun a ha => k2 a (.inl (List.mem_append_left _ ha))) (f H' C' d' k1 (fun a ha => k2 a (ha.imp (fun x => List.mem_append_right _ x) id)) r')
    simpa using z
theorem nodup_mid {A1 C C' A2 : List Addr} (h : (A1 ++ C ++ A2).Nodup) (n : C'.Nodup) (s : ∀ a ∈ C', a ∈ C ∨ a ∉ A1 ++ C ++ A2) : (A1 ++ C' ++ A2).Nodup := by
  obtain ⟨h1, h2, h3⟩ := List.nodup_append.mp h
  obtain ⟨h4, h5, h6⟩ := List.nodup_append.mp h1
  refine List.nodup_append.mpr ⟨List.nodup_append.mpr ⟨h4, n, fun a ha b hb e => ?_⟩, h2, fun a ha b hb e => ?_⟩
  · subst e
    rcases s a hb with z | z
    · exact h6 a ha a z rfl
    · exact z (by simp [ha])
  · subst e
    rcases List.mem_append.mp ha with ha | ha
    · exact h3 a (List.mem_append_left _ ha) a hb rfl
    · rcases s a ha with z | z
      · exact h3 a (List.mem_append_right _ z) a hb rfl
      · exact z (by simp [hb])
/-- one attribute exchanged -/
theorem fld_sub : ∀ {fvs : List (Str × V)} {ds : List D} {A : List Addr} {x : Str} {dj : D}, Reps K H (fvs.map (·.2)) ds A → getF x (fvs.map (·.1)) ds = some dj →
    ∃ A1 C A2 v, A = A1 ++ C ++ A2 ∧ fvs.lookup x = some v ∧ Rep K H v dj C ∧ ∀ H' C' d', (∀ a o, H a = some o → (∀ xs : MO, o ≠ xs.1) → H' a = some o) → (∀ a, a ∈ A1 ∨ a ∈ A2 → ∀ o, H a = some o → H' a = some o) → Rep K H' v d' C' →
      Reps K H' (fvs.map (·.2)) (setFv x d' (fvs.map (·.1)) ds) (A1 ++ C' ++ A2)
  | [], _, _, _, _, r, h => by cases r; simp [getF] at h
  | (f, v) :: fvs, _, _, x, dj, .cons (A := A0) (B := B0) r t, h => by
    simp only [List.map_cons, getF] at h
    by_cases e : f = x
    · rw [if_pos e] at h
      simp only [Option.some.injEq] at h; subst h
      refine ⟨[], A0, B0, v, by simp, by simp [List.lookup, e], r, fun H' C' d' k1 k2 r' => ?_⟩
      have := Reps.cons r' (t.keep k1 fun a ha => k2 a (.inr ha))
      simpa only [List.map_cons, setFv, if_pos e, List.nil_append] using this
    · rw [if_neg e] at h
      obtain ⟨A1, C, A2, w, e1, g, rw', f'⟩ := fld_sub (fvs := fvs) t h
      refine ⟨A0 ++ A1, C, A2, w, by rw [e1]; simp, ?_, rw', fun H' C' d' k1 k2 r' => ?_⟩
      · have : (x == f) = false := beq_eq_false_iff_ne.mpr fun z => e z.symm
        simp only [List.lookup, this]; exact g
      · have z := Reps.cons (r.keep k1 fun a ha => k2 a (.inl (List.mem_append_left _ ha))) (f' H' C' d' k1 (fun a ha => k2 a (ha.imp (fun x => List.mem_append_right _ x) id)) r')
        simpa only [List.map_cons, setFv, if_neg e, List.append_assoc] using z
/-- what stands at a path's end, and what another thing there makes of all -/
theorem focus {f : D → Option D} : ∀ {q : List AcV} {v0 u : V} {d0 d' : D} {A : List Addr}, Rep K H v0 d0 A → NavV H v0 q u → updD q f d0 = some d' →
    ∃ dt dt' A1 C A2, f dt = some dt' ∧ A = A1 ++ C ++ A2 ∧ Rep K H u dt C ∧ getP q d0 = some dt ∧
      ∀ H' C', (∀ a o, H a = some o → (∀ xs : MO, o ≠ xs.1) → H' a = some o) → (∀ a, a ∈ A1 ∨ a ∈ A2 → ∀ o, H a = some o → H' a = some o) → Rep K H' u dt' C' → Rep K H' v0 d' (A1 ++ C' ++ A2)
  | [], v0, u, d0, d', A, r, h, hu => by
    simp only [NavV] at h; subst h
    simp only [updD] at hu
    exact ⟨d0, d', [], A, [], hu, by simp, r, rfl, fun H' C' _ _ r' => by simpa using r'⟩
  | .i (.int k) :: q, v0, u, d0, d', A, r, h, hu => by
    simp only [NavV] at h
    obtain ⟨p, vs, j, w, rfl, h2, h3, h4, h5⟩ := h
    simp only [updD, Option.bind_eq_some_iff] at hu
    obtain ⟨c, hc, c', hc', hu⟩ := hu
    cases r with
    | @lst p' vs' ds A0 g1 r =>
      rw [h2] at g1
      simp only [Option.some.injEq, HO.lst.injEq] at g1
      subst g1
      have hl := r.length
      simp only [ixD, setD, ← hl, h3, Option.bind_some, Option.map_some, Option.some.injEq] at hc hu
      subst hu
      obtain ⟨A1, Cc, A2, w', eA, g, rw', fin⟩ := r.sub hc
      rw [h4] at g
      simp only [Option.some.injEq] at g
      subst g
      obtain ⟨dt, dt', B1, C, B2, i1, i2, i3, i4, i5⟩ := focus rw' h5 hc'
      refine ⟨dt, dt', p :: (A1 ++ B1), C, B2 ++ A2, i1, by rw [eA, i2]; simp, i3, ?_, fun H' C' k1 k2 r' => ?_⟩
      · simp only [getP, ixD, ← hl, h3, Option.bind_some, hc, i4]
      · have r2 := i5 H' C' k1 (fun a ha => k2 a (ha.imp (fun z => by simp [z]) (fun z => by simp [z]))) r'
        have r3 := fin H' _ _ k1 (fun a ha => k2 a (ha.imp (fun z => by simp [z]) (fun z => by simp [z]))) r2
        have := Rep.lst (K := K) (k2 p (.inl (by simp)) _ h2) r3
        simpa using this
    | _ => simp [setD] at hu
  | .f x :: q, v0, u, d0, d', A, r, h, hu => by
    simp only [NavV] at h
    obtain ⟨p, C, dx, fs, w, rfl, h2, h4, h5⟩ := h
    simp only [updD, Option.bind_eq_some_iff] at hu
    obtain ⟨c, hc, c', hc', hu⟩ := hu
    cases r with
    | @obj p' C' dx' cn fvs fs' ds A0 g1 g2 g3 r =>
      rw [h2] at g1
      simp only [Option.some.injEq, HO.ins.injEq] at g1
      obtain ⟨rfl, rfl, rfl⟩ := g1
      subst g3
      simp only [fldD] at hc
      simp only [setF, Option.some.injEq] at hu
      subst hu
      obtain ⟨A1, Cc, A2, w', eA, g, rw', fin⟩ := fld_sub r hc
      rw [h4] at g
      simp only [Option.some.injEq] at g
      subst g
      obtain ⟨dt, dt', B1, C, B2, i1, i2, i3, i4, i5⟩ := focus rw' h5 hc'
      refine ⟨dt, dt', p :: (A1 ++ B1), C, B2 ++ A2, i1, by rw [eA, i2]; simp, i3, ?_, fun H' C' k1 k2 r' => ?_⟩
      · simp only [getP, fldD, hc, Option.bind_some, i4]
      · have r2 := i5 H' C' k1 (fun a ha => k2 a (ha.imp (fun z => by simp [z]) (fun z => by simp [z]))) r'
        have r3 := fin H' _ _ k1 (fun a ha => k2 a (ha.imp (fun z => by simp [z]) (fun z => by simp [z]))) r2
        have := Rep.obj (K := K) (k2 p (.inl (by simp)) _ h2) g2 rfl r3
        simpa using this
    | _ => simp [setF] at hu
  | .i .non :: q, _, _, _, _, _, _, h, _ => by simp [NavV] at h
  | .i (.bl _) :: q, _, _, _, _, _, _, h, _ => by simp [NavV] at h
  | .i (.str _) :: q, _, _, _, _, _, _, h, _ => by simp [NavV] at h
  | .i (.tup _) :: q, _, _, _, _, _, _, h, _ => by simp [NavV] at h
  | .i (.lst _) :: q, _, _, _, _, _, _, h, _ => by simp [NavV] at h
  | .i (.scr _) :: q, _, _, _, _, _, _, h, _ => by simp [NavV] at h
  | .i (.dct _ _) :: q, _, _, _, _, _, _, h, _ => by simp [NavV] at h
  | .i (.obj _ _ _) :: q, _, _, _, _, _, _, h, _ => by simp [NavV] at h
  | .i (.frz _) :: q, _, _, _, _, _, _, h, _ => by simp [NavV] at h
  | .i (.hol _) :: q, _, _, _, _, _, _, h, _ => by simp [NavV] at h
  | .i .any :: q, _, _, _, _, _, _, h, _ => by simp [NavV] at h
/-- what is at a path's end -/
theorem nav_rep : ∀ {q : List AcV} {v0 u : V} {d0 dt : D} {A : List Addr}, Rep K H v0 d0 A → NavV H v0 q u → getP q d0 = some dt → ∃ C, Rep K H u dt C ∧ C.Sublist A
  | [], v0, u, d0, dt, A, r, h, hu => by
    simp only [NavV] at h; subst h
    simp only [getP, Option.some.injEq] at hu; subst hu
    exact ⟨A, r, List.Sublist.refl _⟩
  | .i (.int k) :: q, v0, u, d0, dt, A, r, h, hu => by
    simp only [NavV] at h
    obtain ⟨p, vs, j, w, rfl, h2, h3, h4, h5⟩ := h
    cases r with
    | @lst p' vs' ds A0 g1 r =>
      rw [h2] at g1
      simp only [Option.some.injEq, HO.lst.injEq] at g1
      subst g1
      have hl := r.length
      simp only [getP, ixD, ← hl, h3, Option.bind_some, Option.bind_eq_some_iff] at hu
      obtain ⟨c, hc, hu⟩ := hu
      obtain ⟨w', B, g, rw', sB⟩ := r.get hc
      rw [h4] at g
      simp only [Option.some.injEq] at g
      subst g
      obtain ⟨C, i1, i2⟩ := nav_rep rw' h5 hu
      exact ⟨C, i1, i2.trans (sB.trans (List.sublist_cons_self _ _))⟩
    | _ => simp [getP] at hu
  | .f x :: q, v0, u, d0, dt, A, r, h, hu => by
    simp only [NavV] at h
    obtain ⟨p, C, dx, fs, w, rfl, h2, h4, h5⟩ := h
    cases r with
    | @obj p' C' dx' cn fvs fs' ds A0 g1 g2 g3 r =>
      rw [h2] at g1
      simp only [Option.some.injEq, HO.ins.injEq] at g1
      obtain ⟨rfl, rfl, rfl⟩ := g1
      subst g3
      simp only [getP, fldD, Option.bind_eq_some_iff] at hu
      obtain ⟨c, hc, hu⟩ := hu
      obtain ⟨A1, Cc, A2, w', eA, g, rw', _⟩ := fld_sub r hc
      rw [h4] at g
      simp only [Option.some.injEq] at g
      subst g
      obtain ⟨C, i1, i2⟩ := nav_rep rw' h5 hu
      refine ⟨C, i1, i2.trans ?_⟩
      rw [eA]
      exact ((List.sublist_append_right A1 Cc).trans (List.sublist_append_left _ A2)).trans (List.sublist_cons_self _ _)
    | _ => simp [getP] at hu
  | .i .non :: q, _, _, _, _, _, _, h, _ => by simp [NavV] at h
  | .i (.bl _) :: q, _, _, _, _, _, _, h, _ => by simp [NavV] at h
  | .i (.str _) :: q, _, _, _, _, _, _, h, _ => by simp [NavV] at h
  | .i (.tup _) :: q, _, _, _, _, _, _, h, _ => by simp [NavV] at h
  | .i (.lst _) :: q, _, _, _, _, _, _, h, _ => by simp [NavV] at h
  | .i (.scr _) :: q, _, _, _, _, _, _, h, _ => by simp [NavV] at h
  | .i (.dct _ _) :: q, _, _, _, _, _, _, h, _ => by simp [NavV] at h
  | .i (.obj _ _ _) :: q, _, _, _, _, _, _, h, _ => by simp [NavV] at h
  | .i (.frz _) :: q, _, _, _, _, _, _, h, _ => by simp [NavV] at h
  | .i (.hol _) :: q, _, _, _, _, _, _, h, _ => by simp [NavV] at h
  | .i .any :: q, _, _, _, _, _, _, h, _ => by simp [NavV] at h
/-- a thing that may change stands at an address of its own -/
def muD : D → Bool
  | .lst _ | .dct _ _ | .obj _ _ _ => true
  | _ => false
theorem Rep.muA {t : Addr} {d : D} {C : List Addr} (r : Rep K H (.ref t) d C) (h : muD d = true) : ∃ C0, C = t :: C0 ∧ MutH H t := by
  cases r with
  | lst h1 r => exact ⟨_, rfl, ⟨.lst _, trivial⟩, h1⟩
  | dct h1 e r => exact ⟨_, rfl, ⟨.dK _, trivial⟩, h1⟩
  | obj h1 c e r => exact ⟨_, rfl, ⟨.ins _ _ _, trivial⟩, h1⟩
  | _ => simp [muD] at h
/-- what is changed at a path's end -/
theorem nav_updG {v0 : V} {d0 d' : D} {A : List Addr} {q : List AcV} {t : Addr} {f : D → Option D} (r : Rep K H v0 d0 A) (nd : A.Nodup) (nv : Nav H v0 q t) (hu : updD q f d0 = some d') (hf : ∀ d y, f d = some y → muD d = true) :
    ∃ dt dt' C0, f dt = some dt' ∧ Rep K H (.ref t) dt (t :: C0) ∧ (∀ a ∈ C0, a ∈ A) ∧ t ∈ A ∧ t ∉ C0 ∧ C0.Nodup ∧
      ∀ ho' C0', Rep K (upd H t ho') (.ref t) dt' (t :: C0') → C0'.Nodup → t ∉ C0' → (∀ a ∈ C0', a ∈ C0 ∨ a ∉ A) → ∃ A', Rep K (upd H t ho') v0 d' A' ∧ A'.Nodup ∧ ∀ a ∈ A', a ∈ A ∨ a ∈ C0' := by
  obtain ⟨dt, dt', A1, C, A2, i1, rfl, i3, _, i5⟩ := focus r nv hu
  obtain ⟨C0, rfl, mt⟩ := i3.muA (hf _ _ i1)
  have tin : t ∈ A1 ++ (t :: C0) ++ A2 := by simp
  obtain ⟨m1, m2, m3⟩ := List.nodup_append.mp nd
  obtain ⟨m4, m5, m6⟩ := List.nodup_append.mp m1
  obtain ⟨m7, m8⟩ := List.nodup_cons.mp m5
  refine ⟨dt, dt', C0, i1, i3, fun a h => by simp [h], tin, m7, m8, fun ho' C0' r' k1 k2 k3 => ⟨A1 ++ (t :: C0') ++ A2, i5 _ _ (fun a o h g => ?_) (fun a ha o h => ?_) r', nodup_mid nd (List.nodup_cons.mpr ⟨k2, k1⟩) fun a ha => ?_, fun a ha => ?_⟩⟩
  · obtain ⟨xs, m⟩ := mt
    rw [upd_ne (show a ≠ t from fun z => g xs (by rw [z, m] at h; exact (Option.some.inj h).symm))]; exact h
  · rw [upd_ne]
    · exact h
    · rintro rfl
      rcases ha with ha | ha
      · exact m6 a ha a (List.mem_cons_self ..) rfl
      · exact m3 a (List.mem_append_right _ (List.mem_cons_self ..)) a ha rfl
  · rcases List.mem_cons.mp ha with z | z
    · exact .inl (by rw [z]; exact List.mem_cons_self ..)
    · rcases k3 a z with y | y
      · exact .inl (List.mem_cons_of_mem _ y)
      · exact .inr y
  · rcases List.mem_append.mp ha with z | z
    · rcases List.mem_append.mp z with z | z
      · exact .inl (by simp [z])
      · rcases List.mem_cons.mp z with z | z
        · exact .inl (by simp [z])
        · exact .inr z
    · exact .inl (by simp [z])
end
end Cy
end
section
set_option Elab.async false
set_option linter.all false
set_option maxRecDepth 100000
set_option maxHeartbeats 4000000
namespace Cy
open PySem PySem.Spec PyProof.Rows L2
theorem tup1W (l : Addr) (items : Array Value) (n : Nat) (dd : Option Addr) (sl : Array (Option Value)) (u : Tok) :
    Meets (Builtin.«tuple.__mul__» ⟨[.ref l, .int 1 u], []⟩) (fun _ R s => s.heap.get? l = some { cls := .type "tuple", dict := dd, data := .seq items n, slots := sl } ∧ R (.ok (.ret (Value.ref l))) s) :=
  .of_wp fun prog w A R s h => by
    obtain ⟨hp, g0, d0, tk0, os0⟩ := s
    obtain ⟨hl, hR⟩ := h
    have ix := AutoSeq1.idx_int
    wp_walk using wpAny_loadPart' hl
    exact ⟨_, rfl, hR⟩
variable {X : Cx}
theorem op_tup1 : OpR X (binaryOp .Mult) (fun x y H Q => ∃ l xs, x = .ref l ∧ y = .int 1 ∧ SqT X.K H l xs ∧ xs ≠ [] ∧ Q (.ref l) H) := by
  intro pins s σ H x y v u Q I rx ry h
  obtain ⟨l, xs, rfl, rfl, hT, hne, q⟩ := h
  cases rx
  obtain ⟨tk1, rfl⟩ := ry
  obtain ⟨vs, rr, ⟨⟨c1, d1, dt1, s1⟩, hget, hcl, m1, hdt⟩, hsm⟩ := I.tuple hT
  simp only at hcl hdt
  subst hcl hdt
  refine wpAny_binaryOp_repeat_ref (T := "tuple") (U := "int") (by decide) ⟨_, hget, rfl⟩
    (fun s' => typeIs_int s' 1 tk1) noFill_tuple_mul F.fills_int_mul F.slot_int_rmul
    repeat_tuple F.slot_int_index.lookup ?_
  refine call_meets F.slot_int_rmul (typeIs_int s 1 tk1) F.entry_int_rmul (F.args_int_rmul_2 _ _)
    (int_rmul_tuple 1 tk1 l vs.toArray m1 d1 s1) ⟨hget, rfl, ⟨_, hget, rfl⟩, ?_⟩
  refine call_meets F.slot_tuple_mul ⟨_, hget, rfl⟩ F.entry_tuple_mul
    (F.args_tuple_mul_2 _ _) (tup1W l vs.toArray m1 d1 s1 tk1) ⟨hget, ?_⟩
  exact ⟨.ref l, _, I, rfl, q⟩
end Cy
end
section
set_option Elab.async false
set_option linter.all false
set_option maxRecDepth 100000
set_option maxHeartbeats 1000000
namespace Cy
open PySem L2 PyProof.Rows Bits
variable [ClTab] [Fxd]

/-- a value made of others: nothing changed; its lists are some of theirs, or a new one around some of theirs -/
def VO (H : Hp) (A : List Addr) (H' : Hp) (A' : List Addr) (pu : Bool) : Prop :=
  Same H H' ∧ ∃ B, B.Sublist A ∧ (pu = true → B = []) ∧ (A' = B ∨ ∃ p, H p = none ∧ A' = p :: B)
theorem VO.nil {H : Hp} {A : List Addr} {pu : Bool} : VO H A H [] pu := ⟨Same.refl H, [], List.nil_sublist _, fun _ => rfl, .inl rfl⟩
theorem VO.grow {H H' : Hp} {A : List Addr} {pu : Bool} (e : Same H H') : VO H A H' [] pu := ⟨e, [], List.nil_sublist _, fun _ => rfl, .inl rfl⟩
theorem VO.sub {H : Hp} {A B : List Addr} (h : B.Sublist A) : VO H A H B false := ⟨Same.refl H, B, h, fun e => (Bool.noConfusion e), .inl rfl⟩
theorem VO.new {H : Hp} {A B : List Addr} {p : Addr} {o : HO} (hp : H p = none) (h : B.Sublist A) : VO H A (upd H p o) (p :: B) false := ⟨same_new hp, B, h, fun e => (Bool.noConfusion e), .inr ⟨p, hp, rfl⟩⟩
theorem VO.new0 {H : Hp} {A : List Addr} {p : Addr} {o : HO} {pu : Bool} (hp : H p = none) : VO H A (upd H p o) [p] pu := ⟨same_new hp, [], List.nil_sublist _, fun _ => rfl, .inr ⟨p, hp, rfl⟩⟩
theorem VO.newT {H : Hp} {A B : List Addr} {p : Addr} {o : HO} (hp : H p = none) (h : B.Sublist A) : VO H A (upd H p o) B false := ⟨same_new hp, B, h, fun e => (Bool.noConfusion e), .inl rfl⟩
theorem fin {K : PySem.W.Frag} {n : Nat} {own vw : List Nat} {Z P : Addr → Prop} {σ : L2.St} {H H1 H' : Hp} {env1 : En} {As As1 : Asg} {io f s pu : Bool} {A A' : List Addr}
    (S1 : SR K n own vw Z P σ H1 env1 As1) (t : TR own io H As H1 As1) (m : ∀ a ∈ A, MutH H1 a) (e : EF own Z f s H As As1 A) (vo : VO H1 A H' A' pu) :
    SR K n own vw Z P σ H' env1 As1 ∧ TR own io H As H' As1 ∧ EF own Z (f || pu) (s || f || pu) H As As1 A' := by
  obtain ⟨sm, B, hb, hp, hA⟩ := vo
  refine ⟨S1.grow sm, t.trans (TR.grow (io := io) sm) id id, ?_⟩
  have eB : EF own Z (f || pu) (s || f || pu) H As As1 B := by
    by_cases hpu : pu = true
    · rw [hp hpu]; exact EF.pure
    · have hpu : pu = false := by simpa using hpu
      subst hpu
      have e2 := e.sub hb
      refine ⟨fun h => e2.1 (by simpa using h), fun h a ha => ?_, e2.2.2⟩
      simp only [Bool.or_false, Bool.or_eq_true] at h
      rcases h with h | h
      · exact e2.2.1 h a ha
      · exact .inl ((e2.1 h).2 a ha)
  rcases hA with rfl | ⟨p, hp1, rfl⟩
  · exact eB
  · refine EF.cons S1 ?_ (fun a ha => m a (hb.subset ha)) hp1 eB
    cases io
    · exact .inl t
    · exact .inr t
theorem BIG_log {i : Int} (h : i.natAbs < BIG) : Builtin.Int.intBits i ≤ 1000000 := by
  unfold Builtin.Int.intBits
  split
  · omega
  · rename_i h0
    have h1 : i.natAbs ≠ 0 := by
      intro e
      apply h0
      have : i = 0 := by omega
      simp [this]
    have := (Nat.log2_lt h1).mpr (show i.natAbs < 2 ^ 1000000 from h)
    omega
theorem line_LMX {n : Nat} (h : n ≤ LMX) : n ≤ sizeLine := Nat.le_trans h (by rw [sizeLine_eq]; decide)
theorem line_ltLMX {n : Nat} (h : n < LMX) : n < sizeLine := Nat.lt_of_lt_of_le h (by rw [sizeLine_eq]; decide)
/-- is what an operation gives always without lists of others? -/
def pureOp : BO → Bool
  | .cat => false
  | _ => true
def opOf : BO → Operator
  | .add => .Add | .cat => .Add | .rep => .Mult | .sub => .Sub | .mul => .Mult | .fdiv => .FloorDiv | .mod => .Mod | .pow => .Pow
  | .shl => .LShift | .shr => .RShift | .band => .BitAnd | .bor => .BitOr | .bxor => .BitXor
/-- an operation by data -/
def rBin (K : PySem.W.Frag) (o : BO) : R2 := fun x y H Q => ∃ dx dy A B d, Rep K H x dx A ∧ Rep K H y dy B ∧ binD o dx dy = some d ∧ ∀ v H' A', VO H (A ++ B) H' A' (pureOp o) → Rep K H' v d A' → Q v H'
section
variable {X : Cx}
theorem reps_rep {K : PySem.W.Frag} {H : Hp} {ds : List D} {vs : List V} (h : Reps K H vs ds []) : ∀ n : Nat, Reps K H (List.replicate n vs).flatten (List.replicate n ds).flatten []
  | 0 => .nil
  | n + 1 => by
    rw [List.replicate_succ, List.replicate_succ, List.flatten_cons, List.flatten_cons]
    have := Reps.append h (reps_rep h n)
    rwa [List.append_nil] at this
theorem op_bin (o : BO) : OpR X (binaryOp (opOf o)) (rBin X.K o) := by
  intro pins s σ H x y v u Q I rx ry h
  obtain ⟨dx, dy, A, B, d, r1, r2, e, k⟩ := h
  cases o with
  | add =>
    cases r1 with
    | int i =>
      cases r2 with
      | int j =>
        simp only [binD, Option.some.injEq] at e; subst e
        exact op_add pins s σ H _ _ v u Q I rx ry ⟨_, _, rfl, rfl, k _ _ [] .nil (.int _)⟩
      | _ => simp [binD] at e
    | str i =>
      cases r2 with
      | str j =>
        simp only [binD] at e
        split at e
        · rename_i hz
          simp only [Option.some.injEq] at e; subst e
          exact op_add_str pins s σ H _ _ v u Q I rx ry ⟨_, _, rfl, rfl, line_LMX hz, k _ _ [] .nil (.str _)⟩
        · cases e
      | _ => simp [binD] at e
    | _ => cases r2 <;> simp [binD] at e
  | cat =>
    cases r1 with
    | @lst p vs ds A1 h1 r1 =>
      cases r2 with
      | @lst q ws es B1 h2 r2 =>
        simp only [binD] at e
        split at e
        · rename_i hz
          simp only [Option.some.injEq] at e; subst e
          refine op_cat pins s σ H _ _ v u Q I rx ry ⟨_, _, _, _, rfl, rfl, h1, h2, ?_, fun n hn => ?_⟩
          · rw [r1.length, r2.length]; exact line_LMX hz
          · refine k _ _ (n :: (A1 ++ B1)) (VO.new hn ?_) (.lst upd_same ((r1.append r2).mono (same_new hn)))
            exact List.Sublist.append (List.sublist_cons_self _ _) (List.sublist_cons_self _ _)
        · cases e
      | _ => simp [binD] at e
    | @tup p vs ds A1 h1 r1 =>
      cases r2 with
      | @tup q ws es B1 h2 r2 =>
        simp only [binD] at e
        split at e
        · rename_i hz
          simp only [Option.some.injEq] at e; subst e
          refine op_catA pins s σ H _ _ v u Q I rx ry ⟨_, _, _, _, rfl, rfl, h1, h2, ?_, fun hv => ?_, fun hv hw => ?_, fun hv hw n hn => ?_⟩
          · rw [r1.length, r2.length]; exact line_LMX hz
          · subst hv
            cases r1
            exact k _ _ ([] ++ B) (VO.sub (List.Sublist.refl _)) (.tup h2 r2)
          · subst hw
            cases r2
            exact k _ _ (A ++ []) (VO.sub (List.Sublist.refl _)) (by rw [List.append_nil, List.append_nil]; exact .tup h1 r1)
          · exact k _ _ (A ++ B) (VO.newT hn (List.Sublist.refl _)) (.tup (SqT.of upd_same) ((r1.append r2).mono (same_new hn)))
        · cases e
      | _ => simp [binD] at e
    | _ => cases r2 <;> simp [binD] at e
  | rep =>
    cases r2 with
    | int kk =>
      cases r1 with
      | @lst p vs ds A1 h1 r1 =>
        simp only [binD] at e
        split at e
        · rename_i hz
          simp only [Option.some.injEq] at e; subst e
          obtain ⟨z0, z1, z2, z3⟩ := hz
          obtain rfl := r1.pure z3
          have hl := r1.length
          refine op_rep pins s σ H _ _ v u Q I rx ry ⟨_, _, _, rfl, rfl, h1, by omega, by omega, ?_, fun n hn => ?_⟩
          · rw [hl, sizeLine_eq]
            have : ds.length * kk.toNat ≤ 10 * 100000 := Nat.mul_le_mul (by omega) (by omega)
            omega
          · exact k _ _ [n] (VO.new0 hn) (.lst upd_same ((reps_rep r1 _).mono (same_new hn)))
        · cases e
      | @tup p vs ds A1 h1 r1 =>
        simp only [binD] at e
        split at e
        · rename_i hz
          simp only [Option.some.injEq] at e; subst e
          obtain ⟨z0, z1, z4, z2, z3⟩ := hz
          obtain rfl := r1.pure z3
          have hl := r1.length
          by_cases k1 : kk = 1
          · subst k1
            refine op_tup1 pins s σ H _ _ v u Q I rx ry ⟨_, _, rfl, rfl, h1, ?_, ?_⟩
            · intro hv; subst hv; simp at hl; omega
            · have e1 : (List.replicate (Int.toNat 1) ds).flatten = ds := by simp
              rw [e1] at k
              exact k _ _ [] .nil (.tup h1 r1)
          refine op_repT pins s σ H _ _ v u Q I rx ry ⟨_, _, _, rfl, rfl, h1, ?_, by omega, by omega, by omega, fun n hn => ?_⟩
          · intro hv; subst hv; simp at hl; omega
          · exact k _ _ [] (VO.grow (same_new hn)) (.tup (SqT.of upd_same) ((reps_rep r1 _).mono (same_new hn)))
        · cases e
      | str z =>
        simp only [binD] at e
        split at e
        · rename_i hz
          simp only [Option.some.injEq] at e; subst e
          obtain ⟨t1, rfl⟩ := rx
          obtain ⟨t2, rfl⟩ := ry
          exact SB.mul (mulOk_of 16 10000 hz.2.2 (by omega) (by omega) (by decide) (by decide)) fun t' tk => ⟨.str (Txt.mul z kk), H, I.tok _, ⟨_, rfl⟩, k _ _ [] .nil (.str _)⟩
        · cases e
      | _ => simp [binD] at e
    | _ => cases r1 <;> simp [binD] at e
  | sub =>
    cases r1 with
    | int i =>
      cases r2 with
      | int j =>
        simp only [binD, Option.some.injEq] at e; subst e
        exact op_sub pins s σ H _ _ v u Q I rx ry ⟨_, _, rfl, rfl, k _ _ [] .nil (.int _)⟩
      | _ => simp [binD] at e
    | _ => cases r2 <;> simp [binD] at e
  | mul =>
    cases r1 with
    | int i =>
      cases r2 with
      | int j =>
        simp only [binD] at e
        split at e
        · rename_i hz
          simp only [Option.some.injEq] at e; subst e
          refine op_mulX pins s σ H _ _ v u Q I rx ry ⟨_, _, rfl, rfl, ?_, k _ _ [] .nil (.int _)⟩
          have a := BIG_log hz.1
          have b := BIG_log hz.2
          unfold CMulX
          omega
        · cases e
      | _ => simp [binD] at e
    | _ => cases r2 <;> simp [binD] at e
  | fdiv =>
    cases r1 with
    | int i =>
      cases r2 with
      | int j =>
        simp only [binD] at e
        split at e
        · rename_i hz
          simp only [Option.some.injEq] at e; subst e
          exact op_fdivW pins s σ H _ _ v u Q I rx ry ⟨_, _, rfl, rfl, wide_div (b := 8000) hz.1 hz.2 (by decide) (by decide), k _ _ [] .nil (.int _)⟩
        · cases e
      | _ => simp [binD] at e
    | _ => cases r2 <;> simp [binD] at e
  | mod =>
    cases r1 with
    | int i =>
      cases r2 with
      | int j =>
        simp only [binD] at e
        split at e
        · rename_i hz
          simp only [Option.some.injEq] at e; subst e
          exact op_mod pins s σ H _ _ v u Q I rx ry ⟨_, _, rfl, rfl, hz, k _ _ [] .nil (.int _)⟩
        · cases e
      | _ => simp [binD] at e
    | _ => cases r2 <;> simp [binD] at e
  | pow =>
    cases r1 with
    | int i =>
      cases r2 with
      | int j =>
        simp only [binD] at e
        split at e
        · rename_i hz
          simp only [Option.some.injEq] at e; subst e
          exact op_pow pins s σ H _ _ v u Q I rx ry ⟨_, _, rfl, rfl, ⟨hz.1, by omega, by omega⟩, k _ _ [] .nil (.int _)⟩
        · cases e
      | _ => simp [binD] at e
    | _ => cases r2 <;> simp [binD] at e
  | shl =>
    cases r1 with
    | int i =>
      cases r2 with
      | int j =>
        simp only [binD] at e
        split at e
        · rename_i hz
          simp only [Option.some.injEq] at e; subst e
          refine op_shlW pins s σ H _ _ v u Q I rx ry ⟨_, _, rfl, rfl, ⟨hz.1, ?_⟩, k _ _ [] .nil (.int _)⟩
          have a := BIG_log hz.2.2
          omega
        · cases e
      | _ => simp [binD] at e
    | _ => cases r2 <;> simp [binD] at e
  | shr =>
    cases r1 with
    | int i =>
      cases r2 with
      | int j =>
        simp only [binD] at e
        split at e
        · rename_i hz
          simp only [Option.some.injEq] at e; subst e
          exact op_shr pins s σ H _ _ v u Q I rx ry ⟨_, _, rfl, rfl, hz, k _ _ [] .nil (.int _)⟩
        · cases e
      | _ => simp [binD] at e
    | _ => cases r2 <;> simp [binD] at e
  | band =>
    cases r1 with
    | int i =>
      cases r2 with
      | int j =>
        simp only [binD] at e
        split at e
        · rename_i hz
          simp only [Option.some.injEq] at e; subst e
          exact op_and pins s σ H _ _ v u Q I rx ry ⟨_, _, rfl, rfl, by dsimp only; rw [bitAnd_pp hz.1 hz.2]; exact k _ _ [] .nil (.int _)⟩
        · cases e
      | _ => simp [binD] at e
    | _ => cases r2 <;> simp [binD] at e
  | bor =>
    cases r1 with
    | int i =>
      cases r2 with
      | int j =>
        simp only [binD] at e
        split at e
        · rename_i hz
          simp only [Option.some.injEq] at e; subst e
          exact op_or pins s σ H _ _ v u Q I rx ry ⟨_, _, rfl, rfl, by dsimp only; rw [bitOr_pp hz.1 hz.2]; exact k _ _ [] .nil (.int _)⟩
        · cases e
      | _ => simp [binD] at e
    | _ => cases r2 <;> simp [binD] at e
  | bxor =>
    cases r1 with
    | int i =>
      cases r2 with
      | int j =>
        simp only [binD] at e
        split at e
        · rename_i hz
          simp only [Option.some.injEq] at e; subst e
          exact op_xor pins s σ H _ _ v u Q I rx ry ⟨_, _, rfl, rfl, by dsimp only; rw [bitXor_pp hz.1 hz.2]; exact k _ _ [] .nil (.int _)⟩
        · cases e
      | _ => simp [binD] at e
    | _ => cases r2 <;> simp [binD] at e
mutual
def toPy : D → PyData
  | .non => .none
  | .bl b => .bool b
  | .int i => .int i
  | .str x => .str x
  | .tup xs => .tuple (toPys xs)
  | .lst xs => .list (toPys xs)
  | .scr _ | .dct _ _ | .obj _ _ _ | .frz _ | .hol _ | .any | .err _ _ => .dict []
def toPys : List D → List PyData
  | [] => []
  | x :: xs => toPy x :: toPys xs
end
theorem strOk_of {x : Str} (h : strOkB x = true) : PyData.strOk x = true := by
  unfold strOkB at h
  unfold PyData.strOk
  simp only [Bool.and_eq_true, List.all_eq_true, decide_eq_true_eq] at h
  simp only [Array.all_eq_true, decide_eq_true_eq]
  intro i hi
  exact h.1 _ (by simp)
mutual
theorem Rep.dp {K : PySem.W.Frag} {H : Hp} : ∀ {d : D} {v : V} {A : List Addr} (n : Nat), Rep K H v d A → shp n d = true → Dp K H v (toPy d)
  | _, _, _, _, .non, _ => by simp only [toPy]; exact .non
  | _, _, _, _, .bl b, _ => by simp only [toPy]; exact .bl b
  | _, _, _, _, .int i, _ => by simp only [toPy]; exact .int i
  | _, _, _, _, .str x, _ => by simp only [toPy]; exact .str x
  | _, _, _, 0, .tup _ _, h => by simp [shp] at h
  | _, _, _, 0, .lst _ _, h => by simp [shp] at h
  | _, _, _, n + 1, .tup h1 r, h => by
    simp only [shp] at h
    simp only [toPy]
    exact .tup h1 (Reps.dp n r h)
  | _, _, _, n + 1, .lst h1 r, h => by
    simp only [shp] at h
    simp only [toPy]
    exact .lst (SqL.of h1) (Reps.dp n r h)
  | _, _, _, _, .scr _, h => by simp [shp] at h
  | _, _, _, _, .dct _ _ _, h => by simp [shp] at h
  | _, _, _, _, .obj _ _ _ _, h => by simp [shp] at h
  | _, _, _, _, .frz _ _, h => by simp [shp] at h
  | _, _, _, _, .hol _, h => by simp [shp] at h
  | _, _, _, _, .any _, h => by simp [shp] at h
  | _, _, _, _, .er0 _ _ _ _, h => by simp [shp] at h
  | _, _, _, _, .er1 _ _ _ _ _, h => by simp [shp] at h
theorem Reps.dp {K : PySem.W.Frag} {H : Hp} : ∀ {d : List D} {v : List V} {A : List Addr} (n : Nat), Reps K H v d A → shps n d = true → DpAll K H v (toPys d)
  | _, _, _, _, .nil, _ => by simp only [toPys]; exact .nil
  | _, _, _, n, .cons r t, h => by
    simp only [shps, Bool.and_eq_true] at h
    simp only [toPys]
    exact .cons (Rep.dp n r h.1) (Reps.dp n t h.2)
end
mutual
theorem shp_lay : ∀ (n : Nat) (d : D), shp n d = true → (toPy d).canLay0 = true ∧ (toPy d).depth ≤ n
  | n, .non, _ => by simp [toPy, PyData.canLay0, PyData.depth]
  | n, .bl b, _ => by simp [toPy, PyData.canLay0, PyData.depth]
  | n, .int i, _ => by simp [toPy, PyData.canLay0, PyData.depth]
  | n, .str x, h => by
    have h : strOkB x = true := by simpa [shp] using h
    simp [toPy, PyData.canLay0, PyData.depth, strOk_of h]
  | 0, .tup xs, h => by simp [shp] at h
  | 0, .lst xs, h => by simp [shp] at h
  | n + 1, .tup xs, h => by
    simp only [shp] at h
    obtain ⟨a, b⟩ := shps_lay n xs h
    simp only [toPy, PyData.canLay0, PyData.depth]
    exact ⟨a, by omega⟩
  | n + 1, .lst xs, h => by
    simp only [shp] at h
    obtain ⟨a, b⟩ := shps_lay n xs h
    simp only [toPy, PyData.canLay0, PyData.depth]
    exact ⟨a, by omega⟩
  | _, .scr _, h => by simp [shp] at h
  | _, .dct _ _, h => by simp [shp] at h
  | _, .obj _ _ _, h => by simp [shp] at h
theorem shps_lay : ∀ (n : Nat) (d : List D), shps n d = true → PyData.canLayAll0 (toPys d) = true ∧ PyData.depthAll (toPys d) ≤ n
  | n, [], _ => by simp [toPys, PyData.canLayAll0, PyData.depthAll]
  | n, x :: xs, h => by
    simp only [shps, Bool.and_eq_true] at h
    obtain ⟨a, b⟩ := shp_lay n x h.1
    obtain ⟨c, d⟩ := shps_lay n xs h.2
    simp only [toPys, PyData.canLayAll0, PyData.depthAll, a, c]
    exact ⟨rfl, Nat.max_le.mpr ⟨b, d⟩⟩
end
theorem shaped_of {d : D} (h : shp 60 d = true) : SeqAt.shaped (toPy d) = true := by
  obtain ⟨a, b⟩ := shp_lay 60 d h
  unfold SeqAt.shaped
  rw [a]
  simp only [Bool.true_and, decide_eq_true_eq]
  omega
mutual
theorem eqv_toPy : ∀ (n m : Nat) (d e : D), shp n d = true → shp m e = true → PyData.eqv (toPy d) (toPy e) = eqD d e
  | _, _, .scr _, _, h, _ => by simp [shp] at h
  | _, _, .dct _ _, _, h, _ => by simp [shp] at h
  | _, _, .obj _ _ _, _, h, _ => by simp [shp] at h
  | _, _, _, .scr _, _, h => by simp [shp] at h
  | _, _, _, .dct _ _, _, h => by simp [shp] at h
  | _, _, _, .obj _ _ _, _, h => by simp [shp] at h
  | _, _, .non, .non, _, _ => by simp [toPy, PyData.eqv, eqD]
  | _, _, .non, .bl _, _, _ => by simp [toPy, PyData.eqv, eqD]
  | _, _, .non, .int _, _, _ => by simp [toPy, PyData.eqv, eqD]
  | _, _, .non, .str _, _, _ => by simp [toPy, PyData.eqv, eqD]
  | _, _, .non, .tup _, _, _ => by simp [toPy, PyData.eqv, eqD]
  | _, _, .non, .lst _, _, _ => by simp [toPy, PyData.eqv, eqD]
  | _, _, .bl _, .non, _, _ => by simp [toPy, PyData.eqv, eqD]
  | _, _, .bl _, .bl _, _, _ => by simp [toPy, PyData.eqv, eqD]
  | _, _, .bl _, .int _, _, _ => by simp [toPy, PyData.eqv, eqD, b2i]
  | _, _, .bl _, .str _, _, _ => by simp [toPy, PyData.eqv, eqD]
  | _, _, .bl _, .tup _, _, _ => by simp [toPy, PyData.eqv, eqD]
  | _, _, .bl _, .lst _, _, _ => by simp [toPy, PyData.eqv, eqD]
  | _, _, .int _, .non, _, _ => by simp [toPy, PyData.eqv, eqD]
  | _, _, .int _, .bl _, _, _ => by simp [toPy, PyData.eqv, eqD, b2i]
  | _, _, .int _, .int _, _, _ => by simp [toPy, PyData.eqv, eqD]
  | _, _, .int _, .str _, _, _ => by simp [toPy, PyData.eqv, eqD]
  | _, _, .int _, .tup _, _, _ => by simp [toPy, PyData.eqv, eqD]
  | _, _, .int _, .lst _, _, _ => by simp [toPy, PyData.eqv, eqD]
  | _, _, .str _, .non, _, _ => by simp [toPy, PyData.eqv, eqD]
  | _, _, .str _, .bl _, _, _ => by simp [toPy, PyData.eqv, eqD]
  | _, _, .str _, .int _, _, _ => by simp [toPy, PyData.eqv, eqD]
  | _, _, .str _, .str _, _, _ => by simp [toPy, PyData.eqv, eqD]
  | _, _, .str _, .tup _, _, _ => by simp [toPy, PyData.eqv, eqD]
  | _, _, .str _, .lst _, _, _ => by simp [toPy, PyData.eqv, eqD]
  | _, _, .tup _, .non, _, _ => by simp [toPy, PyData.eqv, eqD]
  | _, _, .tup _, .bl _, _, _ => by simp [toPy, PyData.eqv, eqD]
  | _, _, .tup _, .int _, _, _ => by simp [toPy, PyData.eqv, eqD]
  | _, _, .tup _, .str _, _, _ => by simp [toPy, PyData.eqv, eqD]
  | _, _, .tup _, .lst _, _, _ => by simp [toPy, PyData.eqv, eqD]
  | _, _, .lst _, .non, _, _ => by simp [toPy, PyData.eqv, eqD]
  | _, _, .lst _, .bl _, _, _ => by simp [toPy, PyData.eqv, eqD]
  | _, _, .lst _, .int _, _, _ => by simp [toPy, PyData.eqv, eqD]
  | _, _, .lst _, .str _, _, _ => by simp [toPy, PyData.eqv, eqD]
  | _, _, .lst _, .tup _, _, _ => by simp [toPy, PyData.eqv, eqD]
  | 0, _, .tup _, .tup _, h, _ => by simp [shp] at h
  | 0, _, .lst _, .lst _, h, _ => by simp [shp] at h
  | _ + 1, 0, .tup _, .tup _, _, h => by simp [shp] at h
  | _ + 1, 0, .lst _, .lst _, _, h => by simp [shp] at h
  | n + 1, m + 1, .tup xs, .tup ys, h1, h2 => by
    simp only [shp] at h1 h2
    simp only [toPy, PyData.eqv, eqD]
    exact eqvs_toPy n m xs ys h1 h2
  | n + 1, m + 1, .lst xs, .lst ys, h1, h2 => by
    simp only [shp] at h1 h2
    simp only [toPy, PyData.eqv, eqD]
    exact eqvs_toPy n m xs ys h1 h2
theorem eqvs_toPy : ∀ (n m : Nat) (d e : List D), shps n d = true → shps m e = true → PyData.eqvAll (toPys d) (toPys e) = eqDs d e
  | _, _, [], [], _, _ => by simp [toPys, PyData.eqvAll, eqDs]
  | _, _, [], _ :: _, _, _ => by simp [toPys, PyData.eqvAll, eqDs]
  | _, _, _ :: _, [], _, _ => by simp [toPys, PyData.eqvAll, eqDs]
  | n, m, x :: xs, y :: ys, h1, h2 => by
    simp only [shps, Bool.and_eq_true] at h1 h2
    simp only [toPys, PyData.eqvAll, eqDs, eqv_toPy n m x y h1.1 h2.1, eqvs_toPy n m xs ys h1.2 h2.2]
end
theorem Rep.flat {K : PySem.W.Frag} {H : Hp} {v : V} {d : D} {A : List Addr} (r : Rep K H v d A) (h : flatD d = true) : flatV v = true := by
  cases r <;> first | rfl | simp [flatD] at h
theorem Reps.flat {K : PySem.W.Frag} {H : Hp} : ∀ {d : List D} {v : List V} {A : List Addr}, Reps K H v d A → d.all flatD = true → v.all flatV = true
  | _, _, _, .nil, _ => rfl
  | _, _, _, .cons r t, h => by
    simp only [List.all_cons, Bool.and_eq_true] at h ⊢
    exact ⟨r.flat h.1, Reps.flat t h.2⟩
theorem eqV_D {K : PySem.W.Frag} {H : Hp} {v w : V} {d e : D} {A B : List Addr} (r : Rep K H v d A) (q : Rep K H w e B) (h1 : flatD d = true) (h2 : flatD e = true) : eqV v w = eqD d e := by
  cases r <;> cases q <;> first | rfl | (simp [flatD] at h1; done) | (simp [flatD] at h2; done) | simp [eqV, eqD, b2i]
theorem inV_D {K : PySem.W.Frag} {H : Hp} {v : V} {d : D} {A : List Addr} (r : Rep K H v d A) (h1 : flatD d = true) : ∀ {e : List D} {w : List V} {B : List Addr}, Reps K H w e B → e.all flatD = true → inV v w = inD d e
  | _, _, _, .nil, _ => rfl
  | _, _, _, .cons q t, h => by
    simp only [List.all_cons, Bool.and_eq_true] at h
    have := inV_D r h1 t h.2
    unfold inV inD at this ⊢
    rw [List.any_cons, List.any_cons, this, eqV_D q r h.1 h1]
theorem any_toPy {x : D} (h1 : shp 60 x = true) : ∀ {ds : List D}, shps 59 ds = true → ((toPys ds).any fun z => PyData.eqv z (toPy x)) = inD x ds
  | [], _ => rfl
  | y :: ys, h => by
    simp only [shps, Bool.and_eq_true] at h
    have ih := any_toPy h1 h.2
    unfold inD at ih ⊢
    simp only [toPys, List.any_cons, ih, eqv_toPy 59 60 y x h.1 h1]
def copOf : CO → CmpOp
  | .lt => .Lt | .le => .LtE | .gt => .Gt | .ge => .GtE | .eq => .Eq | .ne => .NotEq | .isN => .Is | .notN => .IsNot | .isT => .Is | .notT => .IsNot | .inn => .In | .nin => .NotIn
def rCmp (K : PySem.W.Frag) (o : CO) : R2 := fun x y H Q => ∃ dx dy A B b, Rep K H x dx A ∧ Rep K H y dy B ∧ cmpD o dx dy = some b ∧ Q (.bl b) H
theorem dec_eq_beq (a b : Bool) : decide (a = b) = (a == b) := by cases a <;> cases b <;> rfl
theorem one_sign {x : Str} (h : x.cps.size = 1) : x = ⟨#[x.cps.getD 0 0]⟩ := by
  obtain ⟨⟨l⟩⟩ := x
  match l, h with
  | [c], _ => rfl
theorem keqB_iff {a b : Ky} : keqB a b = true ↔ a = b := by
  cases a <;> cases b <;> simp [keqB]
theorem memK_val : ∀ {kvs : List (Key × V)} {k : Ky}, (valV kvs k).isSome = memK k (kvs.map (·.1))
  | [], k => rfl
  | (k', v) :: kvs, k => by
    have ih := memK_val (kvs := kvs) (k := k)
    by_cases h : k' = k
    · rw [valV_pos h]
      simp [memK, keqB_iff.mpr h]
    · rw [valV_neg h, ih]
      have : keqB k' k = false := by
        cases e : keqB k' k with
        | false => rfl
        | true => exact absurd (keqB_iff.mp e) h
      simp [memK, this]
theorem key_V {K : PySem.W.Frag} {H : Hp} {v : V} {d : D} {A : List Addr} {k : Ky} (r : Rep K H v d A) (h : keyD d = some k) : v = kV k := by
  cases r <;> simp [keyD] at h <;> (subst h; rfl)
theorem look_val {K : PySem.W.Frag} {H : Hp} : ∀ {kvs : List (Key × V)} {ds : List D} {A : List Addr} {k : Ky} {d : D}, Reps K H (kvs.map (·.2)) ds A → lookD k (kvs.map (·.1)) ds = some d →
    ∃ v B, valV kvs k = some v ∧ Rep K H v d B ∧ B.Sublist A
  | [], _, _, k, d, r, h => by simp [lookD] at h
  | (k', v) :: kvs, _, _, k, d, .cons (A := A0) (B := B0) r t, h => by
    simp only [List.map_cons, lookD] at h
    split at h
    · rename_i e
      simp only [Option.some.injEq] at h; subst h
      exact ⟨v, A0, valV_pos (keqB_iff.mp e), r, List.sublist_append_left _ _⟩
    · rename_i e
      obtain ⟨w, B, g1, g2, g3⟩ := look_val (kvs := kvs) t h
      exact ⟨w, B, by rw [valV_neg (fun z => e (keqB_iff.mpr z))]; exact g1, g2, g3.trans (List.sublist_append_right _ _)⟩
mutual
theorem Rep.dpt {K : PySem.W.Frag} {H : Hp} : ∀ {d : D} {v : V} {A : List Addr} (n : Nat), Rep K H v d A → shp n (thw d) = true → Dp K H v (toPy (thw d))
  | _, _, _, n, .non, h => Rep.dp (K := K) (H := H) n .non h
  | _, _, _, n, .bl b, h => Rep.dp (K := K) (H := H) n (.bl b) h
  | _, _, _, n, .int i, h => Rep.dp (K := K) (H := H) n (.int i) h
  | _, _, _, n, .str x, h => Rep.dp (K := K) (H := H) n (.str x) h
  | _, _, _, 0, .tup _ _, h => by simp [thw, shp] at h
  | _, _, _, 0, .lst _ _, h => by simp [thw, shp] at h
  | _, _, _, 0, .frz _ _, h => by simp [thw, shp] at h
  | _, _, _, n + 1, .tup h1 r, h => by
    simp only [thw, shp] at h
    simp only [thw, toPy]
    exact .tup h1 (Reps.dpt n r h)
  | _, _, _, n + 1, .lst h1 r, h => by
    simp only [thw, shp] at h
    simp only [thw, toPy]
    exact .lst (SqL.of h1) (Reps.dpt n r h)
  | _, _, _, n + 1, .frz h1 r, h => by
    simp only [thw, shp] at h
    simp only [thw, toPy]
    exact .lst (.inl (.inr ⟨_, h1⟩)) (Reps.dpt n r h)
  | _, _, _, _, .scr _, h => by simp [thw, shp] at h
  | _, _, _, _, .dct _ _ _, h => by simp [thw, shp] at h
  | _, _, _, _, .obj _ _ _ _, h => by simp [thw, shp] at h
  | _, _, _, _, .hol _, h => by simp [thw, shp] at h
  | _, _, _, _, .any _, h => by simp [thw, shp] at h
  | _, _, _, _, .er0 _ _ _ _, h => by simp [thw, shp] at h
  | _, _, _, _, .er1 _ _ _ _ _, h => by simp [thw, shp] at h
theorem Reps.dpt {K : PySem.W.Frag} {H : Hp} : ∀ {d : List D} {v : List V} {A : List Addr} (n : Nat), Reps K H v d A → shps n (thws d) = true → DpAll K H v (toPys (thws d))
  | _, _, _, _, .nil, _ => by simp only [thws, toPys]; exact .nil
  | _, _, _, n, .cons r t, h => by
    simp only [thws, shps, Bool.and_eq_true] at h
    simp only [thws, toPys]
    exact .cons (Rep.dpt n r h.1) (Reps.dpt n t h.2)
end
section
variable {pins : List (Addr × Obj)} {σ : L2.St} {H : Hp} {s : Shared}
theorem eqzs_at (n : Nat) (ih : ∀ (d e : D) (v w : V) (A B : List Addr) (a b : Value), Rep X.K H v d A → Rep X.K H w e B → eqz n d e = true → RelV v a → RelV w b → PySem.W.EqTree X.prog X.w s n a b true) :
    ∀ (ds es : List D) (vs ws : List V) (A B : List Addr) (as bs : List Value), Reps X.K H vs ds A → Reps X.K H ws es B → eqzs (eqz n) ds es = true → Vals vs as → Vals ws bs →
      as.length = bs.length ∧ ∀ j (h1 : j < as.length) (h2 : j < bs.length), PySem.W.EqTree X.prog X.w s n as[j] bs[j] true
  | [], [], _, _, _, _, _, _, .nil, .nil, _, .nil, .nil => ⟨rfl, fun j h1 => absurd h1 (by simp)⟩
  | [], _ :: _, _, _, _, _, _, _, _, _, h, _, _ => by simp [eqzs] at h
  | _ :: _, [], _, _, _, _, _, _, _, _, h, _, _ => by simp [eqzs] at h
  | d :: ds, e :: es, _, _, _, _, _, _, .cons r1 t1, .cons r2 t2, h, .cons a1 b1, .cons a2 b2 => by
    simp only [eqzs, Bool.and_eq_true] at h
    obtain ⟨hl, hj⟩ := eqzs_at n ih ds es _ _ _ _ _ _ t1 t2 h.2 b1 b2
    refine ⟨by simp [hl], fun j h1 h2 => ?_⟩
    cases j with
    | zero => exact ih _ _ _ _ _ _ _ _ r1 r2 h.1 a1 a2
    | succ j => exact hj j (by simpa using h1) (by simpa using h2)
theorem eqz_all (m : Nat) : ((List.range m).all fun _ => true) = true := by simp
theorem eql_tree (n : Nat) {d e : D} {v w : V} {A B : List Addr} {a b : Value} (r1 : Rep X.K H v d A) (r2 : Rep X.K H w e B) (h : eqL d e = true) (ra : RelV v a) (rb : RelV w b) : PySem.W.EqTree X.prog X.w s n a b true := by
  cases d <;> cases e <;> simp only [eqL, Bool.false_eq_true, reduceCtorEq, beq_iff_eq] at h
  · cases r1; cases r2; cases ra; cases rb; exact .same
  · subst h; cases r1; cases r2; cases ra; cases rb; exact .same
  · subst h
    cases r1; cases r2
    obtain ⟨t, rfl⟩ := ra; obtain ⟨u, rfl⟩ := rb
    rename_i i
    have := fun A (_ : A.units + n < cLine) => SeqAt.EqAt.int_int (A := A) (s := s) i t i u
    rw [beq_self_eq_true] at this
    exact .leaf this
  · subst h
    cases r1; cases r2
    obtain ⟨t, rfl⟩ := ra; obtain ⟨u, rfl⟩ := rb
    rename_i i
    have := fun A (_ : A.units + n < cLine) => SeqAt.EqAt.str_str (A := A) (s := s) i t i u
    rw [beq_self_eq_true] at this
    exact .leaf this
theorem eqz_tree (I : Inv X pins σ H s) : ∀ (n : Nat) (d e : D) (v w : V) (A B : List Addr) (a b : Value), Rep X.K H v d A → Rep X.K H w e B → eqz n d e = true → RelV v a → RelV w b → PySem.W.EqTree X.prog X.w s n a b true := by
  intro n
  induction n with
  | zero =>
    intro d e v w A B a b r1 r2 h ra rb
    exact eql_tree 0 r1 r2 h ra rb
  | succ n ih =>
    intro d e v w A B a b r1 r2 h ra rb
    by_cases hl : eqL d e = true
    · exact eql_tree (n + 1) r1 r2 hl ra rb
    cases r1 with
    | @tup p vs xs A1 q1 t1 =>
      cases r2 with
      | @tup p2 ws ys A2 q2 t2 =>
        cases ra; cases rb
        by_cases hp : p = p2
        · subst hp; exact .same
        · obtain ⟨its, rv, ht, _⟩ := I.tuple q1
          obtain ⟨its2, rv2, ht2, _⟩ := I.tuple q2
          simp only [eqz] at h
          obtain ⟨hl, hj⟩ := eqzs_at n ih xs ys _ _ _ _ _ _ t1 t2 h rv rv2
          have := PySem.W.EqTree.tuples (prog := X.prog) (w := X.w) (n := n) (e := fun _ => true) hp ht ht2 (fun j h1 h2 => by
            have := hj j (by simpa using h1) (by simpa using h2)
            simpa using this)
          rw [eqz_all, Bool.true_and, show (its.toArray.size == its2.toArray.size) = true by simpa using hl] at this
          exact this
      | _ => simp [eqz, eqL] at h
    | @lst p vs xs A1 q1 t1 =>
      cases r2 with
      | @lst p2 ws ys A2 q2 t2 =>
        cases ra; cases rb
        by_cases hp : p = p2
        · subst hp; exact .same
        · obtain ⟨its, rv, ht, _⟩ := I.list (SqL.of q1)
          obtain ⟨its2, rv2, ht2, _⟩ := I.list (SqL.of q2)
          simp only [eqz] at h
          obtain ⟨hl, hj⟩ := eqzs_at n ih xs ys _ _ _ _ _ _ t1 t2 h rv rv2
          have := PySem.W.EqTree.lists (prog := X.prog) (w := X.w) (n := n) (e := fun _ => true) hp ht.isList ht2.isList (by simpa using hl) (fun j h1 h2 => by
            have := hj j (by simpa using h1) (by simpa using h2)
            simpa using this)
          rw [eqz_all] at this
          exact this
      | _ => simp [eqz, eqL] at h
    | @dct p kvs ks xs A1 q1 e1 t1 =>
      cases r2 with
      | @dct p2 kvs2 ks2 ys A2 q2 e2 t2 =>
        cases ra; cases rb
        by_cases hp : p = p2
        · subst hp; exact .same
        · have hk : ks = [] ∧ ks2 = [] := by
            simp only [eqz, Bool.and_eq_true, List.isEmpty_iff] at h
            exact ⟨h.1.1.1, h.1.2⟩
          obtain ⟨rfl, rfl⟩ := hk
          obtain rfl : kvs = [] := by simpa using e1
          obtain rfl : kvs2 = [] := by simpa using e2
          obtain ⟨_, s1, us, kv, dd⟩ := dk_of I.hok q1
          obtain ⟨_, s2, us2, kv2, dd2⟩ := dk_of I.hok q2
          cases kv
          cases kv2
          exact PySem.W.EqTree.dicts (prog := X.prog) (w := X.w) (n := n) (e := fun _ => true) hp s1 s2 dd dd2 (fun k v y hm => absurd hm (by simp))
      | _ => simp [eqz, eqL] at h
    | _ => exact absurd h hl
theorem op_eqz (hu : X.A.units + 65 < cLine) (I : Inv X pins σ H s) {d e : D} {v w : V} {A B : List Addr} {a b : Value} (r1 : Rep X.K H v d A) (r2 : Rep X.K H w e B) (h : eqzT d e = true) (ra : RelV v a) (rb : RelV w b) {Q : VK} (k : Q (.bl true) H) :
    wpAny (model X.prog X.w) X.A (compareOp .Eq a b) (EP X pins σ Q) X.xe s := by
  cases r1 with
  | @tup p vs xs A1 q1 t1 =>
    cases r2 with
    | @tup p2 ws ys A2 q2 t2 =>
      cases ra; cases rb
      obtain ⟨its, rv, ht, _⟩ := I.tuple q1
      obtain ⟨its2, rv2, ht2, _⟩ := I.tuple q2
      have h : eqzs (eqz 58) xs ys = true := h
      obtain ⟨hl, hj⟩ := eqzs_at 58 (eqz_tree I 58) xs ys _ _ _ _ _ _ t1 t2 h rv rv2
      refine PySem.W.eq_tuplesT (n := 58) (e := fun _ => true) ht ht2 (fun j h1 h2 => by
        have := hj j (by simpa using h1) (by simpa using h2)
        simpa using this) (by omega) ?_
      rw [eqz_all, Bool.true_and, show (its.toArray.size == its2.toArray.size) = true by simpa using hl]
      exact ⟨.bl true, H, I, rfl, k⟩
    | _ => simp [eqzT] at h
  | _ => cases r2 <;> simp [eqzT] at h
end
theorem op_cmp (hu : X.A.units + 65 < cLine) (o : CO) : OpR X (compareOp (copOf o)) (rCmp X.K o) := by
  intro pins s σ H x y v u Q I rx ry h
  obtain ⟨dx, dy, A, B, b, r1, r2, e, k⟩ := h
  cases o with
  | lt => cases r1 <;> cases r2 <;> simp [cmpD] at e <;> (subst e; exact op_lt pins s σ H _ _ v u Q I rx ry ⟨_, _, rfl, rfl, k⟩)
  | le => cases r1 <;> cases r2 <;> simp [cmpD] at e <;> (subst e; exact op_le pins s σ H _ _ v u Q I rx ry ⟨_, _, rfl, rfl, k⟩)
  | gt => cases r1 <;> cases r2 <;> simp [cmpD] at e <;> (subst e; exact op_gt pins s σ H _ _ v u Q I rx ry ⟨_, _, rfl, rfl, k⟩)
  | ge => cases r1 <;> cases r2 <;> simp [cmpD] at e <;> (subst e; exact op_ge pins s σ H _ _ v u Q I rx ry ⟨_, _, rfl, rfl, k⟩)
  | eq =>
    simp only [cmpD] at e
    split at e
    · rename_i hz
      simp only [Bool.and_eq_true] at hz
      simp only [Option.some.injEq] at e; subst e
      refine op_eqD (by omega) pins s σ H _ _ v u Q I rx ry ⟨_, _, r1.dp 60 hz.1, r2.dp 60 hz.2, shaped_of hz.1, shaped_of hz.2, ?_⟩
      rw [eqv_toPy 60 60 _ _ hz.1 hz.2]; exact k
    · split at e
      · rename_i hz
        simp only [Option.some.injEq] at e; subst e
        exact op_eqz hu I r1 r2 hz rx ry k
      · cases e
  | ne =>
    simp only [cmpD] at e
    split at e
    · rename_i hz
      simp only [Bool.and_eq_true] at hz
      simp only [Option.some.injEq] at e; subst e
      refine op_neD (by omega) pins s σ H _ _ v u Q I rx ry ⟨_, _, r1.dp 60 hz.1, r2.dp 60 hz.2, shaped_of hz.1, shaped_of hz.2, ?_⟩
      rw [eqv_toPy 60 60 _ _ hz.1 hz.2]; exact k
    · cases e
  | isN =>
    cases r2 with
    | non =>
      simp only [cmpD, Option.some.injEq] at e; subst e
      refine op_isN pins s σ H _ _ v u Q I rx ry ⟨rfl, ?_⟩
      have e2 : decide (x = V.non) = isNonD dx := by cases r1 <;> first | rfl | (rename_i hn; exact decide_eq_false hn)
      rw [e2]; exact k
    | _ => cases r1 <;> simp [cmpD] at e
  | notN =>
    cases r2 with
    | non =>
      simp only [cmpD, Option.some.injEq] at e; subst e
      refine op_notN pins s σ H _ _ v u Q I rx ry ⟨rfl, ?_⟩
      have e2 : decide (x = V.non) = isNonD dx := by cases r1 <;> first | rfl | (rename_i hn; exact decide_eq_false hn)
      rw [e2]; exact k
    | _ => cases r1 <;> simp [cmpD] at e
  | isT =>
    cases r1 <;> cases r2 <;> simp only [cmpD, Option.some.injEq, reduceCtorEq] at e
    subst e
    exact op_isBl pins s σ H _ _ v u Q I rx ry ⟨_, _, rfl, rfl, by rw [dec_eq_beq]; exact k⟩
  | notT =>
    cases r1 <;> cases r2 <;> simp only [cmpD, Option.some.injEq, reduceCtorEq] at e
    subst e
    exact op_notBl pins s σ H _ _ v u Q I rx ry ⟨_, _, rfl, rfl, by rw [dec_eq_beq]; exact k⟩
  | inn =>
    cases r2 with
    | @lst p vs ds A1 h1 r2 =>
      have e : (if (flatD dx && ds.all flatD) = true then some (inD dx ds) else if (shp 60 dx && shp 60 (.lst ds)) = true then some (inD dx ds) else if (shp 60 (thw dx) && shps 59 (thws ds)) = true then some (inD (thw dx) (thws ds)) else none) = some b := by cases r1 <;> exact e
      split at e
      · rename_i hz
        simp only [Bool.and_eq_true] at hz
        simp only [Option.some.injEq] at e; subst e
        refine op_in_seq pins s σ H _ _ v u Q I rx ry ⟨_, _, rfl, .inl (SqL.of h1), r1.flat hz.1, r2.flat hz.2, ?_⟩
        rw [if_neg Bool.false_ne_true, inV_D r1 hz.1 r2 hz.2]; exact k
      · split at e
        · rename_i _ hz
          simp only [Bool.and_eq_true] at hz
          simp only [Option.some.injEq] at e; subst e
          refine op_inD (by omega) pins s σ H _ _ v u Q I rx ry ⟨toPy dx, toPys ds, r1.dp 60 hz.1, (Rep.lst h1 r2).dp 60 hz.2, shaped_of hz.1, shaped_of hz.2, ?_⟩
          rw [any_toPy hz.1 (show shps 59 ds = true from hz.2)]; exact k
        · split at e
          · rename_i _ hz
            simp only [Bool.and_eq_true] at hz
            simp only [Option.some.injEq] at e; subst e
            have hz2 : shp 60 (.lst (thws ds)) = true := by simpa only [shp] using hz.2
            refine op_inD (by omega) pins s σ H _ _ v u Q I rx ry ⟨toPy (thw dx), toPys (thws ds), r1.dpt 60 hz.1, by simpa only [thw, toPy] using (Rep.lst h1 r2).dpt 60 (by simpa only [thw, shp] using hz.2), shaped_of hz.1, shaped_of hz2, ?_⟩
            rw [any_toPy hz.1 hz.2]; exact k
          · cases e
    | @tup p vs ds A1 h1 r2 =>
      have e : (if (flatD dx && ds.all flatD) = true then some (inD dx ds) else none) = some b := by cases r1 <;> exact e
      split at e
      · rename_i hz
        simp only [Bool.and_eq_true] at hz
        simp only [Option.some.injEq] at e; subst e
        refine op_in_seq pins s σ H _ _ v u Q I rx ry ⟨_, _, rfl, .inr h1, r1.flat hz.1, r2.flat hz.2, ?_⟩
        rw [if_neg Bool.false_ne_true, inV_D r1 hz.1 r2 hz.2]; exact k
      · cases e
    | str z =>
      cases r1 with
      | str x =>
        simp only [cmpD] at e
        split at e
        · rename_i hz
          simp only [Option.some.injEq] at e; subst e
          refine op_in_sign pins s σ H _ _ v u Q I rx ry ⟨_, _, congrArg V.str (one_sign hz), rfl, k⟩
        · cases e
      | _ => simp [cmpD] at e
    | @dct p kvs ks ds A1 h1 hk r2 =>
      have e : ((keyD dx).map fun k => memK k ks) = some b := by cases r1 <;> exact e
      simp only [Option.map_eq_some_iff] at e
      obtain ⟨ky, hky, rfl⟩ := e
      obtain rfl := key_V r1 hky
      obtain rfl : u = Value.ref p := ry
      subst hk
      refine d_in (by omega) I (DGet.k (k := ky) h1) rx fun s3 I3 => ⟨.bl _, H, I3, rfl, ?_⟩
      rw [memK_val]; exact k
    | _ => cases r1 <;> simp [cmpD] at e
  | nin =>
    cases r2 with
    | @lst p vs ds A1 h1 r2 =>
      have e : (if (flatD dx && ds.all flatD) = true then some (!inD dx ds) else if (shp 60 dx && shp 60 (.lst ds)) = true then some (!inD dx ds) else if (shp 60 (thw dx) && shps 59 (thws ds)) = true then some (!inD (thw dx) (thws ds)) else none) = some b := by cases r1 <;> exact e
      split at e
      · rename_i hz
        simp only [Bool.and_eq_true] at hz
        simp only [Option.some.injEq] at e; subst e
        refine op_notIn_seq pins s σ H _ _ v u Q I rx ry ⟨_, _, rfl, .inl (SqL.of h1), r1.flat hz.1, r2.flat hz.2, ?_⟩
        rw [if_pos rfl, inV_D r1 hz.1 r2 hz.2]; exact k
      · split at e
        · rename_i _ hz
          simp only [Bool.and_eq_true] at hz
          simp only [Option.some.injEq] at e; subst e
          refine op_notInD (by omega) pins s σ H _ _ v u Q I rx ry ⟨toPy dx, toPys ds, r1.dp 60 hz.1, (Rep.lst h1 r2).dp 60 hz.2, shaped_of hz.1, shaped_of hz.2, ?_⟩
          rw [any_toPy hz.1 (show shps 59 ds = true from hz.2)]; exact k
        · split at e
          · rename_i _ hz
            simp only [Bool.and_eq_true] at hz
            simp only [Option.some.injEq] at e; subst e
            have hz2 : shp 60 (.lst (thws ds)) = true := by simpa only [shp] using hz.2
            refine op_notInD (by omega) pins s σ H _ _ v u Q I rx ry ⟨toPy (thw dx), toPys (thws ds), r1.dpt 60 hz.1, by simpa only [thw, toPy] using (Rep.lst h1 r2).dpt 60 (by simpa only [thw, shp] using hz.2), shaped_of hz.1, shaped_of hz2, ?_⟩
            rw [any_toPy hz.1 hz.2]; exact k
          · cases e
    | @tup p vs ds A1 h1 r2 =>
      have e : (if (flatD dx && ds.all flatD) = true then some (!inD dx ds) else none) = some b := by cases r1 <;> exact e
      split at e
      · rename_i hz
        simp only [Bool.and_eq_true] at hz
        simp only [Option.some.injEq] at e; subst e
        refine op_notIn_seq pins s σ H _ _ v u Q I rx ry ⟨_, _, rfl, .inr h1, r1.flat hz.1, r2.flat hz.2, ?_⟩
        rw [if_pos rfl, inV_D r1 hz.1 r2 hz.2]; exact k
      · cases e
    | str z =>
      cases r1 with
      | str x =>
        simp only [cmpD] at e
        split at e
        · rename_i hz
          simp only [Option.some.injEq] at e; subst e
          refine op_notIn_sign pins s σ H _ _ v u Q I rx ry ⟨_, _, congrArg V.str (one_sign hz), rfl, k⟩
        · cases e
      | _ => simp [cmpD] at e
    | @dct p kvs ks ds A1 h1 hk r2 =>
      have e : ((keyD dx).map fun k => !memK k ks) = some b := by cases r1 <;> exact e
      simp only [Option.map_eq_some_iff] at e
      obtain ⟨ky, hky, rfl⟩ := e
      obtain rfl := key_V r1 hky
      obtain rfl : u = Value.ref p := ry
      subst hk
      refine d_notIn (by omega) I (DGet.k (k := ky) h1) rx fun s3 I3 => ⟨.bl _, H, I3, rfl, ?_⟩
      rw [memK_val]; exact k
    | _ => cases r1 <;> simp [cmpD] at e
theorem ixP_N (n : Nat) (i : Int) : ixP n i = ixN n i := by
  unfold ixP ixN
  split
  · rfl
  · by_cases h : 0 ≤ i + n
    · rw [if_pos h, if_pos (by omega)]
    · rw [if_neg h, if_neg (by omega)]
theorem sIxD_eq (n d : Nat) (o : Option Int) : sIxD n d o = HT.sIx n d o := by
  cases o <;> rfl
def rIxD (K : PySem.W.Frag) : R2 := fun x y H Q => ∃ dx dy A B d, Rep K H x dx A ∧ Rep K H y dy B ∧ ixD dx dy = some d ∧ ∀ v A', A'.Sublist A → Rep K H v d A' → Q v H
theorem get_of {K : PySem.W.Frag} {H : Hp} {ds : List D} {vs : List V} {A : List Addr} {i : Int} {d : D} (r : Reps K H vs ds A) (e : ((ixP ds.length i).bind fun j => ds[j]?) = some d) : ∃ v B, atI vs i = some v ∧ Rep K H v d B ∧ B.Sublist A := by
  unfold atI
  rw [r.length, ← ixP_N]
  cases q : ixP ds.length i with
  | none => rw [q] at e; cases e
  | some j =>
    rw [q] at e
    exact r.get e
theorem ix_D (hu : X.A.units + 65 < cLine) : IxR X (rIxD X.K) := by
  intro value slice pins s σ H x y v u Q I rx ry h hs
  obtain ⟨dx, dy, A, B, d, r1, r2, e, k⟩ := h
  by_cases hd : ∃ ks vs, dx = .dct ks vs
  · obtain ⟨ks, vs, rfl⟩ := hd
    cases r1 with
    | @dct p kvs ks ds A1 h1 hk r1 =>
      have e : ((keyD dy).bind fun k => lookD k ks vs) = some d := by cases r2 <;> exact e
      simp only [Option.bind_eq_some_iff] at e
      obtain ⟨ky, hky, e⟩ := e
      obtain rfl := key_V r2 hky
      obtain rfl : v = Value.ref p := rx
      subst hk
      obtain ⟨w, C, g1, g2, g3⟩ := look_val r1 e
      have dg : DGet H p (kV ky) (some w) := g1 ▸ DGet.k (k := ky) h1
      unfold subscriptTail
      refine wpAny_bind ?_
      rw [getitemInPython_of_ne (dict_typeIs I dg).not_modules]
      refine wpAny_bind (wpAny_specialOf (dict_typeIs I dg) PySem.F.slot_dict_getitem.lookup ?_)
      have fin : wpAny (model X.prog X.w) X.A (subscripted slice false (.ref p) u) (fun r s₃ => wpAny (model X.prog X.w) X.A (letTemporaryGo value (.ref p) r >>= fun _ => pure r) (EP X pins σ Q) X.xe s₃) X.xe s := by
        rw [hs]
        exact wpAny_operating (d_getItem (by omega) I dg ry fun w' s3 I3 rw' => wpAny_bind (wpAny_letTemporaryGo (wpAny_pure ⟨w, H, I3, rw', k w C (g3.trans (List.sublist_cons_self _ _)) g2⟩)))
      first
        | exact wpAny_pure (wpAny_bind fin)
        | exact wpAny_bind (wpAny_pure (wpAny_bind fin))
        | exact wpAny_bind fin
  cases r2 with
  | int i =>
    cases r1 with
    | lst h1 r1 =>
      obtain ⟨w, C, g, rw, sb⟩ := get_of r1 e
      exact ix_list value slice pins s σ H _ _ v u Q I rx ry ⟨_, _, _, _, rfl, rfl, SqL.of h1, g, k _ _ (sb.trans (List.sublist_cons_self _ _)) rw⟩ hs
    | tup h1 r1 =>
      obtain ⟨w, C, g, rw, sb⟩ := get_of r1 e
      exact ix_tup value slice pins s σ H _ _ v u Q I rx ry ⟨_, _, _, _, rfl, rfl, h1, g, k _ _ sb rw⟩ hs
    | frz h1 r1 =>
      obtain ⟨w, C, g, rw, sb⟩ := get_of r1 e
      exact ix_list value slice pins s σ H _ _ v u Q I rx ry ⟨_, _, _, _, rfl, rfl, .inl (.inr ⟨_, h1⟩), g, k _ _ sb rw⟩ hs
    | dct h1 h2 r1 => exact absurd ⟨_, _, rfl⟩ hd
    | @scr p ns h1 =>
      have e : ((ixP (ns.map D.int).length i).bind fun j => (ns.map D.int)[j]?) = some d := by
        simp only [ixD] at e
        simpa [List.getElem?_map] using e
      obtain ⟨w, C, g, rw, sb⟩ := get_of (reps_of_ints ns) e
      exact ix_list value slice pins s σ H _ _ v u Q I rx ry ⟨_, _, _, _, rfl, rfl, h1.sq, g, k _ _ sb rw⟩ hs
    | str z =>
      simp only [ixD] at e
      split at e
      · rename_i hz
        cases q : ixP z.cps.toList.length i with
        | none => rw [q] at e; cases e
        | some j =>
          rw [q] at e
          simp only [Option.bind_some, Option.map_eq_some_iff] at e
          obtain ⟨c, hc, rfl⟩ := e
          refine ix_str value slice pins s σ H _ _ v u Q I rx ry ⟨_, _, c, rfl, rfl, line_LMX hz, ?_, k _ _ (List.Sublist.refl _) (.str _)⟩ hs
          unfold atI
          rw [← ixP_N, q]; exact hc
      · cases e
    | _ => simp [ixD] at e
  | _ => cases r1 <;> first | (exact absurd ⟨_, _, rfl⟩ hd) | (simp [ixD, keyD] at e)
end
end Cy
end
section
set_option Elab.async false
set_option linter.all false
set_option maxRecDepth 100000
set_option maxHeartbeats 1000000
namespace Cy
open PySem L2 PyProof.Rows
variable [ClTab] [Fxd]
/-- what must be known of the classes of errors that may be kept -/
structure KxC (K : PySem.W.Frag) (c : Str) : Prop where
  exc : ExcC K (He.ga K c)
  no : PySem.W.findIn K (.ref (He.ga K c)) (xfld c) = some none
  one : ∀ c0 ∈ ClTab.xs, PySem.W.kitOne K (.ref (He.ga K c)) (.ref (He.ga K c0)) = some (subX c c0)
  ve : PySem.W.kitOne K (.ref (He.ga K c)) (.type "ValueError") = some true
  nn : PySem.W.kitOne K (.type "NoneType") (.ref (He.ga K c)) = some false
structure KxA (K : PySem.W.Frag) : Prop where
  cl : ∀ c ∈ ClTab.xs, KxC K c
  nv : PySem.W.kitOne K (.type "NoneType") (.type "ValueError") = some false
def clsV (K : PySem.W.Frag) (c : Str) : V := if c = "ValueError" then .ty "ValueError" else .ref (He.ga K c)
def clsU (K : PySem.W.Frag) (c : Str) : Value := if c = "ValueError" then .type "ValueError" else .ref (He.ga K c)
theorem clsVU {K : PySem.W.Frag} {c : Str} : ClsV (clsV K c) (clsU K c) := by unfold clsV clsU; split <;> constructor
theorem clsVUs {K : PySem.W.Frag} : ∀ cs : List Str, Paired ClsV (cs.map (clsV K)) (cs.map (clsU K))
  | [] => .nil
  | _ :: cs => .cons clsVU (clsVUs cs)
def rSlD (K : PySem.W.Frag) : V → Option Int → Option Int → Hp → VK → Prop := fun x lo hi H Q => ∃ dx A d, Rep K H x dx A ∧ slD dx lo hi = some d ∧ ∀ v H' A', VO H A H' A' false → Rep K H' v d A' → Q v H'
theorem cut_reps {K : PySem.W.Frag} {H : Hp} {ds : List D} {vs : List V} {A : List Addr} (r : Reps K H vs ds A) (lo hi : Option Int) : ∃ B, Reps K H (cutV vs lo hi) (cutD ds lo hi) B ∧ B.Sublist A := by
  unfold cutV cutD
  rw [sIxD_eq, sIxD_eq, r.length]
  obtain ⟨B, r1, s1⟩ := r.drop (HT.sIx ds.length 0 lo)
  obtain ⟨C, r2, s2⟩ := r1.take (HT.sIx ds.length ds.length hi - HT.sIx ds.length 0 lo)
  exact ⟨C, r2, s2.trans s1⟩
theorem cutV_whole {xs : List V} {lo hi : Option Int} (h : HT.sIx xs.length 0 lo = 0 ∧ HT.sIx xs.length xs.length hi = xs.length) : cutV xs lo hi = xs := by
  unfold cutV
  rw [h.1, h.2]
  simp
section
variable {X : Cx}
theorem sl_D : SlR X (rSlD X.K) := by
  intro pins s σ H x v vl vu lo hi sl Q I rx hs pl pu h
  obtain ⟨dx, A, d, r, e, k⟩ := h
  cases r with
  | lst h1 r =>
    simp only [slD, Option.some.injEq] at e; subst e
    obtain ⟨B, rb, sb⟩ := cut_reps r lo hi
    exact sl_list pins s σ H _ v vl vu lo hi sl Q I rx hs pl pu ⟨_, _, rfl, SqL.of h1, fun p hp => k _ _ (p :: B) (VO.new hp (sb.trans (List.sublist_cons_self _ _))) (.lst upd_same (rb.mono (same_new hp)))⟩
  | tup h1 r =>
    simp only [slD, Option.some.injEq] at e; subst e
    obtain ⟨B, rb, sb⟩ := cut_reps r lo hi
    refine sl_tupA pins s σ H _ v vl vu lo hi sl Q I rx hs pl pu ⟨_, _, rfl, h1, fun hw => ?_, fun _ p hp => ?_⟩
    · have h2 := h1
      rw [← cutV_whole hw] at h2
      exact k _ _ B (VO.sub sb) (.tup h2 rb)
    · exact k _ _ B (VO.newT hp sb) (.tup (SqT.of upd_same) (rb.mono (same_new hp)))
  | str z =>
    simp only [slD] at e
    split at e
    · rename_i hz
      simp only [Option.some.injEq] at e; subst e
      refine sl_str pins s σ H _ v vl vu lo hi sl Q I rx hs pl pu ⟨_, rfl, line_LMX hz, ?_⟩
      refine k _ _ [] VO.nil ?_
      have e2 : cutS z lo hi = ⟨(cutD z.cps.toList lo hi).toArray⟩ := by
        unfold cutS cutD
        rw [sIxD_eq, sIxD_eq]
        rfl
      rw [e2]; exact .str _
    · cases e
  | _ => simp [slD] at e
def rSlDp (K : PySem.W.Frag) : V → Option Int → Option Int → Hp → VK → Prop := fun x lo hi H Q => ∃ dx A d, Rep K H x dx A ∧ slDp dx lo hi = some d ∧ ∀ v H' A', VO H A H' A' true → Rep K H' v d A' → Q v H'
theorem sl_Dp : SlR X (rSlDp X.K) := by
  intro pins s σ H x v vl vu lo hi sl Q I rx hs pl pu h
  obtain ⟨dx, A, d, r, e, k⟩ := h
  cases r with
  | lst h1 r =>
    simp only [slDp] at e
    split at e
    rotate_left
    · cases e
    rename_i hst
    simp only [Option.some.injEq] at e; subst e
    have hA := Reps.pure r hst
    subst hA
    obtain ⟨B, rb, sb⟩ := cut_reps r lo hi
    have hB := List.sublist_nil.mp sb
    subst hB
    exact sl_list pins s σ H _ v vl vu lo hi sl Q I rx hs pl pu ⟨_, _, rfl, SqL.of h1, fun p hp => k _ _ [p] (VO.new0 hp) (.lst upd_same (rb.mono (same_new hp)))⟩
  | _ => simp [slDp] at e
theorem reps_pick {K : PySem.W.Frag} {H : Hp} {ds : List D} {vs : List V} (r : Reps K H vs ds []) : ∀ ks : List Nat, Reps K H (ks.filterMap fun k => vs[k]?) (ks.filterMap fun k => ds[k]?) []
  | [] => .nil
  | k :: ks => by
    have ih := reps_pick r ks
    simp only [List.filterMap_cons]
    cases h : ds[k]? with
    | none =>
      have : vs[k]? = none := by
        rw [List.getElem?_eq_none_iff] at h ⊢
        rw [r.length]; exact h
      rw [this]; exact ih
    | some d =>
      obtain ⟨v, B, h1, h2, h3⟩ := r.get h
      rw [h1]
      have : B = [] := List.sublist_nil.mp h3
      subst this
      exact Reps.cons (A := []) h2 ih
theorem vals_pick {vs : List V} {us : List Value} (r : Vals vs us) : ∀ ks : List Nat, Vals (ks.filterMap fun k => vs[k]?) (ks.filterMap fun k => us[k]?)
  | [] => .nil
  | k :: ks => by
    have ih := vals_pick r ks
    simp only [List.filterMap_cons]
    cases h : vs[k]? with
    | none =>
      have : us[k]? = none := by
        rw [List.getElem?_eq_none_iff] at h ⊢
        rw [← r.length]; exact h
      rw [this]; exact ih
    | some v =>
      obtain ⟨u, h1, h2⟩ := r.get h
      rw [h1]
      exact .cons h2 ih
theorem places_le (lo hi : Option Int) (n : Nat) : Builtin.Slice.slicePlaces (Builtin.Slice.sliceAdjust lo hi (-1) (n : Int)).1 (Builtin.Slice.sliceAdjust lo hi (-1) (n : Int)).2 (-1) ≤ n := by
  have h1 : (Builtin.Slice.sliceAdjust lo hi (-1) (n : Int)).1 ≤ (n : Int) - 1 := by
    unfold Builtin.Slice.sliceAdjust
    cases lo with
    | none => simp
    | some v => simp only [show ((-1 : Int) < 0) from by decide, if_true]; split <;> omega
  have h2 : -1 ≤ (Builtin.Slice.sliceAdjust lo hi (-1) (n : Int)).2 := by
    unfold Builtin.Slice.sliceAdjust
    cases hi with
    | none => simp
    | some v => simp only [show ((-1 : Int) < 0) from by decide, if_true]; split <;> omega
  generalize (Builtin.Slice.sliceAdjust lo hi (-1) (n : Int)).1 = a at *
  generalize (Builtin.Slice.sliceAdjust lo hi (-1) (n : Int)).2 = b at *
  unfold Builtin.Slice.slicePlaces
  rw [if_neg (by decide)]
  split
  · have : (a - b - 1) / (-(-1)) = a - b - 1 := by rw [Int.neg_neg, Int.ediv_one]
    omega
  · omega
section
variable {prog : Program} {w : World} {A : Around} {E : Value → Shared → Prop} {s : Shared}
theorem sliceApplied_back {sl : Addr} {vl vu vk : Value} {lo hi : Option Int} {n : Nat} {Q : Int × Int × Nat → Shared → Prop} (hs : s.heap.IsSliceOf sl vl vu vk) (pl : IsPart vl lo) (pu : IsPart vu hi) (pk : IsPart vk (some (-1)))
    (h : Q ((Builtin.Slice.sliceAdjust lo hi (-1) (n : Int)).1, -1, Builtin.Slice.slicePlaces (Builtin.Slice.sliceAdjust lo hi (-1) (n : Int)).1 (Builtin.Slice.sliceAdjust lo hi (-1) (n : Int)).2 (-1)) s) : wpAny (model prog w) A (Builtin.Slice.sliceApplied (.ref sl) (pure (n : Int))) Q E s := by
  obtain ⟨os, hos, hcs, hds⟩ := id hs
  unfold Builtin.Slice.sliceApplied Builtin.Slice.sliceFields
  refine wpAny_bind (wpAny_bind (wpAny_field hos hds (x := vl) rfl (wpAny_bind (wpAny_field hos hds (x := vu) rfl (wpAny_bind (wpAny_field hos hds (x := vk) rfl (wpAny_pure ?_)))))))
  refine wpAny_bind (HT.slicePart_ pk ?_)
  show wpAny _ _ (if ((-1 : Int) == 0) = true then _ else _) _ _ s
  rw [if_neg (by decide)]
  refine wpAny_bind (HT.slicePart_ pl (wpAny_bind (HT.slicePart_ pu (wpAny_bind (wpAny_pure ?_)))))
  exact wpAny_pure h
theorem getItem_tuple_back {t sl : Addr} {items : Array Value} {vl vu vk : Value} {lo hi : Option Int} {Q : Value → Shared → Prop} (ht : IsTup s.heap t items) (hs : s.heap.IsSliceOf sl vl vu vk) (pl : IsPart vl lo) (pu : IsPart vu hi) (pk : IsPart vk (some (-1)))
    (h : Q (.ref s.heap.objs.size) { s with heap := s.heap.push { cls := .type "tuple", data := .seq (cutR items.toList lo hi).toArray } })
    (hsz : items.size ≤ sizeLine) : wpAny (model prog w) A (getItem (.ref t) (.ref sl)) Q E s := by
  have hlen : items.toList.length = items.size := Array.length_toList
  have htake : sizeOk (.seq (cutR items.toList lo hi).toArray) := by
    show (cutR items.toList lo hi).toArray.size ≤ sizeLine
    rw [List.size_toArray]
    unfold cutR
    refine Nat.le_trans (List.length_filterMap_le _ _) ?_
    rw [List.length_range]
    exact Nat.le_trans (places_le lo hi _) (by rw [hlen]; exact hsz)
  obtain ⟨os, hos, hcs, hds⟩ := id hs
  have hTs : s.TypeIs (.ref sl) "slice" := ⟨os, hos, hcs⟩
  unfold getItem
  try with_reducible refine wpAny_holding ?_
  first | refine wpAny_bind (wpAny_pure ?_) | skip
  refine wpAny_bind (wpAny_sequenceKey ht.typeIs (by decide) ?_)
  refine wpAny_bind (wpAny_callSpecial?_slot (name := Str.ofString "__getitem__") ht.typeIs PyProof.Rows.slot_tuple_getitem
    (wpAny_call_entry PyProof.Rows.slot_tuple_getitem ht.typeIs PyProof.Rows.entry_tuple_getitem ?_ (PyProof.Rows.args_tuple_getitem _ _)))
  show wpAny _ _ (Builtin.Tuple.tupleItemsOf (.ref t) >>= _) _ _ s
  refine wpAny_bind (PyProof.Rows.tupleItemsOf_ ht ?_)
  refine wpAny_bind (wpAny_typeOf hTs ?_)
  rw [if_pos (by decide)]
  refine wpAny_bind (sliceApplied_back hs pl pu pk ?_)
  have hno : ∀ (a : Int) (k : Nat), ¬ ((a == 0 && (-1 : Int) == 1 && k == items.size) = true) := by
    intro a k q
    rw [Bool.and_eq_true, Bool.and_eq_true] at q
    exact absurd q.1.2 (by decide)
  have ea : ((List.range (Builtin.Slice.slicePlaces (Builtin.Slice.sliceAdjust lo hi (-1) (items.size : Int)).1 (Builtin.Slice.sliceAdjust lo hi (-1) (items.size : Int)).2 (-1))).filterMap fun (k : Nat) => items[((Builtin.Slice.sliceAdjust lo hi (-1) (items.size : Int)).1 + (k : Int) * (-1)).toNat]?) = cutR items.toList lo hi := by
    unfold cutR
    rw [hlen]
    simp only [Array.getElem?_toList]
  show wpAny _ _ (if ((Builtin.Slice.sliceAdjust lo hi (-1) (items.size : Int)).1 == 0 && (-1 : Int) == 1 && _ == items.size) = true then _ else _) _ _ s
  rw [if_neg (hno _ _)]
  dsimp only
  rw [ea]
  first
    | exact wpAny_bind (m := Builtin.Tuple.tupleExact _) (wpAny_newObj_type (wpAny_pure ⟨_, rfl, wpAny_pure h⟩) htake)
    | exact wpAny_bind (m := Builtin.Tuple.tupleExact _) (wpAny_newObj_type (wpAny_bind (wpAny_pure (wpAny_pure ⟨_, rfl, wpAny_pure h⟩))) htake)
    | exact wpAny_bind (wpAny_bind (m := Builtin.Tuple.tupleExact _) (wpAny_newObj_type (wpAny_pure (wpAny_pure ⟨_, rfl, wpAny_pure h⟩)) htake))
    | exact wpAny_bind (wpAny_bind (m := Builtin.Tuple.tupleExact _) (wpAny_newObj_type (wpAny_pure ⟨_, rfl, wpAny_pure h⟩) htake))
end
/-- picked by places -/
theorem reps_pickF {K : PySem.W.Frag} {H : Hp} {ds : List D} {vs : List V} (r : Reps K H vs ds []) (f : Nat → Nat) (ks : List Nat) : Reps K H (ks.filterMap fun k => vs[f k]?) (ks.filterMap fun k => ds[f k]?) [] := by
  have := reps_pick r (ks.map f)
  rwa [List.filterMap_map, List.filterMap_map] at this
theorem vals_pickF {vs : List V} {us : List Value} (r : Vals vs us) (f : Nat → Nat) (ks : List Nat) : Vals (ks.filterMap fun k => vs[f k]?) (ks.filterMap fun k => us[f k]?) := by
  have := vals_pick r (ks.map f)
  rwa [List.filterMap_map, List.filterMap_map] at this
/-- xs[lo:hi:st] of a list without lists: a new list -/
def rSl3 (K : PySem.W.Frag) : V → Option Int → Option Int → Int → Hp → VK → Prop := fun x lo hi st H Q => ∃ dx A d, Rep K H x dx A ∧ slD3 dx lo hi st = some d ∧ ∀ v H' A', VO H A H' A' true → Rep K H' v d A' → Q v H'
def IsSt (X : Cx) (r : V → Option Int → Option Int → Int → Hp → VK → Prop) : Prop :=
  ∀ (pins : List (Addr × Obj)) (s : Shared) (σ : L2.St) (H : Hp) (x : V) (v vl vu vk : Value) (lo hi : Option Int) (st : Int) (sl : Addr) (Q : VK), Inv X pins σ H s → RelV x v → s.heap.IsSliceOf sl vl vu vk → IsPart vl lo → IsPart vu hi → IsPart vk (some st) → r x lo hi st H Q →
    ∃ T id, typeLookup (.type T) "__getitem__" = pure (some (.builtin id)) ∧ s.TypeIs v T ∧ wpAny (model X.prog X.w) X.A (getItem v (.ref sl)) (EP X pins σ Q) X.xe s
section
variable {X : Cx}
theorem sl3_D : IsSt X (rSl3 X.K) := by
  intro pins s σ H x v vl vu vk lo hi st sl Q I rx hs pl pu pk h
  obtain ⟨dx, A, d, r, e, k⟩ := h
  cases r with
  | lst h1 r =>
    simp only [slD3] at e
    split at e
    rotate_left
    · cases e
    rename_i hst
    simp only [Option.some.injEq] at e; subst e
    have hA := Reps.pure r hst.2
    subst hA
    cases rx
    obtain ⟨its, rv, ht, hz⟩ := I.list (SqL.of h1)
    have hlen := rv.length
    have hlr := r.length
    refine ⟨"list", _, slot_list_getitem.lookup, ht.isList.typeIs, ?_⟩
    refine wpAny_getItem_list_slice ht.isList hs pl pu pk (by simp [hst.1]) ?_ (by rw [List.size_toArray] <;> omega)
    have e2 : slicePick its.toArray lo hi (some st) = ((sliceRange (sliceBounds lo hi (some st) its.length).1 (sliceBounds lo hi (some st) its.length).2.1 (sliceBounds lo hi (some st) its.length).2.2).filterMap fun k => its[k]?).toArray := by
      unfold slicePick
      rw [List.size_toArray]
      simp only [List.getElem?_toArray]
    have le := slicePick_size_le its.toArray lo hi (some st)
    rw [e2]
    rw [e2, List.size_toArray, List.size_toArray] at le
    have vp := vals_pick rv (sliceRange (sliceBounds lo hi (some st) its.length).1 (sliceBounds lo hi (some st) its.length).2.1 (sliceBounds lo hi (some st) its.length).2.2)
    have rp := reps_pick r (sliceRange (sliceBounds lo hi (some st) its.length).1 (sliceBounds lo hi (some st) its.length).2.1 (sliceBounds lo hi (some st) its.length).2.2)
    refine ⟨.ref s.heap.objs.size, _, I.laid (t' := s.toks) (o := .lst _) (fun b ob q => Heap.get?_push_of_some _ q) (Nat.le_refl _) ⟨?_, _, 0, vp, Heap.get?_push_size _ rfl⟩, rfl, k _ _ [s.heap.objs.size] (VO.new0 (I.hok.fresh (Nat.le_refl _))) ?_⟩
    · rw [vp.length]; omega
    · have e3 : its.length = _ := hlen.symm.trans hlr
      refine .lst upd_same ?_
      unfold cut3
      rw [← e3]
      exact rp.mono (same_new (I.hok.fresh (Nat.le_refl _)))
  | tup h1 r =>
    simp only [slD3] at e
    split at e
    rotate_left
    · cases e
    rename_i hst
    obtain ⟨rfl, hpu⟩ := hst
    simp only [Option.some.injEq] at e; subst e
    have hA := Reps.pure r hpu
    subst hA
    cases rx
    obtain ⟨its, rv, ht, hz⟩ := I.tuple h1
    have hlen := rv.length
    have hlr := r.length
    refine ⟨"tuple", _, PyProof.Rows.slot_tuple_getitem.lookup, ht.typeIs, ?_⟩
    refine getItem_tuple_back ht hs pl pu pk ?_ (by rw [List.size_toArray] <;> omega)
    have vp := vals_pickF rv (fun m => ((Builtin.Slice.sliceAdjust lo hi (-1) (its.length : Int)).1 + (m : Int) * (-1)).toNat) (List.range (Builtin.Slice.slicePlaces (Builtin.Slice.sliceAdjust lo hi (-1) (its.length : Int)).1 (Builtin.Slice.sliceAdjust lo hi (-1) (its.length : Int)).2 (-1)))
    have rp := reps_pickF r (fun m => ((Builtin.Slice.sliceAdjust lo hi (-1) (its.length : Int)).1 + (m : Int) * (-1)).toNat) (List.range (Builtin.Slice.slicePlaces (Builtin.Slice.sliceAdjust lo hi (-1) (its.length : Int)).1 (Builtin.Slice.sliceAdjust lo hi (-1) (its.length : Int)).2 (-1)))
    have le : (cutR its lo hi).length ≤ its.length := by
      unfold cutR
      exact Nat.le_trans (List.length_filterMap_le _ _) (by rw [List.length_range]; exact places_le lo hi _)
    have vp' : Vals _ (cutR its lo hi) := vp
    refine ⟨.ref s.heap.objs.size, _, I.laid (t' := s.toks) (o := .tup _) (fun b ob q => Heap.get?_push_of_some _ q) (Nat.le_refl _) ⟨?_, _, vp, IsTup.new _ _⟩, rfl, k _ _ [] (VO.grow (same_new (I.hok.fresh (Nat.le_refl _)))) ?_⟩
    · rw [vp'.length]; omega
    · have e3 : its.length = _ := hlen.symm.trans hlr
      refine .tup (.inl (.inl upd_same)) ?_
      unfold cutR
      rw [← e3]
      exact rp.mono (same_new (I.hok.fresh (Nat.le_refl _)))
  | _ => simp [slD3] at e
theorem pe_slice3 {r : V → Option Int → Option Int → Int → Hp → VK → Prop} (hr : IsSt X r) {e : Expr} {lo hi : Option Expr} {st : Expr} {p2 pos : Pos} {te tk : TE} {tl th : TO} (he : PE X e te) (hl : PO X lo tl) (hu : PO X hi th) (hk : PE X st tk) :
    PE X (.Subscript e (.Slice lo hi (some st) p2) pos) (fun σ H Q => te σ H fun x H1 => tl σ H1 fun l H2 => th σ H2 fun u H3 => tk σ H3 fun y H4 => ∃ i, y = .int i ∧ r x l u i H4 Q) := by
  refine ⟨fun pins s σ H Q I h => ?_⟩
  refine Subscript_ (thn (he.run pins s σ H _ I h) fun v s1 ⟨x, H1, I1, r1, q1⟩ => ?_)
  refine wpAny_Slice (thn (hl.run pins s1 σ H1 _ I1 q1) fun vl s2 ⟨l, H2, I2, pl, q2⟩ => thn (hu.run pins s2 σ H2 _ I2 q2) fun vu s3 ⟨u, H3, I3, pu, q3⟩ => ?_)
  rw [evalPart_some]
  refine thn (hk.run pins s3 σ H3 _ I3 q3) fun vk s4 ⟨y, H4, I4, r4, q4⟩ => ?_
  obtain ⟨i, rfl, q5⟩ := q4
  obtain ⟨t, rfl⟩ := r4
  have I5 : Inv X pins σ H4 { s4 with heap := s4.heap.push { cls := .type "slice", data := .fields #[vl, vu, .int i t] } } := I4.kept (t' := s4.toks) fun b ob q => Heap.get?_push_of_some _ q
  obtain ⟨T, id, hT, ht, hg⟩ := hr pins { s4 with heap := s4.heap.push { cls := .type "slice", data := .fields #[vl, vu, .int i t] } } σ H4 x v vl vu (.int i t) l u i s4.heap.objs.size Q I5 r1 (Heap.IsSliceOf.new ..) pl pu (.int i t) q5
  show wpAny (model X.prog X.w) X.A (subscriptTail e (.Slice lo hi (some st) p2) v (.ref s4.heap.objs.size)) (EP X pins σ Q) X.xe { s4 with heap := s4.heap.push { cls := .type "slice", data := .fields #[vl, vu, .int i t] } }
  exact tail_any (ops := [v, .ref s4.heap.objs.size]) ht hT hg (by with_unfolding_all rfl)
end
def pureBi : Bi → Bool
  | .tuple => false
  | .list => false
  | _ => true
def rBi (K : PySem.W.Frag) (b : Bi) : List V → Hp → VK → Prop := fun vs H Q => ∃ ds A d, Reps K H vs ds A ∧ biD b ds = some d ∧ ∀ v H' A', VO H A H' A' (pureBi b) → Rep K H' v d A' → Q v H'
theorem minL_spec : ∀ (ms : List Int) (m : Int), minL m ms ∈ m :: ms ∧ ∀ y ∈ m :: ms, minL m ms ≤ y
  | [], m => ⟨by simp [minL], fun y h => by simp at h; subst h; simp [minL]⟩
  | x :: xs, m => by
    obtain ⟨a, b⟩ := minL_spec xs (if x < m then x else m)
    simp only [minL]
    refine ⟨?_, fun y h => ?_⟩
    · rcases List.mem_cons.mp a with e | e
      · rw [e]; split <;> simp
      · simp [e]
    · have b0 := b _ (List.mem_cons_self ..)
      rcases List.mem_cons.mp h with e | h
      · subst e; split at b0 <;> split <;> omega
      · rcases List.mem_cons.mp h with e | h
        · subst e; split at b0 <;> split <;> omega
        · exact b y (List.mem_cons_of_mem _ h)
theorem maxL_spec : ∀ (ms : List Int) (m : Int), maxL m ms ∈ m :: ms ∧ ∀ y ∈ m :: ms, y ≤ maxL m ms
  | [], m => ⟨by simp [maxL], fun y h => by simp at h; subst h; simp [maxL]⟩
  | x :: xs, m => by
    obtain ⟨a, b⟩ := maxL_spec xs (if m < x then x else m)
    simp only [maxL]
    refine ⟨?_, fun y h => ?_⟩
    · rcases List.mem_cons.mp a with e | e
      · rw [e]; split <;> simp
      · simp [e]
    · have b0 := b _ (List.mem_cons_self ..)
      rcases List.mem_cons.mp h with e | h
      · subst e; split at b0 <;> split <;> omega
      · rcases List.mem_cons.mp h with e | h
        · subst e; split at b0 <;> split <;> omega
        · exact b y (List.mem_cons_of_mem _ h)
theorem ins_perm (x : Int) : ∀ l : List Int, (ins x l).Perm (x :: l)
  | [] => by simp [ins]
  | y :: ys => by
    simp only [ins]
    split
    · exact List.Perm.refl _
    · exact ((ins_perm x ys).cons y).trans (List.Perm.swap ..)
theorem isort_perm : ∀ l : List Int, (isort l).Perm l
  | [] => by simp [isort]
  | x :: xs => by
    simp only [isort]
    exact (ins_perm x _).trans ((isort_perm xs).cons x)
theorem ins_sorted (x : Int) : ∀ l : List Int, l.Pairwise (· ≤ ·) → (ins x l).Pairwise (· ≤ ·)
  | [], _ => by simp [ins]
  | y :: ys, h => by
    simp only [ins]
    split
    · rename_i hx
      refine List.pairwise_cons.mpr ⟨fun z hz => ?_, h⟩
      rcases List.mem_cons.mp hz with e | hz
      · subst e; exact hx
      · have := (List.pairwise_cons.mp h).1 z hz
        omega
    · rename_i hx
      obtain ⟨h1, h2⟩ := List.pairwise_cons.mp h
      refine List.pairwise_cons.mpr ⟨fun z hz => ?_, ins_sorted x ys h2⟩
      rcases List.mem_cons.mp ((ins_perm x ys).mem_iff.mp hz) with e | hz
      · subst e; omega
      · exact h1 z hz
theorem isort_sorted : ∀ l : List Int, (isort l).Pairwise (· ≤ ·)
  | [] => by simp [isort]
  | x :: xs => by
    simp only [isort]
    exact ins_sorted x _ (isort_sorted xs)
theorem isort_uniq {a b : List Int} (h : a.Perm b) (s : a.Pairwise (· ≤ ·)) : a = isort b :=
  List.Perm.eq_of_pairwise (fun x y _ _ h1 h2 => Int.le_antisymm h1 h2) s (isort_sorted b) (h.trans (isort_perm b).symm)
theorem two_reps {K : PySem.W.Frag} {H : Hp} {vs : List V} {d e : D} {A : List Addr} (r : Reps K H vs [d, e] A) : ∃ v w B C, vs = [v, w] ∧ A = B ++ C ∧ Rep K H v d B ∧ Rep K H w e C := by
  cases r with
  | cons r t =>
    cases t with
    | cons q t =>
      cases t
      exact ⟨_, _, _, _, rfl, rfl, r, by rwa [List.append_nil]⟩
theorem bi_len : CallR X (.builtin "len") (rBi X.K .len) := by
  intro pins s σ H vs us Q I rv h
  obtain ⟨ds, A, d, r, e, k⟩ := h
  match ds, r, e with
  | [d0], r, e =>
    obtain ⟨v, rfl, q⟩ := r.one_inv
    cases q with
    | lst h1 q =>
      simp only [biD, Option.some.injEq] at e; subst e
      rw [← q.length] at k
      exact call_len pins s σ H _ us Q I rv ⟨_, _, rfl, .inl ⟨_, SqL.of h1, rfl⟩, k _ _ [] VO.nil (.int _)⟩
    | tup h1 q =>
      simp only [biD, Option.some.injEq] at e; subst e
      rw [← q.length] at k
      exact call_len pins s σ H _ us Q I rv ⟨_, _, rfl, .inr ⟨_, h1, rfl⟩, k _ _ [] VO.nil (.int _)⟩
    | @scr p ns h1 =>
      simp only [biD, Option.some.injEq] at e; subst e
      exact call_len pins s σ H _ us Q I rv ⟨_, _, rfl, .inl ⟨_, h1.sq, rfl⟩, k _ _ [] VO.nil (by rw [List.length_map]; exact .int _)⟩
    | frz h1 q =>
      simp only [biD, Option.some.injEq] at e; subst e
      exact call_len pins s σ H _ us Q I rv ⟨_, _, rfl, .inl ⟨_, .inl (.inr ⟨_, h1⟩), rfl⟩, k _ _ [] VO.nil (by rw [q.length]; exact .int _)⟩
    | str z =>
      simp only [biD] at e
      split at e
      · rename_i hz
        simp only [Option.some.injEq] at e; subst e
        exact call_len pins s σ H _ us Q I rv ⟨_, _, rfl, ⟨line_LMX hz, rfl⟩, k _ _ [] VO.nil (.int _)⟩
      · cases e
    | _ => simp [biD] at e
  | [], _, e => simp [biD] at e
  | _ :: _ :: _, _, e => simp [biD] at e
theorem bi_abs : CallR X (.builtin "abs") (rBi X.K .abs) := by
  intro pins s σ H vs us Q I rv h
  obtain ⟨ds, A, d, r, e, k⟩ := h
  match ds, r, e with
  | [.int i], r, e =>
    obtain ⟨v, rfl, q⟩ := r.one_inv
    cases q
    simp only [biD, Option.some.injEq] at e; subst e
    refine call_abs pins s σ H _ us Q I rv ⟨i, rfl, ?_⟩
    have e2 : (if i < 0 then -i else i) = (i.natAbs : Int) := by split <;> omega
    rw [e2]
    exact k _ _ [] VO.nil (.int _)
theorem bi_sum (hc : X.calm = true) : CallR X (.builtin "sum") (rBi X.K .sum) := by
  intro pins s σ H vs us Q I rv h
  obtain ⟨ds, A, d, r, e, k⟩ := h
  match ds, r, e with
  | [.lst xs], r, e =>
    obtain ⟨v, rfl, q⟩ := r.one_inv
    cases q with
    | lst h1 q =>
      simp only [biD, Option.map_eq_some_iff] at e
      obtain ⟨ns, e9, rfl⟩ := e
      obtain ⟨rfl, rfl⟩ := reps_ints q e9
      exact cr_sum hc pins s σ H _ us Q I rv ⟨_, _, rfl, SqL.of h1, k _ _ [] VO.nil (.int _)⟩
theorem bi_min (hc : X.calm = true) : CallR X (.builtin "min") (rBi X.K .min) := by
  intro pins s σ H vs us Q I rv h
  obtain ⟨ds, A, d, r, e, k⟩ := h
  match ds, r, e with
  | [.lst xs], r, e =>
    obtain ⟨v, rfl, q⟩ := r.one_inv
    cases q with
    | lst h1 q =>
      simp only [biD, Option.bind_eq_some_iff] at e
      obtain ⟨ns, e9, e2⟩ := e
      obtain ⟨rfl, rfl⟩ := reps_ints q e9
      match ns, e2 with
      | m :: ms, e2 =>
        simp only [Option.some.injEq] at e2; subst e2
        refine cr_min hc pins s σ H _ us Q I rv ⟨_, _, rfl, SqL.of h1, by simp, fun m' h1 h2 => ?_⟩
        obtain ⟨a, b⟩ := minL_spec ms m
        have : m' = minL m ms := Int.le_antisymm (h2 _ a) (b _ h1)
        subst this
        exact k _ _ [] VO.nil (.int _)
  | [.int i, .int j], r, e =>
    obtain ⟨v, w, B, C, rfl, rfl, r1, r2⟩ := two_reps r
    cases r1
    cases r2
    simp only [biD, Option.some.injEq] at e; subst e
    exact call_min2 hc pins s σ H _ us Q I rv ⟨_, _, rfl, k _ _ [] VO.nil (.int _)⟩
  | [.int i, .int j, .int l], r, e =>
    obtain ⟨vs', rfl, B0, r'⟩ : ∃ vs', vs = V.int i :: vs' ∧ ∃ B, Reps X.K H vs' [Cy.D.int j, Cy.D.int l] B := by
      cases r with
      | cons ra rt => cases ra; exact ⟨_, rfl, _, rt⟩
    obtain ⟨v, w, B, C, rfl, _, r1, r2⟩ := two_reps r'
    cases r1
    cases r2
    simp only [biD, Option.some.injEq] at e; subst e
    refine call_min3Nu hc pins s σ H _ us Q I rv ⟨.int i, .int j, .int l, .int _, rfl, ?_, k _ _ [] VO.nil (.int _)⟩
    show ((some (decide (j < i))).map fun c => if c = true then V.int j else V.int i).bind (fun m => nuMin2 m (.int l)) = _
    by_cases h1 : j < i
    · simp only [h1, decide_true, Option.map_some, if_true, Option.bind_some]
      show (some (decide (l < j))).map (fun c => if c = true then V.int l else V.int j) = _
      by_cases h2 : l < j <;> simp [h2]
    · simp only [h1, decide_false, Option.map_some, Bool.false_eq_true, if_false, Option.bind_some]
      show (some (decide (l < i))).map (fun c => if c = true then V.int l else V.int i) = _
      by_cases h2 : l < i <;> simp [h2]
theorem bi_max (hc : X.calm = true) : CallR X (.builtin "max") (rBi X.K .max) := by
  intro pins s σ H vs us Q I rv h
  obtain ⟨ds, A, d, r, e, k⟩ := h
  match ds, r, e with
  | [.lst xs], r, e =>
    obtain ⟨v, rfl, q⟩ := r.one_inv
    cases q with
    | lst h1 q =>
      simp only [biD, Option.bind_eq_some_iff] at e
      obtain ⟨ns, e9, e2⟩ := e
      obtain ⟨rfl, rfl⟩ := reps_ints q e9
      match ns, e2 with
      | m :: ms, e2 =>
        simp only [Option.some.injEq] at e2; subst e2
        refine cr_max hc pins s σ H _ us Q I rv ⟨_, _, rfl, SqL.of h1, by simp, fun m' h1 h2 => ?_⟩
        obtain ⟨a, b⟩ := maxL_spec ms m
        have : m' = maxL m ms := Int.le_antisymm (b _ h1) (h2 _ a)
        subst this
        exact k _ _ [] VO.nil (.int _)
  | [.int i, .int j], r, e =>
    obtain ⟨v, w, B, C, rfl, rfl, r1, r2⟩ := two_reps r
    cases r1
    cases r2
    simp only [biD, Option.some.injEq] at e; subst e
    exact call_max2 hc pins s σ H _ us Q I rv ⟨_, _, rfl, k _ _ [] VO.nil (.int _)⟩
theorem bi_all (hc : X.calm = true) : CallR X (.builtin "all") (rBi X.K .all) := by
  intro pins s σ H vs us Q I rv h
  obtain ⟨ds, A, d, r, e, k⟩ := h
  match ds, r, e with
  | [.lst xs], r, e =>
    obtain ⟨v, rfl, q⟩ := r.one_inv
    cases q with
    | lst h1 q =>
      simp only [biD, Option.map_eq_some_iff] at e
      obtain ⟨ns, e9, rfl⟩ := e
      obtain ⟨rfl, rfl⟩ := reps_bls q e9
      exact cr_all hc pins s σ H _ us Q I rv ⟨_, _, rfl, SqL.of h1, k _ _ [] VO.nil (.bl _)⟩
theorem bi_any (hc : X.calm = true) : CallR X (.builtin "any") (rBi X.K .any) := by
  intro pins s σ H vs us Q I rv h
  obtain ⟨ds, A, d, r, e, k⟩ := h
  match ds, r, e with
  | [.lst xs], r, e =>
    obtain ⟨v, rfl, q⟩ := r.one_inv
    cases q with
    | lst h1 q =>
      simp only [biD, Option.map_eq_some_iff] at e
      obtain ⟨ns, e9, rfl⟩ := e
      obtain ⟨rfl, rfl⟩ := reps_bls q e9
      exact cr_any hc pins s σ H _ us Q I rv ⟨_, _, rfl, SqL.of h1, k _ _ [] VO.nil (.bl _)⟩
theorem bi_tuple : CallR X (.type "tuple") (rBi X.K .tuple) := by
  intro pins s σ H vs us Q I rv h
  obtain ⟨ds, A, d, r, e, k⟩ := h
  match ds, r, e with
  | [.lst xs], r, e =>
    obtain ⟨v, rfl, q⟩ := r.one_inv
    cases q with
    | lst h1 q =>
      simp only [biD, Option.some.injEq] at e; subst e
      exact call_tuple_of pins s σ H _ us Q I rv ⟨_, _, rfl, .inl ⟨SqL.of h1, fun p hp => k _ _ _ (VO.newT hp (List.sublist_cons_self _ _)) (.tup (SqT.of upd_same) (q.mono (same_new hp)))⟩⟩
  | [.tup xs], r, e =>
    obtain ⟨v, rfl, q⟩ := r.one_inv
    cases q with
    | tup h1 q =>
      simp only [biD, Option.some.injEq] at e; subst e
      exact call_tuple_of pins s σ H _ us Q I rv ⟨_, _, rfl, .inr ⟨h1, k _ _ _ (VO.sub (List.Sublist.refl _)) (.tup h1 q)⟩⟩
theorem bi_list : CallR X (.type "list") (rBi X.K .list) := by
  intro pins s σ H vs us Q I rv h
  obtain ⟨ds, A, d, r, e, k⟩ := h
  match ds, r, e with
  | [.lst xs], r, e =>
    obtain ⟨v, rfl, q⟩ := r.one_inv
    cases q with
    | @lst p vs ds B h1 q =>
      simp only [biD, Option.some.injEq] at e; subst e
      exact call_list_of pins s σ H _ us Q I rv ⟨_, _, rfl, .inl (SqL.of h1), fun p hp => k _ _ (p :: B) (VO.new hp (List.sublist_cons_self _ _)) (.lst upd_same (q.mono (same_new hp)))⟩
  | [.tup xs], r, e =>
    obtain ⟨v, rfl, q⟩ := r.one_inv
    cases q with
    | tup h1 q =>
      simp only [biD, Option.some.injEq] at e; subst e
      exact call_list_of pins s σ H _ us Q I rv ⟨_, _, rfl, .inr h1, fun p hp => k _ _ (p :: A) (VO.new hp (List.Sublist.refl _)) (.lst upd_same (q.mono (same_new hp)))⟩
theorem bi_str : CallR X (.type "str") (rBi X.K .str) := by
  intro pins s σ H vs us Q I rv h
  obtain ⟨ds, A, d, r, e, k⟩ := h
  match ds, r, e with
  | [.int i], r, e =>
    obtain ⟨v, rfl, q⟩ := r.one_inv
    cases q
    simp only [biD] at e
    split at e
    · rename_i hz
      simp only [Option.some.injEq] at e; subst e
      exact call_str_int pins s σ H _ us Q I rv ⟨i, rfl, hz, k _ _ [] VO.nil (.str _)⟩
    · cases e
  | [.str x], r, e =>
    obtain ⟨v, rfl, q⟩ := r.one_inv
    cases q
    simp only [biD, Option.some.injEq] at e; subst e
    obtain ⟨u, rfl, t, rfl⟩ := vals1 rv
    exact PySem.P.str_of_str ⟨.str x, H, I, ⟨t, rfl⟩, k _ _ [] VO.nil (.str _)⟩
  | [.non], r, e =>
    obtain ⟨v, rfl, q⟩ := r.one_inv
    cases q
    simp only [biD, Option.some.injEq] at e; subst e
    obtain ⟨u, rfl, t⟩ := vals1 rv
    cases t
    exact PySem.P.str_of_none ⟨.str _, H, I.tok _, ⟨_, rfl⟩, k _ _ [] VO.nil (.str _)⟩
theorem bi_listp : CallR X (.type "list") (rBi X.K .listp) := by
  intro pins s σ H vs us Q I rv h
  obtain ⟨ds, A, d, r, e, k⟩ := h
  match ds, r, e with
  | [.lst xs], r, e =>
    obtain ⟨v, rfl, q⟩ := r.one_inv
    cases q with
    | @lst p vs ds B h1 q =>
      simp only [biD] at e
      split at e
      · rename_i hp
        simp only [Option.some.injEq] at e; subst e
        have hB := Reps.pure q hp
        subst hB
        exact call_list_of pins s σ H _ us Q I rv ⟨_, _, rfl, .inl (SqL.of h1), fun p hp => k _ _ [p] (VO.new0 hp) (.lst upd_same (q.mono (same_new hp)))⟩
      · cases e
  | [.tup xs], r, e =>
    obtain ⟨v, rfl, q⟩ := r.one_inv
    cases q with
    | tup h1 q =>
      simp only [biD] at e
      split at e
      · rename_i hp
        simp only [Option.some.injEq] at e; subst e
        have hB := Reps.pure q hp
        subst hB
        exact call_list_of pins s σ H _ us Q I rv ⟨_, _, rfl, .inr h1, fun p hp => k _ _ [p] (VO.new0 hp) (.lst upd_same (q.mono (same_new hp)))⟩
      · cases e
theorem bi_sorted : CallR X (.builtin "sorted") (rBi X.K .sorted) := by
  intro pins s σ H vs us Q I rv h
  obtain ⟨ds, A, d, r, e, k⟩ := h
  match ds, r, e with
  | [.lst xs], r, e =>
    obtain ⟨v, rfl, q⟩ := r.one_inv
    cases q with
    | lst h1 q =>
      simp only [biD, Option.map_eq_some_iff] at e
      obtain ⟨ns, e9, rfl⟩ := e
      obtain ⟨rfl, rfl⟩ := reps_ints q e9
      refine cr_sortedI pins s σ H _ us Q I rv ⟨_, _, rfl, SqL.of h1, fun ns' p h1 h2 hp => ?_⟩
      rw [isort_uniq h1 h2]
      exact k _ _ [p] (VO.new0 hp) (.lst upd_same (reps_of_ints _))
theorem bi_int : CallR X (.type "int") (rBi X.K .int) := by
  intro pins s σ H vs us Q I rv h
  obtain ⟨ds, A, d, r, e, k⟩ := h
  match ds, r, e with
  | [.int i], r, e =>
    obtain ⟨v, rfl, q⟩ := r.one_inv
    cases q
    simp only [biD, Option.some.injEq] at e; subst e
    exact call_int1 pins s σ H _ us Q I rv (.inl ⟨_, rfl, k _ _ [] VO.nil (.int _)⟩)
  | [.bl b], r, e =>
    obtain ⟨v, rfl, q⟩ := r.one_inv
    cases q
    simp only [biD, Option.some.injEq] at e; subst e
    exact call_int1 pins s σ H _ us Q I rv (.inr ⟨_, rfl, k _ _ [] VO.nil (.int _)⟩)
  | [.str x], r, e =>
    obtain ⟨v, rfl, q⟩ := r.one_inv
    cases q
    simp only [biD] at e
    split at e
    · rename_i hl
      simp only [Option.map_eq_some_iff] at e
      obtain ⟨n, hn, rfl⟩ := e
      exact call_int_str pins s σ H _ us Q I rv ⟨x, n, rfl, hn, hl, k _ _ [] VO.nil (.int _)⟩
    · cases e
def tyStr : TyN → String
  | .int => "int" | .bool => "bool" | .list => "list" | .tuple => "tuple" | .dict => "dict" | .str => "str"
theorem rep_ty {K : PySem.W.Frag} {H : Hp} {v : V} {d : D} {A : List Addr} (r : Rep K H v d A) (nh : ∀ T, isiD T d ≠ none) : ∃ t : String, TyX K H v (.type t) ∧ ∀ T b, isiD T d = some b → PySem.W.kitOne K (.type t) (.type (tyStr T)) = some b := by
  cases r with
  | non => exact ⟨_, .base .non, fun T b e => by cases T <;> simp only [isiD, Option.some.injEq] at e <;> subst e <;> exact kit_ty (by decide +kernel)⟩
  | bl x => exact ⟨_, .base (.bl x), fun T b e => by cases T <;> simp only [isiD, Option.some.injEq] at e <;> subst e <;> exact kit_ty (by decide +kernel)⟩
  | int x => exact ⟨_, .base (.int x), fun T b e => by cases T <;> simp only [isiD, Option.some.injEq] at e <;> subst e <;> exact kit_ty (by decide +kernel)⟩
  | str x => exact ⟨_, .base (.str x), fun T b e => by cases T <;> simp only [isiD, Option.some.injEq] at e <;> subst e <;> exact kit_ty (by decide +kernel)⟩
  | lst h1 r => exact ⟨_, .base (.lst h1), fun T b e => by cases T <;> simp only [isiD, Option.some.injEq] at e <;> subst e <;> exact kit_ty (by decide +kernel)⟩
  | @tup p vs ds A h1 r =>
    have ty : TyX K H (.ref p) (.type "tuple") := by
      rcases h1 with (h1 | ⟨o, h1⟩) | ⟨o, its, n, h1, h2, _⟩
      · exact .base (.tup h1)
      · exact .fTuple h1
      · exact .kTuple h1 h2
    exact ⟨_, ty, fun T b e => by cases T <;> simp only [isiD, Option.some.injEq] at e <;> subst e <;> exact kit_ty (by decide +kernel)⟩
  | dct h1 h2 r => exact ⟨_, .base (.dK h1), fun T b e => by cases T <;> simp only [isiD, Option.some.injEq] at e <;> subst e <;> exact kit_ty (by decide +kernel)⟩
  | obj h1 h2 h3 r => exact absurd rfl (nh .int)
  | frz h1 r => exact ⟨_, .base (.frz h1), fun T b e => by cases T <;> simp only [isiD, Option.some.injEq] at e <;> subst e <;> exact kit_ty (by decide +kernel)⟩
  | hol p => exact absurd rfl (nh .int)
  | any hn => exact absurd rfl (nh .int)
  | er0 h1 hk hc h2 => exact absurd rfl (nh .int)
  | er1 h1 hk hc h2 r => exact absurd rfl (nh .int)
  | @scr p ns h1 =>
    have ty : TyX K H (.ref p) (.type "list") := by
      rcases h1 with ⟨o, h1⟩ | ⟨o, its, n, h1, h2, _⟩
      · exact .base (.frz h1)
      · exact .kList h1 h2
    exact ⟨_, ty, fun T b e => by cases T <;> simp only [isiD, Option.some.injEq] at e <;> subst e <;> exact kit_ty (by decide +kernel)⟩
theorem bi_isi (T : TyN) {pins : List (Addr × Obj)} {s : Shared} {σ : L2.St} {H : Hp} {v : V} {us : List Value} {Q : VK} {d : D} {A : List Addr} {b : Bool} (I : Inv X pins σ H s) (rv : Vals [v, .ty (tyStr T)] us) (r : Rep X.K H v d A) (e : isiD T d = some b) (k : Q (.bl b) H) :
    wpAny (model X.prog X.w) X.A (call (.builtin "isinstance") us) (EP X pins σ Q) X.xe s := by
  obtain ⟨t, ty, f⟩ := rep_ty r (fun T2 z => by
    cases d <;> cases T2 <;> simp [isiD] at z <;> cases T <;> simp [isiD] at e)
  exact call_isi pins s σ H _ us Q I rv ⟨_, _, _, _, _, rfl, .ty _, ty, f T b e, k⟩
theorem kx_any {K : PySem.W.Frag} {t : Value} {f : Str → Value} {o : Str → Bool} : ∀ {cs : List Str}, (∀ c ∈ cs, PySem.W.kitOne K t (f c) = some (o c)) → PySem.W.kitAny K t (cs.map f) = some (cs.any o)
  | [], _ => rfl
  | c :: cs, h => by
    have h1 := h c (List.mem_cons_self ..)
    have h2 := kx_any fun d hd => h d (List.mem_cons_of_mem _ hd)
    simp only [List.map_cons, PySem.W.kitAny, h1, List.any_cons]
    cases o c with
    | true => rfl
    | false => simpa using h2
theorem inst_of {pins : List (Addr × Obj)} {s : Shared} {σ : L2.St} {H : Hp} {p C : Addr} {d : Option Addr} (I : Inv X pins σ H s) (h1 : H p = some (ErrO (.ref C) d p)) (h2 : ∀ dd, d = some dd → ∃ fs, H dd = some (.xd fs)) :
    ∃ oe od, PySem.W.InstAt s.heap p oe C od := by
  obtain ⟨⟨oe, vs, ha, hz, hd⟩, _, _⟩ := I.hok p _ h1
  cases d with
  | none =>
    refine ⟨oe, none, ?_⟩
    obtain ⟨oc, od, oda, osl⟩ := oe
    obtain ⟨z1, z2⟩ := hz
    dsimp only at z1 z2 hd
    subst z1 z2 hd
    exact ⟨ha, rfl, rfl, trivial⟩
  | some dd =>
    obtain ⟨fs, hfs⟩ := h2 dd rfl
    have hx : ObjOk X.prog X.w H s.heap dd (.xd fs) := I.hok dd _ hfs
    obtain ⟨mA, hns, _⟩ := hx
    obtain ⟨od, ho, _⟩ := lookIn_ns hns
    exact ⟨oe, some od, ha, hz.1, by unfold PySem.W.notCls; rw [hd] <;> rfl, by rw [hz.2]; exact ho⟩
theorem kx_of {pins : List (Addr × Obj)} {s : Shared} {σ : L2.St} {H : Hp} {v : V} {u : Value} {d : D} {A : List Addr} {b : Bool} {cs : List Str} (I : Inv X pins σ H s) (KA : KxA X.K) (r : Rep X.K H v d A) (e : isxD cs d = some b)
    (hcs : ∀ c ∈ cs, c = "ValueError" ∨ c ∈ ClTab.xs) (rv : RelV v u) : ∃ (t : Value) (P : Heap → Prop) (o : Str → Bool), PySem.W.KitX X.K u t P ∧ P s.heap ∧ u ≠ .builtin "__main__.__loader__#opaque" ∧ (∀ c ∈ cs, PySem.W.kitOne X.K t (clsU X.K c) = some (o c)) ∧ b = cs.any o := by
  have err : ∀ (p : Addr) (c : Str) (dx : Option Addr), u = .ref p → H p = some (ErrO (.ref (He.ga X.K c)) dx p) → c ∈ ClTab.xs → (∀ dd, dx = some dd → ∃ fs, H dd = some (.xd fs)) → b = (cs.any fun c0 => subX c c0 || decide (c0 = "ValueError")) →
      ∃ (t : Value) (P : Heap → Prop) (o : Str → Bool), PySem.W.KitX X.K u t P ∧ P s.heap ∧ u ≠ .builtin "__main__.__loader__#opaque" ∧ (∀ c ∈ cs, PySem.W.kitOne X.K t (clsU X.K c) = some (o c)) ∧ b = cs.any o := by
    intro p c dx eu h1 hc h2 eb
    subst eu
    obtain ⟨oe, od, J⟩ := inst_of I h1 h2
    have E := (KA.cl c hc).exc
    have hcl : (PySem.W.clsIn X.K (He.ga X.K c)).isSome = true := by
      obtain ⟨cd, q, _⟩ := PySem.W.any_some E.hd
      rw [q]; rfl
    refine ⟨_, _, fun c0 => subX c c0 || decide (c0 = "ValueError"), PySem.W.kitx_exc hcl E.hg E.hk E.hs E.ha E.hn E.ht E.hm, J, (fun z => nomatch z), fun c0 h0 => ?_, eb⟩
    unfold clsU
    by_cases hv : c0 = "ValueError"
    · rw [if_pos hv, (KA.cl c hc).ve]; simp [hv]
    · rw [if_neg hv, (KA.cl c hc).one c0 ((hcs c0 h0).resolve_left hv)]; simp [hv]
  cases r with
  | er0 h1 hk hc h2 =>
    simp only [isxD, Option.some.injEq] at e
    exact err _ _ _ rv h1 hc h2 e.symm
  | er1 h1 hk hc h2 r =>
    simp only [isxD, Option.some.injEq] at e
    exact err _ _ _ rv h1 hc (fun dd z => ⟨_, by cases z; exact h2⟩) e.symm
  | non =>
    simp only [isxD, Option.some.injEq] at e
    cases (show u = Value.none from rv)
    refine ⟨_, _, fun _ => false, PySem.W.kitx_none, True.intro, (fun z => nomatch z), fun c0 h0 => ?_, by rw [← e]; clear hcs err; induction cs with | nil => rfl | cons c cs ih => simpa using ih⟩
    unfold clsU
    by_cases hv : c0 = "ValueError"
    · rw [if_pos hv]; exact KA.nv
    · rw [if_neg hv]; exact (KA.cl c0 ((hcs c0 h0).resolve_left hv)).nn
  | _ => simp [isxD] at e
theorem bi_isx1 {pins : List (Addr × Obj)} {s : Shared} {σ : L2.St} {H : Hp} {v : V} {us : List Value} {Q : VK} {d : D} {A : List Addr} {b : Bool} {c : Str} (I : Inv X pins σ H s) (KA : KxA X.K) (rv : Vals [v, clsV X.K c] us) (r : Rep X.K H v d A) (e : isxD [c] d = some b)
    (hc : c = "ValueError" ∨ c ∈ ClTab.xs) (q : Q (.bl b) H) : wpAny (model X.prog X.w) X.A (call (.builtin "isinstance") us) (EP X pins σ Q) X.xe s := by
  obtain ⟨u1, u2, rfl, r1, r2⟩ := vals2 rv
  have e2 := (clsVU (K := X.K) (c := c)).eq r2
  subst e2
  obtain ⟨t, P, o, Z, p, hx, f, eb⟩ := kx_of I KA r e (fun c' h => by cases List.mem_singleton.mp h; exact hc) r1
  have e1 := f c (List.mem_singleton.mpr rfl)
  have eb2 : b = o c := by rw [eb]; simp
  exact PySem.W.kia_one Z I.kIn p e1 hx fun tk => ⟨.bl b, H, I.tok tk, by rw [eb2]; rfl, q⟩
theorem bi_isxT {pins : List (Addr × Obj)} {s : Shared} {σ : L2.St} {H : Hp} {v : V} {tp : Addr} {us : List Value} {Q : VK} {d : D} {A : List Addr} {b : Bool} {cs : List Str} (I : Inv X pins σ H s) (KA : KxA X.K) (rv : Vals [v, .ref tp] us) (hT : H tp = some (.tup (cs.map (clsV X.K)))) (r : Rep X.K H v d A) (e : isxD cs d = some b)
    (hc : ∀ c ∈ cs, c = "ValueError" ∨ c ∈ ClTab.xs) (q : Q (.bl b) H) : wpAny (model X.prog X.w) X.A (call (.builtin "isinstance") us) (EP X pins σ Q) X.xe s := by
  obtain ⟨u1, u2, rfl, r1, r2⟩ := vals2 rv
  cases (show u2 = Value.ref tp from r2)
  obtain ⟨t, P, o, Z, p, hx, f, eb⟩ := kx_of I KA r e hc r1
  obtain ⟨_, its, rv2, ob, h1, h2, n, h3⟩ := (show ObjOk X.prog X.w H s.heap tp (.tup (cs.map (clsV X.K))) from I.hok tp _ hT)
  have e3 := ClsV.all (clsVUs cs) rv2
  subst e3
  obtain ⟨oc, od, dt, sl⟩ := ob
  simp only at h2 h3
  subst h2 h3
  exact PySem.W.kia_tup Z I.kIn p h1 (kx_any f) hx fun tk => ⟨.bl b, H, I.tok tk, by rw [eb]; rfl, q⟩
end
end Cy
end
section
set_option Elab.async false
set_option linter.all false
set_option maxRecDepth 100000
set_option maxHeartbeats 1000000
namespace Cy
open PySem L2 PyProof.Rows
variable [ClTab] [Fxd]

def asName : Expr → Option Str
  | .Name x _ => some x
  | _ => none
def asConst : Expr → Option Const
  | .Constant c _ _ => some c
  | _ => none
def asBin : Expr → Option (Expr × Operator × Expr)
  | .BinOp a o b _ => some (a, o, b)
  | _ => none
def asUn : Expr → Option (UnaryOp × Expr)
  | .UnaryOp o a _ => some (o, a)
  | _ => none
def asCmp1 : Expr → Option (Expr × CmpOp × Expr)
  | .Compare a [o] [b] _ => some (a, o, b)
  | _ => none
def asCmp2 : Expr → Option (Expr × CmpOp × CmpOp × Expr × Expr)
  | .Compare a [o, o'] [b, c] _ => some (a, o, o', b, c)
  | _ => none
def asCmp3 : Expr → Option (Expr × CmpOp × CmpOp × CmpOp × Expr × Expr × Expr)
  | .Compare a [o, o', o2] [b, c, d] _ => some (a, o, o', o2, b, c, d)
  | _ => none
def asBool : Expr → Option (BoolOp × List Expr)
  | .BoolOp o vs _ => some (o, vs)
  | _ => none
def asTup : Expr → Option (List Expr)
  | .Tuple es _ _ => some es
  | _ => none
def asLst : Expr → Option (List Expr)
  | .List es _ => some es
  | _ => none
def asIx : Expr → Option (Expr × Expr)
  | .Subscript a i _ => some (a, i)
  | _ => none
def asSl : Expr → Option (Expr × Option Expr × Option Expr)
  | .Subscript a (.Slice lo hi none _) _ => some (a, lo, hi)
  | _ => none
def asSl3 : Expr → Option (Expr × Option Expr × Option Expr × Expr)
  | .Subscript a (.Slice lo hi (some st) _) _ => some (a, lo, hi, st)
  | _ => none
/-- a call of a name, without keywords, an argument at least -/
def asCall : Expr → Option (Str × List Expr)
  | .Call (.Name x _) (e :: es) [] _ => some (x, e :: es)
  | _ => none
/-- a method's call on one line -/
def asMeth : Expr → Option (Expr × Str × List Expr)
  | .Call (.Attribute o x apos) es [] pos => if apos.endLine == pos.line then some (o, x, es) else none
  | _ => none
def asStrC : Expr → Option Str
  | .Constant (.str c) _ _ => some c
  | _ => none
/-- a + [r.replace(y, z)] + b -/
def asJr : Expr → Option (Expr × Expr × Str × Str × Expr)
  | .BinOp (.BinOp a .Add (.List [.Call (.Attribute r x ap) [.Constant (.str y) _ _, .Constant (.str z) _ _] [] p] _) _) .Add b _ => if x = ("replace" : Str) ∧ (ap.endLine == p.line) = true then some (a, r, y, z, b) else none
  | _ => none
def asFld : Expr → Option (Expr × Str)
  | .Attribute o x _ => some (o, x)
  | _ => none
def asDct0 : Expr → Bool
  | .Dict [] [] _ => true
  | _ => false
def asDct2 : Expr → Option (Expr × Expr × Expr × Expr)
  | .Dict [some a, some b] [c, d] _ => some (a, b, c, d)
  | _ => none
def asDct1 : Expr → Option (Expr × Expr)
  | .Dict [some a] [b] _ => some (a, b)
  | _ => none
def asComp : Expr → Option (Expr × Expr × Expr × List Expr × Scope)
  | .ListComp e [⟨t, i, fs, 0⟩] sc _ => some (e, t, i, fs, sc)
  | _ => none
/-- no star, no slice, no set display -/
def plainX : Expr → Bool
  | .Starred _ _ | .Slice _ _ _ _ | .Set _ _ _ => false
  | _ => true
structure Ct where
  N : List Str
  calls : List Str
  sigs : List (Option Nat × Bool)
  gl : List (Str × D)
  bn : List Str
  /-- attributes' names -/
  ats : List Str
  /-- methods: class and name -/
  ms : List (Str × Str)
  /-- slots that keep their value -/
  fx : List Nat
  /-- classes of errors; has it an __init__ of its own? -/
  xc : List (Str × Bool)
  /-- defs that may raise -/
  cx : List Nat
  /-- errors may be kept -/
  kx : Bool
def strEq (x y : Str) : Bool := decide (x = y)
def okN (x : Str) : Bool := !(x == ("__debug__" : Str)) && !(x == ("__classdict__" : Str)) && !strEq x ""
def visB (sc : Scope) (x : Str) : Bool := match sc.names.lookup x with
  | some .local | some .cell | some .free => true
  | _ => false
def gloB (sc : Scope) (x : Str) : Bool := match sc.names.lookup x with
  | some .globalImplicit => true
  | _ => false
def locB (sc : Scope) (x : Str) : Bool := match sc.names.lookup x with
  | some .local | some .cell => true
  | _ => false
def isLoc (sc : Scope) (x : Str) : Bool := match sc.names.lookup x with
  | some .local => true
  | _ => false
def mC : D → Const → Bool
  | .non, .none => true
  | .bl a, .bool b => a == b
  | .int i, .int j => i == j
  | .str x, .str y => x == y
  | _, _ => false
def isCn (d : D) (e : Expr) : Bool := match asConst e with | some c => mC d c | none => false
def nameAt (C : Ct) (i : Nat) (x : Str) : Bool := match C.N[i]? with
  | some y => strEq x y
  | none => false
def biN : Bi → Str
  | .len => "len" | .abs => "abs" | .sum => "sum" | .min => "min" | .max => "max" | .all => "all" | .any => "any" | .tuple => "tuple" | .list => "list" | .listp => "list"
  | .lrng => "list" | .sorted => "sorted" | .int => "int" | .str => "str" | .isi _ => "isinstance" | .dict => "dict" | .set => "set" | .isx _ => "isinstance"
def tyNm : TyN → Str
  | .int => "int" | .bool => "bool" | .list => "list" | .tuple => "tuple" | .dict => "dict" | .str => "str"
def inB (x : Str) (l : List Str) : Bool := l.any fun y => strEq x y
def gloOk (C : Ct) (sc : Scope) (x : Str) : Bool := gloB sc x && inB x C.bn && !(x == ("__name__" : Str)) && okN x
def hasX (C : Ct) (c : Str) (b : Bool) : Bool := C.xc.any fun q => strEq q.1 c && (q.2 == b)
/-- a class, asked for -/
def clsB (C : Ct) (sc : Scope) (y : Str) : Bool := if strEq y "ValueError" then gloOk C sc y else (hasX C y true || hasX C y false) && gloB sc y && okN y
def clsL (C : Ct) (sc : Scope) : List Str → List Expr → Bool
  | [], [] => true
  | c :: cs, e :: es => (match asName e with | some y => strEq y c && clsB C sc c | none => false) && clsL C sc cs es
  | _, _ => false
def scEq : D → D → Bool
  | .int i, .int j => i == j
  | .str x, .str y => x == y
  | _, _ => false
def glIn (C : Ct) (x : Str) (d : D) : Bool := C.gl.any fun p => strEq p.1 x && scEq p.2 d
mutual
/-- the slots of a target -/
def tgs : Tg → List Nat
  | .n i => [i]
  | .t ts => tgsL ts
def tgsL : List Tg → List Nat
  | [] => []
  | t :: ts => tgs t ++ tgsL ts
end
mutual
/-- a target: st the scope that says which names are stored how -/
def mT (C : Ct) (st : Scope) : Tg → Expr → Bool
  | .n i, e => (match asName e with | some x => nameAt C i x && locB st x && !C.fx.contains i | none => false)
  | .t ts, e => (match asTup e with | some es => mTs C st ts es && decide (ts.length = es.length) | none => false)
def mTs (C : Ct) (st : Scope) : List Tg → List Expr → Bool
  | [], [] => true
  | t :: ts, e :: es => mT C st t e && plainX e && mTs C st ts es
  | _, _ => false
end
/-- a name and attributes behind it, the last one first -/
def mFp (C : Ct) (sc : Scope) (i : Nat) : List Str → Expr → Bool
  | [], e => (match asName e with | some x => nameAt C i x && visB sc x && okN x | none => false)
  | f :: r, e => (match asFld e with | some (o, y) => strEq y f && inB f C.ats && mFp C sc i r o | none => false)
def mOk (m : Str) : Bool := !strEq m "" && !strEq m "__init__"
def fewB (es : List Expr) : Bool := decide (es.length < 30)
def ownP (C : Ct) (own : List Nat) : List (Str × Nat) := own.map fun i => (C.N.getD i "", i)
mutual
def mE (C : Ct) (sc : Scope) : DE → Expr → Bool
  | .v i, e => (match asName e with | some x => nameAt C i x && visB sc x && okN x | none => false)
  | .mv i, e => (match asName e with | some x => nameAt C i x && visB sc x && okN x | none => false)
  | .tk i a, e => (match asIx e with | some (x, y) => (match asName x with | some z => nameAt C i z && visB sc z && okN z && mE C sc a y | none => false) | none => false)
  | .pur a, e => mE C sc a e
  | .c d, e => (match asConst e with | some k => mC d k | none => false)
  | .g x d, e => (match asName e with | some y => strEq x y && gloB sc y && okN y && glIn C x d | none => false)
  | .bin o a b, e => (match asBin e with | some (l, op, r) => (op == opOf o) && mE C sc a l && mE C sc b r | none => false)
  | .neg a, e => (match asUn e with | some (.USub, x) => mE C sc a x | _ => false)
  | .cmp o a b, e => (match asCmp1 e with | some (l, op, r) => (op == copOf o) && mE C sc a l && mE C sc b r | none => false)
  | .chn o o' a b c, e => (match asCmp2 e with | some (x, op, op', y, z) => (op == copOf o) && (op' == copOf o') && mE C sc a x && mE C sc b y && mE C sc c z | none => false)
  | .chn3 o o' o2 a b c d, e => (match asCmp3 e with | some (x, op, op', op2, y, z, w) => (op == copOf o) && (op' == copOf o') && (op2 == copOf o2) && mE C sc a x && mE C sc b y && mE C sc c z && mE C sc d w | none => false)
  | .and es, e => (match asBool e with | some (.And, vs) => mL C sc es vs | _ => false)
  | .or es, e => (match asBool e with | some (.Or, vs) => mL C sc es vs | _ => false)
  | .not a, e => (match asUn e with | some (.Not, x) => mE C sc a x | _ => false)
  | .tup es, e => (match asTup e with | some vs => mL C sc es vs | none => false)
  | .lst es, e => (match asLst e with | some vs => mL C sc es vs | none => false)
  | .dct0, e => asDct0 e
  | .dct2 k1 v1 k2 v2, e => (match asDct2 e with | some (a, b, c, d) => isCn (.str k1) a && isCn (.str k2) b && isCn (.int v1) c && isCn (.int v2) d | none => false)
  | .dct1 a b, e => (match asDct1 e with | some (x, y) => mE C sc a x && mE C sc b y | none => false)
  | .ix a i, e => (match asIx e with | some (x, y) => mE C sc a x && mE C sc i y | none => false)
  | .sl a lo hi, e => (match asSl e with | some (x, l, h) => mE C sc a x && mP C sc lo l && mP C sc hi h | none => false)
  | .slp a lo hi, e => (match asSl e with | some (x, l, h) => mE C sc a x && mP C sc lo l && mP C sc hi h | none => false)
  | .sl3 a lo hi st, e => (match asSl3 e with | some (x, l, h, s) => mE C sc a x && mP C sc lo l && mP C sc hi h && mE C sc st s | none => false)
  | .fld a f, e => (match asFld e with | some (o, y) => strEq y f && inB f C.ats && mE C sc a o | none => false)
  | .call f es, e => (match asCall e with | some (x, vs) => (match C.calls[f]? with | some y => strEq x y | none => false) && gloB sc x && okN x && mL C sc es vs | none => false)
  | .cio f j i es _, e => (match asCall e with
    | some (x, vs) => (match C.calls[f]? with | some y => strEq x y | none => false) && gloB sc x && okN x && (match vs[j]? with | some v => (match asName v with | some z => nameAt C i z && visB sc z && okN z | none => false) | none => false) && mL C sc es (vs.eraseIdx j)
    | _ => false)
  | .meth f c m a es, e => (match asMeth e with
    | some (o, y, vs) => strEq y m && (match C.ms[f]? with | some (c', m') => strEq c' c && strEq m' m | none => false) && mE C sc a o && mL C sc es vs && fewB vs && mOk m
    | none => false)
  | .mio f c m i p es _, e => (match asMeth e with
    | some (o, y, vs) => strEq y m && (match C.ms[f]? with | some (c', m') => strEq c' c && strEq m' m | none => false) && mFp C sc i p.reverse o && mL C sc es vs && fewB vs && mOk m
    | none => false)
  | .new f c es, e => (match asCall e with
    | some (x, vs) => strEq x c && (match C.ms[f]? with | some (c', m') => strEq c' c && strEq m' "__init__" | none => false) && gloB sc x && okN x && mL C sc es vs
    | none => false)
  | .bi b es, e => (match b with
    | .isi t => (match es with
      | .cons a .nil => (match asCall e with
        | some (x, [u, w]) => strEq x "isinstance" && gloOk C sc x && mE C sc a u && (match asName w with | some y => strEq y (tyNm t) && gloOk C sc y | none => false)
        | _ => false)
      | _ => false)
    | .isx cs => (match es with
      | .cons a .nil => (match asCall e with
        | some (x, [u, w]) => strEq x "isinstance" && gloOk C sc x && mE C sc a u && C.kx && (match asName w with
          | some _ => clsL C sc cs [w]
          | none => (match asTup w with | some ws => clsL C sc cs ws && decide (ws.length ≤ 1000) | none => false))
        | _ => false)
      | _ => false)
    | .lrng => (match asCall e with
      | some (x, [u]) => strEq x "list" && gloOk C sc x && (match asCall u with
        | some (y, vs) => strEq y "range" && gloOk C sc y && mL C sc es vs && decide (vs.length ≤ 2)
        | none => false)
      | _ => false)
    | .set => (match asCall e with
      | some (x, [u]) => strEq x "sorted" && gloOk C sc x && (match asCall u with
        | some (y, [w]) => strEq y "set" && gloOk C sc y && mL C sc es [w]
        | _ => false)
      | _ => false)
    | .dict => false
    | _ => (match asCall e with | some (x, vs) => strEq x (biN b) && gloOk C sc x && mL C sc es vs | none => false))
  | .mt m a es, e => (match m, es with
    | .bitlen, .nil => (match asMeth e with | some (o, x, []) => strEq x "bit_length" && mE C sc a o | _ => false)
    | .join, .cons b .nil => (match asMeth e with | some (o, x, [y]) => strEq x "join" && mE C sc a o && mE C sc b y | _ => false)
    | .split, .cons b .nil => (match asMeth e with | some (o, x, [y]) => strEq x "split" && mE C sc a o && mE C sc b y | _ => false)
    | .count, .cons b .nil => (match asMeth e with | some (o, x, [y]) => strEq x "count" && mE C sc a o && mE C sc b y | _ => false)
    | .index, .cons b .nil => (match asMeth e with | some (o, x, [y]) => strEq x "index" && mE C sc a o && mE C sc b y | _ => false)
    | .replace, .cons A (.cons R (.cons Y (.cons Z (.cons B .nil)))) => (match asMeth e with
      | some (o, x, [w]) => (match a, Y, Z, asStrC o, asJr w with
        | .c (.str c), .c (.str y), .c (.str z), some c1, some (xa, xr, y1, z1, xb) => strEq x "join" && strEq c c1 && strEq y y1 && strEq z z1 && !(y == z) && mE C sc A xa && mE C sc R xr && mE C sc B xb && !ioE A && !ioE R && !ioE B
        | _, _, _, _, _ => false)
      | _ => false)
    | _, _ => false)
  | .comp elt tg it ifs own, e => (match asComp e with
    | some (x, t, i, fs, s) => blkC C.N sc s (ownP C own) && own.all (fun j => !C.fx.contains j) && mT C s tg t && mI C sc it t i && mL C (relS s sc) ifs fs && decide (fs.length ≤ 1) && mE C (relS s sc) elt x && (tgs tg).all (fun j => own.contains j) && plainX i
    | none => false)
  | .comI elt tg es os, e => (match asComp e with
    | some (x, t, i, fs, s) => blkC C.N sc s (ownP C os) && os.all (fun j => !C.fx.contains j) && mT C s tg t && (match asCall i with | some (y, vs) => strEq y "range" && gloOk C sc y && mL C sc es vs | none => false) && fs.isEmpty && mE C (relS s sc) elt x && (tgs tg).all (fun j => os.contains j) && plainX i
    | none => false)
def mL (C : Ct) (sc : Scope) : DEs → List Expr → Bool
  | .nil, [] => true
  | .cons a es, e :: vs => mE C sc a e && mL C sc es vs
  | _, _ => false
def mP (C : Ct) (sc : Scope) : DO → Option Expr → Bool
  | .no, none => true
  | .so a, some e => mE C sc a e
  | _, _ => false
/-- what is walked, to a target -/
def mI (C : Ct) (sc : Scope) : DI → Expr → Expr → Bool
  | .val a, _, e => mE C sc a e
  | .rng es, _, e => (match asCall e with | some (x, vs) => strEq x "range" && gloOk C sc x && mL C sc es vs | none => false)
  | .enu a, t, e => (match asTup t, asCall e with | some _, some (x, [v]) => strEq x "enumerate" && gloOk C sc x && mE C sc a v | _, _ => false)
  | .zip es, t, e => (match asTup t, asCall e with | some _, some (x, [v, w]) => strEq x "zip" && gloOk C sc x && mL C sc es [v, w] | _, _ => false)
  | .rev a, _, e => (match asCall e with | some (x, [v]) => strEq x "reversed" && gloOk C sc x && mE C sc a v | _ => false)
  | .rrg es, _, e => (match asCall e with
    | some (x, [v]) => strEq x "reversed" && gloOk C sc x && (match asCall v with
      | some (y, vs) => strEq y "range" && gloOk C sc y && mL C sc es vs && decide (vs.length ≤ 2)
      | none => false)
    | _ => false)
end

mutual
def frE (sg : List (Option Nat × Bool)) : DE → Bool
  | .v _ => false
  | .bin .cat a b => frE sg a && frE sg b
  | .tup es | .lst es => frL sg es
  | .ix a _ => frE sg a
  | .sl a _ _ => frE sg a
  | .call f _ | .cio f _ _ _ _ | .meth f _ _ _ _ | .mio f _ _ _ _ _ _ => (match sg[f]? with | some (_, b) => b | none => false)
  | .fld a _ => frE sg a
  | .dct1 _ b => frE sg b
  | .bi .tuple es | .bi .list es => frL sg es
  | .comp e _ _ _ _ => frE sg e
  | .new _ _ _ | .dct0 | .dct2 _ _ _ _ | .comI _ _ _ _ | .sl3 _ _ _ _ | .slp _ _ _ => true
  | .tk _ _ | .mv _ | .pur _ | .c _ | .g _ _ | .bin _ _ _ | .neg _ | .cmp _ _ _ | .chn _ _ _ _ _ | .chn3 _ _ _ _ _ _ _ | .and _ | .or _ | .not _ | .bi _ _ | .mt _ _ _ => true
def frL (sg : List (Option Nat × Bool)) : DEs → Bool
  | .nil => true
  | .cons a es => frE sg a && frL sg es
end
def frI (sg : List (Option Nat × Bool)) : DI → Bool
  | .val a | .enu a | .rev a => frE sg a
  | .rng _ | .rrg _ => true
  | .zip es => frL sg es
mutual
def shE (sg : List (Option Nat × Bool)) (nsh : List Nat) : DE → Bool
  | .v i => !nsh.contains i
  | .bin .cat a b => shE sg nsh a && shE sg nsh b
  | .tup es | .lst es => shL sg nsh es
  | .ix a _ => shE sg nsh a
  | .sl a _ _ => shE sg nsh a
  | .call f es => (match sg[f]? with | some (_, b) => b | none => false) || shL sg nsh es
  | .cio f _ _ _ _ | .mio f _ _ _ _ _ _ => (match sg[f]? with | some (_, b) => b | none => false)
  | .meth f _ _ a es => (match sg[f]? with | some (_, b) => b | none => false) || (shE sg nsh a && shL sg nsh es)
  | .fld a _ => shE sg nsh a
  | .dct1 _ b => frE sg b || shE sg nsh b
  | .bi .tuple es | .bi .list es => shL sg nsh es
  | .comp e tg it _ _ => frE sg e || shE sg (if shI sg nsh it then nsh else nsh ++ tgs tg) e
  | .new _ _ _ | .dct0 | .dct2 _ _ _ _ | .comI _ _ _ _ | .sl3 _ _ _ _ | .slp _ _ _ => true
  | .tk _ _ | .mv _ | .pur _ | .c _ | .g _ _ | .bin _ _ _ | .neg _ | .cmp _ _ _ | .chn _ _ _ _ _ | .chn3 _ _ _ _ _ _ _ | .and _ | .or _ | .not _ | .bi _ _ | .mt _ _ _ => true
def shL (sg : List (Option Nat × Bool)) (nsh : List Nat) : DEs → Bool
  | .nil => true
  | .cons a es => (frE sg a || shE sg nsh a) && shL sg nsh es
def shI (sg : List (Option Nat × Bool)) (nsh : List Nat) : DI → Bool
  | .val a | .enu a | .rev a => frE sg a || shE sg nsh a
  | .rng _ | .rrg _ => true
  | .zip es => shL sg nsh es
end
mutual
def okE (sg : List (Option Nat × Bool)) (own vw : List Nat) : DE → Bool
  | .v _ | .c _ | .g _ _ => true
  | .mv i => own.contains i
  | .tk i a => own.contains i && okE sg own vw a && !ioE a
  | .pur e | .neg e | .not e => okE sg own vw e
  | .fld a _ => okE sg own vw a
  | .dct0 => true
  | .dct2 _ _ _ _ => true
  | .dct1 a b => okE sg own vw a && okE sg own vw b
  | .bin _ a b | .cmp _ a b | .ix a b => okE sg own vw a && okE sg own vw b
  | .chn _ _ a b c => okE sg own vw a && okE sg own vw b && okE sg own vw c
  | .chn3 _ _ _ a b c d => okE sg own vw a && okE sg own vw b && (okE sg own vw c && okE sg own vw d)
  | .and es | .or es | .tup es | .lst es | .bi _ es => okL sg own vw es
  | .sl a lo hi => okE sg own vw a && okP sg own vw lo && okP sg own vw hi
  | .slp a lo hi => okE sg own vw a && okP sg own vw lo && okP sg own vw hi
  | .sl3 a lo hi st => okE sg own vw a && okP sg own vw lo && okP sg own vw hi && okE sg own vw st
  | .call f es => okL sg own vw es && (match sg[f]? with | some (io, _) => io.isNone | none => false)
  | .cio f j i es kl => okL sg own vw es && own.contains i && !ioL es && shL sg (own ++ vw) es && vw.all (fun j => kl.contains j) && (match sg[f]? with | some (io, fr) => io == some j && fr | none => false)
  | .meth f _ _ a es => okE sg own vw a && okL sg own vw es && (match sg[f]? with | some (io, _) => io.isNone | none => false)
  | .mio f _ _ i _ es kl => okL sg own vw es && own.contains i && !ioL es && shL sg (own ++ vw) es && vw.all (fun j => kl.contains j) && (match sg[f]? with | some (io, fr) => io == some 0 && fr | none => false)
  | .new f _ es => okL sg own vw es && shL sg (own ++ vw) es && (match sg[f]? with | some (io, fr) => io == some 0 && fr | none => false)
  | .mt _ a es => okE sg own vw a && okL sg own vw es
  | .comp e tg it ifs own' => okI sg own vw it && !ioE e && !ioL ifs && okE sg [] (own ++ vw ++ (if shI sg (own ++ vw) it then [] else tgs tg)) e && okL sg [] (own ++ vw ++ (if shI sg (own ++ vw) it then [] else tgs tg)) ifs && decide (tgs tg).Nodup
  | .comI e tg es os => okL sg own vw es && !ioL es && okE sg own vw e && decide (tgs tg).Nodup && os.all (fun j => !own.contains j && !vw.contains j)
def okL (sg : List (Option Nat × Bool)) (own vw : List Nat) : DEs → Bool
  | .nil => true
  | .cons a es => okE sg own vw a && okL sg own vw es
def okP (sg : List (Option Nat × Bool)) (own vw : List Nat) : DO → Bool
  | .no => true
  | .so a => okE sg own vw a
def okI (sg : List (Option Nat × Bool)) (own vw : List Nat) : DI → Bool
  | .val a | .enu a | .rev a => okE sg own vw a
  | .rng es | .rrg es | .zip es => okL sg own vw es
end

theorem asName_eq {e : Expr} {x : Str} (h : asName e = some x) : ∃ p, e = .Name x p := by
  cases e <;> simp [asName] at h
  subst h; exact ⟨_, rfl⟩
theorem asConst_eq {e : Expr} {x : Const} (h : asConst e = some x) : ∃ j p, e = .Constant x j p := by
  cases e <;> simp [asConst] at h
  subst h; exact ⟨_, _, rfl⟩
theorem asBin_eq {e a b : Expr} {o : Operator} (h : asBin e = some (a, o, b)) : ∃ p, e = .BinOp a o b p := by
  cases e <;> simp [asBin] at h
  obtain ⟨rfl, rfl, rfl⟩ := h; exact ⟨_, rfl⟩
theorem asUn_eq {e a : Expr} {o : UnaryOp} (h : asUn e = some (o, a)) : ∃ p, e = .UnaryOp o a p := by
  cases e <;> simp [asUn] at h
  obtain ⟨rfl, rfl⟩ := h; exact ⟨_, rfl⟩
theorem asCmp1_eq {e a b : Expr} {o : CmpOp} (h : asCmp1 e = some (a, o, b)) : ∃ p, e = .Compare a [o] [b] p := by
  unfold asCmp1 at h
  split at h
  · simp only [Option.some.injEq, Prod.mk.injEq] at h
    obtain ⟨rfl, rfl, rfl⟩ := h; exact ⟨_, rfl⟩
  · cases h
theorem asCmp3_eq {e a b c d : Expr} {o o' o2 : CmpOp} (h : asCmp3 e = some (a, o, o', o2, b, c, d)) : ∃ p, e = .Compare a [o, o', o2] [b, c, d] p := by
  unfold asCmp3 at h
  split at h
  · simp only [Option.some.injEq, Prod.mk.injEq] at h
    obtain ⟨rfl, rfl, rfl, rfl, rfl, rfl, rfl⟩ := h; exact ⟨_, rfl⟩
  · cases h
theorem asCmp2_eq {e a b c : Expr} {o o' : CmpOp} (h : asCmp2 e = some (a, o, o', b, c)) : ∃ p, e = .Compare a [o, o'] [b, c] p := by
  unfold asCmp2 at h
  split at h
  · simp only [Option.some.injEq, Prod.mk.injEq] at h
    obtain ⟨rfl, rfl, rfl, rfl, rfl⟩ := h; exact ⟨_, rfl⟩
  · cases h
theorem asBool_eq {e : Expr} {o : BoolOp} {vs : List Expr} (h : asBool e = some (o, vs)) : ∃ p, e = .BoolOp o vs p := by
  cases e <;> simp [asBool] at h
  obtain ⟨rfl, rfl⟩ := h; exact ⟨_, rfl⟩
theorem asTup_eq {e : Expr} {vs : List Expr} (h : asTup e = some vs) : ∃ k p, e = .Tuple vs k p := by
  cases e <;> simp [asTup] at h
  subst h; exact ⟨_, _, rfl⟩
theorem asLst_eq {e : Expr} {vs : List Expr} (h : asLst e = some vs) : ∃ p, e = .List vs p := by
  cases e <;> simp [asLst] at h
  subst h; exact ⟨_, rfl⟩
theorem asIx_eq {e a i : Expr} (h : asIx e = some (a, i)) : ∃ p, e = .Subscript a i p := by
  cases e <;> simp [asIx] at h
  obtain ⟨rfl, rfl⟩ := h; exact ⟨_, rfl⟩
theorem asSl3_eq {e a st : Expr} {lo hi : Option Expr} (h : asSl3 e = some (a, lo, hi, st)) : ∃ p q, e = .Subscript a (.Slice lo hi (some st) q) p := by
  unfold asSl3 at h
  split at h
  · simp only [Option.some.injEq, Prod.mk.injEq] at h
    obtain ⟨rfl, rfl, rfl, rfl⟩ := h; exact ⟨_, _, rfl⟩
  · cases h
theorem asSl_eq {e a : Expr} {lo hi : Option Expr} (h : asSl e = some (a, lo, hi)) : ∃ p q, e = .Subscript a (.Slice lo hi none q) p := by
  unfold asSl at h
  split at h
  · simp only [Option.some.injEq, Prod.mk.injEq] at h
    obtain ⟨rfl, rfl, rfl⟩ := h; exact ⟨_, _, rfl⟩
  · cases h
theorem asCall_eq {e : Expr} {x : Str} {vs : List Expr} (h : asCall e = some (x, vs)) : ∃ v ws p q, vs = v :: ws ∧ e = .Call (.Name x p) (v :: ws) [] q := by
  unfold asCall at h
  split at h
  · simp only [Option.some.injEq, Prod.mk.injEq] at h
    obtain ⟨rfl, rfl⟩ := h; exact ⟨_, _, _, _, rfl, rfl⟩
  · cases h
theorem asMeth_eq {e o : Expr} {x : Str} {vs : List Expr} (h : asMeth e = some (o, x, vs)) : ∃ ap p, e = .Call (.Attribute o x ap) vs [] p ∧ (ap.endLine == p.line) = true := by
  unfold asMeth at h
  split at h
  · split at h
    · rename_i hl
      simp only [Option.some.injEq, Prod.mk.injEq] at h
      obtain ⟨rfl, rfl, rfl⟩ := h; exact ⟨_, _, rfl, hl⟩
    · cases h
  · cases h
theorem asComp_eq {e x t i : Expr} {fs : List Expr} {sc : Scope} (h : asComp e = some (x, t, i, fs, sc)) : ∃ p, e = .ListComp x [⟨t, i, fs, 0⟩] sc p := by
  unfold asComp at h
  split at h
  · simp only [Option.some.injEq, Prod.mk.injEq] at h
    obtain ⟨rfl, rfl, rfl, rfl, rfl⟩ := h; exact ⟨_, rfl⟩
  · cases h
theorem strEq_eq {x y : Str} (h : strEq x y = true) : x = y := of_decide_eq_true h
theorem nameAt_eq {C : Ct} {i : Nat} {x : Str} (h : nameAt C i x = true) : C.N[i]? = some x := by
  unfold nameAt at h
  split at h
  · rename_i y e
    rw [strEq_eq h]; exact e
  · cases h
theorem visB_eq {sc : Scope} {x : Str} (h : visB sc x = true) : Vis sc x := by
  unfold visB at h
  split at h
  · rename_i e; exact .inl e
  · rename_i e; exact .inr (.inl e)
  · rename_i e; exact .inr (.inr e)
  · cases h
theorem gloB_eq {sc : Scope} {x : Str} (h : gloB sc x = true) : sc.names.lookup x = some .globalImplicit := by
  unfold gloB at h
  split at h
  · assumption
  · cases h
theorem locB_eq {sc : Scope} {x : Str} (h : locB sc x = true) : sc.names.lookup x = some .local ∨ sc.names.lookup x = some .cell := by
  unfold locB at h
  split at h
  · rename_i e; exact .inl e
  · rename_i e; exact .inr e
  · cases h
theorem okN_eq {x : Str} (h : okN x = true) : (x == ("__debug__" : Str)) = false ∧ (x == ("__classdict__" : Str)) = false := by
  unfold okN at h
  simp only [Bool.and_eq_true, Bool.not_eq_true'] at h
  exact h.1
theorem inB_eq {x : Str} {l : List Str} (h : inB x l = true) : x ∈ l := by
  unfold inB at h
  obtain ⟨y, h1, h2⟩ := List.any_eq_true.mp h
  rw [strEq_eq h2]; exact h1
theorem plain_ix {b : Expr} (h : plainX b = true) : PlainIx b := by
  intro o i
  cases b <;> first | rfl | simp [plainX] at h
theorem plain_mark {b : Expr} {op : CmpOp} (h : plainX b = true) : behindInMarks op b = false := by
  cases b <;> first | rfl | simp [plainX] at h
theorem plain_marks {b c : Expr} {op op' : CmpOp} (h : plainX c = true) : lastMarks [op, op'] [b, c] = false := by
  show lastMarks [op'] [c] = false
  exact plain_mark h
theorem plain_fold {e : Expr} {env : PySem.Env} (h : plainX e = true) (x : Value) : foldedSetIterable e env x = pure x := by
  cases e <;> first | rfl | simp [plainX] at h
theorem plain_star {e : Expr} {es : List Expr} {env : PySem.Env} (h : plainX e = true) : starEach (e :: es) env = (false, eval e env) :: starEach es env := by
  cases e <;> first | rfl | simp [plainX] at h
theorem plain_asg {e : Expr} {es : List Expr} {env : PySem.Env} (h : plainX e = true) : assignEach (e :: es) env = (false, assign e env) :: assignEach es env := by
  cases e <;> first | rfl | simp [plainX] at h
theorem plain_any {env : PySem.Env} {pos : Pos} : ∀ {es : List Expr}, es.all plainX = true → (backTo pos (starEach es env)).any (·.1) = false
  | [], _ => rfl
  | e :: es, h => by
    simp only [List.all_cons, Bool.and_eq_true] at h
    rw [plain_star h.1]
    have := plain_any (env := env) (pos := pos) h.2
    simpa [backTo] using this
theorem base_of {o : Expr} {m : Str} {env : PySem.Env} (h : ∀ x p q, o ≠ .Call (.Name x p) [] [] q) : attributeBase o m env (eval o env) = eval o env := by
  unfold attributeBase
  split
  · rename_i x p q
    exact absurd rfl (h _ _ _)
  · rfl
theorem asStrC_eq {e : Expr} {c : Str} (h : asStrC e = some c) : ∃ j p, e = .Constant (.str c) j p := by
  unfold asStrC at h
  split at h
  · simp only [Option.some.injEq] at h; subst h; exact ⟨_, _, rfl⟩
  · cases h
theorem asJr_eq {e a r b : Expr} {y z : Str} (h : asJr e = some (a, r, y, z, b)) : ∃ ap j1 c1 j2 c2 p lp p1 p2, e = .BinOp (.BinOp a .Add (.List [.Call (.Attribute r "replace" ap) [.Constant (.str y) j1 c1, .Constant (.str z) j2 c2] [] p] lp) p1) .Add b p2 ∧ (ap.endLine == p.line) = true := by
  unfold asJr at h
  split at h
  · split at h
    · rename_i hh
      simp only [Option.some.injEq, Prod.mk.injEq] at h
      obtain ⟨rfl, rfl, rfl, rfl, rfl⟩ := h
      obtain ⟨rfl, h2⟩ := hh
      exact ⟨_, _, _, _, _, _, _, _, _, rfl, h2⟩
    · cases h
  · cases h
theorem asFld_eq {e : Expr} {o : Expr} {x : Str} (h : asFld e = some (o, x)) : ∃ p, e = .Attribute o x p := by
  unfold asFld at h
  split at h
  · simp only [Option.some.injEq, Prod.mk.injEq] at h
    obtain ⟨rfl, rfl⟩ := h
    exact ⟨_, rfl⟩
  · cases h
theorem asDct0_eq {e : Expr} (h : asDct0 e = true) : ∃ p, e = .Dict [] [] p := by
  unfold asDct0 at h
  split at h
  · exact ⟨_, rfl⟩
  · cases h
theorem asDct2_eq {e a b c d : Expr} (h : asDct2 e = some (a, b, c, d)) : ∃ p, e = .Dict [some a, some b] [c, d] p := by
  unfold asDct2 at h
  split at h
  · simp only [Option.some.injEq, Prod.mk.injEq] at h
    obtain ⟨rfl, rfl, rfl, rfl⟩ := h; exact ⟨_, rfl⟩
  · cases h
theorem isCn_str {k : Str} {e : Expr} (h : isCn (.str k) e = true) : ∃ j p, e = .Constant (.str k) j p := by
  unfold isCn at h
  split at h
  · rename_i c hc
    obtain ⟨j, p, rfl⟩ := asConst_eq hc
    cases c <;> simp [mC] at h
    subst h; exact ⟨_, _, rfl⟩
  · cases h
theorem isCn_int {k : Int} {e : Expr} (h : isCn (.int k) e = true) : ∃ j p, e = .Constant (.int k) j p := by
  unfold isCn at h
  split at h
  · rename_i c hc
    obtain ⟨j, p, rfl⟩ := asConst_eq hc
    cases c <;> simp [mC] at h
    subst h; exact ⟨_, _, rfl⟩
  · cases h
theorem asDct1_eq {e a b : Expr} (h : asDct1 e = some (a, b)) : ∃ p, e = .Dict [some a] [b] p := by
  unfold asDct1 at h
  split at h
  · simp only [Option.some.injEq, Prod.mk.injEq] at h
    obtain ⟨rfl, rfl⟩ := h
    exact ⟨_, rfl⟩
  · cases h
mutual
theorem mE_plain {C : Ct} {sc : Scope} : ∀ {e : DE} {x : Expr}, mE C sc e x = true → plainX x = true ∧ ∀ y p q, x ≠ .Call (.Name y p) [] [] q
  | .pur a, x, h => mE_plain (e := a) (by simpa only [mE] using h)
  | .v i, x, h => by
    simp only [mE] at h
    split at h
    · rename_i e; obtain ⟨p, rfl⟩ := asName_eq e; exact ⟨rfl, fun _ _ _ => by simp⟩
    · cases h
  | .mv i, x, h => by
    simp only [mE] at h
    split at h
    · rename_i e; obtain ⟨p, rfl⟩ := asName_eq e; exact ⟨rfl, fun _ _ _ => by simp⟩
    · cases h
  | .tk i a, x, h => by
    simp only [mE] at h
    split at h
    · rename_i e; obtain ⟨p, rfl⟩ := asIx_eq e; exact ⟨rfl, fun _ _ _ => by simp⟩
    · cases h
  | .c d, x, h => by
    simp only [mE] at h
    split at h
    · rename_i e; obtain ⟨j, p, rfl⟩ := asConst_eq e; exact ⟨rfl, fun _ _ _ => by simp⟩
    · cases h
  | .g y d, x, h => by
    simp only [mE] at h
    split at h
    · rename_i e; obtain ⟨p, rfl⟩ := asName_eq e; exact ⟨rfl, fun _ _ _ => by simp⟩
    · cases h
  | .bin o a b, x, h => by
    simp only [mE] at h
    split at h
    · rename_i e; obtain ⟨p, rfl⟩ := asBin_eq e; exact ⟨rfl, fun _ _ _ => by simp⟩
    · cases h
  | .neg a, x, h => by
    simp only [mE] at h
    split at h
    · rename_i e; obtain ⟨p, rfl⟩ := asUn_eq e; exact ⟨rfl, fun _ _ _ => by simp⟩
    · cases h
  | .not a, x, h => by
    simp only [mE] at h
    split at h
    · rename_i e; obtain ⟨p, rfl⟩ := asUn_eq e; exact ⟨rfl, fun _ _ _ => by simp⟩
    · cases h
  | .cmp o a b, x, h => by
    simp only [mE] at h
    split at h
    · rename_i e; obtain ⟨p, rfl⟩ := asCmp1_eq e; exact ⟨rfl, fun _ _ _ => by simp⟩
    · cases h
  | .chn o o' a b c, x, h => by
    simp only [mE] at h
    split at h
    · rename_i e; obtain ⟨p, rfl⟩ := asCmp2_eq e; exact ⟨rfl, fun _ _ _ => by simp⟩
    · cases h
  | .chn3 o o' o2 a b c d, x, h => by
    simp only [mE] at h
    split at h
    · rename_i e; obtain ⟨p, rfl⟩ := asCmp3_eq e; exact ⟨rfl, fun _ _ _ => by simp⟩
    · cases h
  | .and es, x, h => by
    simp only [mE] at h
    split at h
    · rename_i e; obtain ⟨p, rfl⟩ := asBool_eq e; exact ⟨rfl, fun _ _ _ => by simp⟩
    · cases h
  | .or es, x, h => by
    simp only [mE] at h
    split at h
    · rename_i e; obtain ⟨p, rfl⟩ := asBool_eq e; exact ⟨rfl, fun _ _ _ => by simp⟩
    · cases h
  | .tup es, x, h => by
    simp only [mE] at h
    split at h
    · rename_i e; obtain ⟨k, p, rfl⟩ := asTup_eq e; exact ⟨rfl, fun _ _ _ => by simp⟩
    · cases h
  | .lst es, x, h => by
    simp only [mE] at h
    split at h
    · rename_i e; obtain ⟨p, rfl⟩ := asLst_eq e; exact ⟨rfl, fun _ _ _ => by simp⟩
    · cases h
  | .dct0, x, h => by
    simp only [mE] at h
    obtain ⟨p, rfl⟩ := asDct0_eq h; exact ⟨rfl, fun _ _ _ => by simp⟩
  | .dct2 k1 v1 k2 v2, x, h => by
    simp only [mE] at h
    split at h
    · rename_i e; obtain ⟨p, rfl⟩ := asDct2_eq e; exact ⟨rfl, fun _ _ _ => by simp⟩
    · cases h
  | .dct1 a b, x, h => by
    simp only [mE] at h
    split at h
    · rename_i e; obtain ⟨p, rfl⟩ := asDct1_eq e; exact ⟨rfl, fun _ _ _ => by simp⟩
    · cases h
  | .ix a i, x, h => by
    simp only [mE] at h
    split at h
    · rename_i e; obtain ⟨p, rfl⟩ := asIx_eq e; exact ⟨rfl, fun _ _ _ => by simp⟩
    · cases h
  | .sl a lo hi, x, h => by
    simp only [mE] at h
    split at h
    · rename_i e; obtain ⟨p, q, rfl⟩ := asSl_eq e; exact ⟨rfl, fun _ _ _ => by simp⟩
    · cases h
  | .slp a lo hi, x, h => by
    simp only [mE] at h
    split at h
    · rename_i e; obtain ⟨p, q, rfl⟩ := asSl_eq e; exact ⟨rfl, fun _ _ _ => by simp⟩
    · cases h
  | .sl3 a lo hi st, x, h => by
    simp only [mE] at h
    split at h
    · rename_i e; obtain ⟨p, q, rfl⟩ := asSl3_eq e; exact ⟨rfl, fun _ _ _ => by simp⟩
    · cases h
  | .fld a f, x, h => by
    simp only [mE] at h
    split at h
    · rename_i e; obtain ⟨p, rfl⟩ := asFld_eq e; exact ⟨rfl, fun _ _ _ => by simp⟩
    · cases h
  | .call f es, x, h => by
    simp only [mE] at h
    split at h
    · rename_i e; obtain ⟨v, ws, p, q, rfl, rfl⟩ := asCall_eq e; exact ⟨rfl, fun _ _ _ => by simp⟩
    · cases h
  | .cio f j i es kl, x, h => by
    simp only [mE] at h
    split at h
    · rename_i e; obtain ⟨v, ws, p, q, _, rfl⟩ := asCall_eq e; exact ⟨rfl, fun _ _ _ => by simp⟩
    · cases h
  | .meth f c m a es, x, h => by
    simp only [mE] at h
    split at h
    · rename_i e; obtain ⟨ap, cp, rfl, _⟩ := asMeth_eq e; exact ⟨rfl, fun _ _ _ => by simp⟩
    · cases h
  | .mio f c m i p es kl, x, h => by
    simp only [mE] at h
    split at h
    · rename_i e; obtain ⟨ap, cp, rfl, _⟩ := asMeth_eq e; exact ⟨rfl, fun _ _ _ => by simp⟩
    · cases h
  | .new f c es, x, h => by
    simp only [mE] at h
    split at h
    · rename_i e; obtain ⟨v, ws, p, q, _, rfl⟩ := asCall_eq e; exact ⟨rfl, fun _ _ _ => by simp⟩
    · cases h
  | .bi b es, x, h => by
    have key : ∃ y vs, asCall x = some (y, vs) := by
      cases hx : asCall x with
      | some p => exact ⟨p.1, p.2, rfl⟩
      | none =>
        exfalso
        cases b <;> unfold mE at h <;> dsimp only at h <;> first
          | (rw [hx] at h; exact Bool.false_ne_true h)
          | exact Bool.false_ne_true h
          | (split at h
             · rw [hx] at h; exact Bool.false_ne_true h
             · exact Bool.false_ne_true h)
    obtain ⟨y, vs, e⟩ := key
    obtain ⟨v, ws, p, q, _, rfl⟩ := asCall_eq e
    exact ⟨rfl, fun _ _ _ => by simp⟩
  | .mt m a es, x, h => by
    have key : ∃ p, asMeth x = some p := by
      cases hx : asMeth x with
      | some p => exact ⟨_, rfl⟩
      | none =>
        exfalso
        unfold mE at h
        split at h <;> first
          | (rw [hx] at h; exact Bool.false_ne_true h)
          | exact Bool.false_ne_true h
    obtain ⟨⟨o, m2, vs⟩, e⟩ := key
    obtain ⟨ap, p, rfl, _⟩ := asMeth_eq e
    exact ⟨rfl, fun _ _ _ => by simp⟩
  | .comp elt tg it ifs own, x, h => by
    simp only [mE] at h
    split at h
    · rename_i e; obtain ⟨p, rfl⟩ := asComp_eq e; exact ⟨rfl, fun _ _ _ => by simp⟩
    · cases h
  | .comI elt tg es os, x, h => by
    simp only [mE] at h
    split at h
    · rename_i e; obtain ⟨p, rfl⟩ := asComp_eq e; exact ⟨rfl, fun _ _ _ => by simp⟩
    · cases h
end
theorem mL_plain {C : Ct} {sc : Scope} : ∀ {es : DEs} {xs : List Expr}, mL C sc es xs = true → xs.all plainX = true
  | .nil, [], _ => rfl
  | .nil, _ :: _, h => by simp [mL] at h
  | .cons a es, [], h => by simp [mL] at h
  | .cons a es, x :: xs, h => by
    simp only [mL, Bool.and_eq_true] at h
    simp only [List.all_cons, Bool.and_eq_true]
    exact ⟨(mE_plain h.1).1, mL_plain h.2⟩
end Cy
end
section
set_option Elab.async false
set_option linter.all false
set_option maxRecDepth 100000
set_option maxHeartbeats 2000000
namespace Cy
open PySem L2 PyProof.Rows
variable [ClTab] [Fxd]

/-- by data: nothing handed in changes -/
def spP (K : PySem.W.Frag) (fr : Bool) (F : Fn) : Sp := fun vs H Q _ => ∃ ds A d, Reps K H vs ds A ∧ F ds = some (.ret d []) ∧
  ∀ v H' A', Same H H' → Rep K H' v d A' → (fr = true → A'.Nodup ∧ ∀ a ∈ A', H a = none) → (∀ a ∈ A', H a = none ∨ a ∈ A) → Q v H'
/-- by data: the thing handed in at j may change -/
def spI (K : PySem.W.Frag) (j : Nat) (F : Fn) : Sp := fun vs H Q _ => ∃ v0 vs1 d0 ds1 A0 A1 d d1, vs = insAt j v0 vs1 ∧ j ≤ vs1.length ∧ Rep K H v0 d0 A0 ∧ Reps K H vs1 ds1 A1 ∧ A0.Nodup ∧ (∀ a ∈ A0, a ∉ A1) ∧ F (insAt j d0 ds1) = some (.ret d [d1]) ∧
  ∀ v H' A' A0', (∀ a, H a ≠ none → H' a ≠ none) → (∀ a o, H a = some o → a ∉ A0 → H' a = some o) → Rep K H' v0 d1 A0' → A0'.Nodup → (∀ a ∈ A0', a ∈ A0 ∨ H a = none) →
    Rep K H' v d A' → A'.Nodup → (∀ a ∈ A', (H a = none ∨ a ∈ A0) ∧ a ∉ A0') → Q v H'
def spD (K : PySem.W.Frag) (sg : Option Nat × Bool) (F : Fn) : Sp := match sg.1 with
  | some j => spI K j F
  | none => spP K sg.2 F
structure CallOk (X : Cx) (k : Nat) (x : Str) (sg : Option Nat × Bool) (F : Fn) (fa : Addr) (fd : FuncData) (ps : List Str) : Prop where
  mg : X.mg x = some (.ref fa)
  kp : PySem.W.keepIn X.K (.ref fa) = true
  bi : Binds X.K fd ps []
  ok : FnOk X.prog X.w X.K X.mg X.base CX0 k fa fd ps (spD X.K sg F)
structure MethOk (X : Cx) (k : Nat) (c m : Str) (sg : Option Nat × Bool) (F : Fn) (fa : Addr) (fd : FuncData) (ps : List Str) : Prop where
  meth : m ≠ "__init__" → ∀ Ca, ClTab.is c Ca → Meth X.K Ca m fa
  make : m = "__init__" → ∃ Ca, ClTab.is c Ca ∧ Mk X.K Ca fa ∧ X.mg c = some (.ref Ca)
  bi : Binds X.K fd ps []
  ok : FnOk X.prog X.w X.K X.mg X.base CX0 k fa fd ps (spD X.K sg F)
/-- an error's class and dict: its payload -/
def XRep (K : PySem.W.Frag) (H : Hp) (cls : Value) (d : Option Addr) (c : Str) (x : Option Cy.D) (A : List Addr) : Prop := cls = .ref (He.ga K c) ∧ (∀ c0 ∈ ClTab.xs, PySem.W.exmOne K cls (.ref (He.ga K c0)) = some (subX c c0)) ∧ c ∈ ClTab.xs ∧ match x with
  | none => A = [] ∧ ∀ dd, d = some dd → ∃ fs, H dd = some (.xd fs)
  | some v => ∃ (dd : Addr) (u : V), d = some dd ∧ H dd = some (.xd [(xfld c, u)]) ∧ Rep K H u v A
/-- by data: nothing handed in changes; it may raise -/
def spX (K : PySem.W.Frag) (fr : Bool) (F : Fn) : Sp := fun vs H Q E => ∃ ds A, Reps K H vs ds A ∧
  ((∃ d, F ds = some (.ret d []) ∧ ∀ v H' A', Same H H' → Rep K H' v d A' → (fr = true → A'.Nodup ∧ ∀ a ∈ A', H a = none) → (∀ a ∈ A', H a = none ∨ a ∈ A) → Q v H') ∨
    ∃ c x, F ds = some (.exn c x []) ∧ ∀ cls d H' A', Same H H' → XRep K H' cls d c x A' → A'.Nodup → (∀ a ∈ A', H a = none) → E cls d H')
/-- an error's __init__ -/
def spInit (Ca : Addr) (f : Str) : Sp := fun vs H Q _ => ∃ a v, vs = [.ref a, v] ∧ H a = some (exo a Ca none) ∧ ∀ dx, H dx = none → dx ≠ a → Q .non (upd (upd H dx (exd dx [(f, v)])) a (exo a Ca (some dx)))
structure CallX (P : Program) (w : World) (K : PySem.W.Frag) (mg : Str → Option Value) (base : Heap) (k : Nat) (x : Str) (fr : Bool) (F : Fn) (fa : Addr) (fd : FuncData) (ps : List Str) : Prop where
  gm : mg x = some (.ref fa)
  kp : PySem.W.keepIn K (.ref fa) = true
  bi : Binds K fd ps []
  ok : FnOk P w K mg base (L2.CX P w) k fa fd ps (spX K fr F)
/-- what must be known of a class of errors -/
structure XCl (P : Program) (w : World) (K : PySem.W.Frag) (mg : Str → Option Value) (base : Heap) (k : Nat) (c : Str) (b : Bool) : Prop where
  gm : mg c = some (.ref (He.ga K c))
  sub : PySem.W.subIn K (.ref (He.ga K c)) (.type "BaseException") = some true
  typ : PySem.W.typeIn K (.ref (He.ga K c)) = some (.type "type")
  own : b = true → ∃ fI fd p k', k' + 1 ≤ k ∧ OexC K (He.ga K c) ∧ PySem.W.findIn K (.ref (He.ga K c)) "__init__" = some (some (.ref fI)) ∧ PySem.W.typeIn K (.ref fI) = some (.type "function") ∧ Binds K fd [("self" : Str), p] [] ∧
    FnOk P w K mg base CX0 k' fI fd [("self" : Str), p] (spInit (He.ga K c) (xfld c)) ∧ XfC K (He.ga K c) ∧ PySem.W.findIn K (.ref (He.ga K c)) (xfld c) = some none
  non : b = false → PySem.W.excIn K (He.ga K c) He.veBase "ValueError.__new__" = true ∧ PySem.W.keepIn K (.ref (He.ga K c)) = true
theorem hasX_eq {C : Ct} {c : Str} {b : Bool} (h : hasX C c b = true) : (c, b) ∈ C.xc := by
  unfold hasX at h
  rw [List.any_eq_true] at h
  obtain ⟨⟨x, y⟩, hm, h⟩ := h
  simp only [Bool.and_eq_true, beq_iff_eq] at h
  obtain ⟨h1, rfl⟩ := h
  have := strEq_eq h1
  subst this
  exact hm
def ScV : V → D → Prop
  | .int i, .int j => i = j
  | .str x, .str y => x = y
  | _, _ => False
/-- what must be known of a body's surroundings -/
structure Fx (C : Ct) (Φ : Nat → Fn) (k : Nat) (X : Cx) : Prop where
  nN : X.N = C.N
  nd : C.N.Nodup
  calm : X.calm = true
  room : Room k X.A
  calls : ∀ f x s, C.calls[f]? = some x → okN x = true → C.sigs[f]? = some s → ∃ fa fd ps, CallOk X k x s (Φ f) fa fd ps
  bn : ∀ x ∈ C.bn, X.mg x = none
  gl : ∀ p ∈ C.gl, ∃ u v, X.mg p.1 = some u ∧ RelV v u ∧ ScV v p.2
  cls : ∀ c Ca, ClTab.is c Ca → Cls X.K Ca ∧ ∀ f, inB f C.ats = true → NoAttr X.K Ca f
  ms : ∀ (f : Nat) (c m : Str) (s : Option Nat × Bool), C.ms[f]? = some (c, m) → m ≠ "" → C.sigs[f]? = some s → ∃ fa fd ps k', k' + 1 ≤ k ∧ MethOk X k' c m s (Φ f) fa fd ps
  fx : ∀ i v, Fxd.fx i = some v → C.fx.contains i = true
  cax : ∀ f x s, f ∈ C.cx → C.calls[f]? = some x → okN x = true → C.sigs[f]? = some s → ∃ fa fd ps, CallX X.prog X.w X.K X.mg X.base k x s.2 (Φ f) fa fd ps
  xcl : ∀ c b, (c, b) ∈ C.xc → XCl X.prog X.w X.K X.mg X.base k c b
  xex : ∀ c b, (c, b) ∈ C.xc → ∀ c0 ∈ ClTab.xs, PySem.W.exmOne X.K (.ref (He.ga X.K c)) (.ref (He.ga X.K c0)) = some (subX c c0)
  xxs : ∀ c b, (c, b) ∈ C.xc → c ∈ ClTab.xs
  kxa : C.kx = true → ClTab.kx = true
  kxA : ClTab.kx = true → KxA X.K
section
variable {C : Ct} {Φ : Nat → Fn} {k : Nat} {X : Cx}
def SE (C : Ct) (Φ : Nat → Fn) (X : Cx) (own vw : List Nat) (e : DE) (ex : Expr) : Prop :=
  ∀ (Z P : Addr → Prop) (σ : L2.St) (H : Hp) (env : En) (As : Asg) (d : D) (env' : En), SR X.K C.N.length own vw Z P σ H env As → ev Φ e env = some (.ok d env') →
    ∀ Q : VK, (∀ v H' A As', SR X.K C.N.length own vw Z P σ H' env' As' → TR own (ioE e) H As H' As' → Rep X.K H' v d A → EF own Z (frE C.sigs e) (shE C.sigs (own ++ vw) e) H As As' A → Q v H') → WE X ex σ H Q
def SL (C : Ct) (Φ : Nat → Fn) (X : Cx) (own vw : List Nat) (es : DEs) (xs : List Expr) : Prop :=
  ∀ (Z P : Addr → Prop) (σ : L2.St) (H : Hp) (env : En) (As : Asg) (ds : List D) (env' : En), SR X.K C.N.length own vw Z P σ H env As → evL Φ es env = some (.ok ds env') →
    ∀ Q : List V → Hp → Prop, (∀ vs H' A As', SR X.K C.N.length own vw Z P σ H' env' As' → TR own (ioL es) H As H' As' → Reps X.K H' vs ds A → EF own Z (frL C.sigs es) (shL C.sigs (own ++ vw) es) H As As' A → Q vs H') → WA X xs σ H Q
/-- a bool's -/
def SB (C : Ct) (Φ : Nat → Fn) (X : Cx) (own vw : List Nat) (io : Bool) (m : En → Option (Rs D)) (W : L2.St → Hp → (Bool → Hp → Prop) → Prop) : Prop :=
  ∀ (Z P : Addr → Prop) (σ : L2.St) (H : Hp) (env : En) (As : Asg) (b : Bool) (env' : En), SR X.K C.N.length own vw Z P σ H env As → m env = some (.ok (.bl b) env') →
    ∀ Q : Bool → Hp → Prop, (∀ H' As', SR X.K C.N.length own vw Z P σ H' env' As' → TR own io H As H' As' → Q b H') → W σ H Q
def SP (C : Ct) (Φ : Nat → Fn) (X : Cx) (own vw : List Nat) (e : DO) (ex : Option Expr) : Prop :=
  ∀ (Z P : Addr → Prop) (σ : L2.St) (H : Hp) (env : En) (As : Asg) (d : Option Int) (env' : En), SR X.K C.N.length own vw Z P σ H env As → evP Φ e env = some (.ok d env') →
    ∀ Q : Option Int → Hp → Prop, (∀ H' As', SR X.K C.N.length own vw Z P σ H' env' As' → TR own (ioP e) H As H' As' → Q d H') → WO X ex σ H Q
theorem bd_inv {α β : Type} {r : Option (Rs α)} {f : α → En → Option (Rs β)} {b : β} {e' : En} (h : bd r f = some (.ok b e')) : ∃ a e, r = some (.ok a e) ∧ f a e = some (.ok b e') := by
  unfold bd at h
  split at h
  · exact ⟨_, _, rfl, h⟩
  · cases h
theorem bd_exi {α β : Type} {r : Option (Rs α)} {f : α → En → Option (Rs β)} {c : Str} {x : Option D} {e' : En} (h : bd r f = some (.exn c x e')) : ∃ a e, r = some (.ok a e) ∧ f a e = some (.exn c x e') := by
  unfold bd at h
  split at h
  · exact ⟨_, _, rfl, h⟩
  · cases h
theorem lf_inv {α : Type} {o : Option α} {e e' : En} {a : α} (h : lf o e = some (.ok a e')) : o = some a ∧ e = e' := by
  unfold lf at h
  cases o with
  | none => cases h
  | some x =>
    simp only [Option.map_some, Option.some.injEq, Rs.ok.injEq] at h
    exact ⟨by rw [h.1], h.2⟩
theorem gd_inv {α : Type} {c : Bool} {o : Option α} {a : α} (h : (if c = true then none else o) = some a) : c = false ∧ o = some a := by
  cases c
  · exact ⟨rfl, by simpa using h⟩
  · simp at h
theorem guard_pure {i p : Bool} (h : (i && !p) = false) : i = true → p = true := by cases i <;> cases p <;> simp_all
theorem orl {a b : Bool} : a = true → (a || b) = true := fun h => by rw [h]; rfl
theorem orr {a b : Bool} : b = true → (a || b) = true := fun h => by rw [h]; exact Bool.or_true _
theorem EF.orr {own : List Nat} {Z : Addr → Prop} {f s : Bool} {H : Hp} {As As' : Asg} {A : List Addr} (e : EF own Z f s H As As' A) : EF own Z f (f || s) H As As' A :=
  ⟨e.1, fun h a ha => by
    rcases Bool.or_eq_true_iff.mp h with h | h
    · exact .inl ((e.1 h).2 a ha)
    · exact e.2.1 h a ha, e.2.2⟩
theorem EF.one {own : List Nat} {Z : Addr → Prop} {f s : Bool} {H : Hp} {As As' : Asg} {A : List Addr} (e : EF own Z f s H As As' A) (h : f = true) : EF own Z true true H As As' A :=
  ⟨fun _ => e.1 h, fun _ a ha => .inl ((e.1 h).2 a ha), e.2.2⟩
theorem se_var {own vw : List Nat} {i : Nat} {x : Str} {p : Pos} (F : Fx C Φ k X) (hn : C.N[i]? = some x) (hv : Vis X.env.scope x) (ho : okN x = true) : SE C Φ X own vw (.v i) (.Name x p) := by
  intro Z P σ H env As d env' S e Q q
  simp only [ev] at e
  split at e
  · rename_i d0 h0
    simp only [Option.some.injEq, Rs.ok.injEq] at e
    obtain ⟨rfl, rfl⟩ := e
    obtain ⟨v, h1, r⟩ := S.rep i _ h0
    refine (pe_var (i := i) (by rw [F.nN]; exact hn) hv (okN_eq ho).1 (okN_eq ho).2).we ⟨v, h1, q v H (As i) As S TR.refl r ⟨fun h => by simp [frE] at h, fun h a ha => .inr ?_, fun a ha => .inr ⟨i, ha⟩⟩⟩
    simp only [shE, Bool.not_eq_true', List.contains_eq_mem, decide_eq_false_iff_not, List.mem_append, not_or] at h
    exact S.shr i h.1 h.2 a ha
  · cases e
/-- a slot emptied -/
theorem SR.drop {K : PySem.W.Frag} {n : Nat} {own vw : List Nat} {Z P : Addr → Prop} {σ : L2.St} {H : Hp} {env : En} {As : Asg} (S : SR K n own vw Z P σ H env As) (i : Nat) :
    SR K n own vw Z P σ H (env.set i none) (fun j => if j = i then [] else As j) where
  len := S.len
  lenE := by rw [List.length_set]; exact S.lenE
  rep := fun j d h => by
    by_cases e : j = i
    · subst e
      rw [List.getElem?_set] at h
      simp at h
    · rw [List.getElem?_set_ne (fun z => e z.symm)] at h
      rw [if_neg e]; exact S.rep j d h
  non := fun j h => by
    by_cases e : j = i
    · rw [if_pos e]
    · rw [if_neg e]
      refine S.non j fun d z => h d ?_
      rw [List.getElem?_set_ne (fun z => e z.symm)]; exact z
  shr := fun j h1 h2 a ha => by
    by_cases e : j = i
    · rw [if_pos e] at ha; cases ha
    · rw [if_neg e] at ha; exact S.shr j h1 h2 a ha
  nod := fun j h => by
    by_cases e : j = i
    · rw [if_pos e]; exact List.nodup_nil
    · rw [if_neg e]; exact S.nod j h
  noP := fun j h a ha => by
    by_cases e : j = i
    · rw [if_pos e] at ha; cases ha
    · rw [if_neg e] at ha; exact S.noP j h a ha
  dis := fun j hj l hl hne a ha hb => by
    by_cases e : j = i
    · rw [if_pos e] at ha; cases ha
    · rw [if_neg e] at ha
      by_cases e2 : l = i
      · rw [if_pos e2] at hb; cases hb
      · rw [if_neg e2] at hb; exact S.dis j hj l hl hne a ha hb
  zp := S.zp
  ph := S.ph
  fix := S.fix
theorem se_mv {own vw : List Nat} {i : Nat} {x : Str} {p : Pos} (F : Fx C Φ k X) (hn : C.N[i]? = some x) (hv : Vis X.env.scope x) (ho : okN x = true) (hi : i ∈ own) : SE C Φ X own vw (.mv i) (.Name x p) := by
  intro Z P σ H env As d env' S e Q q
  simp only [ev] at e
  split at e
  · rename_i d0 h0
    simp only [Option.some.injEq, Rs.ok.injEq] at e
    obtain ⟨rfl, rfl⟩ := e
    obtain ⟨v, h1, r⟩ := S.rep i _ h0
    have sub : ∀ a, OwA own (fun j => if j = i then [] else As j) a → OwA own As a ∧ a ∉ As i := fun a ⟨j, hj, ha⟩ => by
      dsimp only at ha
      by_cases e : j = i
      · rw [if_pos e] at ha; cases ha
      · rw [if_neg e] at ha; exact ⟨⟨j, hj, ha⟩, S.dis j hj i hi e a ha⟩
    refine (pe_var (i := i) (by rw [F.nN]; exact hn) hv (okN_eq ho).1 (okN_eq ho).2).we ⟨v, h1, q v H (As i) _ (S.drop i) ⟨fun _ h => h, fun _ _ h _ => h, fun a h => .inl (sub a h).1, fun j a h => by
      split at h
      · cases h
      · exact .inl ⟨j, h⟩⟩ r ?_⟩
    have nw : ∀ a ∈ As i, New own H As (fun j => if j = i then [] else As j) a := fun a ha => ⟨.inr ⟨i, hi, ha⟩, fun c => (sub a c).2 ha⟩
    exact ⟨fun _ => ⟨S.nod i hi, nw⟩, fun _ a ha => .inl (nw a ha), fun a ha => .inr ⟨i, ha⟩⟩
  · cases e
theorem se_c {own vw : List Nat} {d : D} {c : Const} {j : Nat} {p : Pos} (h : mC d c = true) : SE C Φ X own vw (.c d) (.Constant c j p) := by
  intro Z P σ H env As d' env' S e Q q
  simp only [ev, Option.some.injEq, Rs.ok.injEq] at e
  obtain ⟨rfl, rfl⟩ := e
  cases d <;> cases c <;> simp [mC] at h
  · exact pe_non.we (q _ _ [] As S TR.refl .non EF.pure)
  · subst h; exact pe_bl.we (q _ _ [] As S TR.refl (.bl _) EF.pure)
  · subst h; exact pe_int.we (q _ _ [] As S TR.refl (.int _) EF.pure)
  · subst h; exact pe_str.we (q _ _ [] As S TR.refl (.str _) EF.pure)
theorem se_g {own vw : List Nat} {d : D} {x : Str} {p : Pos} (F : Fx C Φ k X) (hg : X.env.scope.names.lookup x = some .globalImplicit) (ho : okN x = true) (h : glIn C x d = true) : SE C Φ X own vw (.g x d) (.Name x p) := by
  intro Z P σ H env As d' env' S e Q q
  simp only [ev, Option.some.injEq, Rs.ok.injEq] at e
  obtain ⟨rfl, rfl⟩ := e
  unfold glIn at h
  obtain ⟨pr, hm, hp⟩ := List.any_eq_true.mp h
  simp only [Bool.and_eq_true] at hp
  obtain ⟨u, v, m, rv, sv⟩ := F.gl pr hm
  have e1 := strEq_eq hp.1
  obtain ⟨px, pd⟩ := pr
  simp only at e1 sv hp m
  subst e1
  refine (pe_glob (v := v) hg m rv (okN_eq ho).1).we (q _ _ [] As S TR.refl ?_ EF.pure)
  cases v <;> cases pd <;> simp [ScV] at sv <;> cases d <;> simp [scEq] at hp
  · obtain ⟨_, rfl⟩ := hp; subst sv; exact .int _
  · obtain ⟨_, rfl⟩ := hp; subst sv; exact .str _
theorem se_pur {own vw : List Nat} {a : DE} {ex : Expr} (ha : SE C Φ X own vw a ex) : SE C Φ X own vw (.pur a) ex := by
  intro Z P σ H env As d env' S e Q q
  simp only [ev] at e
  obtain ⟨x, e1, h1, h2⟩ := bd_inv e
  split at h2
  · rename_i hp
    simp only [Option.some.injEq, Rs.ok.injEq] at h2
    obtain ⟨rfl, rfl⟩ := h2
    refine ha Z P σ H env As _ _ S h1 Q fun v H' A As' S' T r E => q v H' A As' S' T r ?_
    rw [r.pure hp]; exact EF.pure
  · cases h2
theorem se_bin {own vw : List Nat} {o : BO} {a b : DE} {l r : Expr} {p : Pos} (ha : SE C Φ X own vw a l) (hb : SE C Φ X own vw b r) : SE C Φ X own vw (.bin o a b) (.BinOp l (opOf o) r p) := by
  intro Z P σ H env As d env' S e Q q
  simp only [ev] at e
  obtain ⟨x, e1, h1, h2⟩ := bd_inv e
  obtain ⟨g, h2⟩ := gd_inv h2
  obtain ⟨y, e2, h3, h4⟩ := bd_inv h2
  obtain ⟨h5, rfl⟩ := lf_inv h4
  refine (pe_op (op_bin o) Cy.we Cy.we).we ?_
  refine ha Z P σ H env As _ _ S h1 _ fun v1 H1 A1 As1 S1 T1 r1 E1 => ?_
  refine hb Z P σ H1 e1 As1 _ _ S1 h3 _ fun v2 H2 A2 As2 S2 T2 r2 E2 => ?_
  have r1' := r1.step S1 T2 (guard_pure g)
  refine ⟨x, y, A1, A2, d, r1', r2, h5, fun v H' A' vo rd => ?_⟩
  have E := EF.app (fun a h => r1.mut a h) T1 T2 E1.orr E2.orr
  obtain ⟨S3, T3, E3⟩ := fin S2 (T1.trans T2 (orl (b := ioE b)) (orr (a := ioE a))) (fun a h => by
    rcases List.mem_append.mp h with h | h
    · exact r1'.mut a h
    · exact r2.mut a h) E vo
  refine q v H' A' As2 S3 T3 rd (E3.weak (fun h => ?_) (fun h => ?_))
  · cases o <;> simp [frE, pureOp] at h ⊢ <;> exact h
  · cases o <;> simp [shE, pureOp] at h ⊢ <;> simp [h.1, h.2]
theorem se_neg {own vw : List Nat} {a : DE} {x : Expr} {p : Pos} (ha : SE C Φ X own vw a x) : SE C Φ X own vw (.neg a) (.UnaryOp .USub x p) := by
  intro Z P σ H env As d env' S e Q q
  simp only [ev] at e
  obtain ⟨y, e1, h1, h2⟩ := bd_inv e
  split at h2
  · simp only [Option.some.injEq, Rs.ok.injEq] at h2
    obtain ⟨rfl, rfl⟩ := h2
    refine (pe_un un_neg Cy.we).we ?_
    refine ha Z P σ H env As _ _ S h1 _ fun v1 H1 A1 As1 S1 T1 r1 E1 => ?_
    cases r1
    exact ⟨_, rfl, q _ _ [] As1 S1 T1 (.int _) EF.pure⟩
  · cases h2
/-- a comparison's reading -/
theorem cmp_core {own vw : List Nat} {a b : DE} {l r : Expr} {o : CO} (hu : X.A.units + 65 < cLine) (ha : SE C Φ X own vw a l) (hb : SE C Φ X own vw b r) {Z P : Addr → Prop} {σ : L2.St} {H : Hp} {env env' : En} {As : Asg} {c : Bool}
    (S : SR X.K C.N.length own vw Z P σ H env As) (e : ev Φ (.cmp o a b) env = some (.ok (.bl c) env')) {Q : VK} (q : ∀ H' As', SR X.K C.N.length own vw Z P σ H' env' As' → TR own (ioE a || ioE b) H As H' As' → Q (.bl c) H') :
    tOp (rCmp X.K o) (WE X l) (WE X r) σ H Q := by
  simp only [ev] at e
  obtain ⟨x, e1, h1, h2⟩ := bd_inv e
  obtain ⟨g, h2⟩ := gd_inv h2
  obtain ⟨y, e2, h3, h4⟩ := bd_inv h2
  obtain ⟨h5, rfl⟩ := lf_inv h4
  simp only [Option.map_eq_some_iff, D.bl.injEq] at h5
  obtain ⟨c', h5, rfl⟩ := h5
  refine ha Z P σ H env As _ _ S h1 _ fun v1 H1 A1 As1 S1 T1 r1 E1 => ?_
  refine hb Z P σ H1 e1 As1 _ _ S1 h3 _ fun v2 H2 A2 As2 S2 T2 r2 E2 => ?_
  exact ⟨x, y, A1, A2, _, r1.step S1 T2 (guard_pure g), r2, h5, q H2 As2 S2 (T1.trans T2 (orl (b := ioE b)) (orr (a := ioE a)))⟩
theorem cmp_bl {o : CO} {a b : DE} {env env' : En} {d : D} (e : ev Φ (.cmp o a b) env = some (.ok d env')) : ∃ c, d = .bl c := by
  simp only [ev] at e
  obtain ⟨x, e1, h1, h2⟩ := bd_inv e
  obtain ⟨g, h2⟩ := gd_inv h2
  obtain ⟨y, e2, h3, h4⟩ := bd_inv h2
  obtain ⟨h5, rfl⟩ := lf_inv h4
  simp only [Option.map_eq_some_iff] at h5
  obtain ⟨c', h5, rfl⟩ := h5
  exact ⟨_, rfl⟩
theorem se_cmp {own vw : List Nat} {o : CO} {a b : DE} {l r : Expr} {p : Pos} (hu : X.A.units + 65 < cLine) (hp : plainX r = true) (ha : SE C Φ X own vw a l) (hb : SE C Φ X own vw b r) : SE C Φ X own vw (.cmp o a b) (.Compare l [copOf o] [r] p) := by
  intro Z P σ H env As d env' S e Q q
  obtain ⟨c, rfl⟩ := cmp_bl e
  refine (pe_cmpR (op_cmp hu o) Cy.we Cy.we (plain_mark hp)).we ?_
  exact cmp_core hu ha hb S e fun H' As' S' T' => q _ _ [] As' S' T' (.bl _) EF.pure
theorem sb_cmp {own vw : List Nat} {o : CO} {a b : DE} {l r : Expr} {p : Pos} (hu : X.A.units + 65 < cLine) (hp : plainX r = true) (ha : SE C Φ X own vw a l) (hb : SE C Φ X own vw b r) : SB C Φ X own vw (ioE (.cmp o a b)) (ev Φ (.cmp o a b)) (WT X (.Compare l [copOf o] [r] p)) := by
  intro Z P σ H env As c env' S e Q q
  refine (pt_cmpR (op_cmp hu o) Cy.we Cy.we (plain_mark hp)).we ?_
  exact cmp_core hu ha hb S e fun H' As' S' T' => ⟨c, rfl, q H' As' S' T'⟩
theorem chn_core {own vw : List Nat} {a b c : DE} {l m r : Expr} {o o' : CO} (hu : X.A.units + 65 < cLine) (ha : SE C Φ X own vw a l) (hb : SE C Φ X own vw b m) (hc : SE C Φ X own vw c r) {Z P : Addr → Prop} {σ : L2.St} {H : Hp} {env env' : En} {As : Asg} {d : D}
    (S : SR X.K C.N.length own vw Z P σ H env As) (e : ev Φ (.chn o o' a b c) env = some (.ok d env')) {Q : VK} (q : ∀ t H' As', d = .bl t → SR X.K C.N.length own vw Z P σ H' env' As' → TR own (ioE a || ioE b || ioE c) H As H' As' → Q (.bl t) H') :
    tChain (rCmp X.K o) (rCmp X.K o') (WE X l) (WE X m) (WE X r) σ H Q := by
  simp only [ev] at e
  obtain ⟨x, e1, h1, h2⟩ := bd_inv e
  obtain ⟨g, h2⟩ := gd_inv h2
  obtain ⟨y, e2, h3, h4⟩ := bd_inv h2
  refine ha Z P σ H env As _ _ S h1 _ fun v1 H1 A1 As1 S1 T1 r1 E1 => ?_
  refine hb Z P σ H1 e1 As1 _ _ S1 h3 _ fun v2 H2 A2 As2 S2 T2 r2 E2 => ?_
  have gp : ioE b = true → pureD x = true := fun z => guard_pure g (by rw [z]; rfl)
  have T12 := T1.trans T2 (io := ioE a || ioE b) (orl (b := ioE b)) (orr (a := ioE a))
  split at h4
  · rename_i h5
    obtain ⟨g2, h4⟩ := gd_inv h4
    obtain ⟨z, e3, h6, h7⟩ := bd_inv h4
    obtain ⟨h8, rfl⟩ := lf_inv h7
    simp only [Option.map_eq_some_iff] at h8
    obtain ⟨t, h8, rfl⟩ := h8
    refine ⟨x, y, A1, A2, _, r1.step S1 T2 gp, r2, h5, true, rfl, ?_⟩
    rw [if_pos rfl]
    refine hc Z P σ H2 e2 As2 _ _ S2 h6 _ fun v3 H3 A3 As3 S3 T3 r3 E3 => ?_
    exact ⟨y, z, A2, A3, _, r2.step S2 T3 (guard_pure g2), r3, h8, q _ H3 As3 rfl S3 (T12.trans T3 (orl (b := ioE c)) (orr (a := ioE a || ioE b)))⟩
  · rename_i h5
    simp only [Option.some.injEq, Rs.ok.injEq] at h4
    obtain ⟨rfl, rfl⟩ := h4
    refine ⟨x, y, A1, A2, _, r1.step S1 T2 gp, r2, h5, false, rfl, ?_⟩
    rw [if_neg Bool.false_ne_true]
    exact q _ H2 As2 rfl S2 (T12.weak (orl (b := ioE c)))
  · cases h4
theorem se_chn {own vw : List Nat} {o o' : CO} {a b c : DE} {l m r : Expr} {p : Pos} (hu : X.A.units + 65 < cLine) (hp : plainX r = true) (ha : SE C Φ X own vw a l) (hb : SE C Φ X own vw b m) (hc : SE C Φ X own vw c r) :
    SE C Φ X own vw (.chn o o' a b c) (.Compare l [copOf o, copOf o'] [m, r] p) := by
  intro Z P σ H env As d env' S e Q q
  refine (pe_chain (op_cmp hu o) (op_cmp hu o') Cy.we Cy.we Cy.we (plain_marks hp)).we ?_
  exact chn_core hu ha hb hc S e fun t H' As' ed S' T' => by subst ed; exact q _ _ [] As' S' T' (.bl _) EF.pure
theorem sb_chn {own vw : List Nat} {o o' : CO} {a b c : DE} {l m r : Expr} {p : Pos} (hu : X.A.units + 65 < cLine) (hp : plainX r = true) (ha : SE C Φ X own vw a l) (hb : SE C Φ X own vw b m) (hc : SE C Φ X own vw c r) :
    SB C Φ X own vw (ioE (.chn o o' a b c)) (ev Φ (.chn o o' a b c)) (WT X (.Compare l [copOf o, copOf o'] [m, r] p)) := by
  intro Z P σ H env As t env' S e Q q
  refine (pt_chain (op_cmp hu o) (op_cmp hu o') Cy.we Cy.we Cy.we (plain_marks hp)).we ?_
  exact chn_core hu ha hb hc S e fun t H' As' ed S' T' => by cases ed; exact ⟨_, rfl, q H' As' S' T'⟩
/-- a chain of three -/
def tChain3 (r r' r2 : R2) (ta tb tc td : TE) : TE := fun σ H Q => ta σ H fun x H1 => tb σ H1 fun y H2 => r x y H2 fun z H3 => ∃ k, z = .bl k ∧
  (if k = true then tc σ H3 fun w H4 => r' y w H4 (fun z2 H5 => ∃ k2, z2 = .bl k2 ∧ (if k2 = true then td σ H5 fun u H6 => r2 w u H6 Q else Q (.bl false) H5)) else Q (.bl false) H3)
theorem pe_chain3 {a b c d : Expr} {pos : Pos} {ta tb tc td : TE} {op op' op2 : CmpOp} {r r' r2 : R2} (ho : OpR X (compareOp op) r) (ho' : OpR X (compareOp op') r') (ho2 : OpR X (compareOp op2) r2) (ha : PE X a ta) (hb : PE X b tb) (hc : PE X c tc) (hd : PE X d td)
    (hm : lastMarks [op, op', op2] [b, c, d] = false) : PE X (.Compare a [op, op', op2] [b, c, d] pos) (tChain3 r r' r2 ta tb tc td) := by
  refine ⟨fun pins s σ H Q I h => ?_⟩
  refine Compare_chain (thn (ha.run pins s σ H _ I h) fun v s1 ⟨x, H1, I1, r1, q1⟩ => chain_link (thn (hb.run pins s1 σ H1 _ I1 q1) fun u s2 ⟨y, H2, I2, r2, q2⟩ =>
    thn (ho pins s2 σ H2 x y v u _ I2 r1 r2 q2) fun d s3 ⟨z, H3, I3, r3, k, e, q3⟩ => ?_)) hm
  subst e
  cases r3
  refine wpAny_truthy_bool ?_
  cases k with
  | false => exact ite_ff ⟨.bl false, H3, I3, rfl, q3⟩
  | true =>
    refine ite_tt (chain_link (thn (hc.run pins s3 σ H3 _ I3 q3) fun w' s4 ⟨z', H4, I4, r4, q4⟩ => thn (ho' pins s4 σ H4 y z' u w' _ I4 r2 r4 q4) fun d2 s5 ⟨z2, H5, I5, r5, k2, e2, q5⟩ => ?_))
    subst e2
    cases r5
    refine wpAny_truthy_bool ?_
    cases k2 with
    | false => exact ite_ff ⟨.bl false, H5, I5, rfl, q5⟩
    | true => exact ite_tt (chain_last (thn (hd.run pins s5 σ H5 _ I5 q5) fun w2 s6 ⟨z6, H6, I6, r6, q6⟩ => ho2 pins s6 σ H6 z' z6 w' w2 Q I6 r4 r6 q6))
theorem pt_chain3 {a b c d : Expr} {pos : Pos} {ta tb tc td : TE} {op op' op2 : CmpOp} {r r' r2 : R2} (ho : OpR X (compareOp op) r) (ho' : OpR X (compareOp op') r') (ho2 : OpR X (compareOp op2) r2) (ha : PE X a ta) (hb : PE X b tb) (hc : PE X c tc) (hd : PE X d td)
    (hm : lastMarks [op, op', op2] [b, c, d] = false) : PT X (.Compare a [op, op', op2] [b, c, d] pos) (tTest (tChain3 r r' r2 ta tb tc td)) := by
  refine ⟨fun pins s σ H Q I h => ?_⟩
  refine isTrue_chain (thn (ha.run pins s σ H _ I h) fun v s1 ⟨x, H1, I1, r1, q1⟩ => test_link (thn (hb.run pins s1 σ H1 _ I1 q1) fun u s2 ⟨y, H2, I2, r2, q2⟩ =>
    thn (ho pins s2 σ H2 x y v u _ I2 r1 r2 q2) fun d s3 ⟨z, H3, I3, r3, k, e, q3⟩ => ?_)) hm
  subst e
  cases r3
  refine wpAny_truthy_bool ?_
  cases k with
  | false =>
    obtain ⟨k', e', q'⟩ := q3
    cases e'
    exact ite_ff ⟨H3, I3, q'⟩
  | true =>
    refine ite_tt (test_link (thn (hc.run pins s3 σ H3 _ I3 q3) fun w' s4 ⟨z', H4, I4, r4, q4⟩ => thn (ho' pins s4 σ H4 y z' u w' _ I4 r2 r4 q4) fun d2 s5 ⟨z2, H5, I5, r5, k2, e2, q5⟩ => ?_))
    subst e2
    cases r5
    refine wpAny_truthy_bool ?_
    cases k2 with
    | false =>
      obtain ⟨k', e', q'⟩ := q5
      cases e'
      exact ite_ff ⟨H5, I5, q'⟩
    | true =>
      refine ite_tt (test_last (thn (hd.run pins s5 σ H5 _ I5 q5) fun w2 s6 ⟨z6, H6, I6, r6, q6⟩ => thn (ho2 pins s6 σ H6 z' z6 w' w2 _ I6 r4 r6 q6) fun d' s7 ⟨z7, H7, I7, r7, k7, e7, q7⟩ => ?_))
      subst e7
      cases r7
      exact wpAny_truthy_bool ⟨H7, I7, q7⟩
theorem chn3_core {own vw : List Nat} {a b c dd : DE} {l m r w : Expr} {o o' o2 : CO} (hu : X.A.units + 65 < cLine) (ha : SE C Φ X own vw a l) (hb : SE C Φ X own vw b m) (hc : SE C Φ X own vw c r) (hd : SE C Φ X own vw dd w) {Z P : Addr → Prop} {σ : L2.St} {H : Hp} {env env' : En} {As : Asg} {d : D}
    (S : SR X.K C.N.length own vw Z P σ H env As) (e : ev Φ (.chn3 o o' o2 a b c dd) env = some (.ok d env')) {Q : VK} (q : ∀ t H' As', d = .bl t → SR X.K C.N.length own vw Z P σ H' env' As' → TR own (ioE a || (ioE b || (ioE c || ioE dd))) H As H' As' → Q (.bl t) H') :
    tChain3 (rCmp X.K o) (rCmp X.K o') (rCmp X.K o2) (WE X l) (WE X m) (WE X r) (WE X w) σ H Q := by
  simp only [ev] at e
  obtain ⟨g, e⟩ := gd_inv e
  simp only [Bool.or_eq_false_iff] at g
  obtain ⟨gb, gc, gdd⟩ := g
  obtain ⟨x, e1, h1, h2⟩ := bd_inv e
  obtain ⟨y, e2, h3, h4⟩ := bd_inv h2
  refine ha Z P σ H env As _ _ S h1 _ fun v1 H1 A1 As1 S1 T1 r1 E1 => ?_
  refine hb Z P σ H1 e1 As1 _ _ S1 h3 _ fun v2 H2 A2 As2 S2 T2 r2 E2 => ?_
  have nb : ∀ {p : Prop}, ioE b = true → p := fun z => by rw [gb] at z; cases z
  have nc : ∀ {p : Prop}, ioE c = true → p := fun z => by rw [gc] at z; cases z
  have nd : ∀ {p : Prop}, ioE dd = true → p := fun z => by rw [gdd] at z; cases z
  have T12 := T1.trans T2 (io := ioE a || (ioE b || (ioE c || ioE dd))) (orl (b := ioE b || (ioE c || ioE dd))) (fun z => nb z)
  split at h4
  · rename_i h5
    obtain ⟨z, e3, h6, h7⟩ := bd_inv h4
    refine ⟨x, y, A1, A2, _, r1.step S1 T2 nb, r2, h5, true, rfl, ?_⟩
    rw [if_pos rfl]
    refine hc Z P σ H2 e2 As2 _ _ S2 h6 _ fun v3 H3 A3 As3 S3 T3 r3 E3 => ?_
    have T13 := T12.trans T3 (io := ioE a || (ioE b || (ioE c || ioE dd))) id (fun z => nc z)
    split at h7
    · rename_i h8
      obtain ⟨u, e4, h9, h10⟩ := bd_inv h7
      obtain ⟨h11, rfl⟩ := lf_inv h10
      simp only [Option.map_eq_some_iff] at h11
      obtain ⟨t, h11, rfl⟩ := h11
      refine ⟨y, z, A2, A3, _, r2.step S2 T3 nc, r3, h8, true, rfl, ?_⟩
      rw [if_pos rfl]
      refine hd Z P σ H3 e3 As3 _ _ S3 h9 _ fun v4 H4 A4 As4 S4 T4 r4 E4 => ?_
      exact ⟨z, u, A3, A4, _, r3.step S3 T4 nd, r4, h11, q _ H4 As4 rfl S4 (T13.trans T4 id (fun z => nd z))⟩
    · rename_i h8
      simp only [Option.some.injEq, Rs.ok.injEq] at h7
      obtain ⟨rfl, rfl⟩ := h7
      refine ⟨y, z, A2, A3, _, r2.step S2 T3 nc, r3, h8, false, rfl, ?_⟩
      rw [if_neg Bool.false_ne_true]
      exact q _ H3 As3 rfl S3 T13
    · cases h7
  · rename_i h5
    simp only [Option.some.injEq, Rs.ok.injEq] at h4
    obtain ⟨rfl, rfl⟩ := h4
    refine ⟨x, y, A1, A2, _, r1.step S1 T2 nb, r2, h5, false, rfl, ?_⟩
    rw [if_neg Bool.false_ne_true]
    exact q _ H2 As2 rfl S2 T12
  · cases h4
theorem plain_marks3 {b c d : Expr} {op op' op2 : CmpOp} (h : plainX d = true) : lastMarks [op, op', op2] [b, c, d] = false := by
  show lastMarks [op2] [d] = false
  exact plain_mark h
theorem se_chn3 {own vw : List Nat} {o o' o2 : CO} {a b c dd : DE} {l m r w : Expr} {p : Pos} (hu : X.A.units + 65 < cLine) (hp : plainX w = true) (ha : SE C Φ X own vw a l) (hb : SE C Φ X own vw b m) (hc : SE C Φ X own vw c r) (hd : SE C Φ X own vw dd w) :
    SE C Φ X own vw (.chn3 o o' o2 a b c dd) (.Compare l [copOf o, copOf o', copOf o2] [m, r, w] p) := by
  intro Z P σ H env As d env' S e Q q
  refine (pe_chain3 (op_cmp hu o) (op_cmp hu o') (op_cmp hu o2) Cy.we Cy.we Cy.we Cy.we (plain_marks3 hp)).we ?_
  exact chn3_core hu ha hb hc hd S e fun t H' As' ed S' T' => by subst ed; exact q _ _ [] As' S' T' (.bl _) EF.pure
theorem sb_chn3 {own vw : List Nat} {o o' o2 : CO} {a b c dd : DE} {l m r w : Expr} {p : Pos} (hu : X.A.units + 65 < cLine) (hp : plainX w = true) (ha : SE C Φ X own vw a l) (hb : SE C Φ X own vw b m) (hc : SE C Φ X own vw c r) (hd : SE C Φ X own vw dd w) :
    SB C Φ X own vw (ioE (.chn3 o o' o2 a b c dd)) (ev Φ (.chn3 o o' o2 a b c dd)) (WT X (.Compare l [copOf o, copOf o', copOf o2] [m, r, w] p)) := by
  intro Z P σ H env As t env' S e Q q
  refine (pt_chain3 (op_cmp hu o) (op_cmp hu o') (op_cmp hu o2) Cy.we Cy.we Cy.we Cy.we (plain_marks3 hp)).we ?_
  exact chn3_core hu ha hb hc hd S e fun t H' As' ed S' T' => by cases ed; exact ⟨_, rfl, q H' As' S' T'⟩
theorem se_not {own vw : List Nat} {a : DE} {x : Expr} {p : Pos} (ha : SE C Φ X own vw a x) : SE C Φ X own vw (.not a) (.UnaryOp .Not x p) := by
  intro Z P σ H env As d env' S e Q q
  simp only [ev] at e
  obtain ⟨y, e1, h1, h2⟩ := bd_inv e
  split at h2
  · simp only [Option.some.injEq, Rs.ok.injEq] at h2
    obtain ⟨rfl, rfl⟩ := h2
    refine (pe_not Cy.we).we ?_
    refine ha Z P σ H env As _ _ S h1 _ fun v1 H1 A1 As1 S1 T1 r1 E1 => ?_
    cases r1
    exact ⟨_, rfl, q _ _ [] As1 S1 T1 (.bl _) EF.pure⟩
  · cases h2
theorem sb_not {own vw : List Nat} {a : DE} {x : Expr} {p : Pos} (ha : SB C Φ X own vw (ioE a) (ev Φ a) (WT X x)) : SB C Φ X own vw (ioE (.not a)) (ev Φ (.not a)) (WT X (.UnaryOp .Not x p)) := by
  intro Z P σ H env As b env' S e Q q
  simp only [ev] at e
  obtain ⟨y, e1, h1, h2⟩ := bd_inv e
  split at h2
  · simp only [Option.some.injEq, Rs.ok.injEq, D.bl.injEq] at h2
    obtain ⟨rfl, rfl⟩ := h2
    refine (pt_not Cy.wt).we ?_
    exact ha Z P σ H env As _ _ S h1 _ q
  · cases h2
/-- a value that is a bool, as a test -/
theorem sb_val {own vw : List Nat} {a : DE} {x : Expr} (ht : ∀ whole, isTrue x X.env whole = (do let v ← whole; standAt x.pos; holding [v] (truthy v))) (ha : SE C Φ X own vw a x) : SB C Φ X own vw (ioE a) (ev Φ a) (WT X x) := by
  intro Z P σ H env As b env' S e Q q
  refine (pt_val Cy.we ht).we ?_
  refine ha Z P σ H env As _ _ S e _ fun v1 H1 A1 As1 S1 T1 r1 E1 => ?_
  cases r1
  exact ⟨_, rfl, q H1 As1 S1 T1⟩
theorem evAnd_bl : ∀ {es : DEs} {env env' : En} {d : D}, evAnd Φ es env = some (.ok d env') → ∃ c, d = .bl c
  | .nil, _, _, _, h => by simp [evAnd] at h
  | .cons a .nil, env, env', d, h => by
    simp only [evAnd] at h
    obtain ⟨y, e1, h1, h2⟩ := bd_inv h
    split at h2
    · simp only [Option.some.injEq, Rs.ok.injEq] at h2; exact ⟨_, h2.1.symm⟩
    · cases h2
  | .cons a (.cons b es), env, env', d, h => by
    simp only [evAnd] at h
    obtain ⟨y, e1, h1, h2⟩ := bd_inv h
    split at h2
    · exact evAnd_bl h2
    · simp only [Option.some.injEq, Rs.ok.injEq] at h2; exact ⟨_, h2.1.symm⟩
    · cases h2
theorem evOr_bl : ∀ {es : DEs} {env env' : En} {d : D}, evOr Φ es env = some (.ok d env') → ∃ c, d = .bl c
  | .nil, _, _, _, h => by simp [evOr] at h
  | .cons a .nil, env, env', d, h => by
    simp only [evOr] at h
    obtain ⟨y, e1, h1, h2⟩ := bd_inv h
    split at h2
    · simp only [Option.some.injEq, Rs.ok.injEq] at h2; exact ⟨_, h2.1.symm⟩
    · cases h2
  | .cons a (.cons b es), env, env', d, h => by
    simp only [evOr] at h
    obtain ⟨y, e1, h1, h2⟩ := bd_inv h
    split at h2
    · exact evOr_bl h2
    · simp only [Option.some.injEq, Rs.ok.injEq] at h2; exact ⟨_, h2.1.symm⟩
    · cases h2
/-- each of a list: as a value, as a test -/
inductive Each (R : DE → Expr → Prop) : DEs → List Expr → Prop
  | nil : Each R .nil []
  | cons {a : DE} {es : DEs} {x : Expr} {xs : List Expr} : R a x → Each R es xs → Each R (.cons a es) (x :: xs)
theorem sv_and {own vw : List Nat} {p : Pos} : ∀ {es : DEs} {xs : List Expr}, Each (SE C Φ X own vw) es xs → SB C Φ X own vw (ioL es) (evAnd Φ es) (fun σ H Q => WE X (.BoolOp .And xs p) σ H fun v H' => ∃ b, v = .bl b ∧ Q b H')
  | .nil, _, .nil => fun Z P σ H env As b env' S e Q q => by simp [evAnd] at e
  | .cons a .nil, _, .cons h .nil => fun Z P σ H env As b env' S e Q q => by
    simp only [evAnd] at e
    obtain ⟨y, e1, h1, h2⟩ := bd_inv e
    split at h2
    · simp only [Option.some.injEq, Rs.ok.injEq, D.bl.injEq] at h2
      obtain ⟨rfl, rfl⟩ := h2
      refine (pe_one Cy.we).we ?_
      refine h Z P σ H env As _ _ S h1 _ fun v1 H1 A1 As1 S1 T1 r1 E1 => ?_
      cases r1
      exact ⟨_, rfl, q H1 As1 S1 (T1.weak (orl (b := ioL .nil)))⟩
    · cases h2
  | .cons a (.cons b es), _, .cons (xs := x2 :: xs) h t => fun Z P σ H env As bb env' S e Q q => by
    simp only [evAnd] at e
    obtain ⟨y, e1, h1, h2⟩ := bd_inv e
    refine (pe_and (b := x2) (rest := xs) Cy.we Cy.we).we ?_
    refine h Z P σ H env As _ _ S h1 _ fun v1 H1 A1 As1 S1 T1 r1 E1 => ?_
    split at h2
    · cases r1
      refine ⟨true, rfl, ?_⟩
      rw [if_pos rfl]
      exact sv_and t Z P σ H1 e1 As1 _ _ S1 h2 _ fun H2 As2 S2 T2 => q H2 As2 S2 (T1.trans T2 (orl (b := ioL (.cons b es))) (orr (a := ioE a)))
    · cases r1
      simp only [Option.some.injEq, Rs.ok.injEq, D.bl.injEq] at h2
      obtain ⟨rfl, rfl⟩ := h2
      refine ⟨false, rfl, ?_⟩
      rw [if_neg Bool.false_ne_true]
      exact ⟨_, rfl, q H1 As1 S1 (T1.weak (orl (b := ioL (.cons b es))))⟩
    · cases h2
theorem sv_or {own vw : List Nat} {p : Pos} : ∀ {es : DEs} {xs : List Expr}, Each (SE C Φ X own vw) es xs → SB C Φ X own vw (ioL es) (evOr Φ es) (fun σ H Q => WE X (.BoolOp .Or xs p) σ H fun v H' => ∃ b, v = .bl b ∧ Q b H')
  | .nil, _, .nil => fun Z P σ H env As b env' S e Q q => by simp [evOr] at e
  | .cons a .nil, _, .cons h .nil => fun Z P σ H env As b env' S e Q q => by
    simp only [evOr] at e
    obtain ⟨y, e1, h1, h2⟩ := bd_inv e
    split at h2
    · simp only [Option.some.injEq, Rs.ok.injEq, D.bl.injEq] at h2
      obtain ⟨rfl, rfl⟩ := h2
      refine (pe_one Cy.we).we ?_
      refine h Z P σ H env As _ _ S h1 _ fun v1 H1 A1 As1 S1 T1 r1 E1 => ?_
      cases r1
      exact ⟨_, rfl, q H1 As1 S1 (T1.weak (orl (b := ioL .nil)))⟩
    · cases h2
  | .cons a (.cons b es), _, .cons (xs := x2 :: xs) h t => fun Z P σ H env As bb env' S e Q q => by
    simp only [evOr] at e
    obtain ⟨y, e1, h1, h2⟩ := bd_inv e
    refine (pe_or (b := x2) (rest := xs) Cy.we Cy.we).we ?_
    refine h Z P σ H env As _ _ S h1 _ fun v1 H1 A1 As1 S1 T1 r1 E1 => ?_
    split at h2
    · cases r1
      refine ⟨false, rfl, ?_⟩
      rw [if_neg Bool.false_ne_true]
      exact sv_or t Z P σ H1 e1 As1 _ _ S1 h2 _ fun H2 As2 S2 T2 => q H2 As2 S2 (T1.trans T2 (orl (b := ioL (.cons b es))) (orr (a := ioE a)))
    · cases r1
      simp only [Option.some.injEq, Rs.ok.injEq, D.bl.injEq] at h2
      obtain ⟨rfl, rfl⟩ := h2
      refine ⟨true, rfl, ?_⟩
      rw [if_pos rfl]
      exact ⟨_, rfl, q H1 As1 S1 (T1.weak (orl (b := ioL (.cons b es))))⟩
    · cases h2
theorem st_and {own vw : List Nat} {p : Pos} : ∀ {es : DEs} {xs : List Expr}, Each (fun a x => SB C Φ X own vw (ioE a) (ev Φ a) (WT X x)) es xs → SB C Φ X own vw (ioL es) (evAnd Φ es) (WW X (.BoolOp .And xs p))
  | .nil, _, .nil => fun Z P σ H env As b env' S e Q q => by simp [evAnd] at e
  | .cons a .nil, _, .cons h .nil => fun Z P σ H env As b env' S e Q q => by
    simp only [evAnd] at e
    obtain ⟨y, e1, h1, h2⟩ := bd_inv e
    split at h2
    · simp only [Option.some.injEq, Rs.ok.injEq, D.bl.injEq] at h2
      obtain ⟨rfl, rfl⟩ := h2
      refine (pw_and1 Cy.wt).we ?_
      exact h Z P σ H env As _ _ S h1 _ fun H1 As1 S1 T1 => q H1 As1 S1 (T1.weak (orl (b := ioL .nil)))
    · cases h2
  | .cons a (.cons b es), _, .cons (xs := x2 :: xs) h t => fun Z P σ H env As bb env' S e Q q => by
    simp only [evAnd] at e
    obtain ⟨y, e1, h1, h2⟩ := bd_inv e
    refine (pw_and (b := x2) (rest := xs) Cy.wt Cy.ww).we ?_
    split at h2
    · refine h Z P σ H env As _ _ S h1 _ fun H1 As1 S1 T1 => ?_
      rw [if_pos rfl]
      exact st_and t Z P σ H1 e1 As1 _ _ S1 h2 _ fun H2 As2 S2 T2 => q H2 As2 S2 (T1.trans T2 (orl (b := ioL (.cons b es))) (orr (a := ioE a)))
    · simp only [Option.some.injEq, Rs.ok.injEq, D.bl.injEq] at h2
      obtain ⟨rfl, rfl⟩ := h2
      refine h Z P σ H env As _ _ S h1 _ fun H1 As1 S1 T1 => ?_
      rw [if_neg Bool.false_ne_true]
      exact q H1 As1 S1 (T1.weak (orl (b := ioL (.cons b es))))
    · cases h2
theorem st_or {own vw : List Nat} {p : Pos} : ∀ {es : DEs} {xs : List Expr}, Each (fun a x => SB C Φ X own vw (ioE a) (ev Φ a) (WT X x)) es xs → SB C Φ X own vw (ioL es) (evOr Φ es) (WW X (.BoolOp .Or xs p))
  | .nil, _, .nil => fun Z P σ H env As b env' S e Q q => by simp [evOr] at e
  | .cons a .nil, _, .cons h .nil => fun Z P σ H env As b env' S e Q q => by
    simp only [evOr] at e
    obtain ⟨y, e1, h1, h2⟩ := bd_inv e
    split at h2
    · simp only [Option.some.injEq, Rs.ok.injEq, D.bl.injEq] at h2
      obtain ⟨rfl, rfl⟩ := h2
      refine (pw_or1 Cy.wt).we ?_
      exact h Z P σ H env As _ _ S h1 _ fun H1 As1 S1 T1 => q H1 As1 S1 (T1.weak (orl (b := ioL .nil)))
    · cases h2
  | .cons a (.cons b es), _, .cons (xs := x2 :: xs) h t => fun Z P σ H env As bb env' S e Q q => by
    simp only [evOr] at e
    obtain ⟨y, e1, h1, h2⟩ := bd_inv e
    refine (pw_or (b := x2) (rest := xs) Cy.wt Cy.ww).we ?_
    split at h2
    · refine h Z P σ H env As _ _ S h1 _ fun H1 As1 S1 T1 => ?_
      rw [if_neg Bool.false_ne_true]
      exact st_or t Z P σ H1 e1 As1 _ _ S1 h2 _ fun H2 As2 S2 T2 => q H2 As2 S2 (T1.trans T2 (orl (b := ioL (.cons b es))) (orr (a := ioE a)))
    · simp only [Option.some.injEq, Rs.ok.injEq, D.bl.injEq] at h2
      obtain ⟨rfl, rfl⟩ := h2
      refine h Z P σ H env As _ _ S h1 _ fun H1 As1 S1 T1 => ?_
      rw [if_pos rfl]
      exact q H1 As1 S1 (T1.weak (orl (b := ioL (.cons b es))))
    · cases h2
theorem sl_nil {own vw : List Nat} : SL C Φ X own vw .nil [] := by
  intro Z P σ H env As ds env' S e Q q
  simp only [evL, Option.some.injEq, Rs.ok.injEq] at e
  obtain ⟨rfl, rfl⟩ := e
  exact pa_nil.we (q [] H [] As S TR.refl .nil EF.pure)
theorem sl_cons {own vw : List Nat} {a : DE} {es : DEs} {x : Expr} {xs : List Expr} (hp : plainX x = true) (ha : SE C Φ X own vw a x) (hs : SL C Φ X own vw es xs) : SL C Φ X own vw (.cons a es) (x :: xs) := by
  intro Z P σ H env As ds env' S e Q q
  simp only [evL] at e
  obtain ⟨y, e1, h1, h2⟩ := bd_inv e
  obtain ⟨g, h2⟩ := gd_inv h2
  obtain ⟨ys, e2, h3, h4⟩ := bd_inv h2
  simp only [Option.some.injEq, Rs.ok.injEq] at h4
  obtain ⟨rfl, rfl⟩ := h4
  refine (pa_cons Cy.we Cy.wa (plain_star hp)).we ?_
  refine ha Z P σ H env As _ _ S h1 _ fun v1 H1 A1 As1 S1 T1 r1 E1 => ?_
  refine hs Z P σ H1 e1 As1 _ _ S1 h3 _ fun vs H2 A2 As2 S2 T2 r2 E2 => ?_
  exact q _ H2 _ As2 S2 (T1.trans T2 (orl (b := ioL es)) (orr (a := ioE a))) (.cons (r1.step S1 T2 (guard_pure g)) r2) (EF.app (fun a h => r1.mut a h) T1 T2 E1.orr E2)
theorem se_tup {own vw : List Nat} {es : DEs} {xs : List Expr} {j : Nat} {p : Pos} (hs : SL C Φ X own vw es xs) : SE C Φ X own vw (.tup es) (.Tuple xs j p) := by
  intro Z P σ H env As d env' S e Q q
  simp only [ev] at e
  obtain ⟨ys, e1, h1, h2⟩ := bd_inv e
  split at h2
  · rename_i hz
    simp only [Option.some.injEq, Rs.ok.injEq] at h2
    obtain ⟨rfl, rfl⟩ := h2
    refine (pe_tup Cy.wa).we ?_
    refine hs Z P σ H env As _ _ S h1 _ fun vs H1 A As1 S1 T1 r E => ⟨by rw [r.length]; exact line_LMX hz, fun n hn => ?_⟩
    have sm : Same H1 (upd H1 n (.tup vs)) := same_new hn
    exact q _ _ A As1 (S1.grow sm) (T1.trans (TR.grow (io := ioL es) sm) id id) (.tup (SqT.of upd_same) (r.mono sm)) E
  · cases h2
theorem se_lst {own vw : List Nat} {es : DEs} {xs : List Expr} {p : Pos} (hs : SL C Φ X own vw es xs) : SE C Φ X own vw (.lst es) (.List xs p) := by
  intro Z P σ H env As d env' S e Q q
  simp only [ev] at e
  obtain ⟨ys, e1, h1, h2⟩ := bd_inv e
  split at h2
  · rename_i hz
    simp only [Option.some.injEq, Rs.ok.injEq] at h2
    obtain ⟨rfl, rfl⟩ := h2
    refine (pe_lst Cy.wa).we ?_
    refine hs Z P σ H env As _ _ S h1 _ fun vs H1 A As1 S1 T1 r E => ⟨by rw [r.length]; exact line_LMX hz, fun n hn => ?_⟩
    have sm : Same H1 (upd H1 n (.lst vs)) := same_new hn
    refine q _ _ (n :: A) As1 (S1.grow sm) (T1.trans (TR.grow (io := ioL es) sm) id id) (.lst upd_same (r.mono sm)) (EF.cons S1 ?_ (fun a h => r.mut a h) hn E)
    revert T1
    cases ioL es <;> intro T1
    · exact .inl T1
    · exact .inr T1
  · cases h2
theorem se_ix {own vw : List Nat} {a b : DE} {l r : Expr} {p : Pos} (hu : X.A.units + 65 < cLine) (hp : plainX r = true) (ha : SE C Φ X own vw a l) (hb : SE C Φ X own vw b r) : SE C Φ X own vw (.ix a b) (.Subscript l r p) := by
  intro Z P σ H env As d env' S e Q q
  simp only [ev] at e
  obtain ⟨x, e1, h1, h2⟩ := bd_inv e
  obtain ⟨g, h2⟩ := gd_inv h2
  obtain ⟨y, e2, h3, h4⟩ := bd_inv h2
  obtain ⟨h5, rfl⟩ := lf_inv h4
  refine (pe_ix (ix_D hu) Cy.we Cy.we (plain_ix hp)).we ?_
  refine ha Z P σ H env As _ _ S h1 _ fun v1 H1 A1 As1 S1 T1 r1 E1 => ?_
  refine hb Z P σ H1 e1 As1 _ _ S1 h3 _ fun v2 H2 A2 As2 S2 T2 r2 E2 => ?_
  exact ⟨x, y, A1, A2, d, r1.step S1 T2 (guard_pure g), r2, h5, fun v A' sb rd => q v H2 A' As2 S2 (T1.trans T2 (orl (b := ioE b)) (orr (a := ioE a))) rd ((E1.step (fun a h => r1.mut a h) T2).sub sb)⟩
theorem sp_no {own vw : List Nat} : SP C Φ X own vw .no none := by
  intro Z P σ H env As d env' S e Q q
  simp only [evP, Option.some.injEq, Rs.ok.injEq] at e
  obtain ⟨rfl, rfl⟩ := e
  exact po_none.we (q H As S TR.refl)
theorem sp_so {own vw : List Nat} {a : DE} {x : Expr} (ha : SE C Φ X own vw a x) : SP C Φ X own vw (.so a) (some x) := by
  intro Z P σ H env As d env' S e Q q
  simp only [evP] at e
  obtain ⟨y, e1, h1, h2⟩ := bd_inv e
  split at h2
  · simp only [Option.some.injEq, Rs.ok.injEq] at h2
    obtain ⟨rfl, rfl⟩ := h2
    refine (po_some Cy.we).we ?_
    refine ha Z P σ H env As _ _ S h1 _ fun v1 H1 A1 As1 S1 T1 r1 E1 => ?_
    cases r1
    exact ⟨_, rfl, q H1 As1 S1 T1⟩
  · cases h2
theorem se_sl {own vw : List Nat} {a : DE} {lo hi : DO} {l : Expr} {x y : Option Expr} {p p2 : Pos} (ha : SE C Φ X own vw a l) (h1 : SP C Φ X own vw lo x) (h2 : SP C Φ X own vw hi y) : SE C Φ X own vw (.sl a lo hi) (.Subscript l (.Slice x y none p2) p) := by
  intro Z P σ H env As d env' S e Q q
  simp only [ev] at e
  obtain ⟨z, e1, k1, k2⟩ := bd_inv e
  obtain ⟨g, k2⟩ := gd_inv k2
  obtain ⟨i, e2, k3, k4⟩ := bd_inv k2
  obtain ⟨j, e3, k5, k6⟩ := bd_inv k4
  obtain ⟨k7, rfl⟩ := lf_inv k6
  refine (pe_slice sl_D Cy.we Cy.wo Cy.wo).we ?_
  refine ha Z P σ H env As _ _ S k1 _ fun v1 H1 A1 As1 S1 T1 r1 E1 => ?_
  refine h1 Z P σ H1 e1 As1 _ _ S1 k3 _ fun H2 As2 S2 T2 => ?_
  refine h2 Z P σ H2 e2 As2 _ _ S2 k5 _ fun H3 As3 S3 T3 => ?_
  have T23 := T2.trans T3 (io := ioP lo || ioP hi) (orl (b := ioP hi)) (orr (a := ioP lo))
  have r1' := r1.step S1 T23 (guard_pure g)
  refine ⟨z, A1, d, r1', k7, fun v H' A' vo rd => ?_⟩
  have T : TR own (ioE a || ioP lo || ioP hi) H As H3 As3 := T1.trans T23 (fun z => by rw [z]; rfl) (fun z => by rw [Bool.or_assoc, z]; exact Bool.or_true _)
  obtain ⟨S4, T4, E4⟩ := fin S3 T (fun a h => r1'.mut a h) (E1.step (fun a h => r1.mut a h) T23) vo
  exact q v H' A' As3 S4 T4 rd (E4.weak (fun h => by
    have h : frE C.sigs a = true := h
    rw [h]; rfl) (fun h => by
    have h : shE C.sigs (own ++ vw) a = true := h
    rw [h]; rfl))
theorem se_slp {own vw : List Nat} {a : DE} {lo hi : DO} {l : Expr} {x y : Option Expr} {p p2 : Pos} (ha : SE C Φ X own vw a l) (h1 : SP C Φ X own vw lo x) (h2 : SP C Φ X own vw hi y) : SE C Φ X own vw (.slp a lo hi) (.Subscript l (.Slice x y none p2) p) := by
  intro Z P σ H env As d env' S e Q q
  simp only [ev] at e
  obtain ⟨z, e1, k1, k2⟩ := bd_inv e
  obtain ⟨g, k2⟩ := gd_inv k2
  obtain ⟨i, e2, k3, k4⟩ := bd_inv k2
  obtain ⟨j, e3, k5, k6⟩ := bd_inv k4
  obtain ⟨k7, rfl⟩ := lf_inv k6
  refine (pe_slice sl_Dp Cy.we Cy.wo Cy.wo).we ?_
  refine ha Z P σ H env As _ _ S k1 _ fun v1 H1 A1 As1 S1 T1 r1 E1 => ?_
  refine h1 Z P σ H1 e1 As1 _ _ S1 k3 _ fun H2 As2 S2 T2 => ?_
  refine h2 Z P σ H2 e2 As2 _ _ S2 k5 _ fun H3 As3 S3 T3 => ?_
  have T23 := T2.trans T3 (io := ioP lo || ioP hi) (orl (b := ioP hi)) (orr (a := ioP lo))
  have r1' := r1.step S1 T23 (guard_pure g)
  refine ⟨z, A1, d, r1', k7, fun v H' A' vo rd => ?_⟩
  have T : TR own (ioE a || ioP lo || ioP hi) H As H3 As3 := T1.trans T23 (fun z => by rw [z]; rfl) (fun z => by rw [Bool.or_assoc, z]; exact Bool.or_true _)
  obtain ⟨S4, T4, E4⟩ := fin S3 T (fun a h => r1'.mut a h) (E1.step (fun a h => r1.mut a h) T23) vo
  exact q v H' A' As3 S4 T4 rd (E4.weak (fun _ => Bool.or_true _) (fun _ => Bool.or_true _))
theorem se_sl3 {own vw : List Nat} {a st : DE} {lo hi : DO} {l z : Expr} {x y : Option Expr} {p p2 : Pos} (ha : SE C Φ X own vw a l) (h1 : SP C Φ X own vw lo x) (h2 : SP C Φ X own vw hi y) (h3 : SE C Φ X own vw st z) : SE C Φ X own vw (.sl3 a lo hi st) (.Subscript l (.Slice x y (some z) p2) p) := by
  intro Z P σ H env As d env' S e Q q
  simp only [ev] at e
  obtain ⟨z, e1, k1, k2⟩ := bd_inv e
  obtain ⟨g, k2⟩ := gd_inv k2
  obtain ⟨i, e2, k3, k4⟩ := bd_inv k2
  obtain ⟨j, e3, k5, k6⟩ := bd_inv k4
  obtain ⟨w, e4, k7, k8⟩ := bd_inv k6
  split at k8
  rotate_left
  · cases k8
  obtain ⟨k9, rfl⟩ := lf_inv k8
  refine (pe_slice3 sl3_D Cy.we Cy.wo Cy.wo Cy.we).we ?_
  refine ha Z P σ H env As _ _ S k1 _ fun v1 H1 A1 As1 S1 T1 r1 E1 => ?_
  refine h1 Z P σ H1 e1 As1 _ _ S1 k3 _ fun H2 As2 S2 T2 => ?_
  refine h2 Z P σ H2 e2 As2 _ _ S2 k5 _ fun H3 As3 S3 T3 => ?_
  refine h3 Z P σ H3 e3 As3 _ _ S3 k7 _ fun v4 H4 A4 As4 S4 T4 r4 E4 => ?_
  cases r4
  have T34 := T3.trans T4 (io := ioP hi || ioE st) (orl (b := ioE st)) (orr (a := ioP hi))
  have T24 := T2.trans T34 (io := ioP lo || (ioP hi || ioE st)) (orl (b := ioP hi || ioE st)) (orr (a := ioP lo))
  have r1' := r1.step S1 T24 (guard_pure g)
  refine ⟨_, rfl, z, A1, d, r1', k9, fun v H' A' vo rd => ?_⟩
  have T : TR own (ioE (.sl3 a lo hi st)) H As H4 As4 := T1.trans T24 (orl (b := ioP lo || (ioP hi || ioE st))) (orr (a := ioE a))
  obtain ⟨S5, T5, E5⟩ := fin S4 T (fun a h => r1'.mut a h) (E1.step (fun a h => r1.mut a h) T24) vo
  exact q v H' A' As4 S5 T5 rd (E5.weak (fun _ => Bool.or_true _) (fun _ => Bool.or_true _))
theorem getF_sub {K : PySem.W.Frag} {H : Hp} {fvs : List (Str × V)} {ds : List D} {A : List Addr} {x : Str} {d : D} (r : Reps K H (fvs.map (·.2)) ds A) (h : getF x (fvs.map (·.1)) ds = some d) :
    ∃ v C, fvs.lookup x = some v ∧ Rep K H v d C ∧ C.Sublist A := by
  obtain ⟨A1, C, A2, v, rfl, h1, h2, _⟩ := fld_sub r h
  exact ⟨v, C, h1, h2, (List.sublist_append_right A1 C).trans (List.sublist_append_left _ A2)⟩
theorem getF_none {K : PySem.W.Frag} {H : Hp} : ∀ {fvs : List (Str × V)} {ds : List D} {A : List Addr} {x : Str}, Reps K H (fvs.map (·.2)) ds A → getF x (fvs.map (·.1)) ds = none → fvs.lookup x = none
  | [], _, _, _, r, h => rfl
  | (f, v) :: fvs, _, _, x, .cons r t, h => by
    simp only [List.map_cons, getF] at h
    by_cases e : f = x
    · rw [if_pos e] at h; cases h
    · rw [if_neg e] at h
      have : (x == f) = false := beq_eq_false_iff_ne.mpr fun z => e z.symm
      simp only [List.lookup, this]
      exact getF_none t h
/-- of an instance, or of a kept error -/
def tFldX (K : PySem.W.Frag) (ta : TE) (f : Str) : TE := fun σ H Q => ta σ H fun x H1 =>
  (∃ a C dx fs v, x = .ref a ∧ H1 a = some (.ins C dx fs) ∧ Cls K C ∧ NoAttr K C f ∧ fs.lookup f = some v ∧ Q v H1) ∨
  ∃ a dd C fs v, x = .ref a ∧ H1 a = some (ErrO (.ref C) (some dd) a) ∧ XfC K C ∧ PySem.W.findIn K (.ref C) f = some none ∧ H1 dd = some (.xd fs) ∧ fs.lookup f = some v ∧ Q v H1
theorem pe_fldX {e : Expr} {f : Str} {pos : Pos} {ta : TE} (he : PE X e ta) (hb : attributeBase e f X.env (eval e X.env) = eval e X.env) : PE X (.Attribute e f pos) (tFldX X.K ta f) := by
  refine ⟨fun pins s σ H Q I h => ?_⟩
  refine attr_of hb (thn (he.run pins s σ H _ I h) fun u s1 hh => ?_)
  obtain ⟨x, H1, I1, rx, hh⟩ := hh
  rcases hh with ⟨a, C, dx, fs, v, ex, ea, c, n, l, q⟩ | ⟨a, dd, C, fs, v, ex, ea, T, hno, ed, l, q⟩
  · subst ex
    obtain rfl : u = Value.ref a := rx
    exact getattr_ok I1 ea c n l fun u' s2 I2 ru => ⟨v, H1, I2, ru, q⟩
  · subst ex
    obtain rfl : u = Value.ref a := rx
    obtain ⟨⟨oe, vs, ha, hz, hd⟩, _, _⟩ := I1.hok a _ ea
    have hx : ObjOk X.prog X.w H1 s1.heap dd (.xd fs) := I1.hok dd _ ed
    obtain ⟨mA, hns, hr⟩ := hx
    obtain ⟨od, ho, hl⟩ := lookIn_ns hns
    obtain ⟨u, hu, ru⟩ := RelO.some_of (v := v) (o := mA f) (by rw [← l]; exact hr f)
    have J : PySem.W.InstAt s1.heap a oe C (some od) := ⟨ha, hz.1, by unfold PySem.W.notCls; rw [hd] <;> rfl, by rw [hz.2]; exact ho⟩
    exact HandSPX.exc_get I1.kIn J T.ga T.gg T.exC (PySem.W.findObj_own T.hdC hno rfl (by rw [hl, hu])) (handed_of ru) ⟨v, H1, I1.tok _, ru, q⟩
/-- an attribute read -/
theorem se_fld {own vw : List Nat} {a : DE} {f : Str} {o : Expr} {p : Pos} (F : Fx C Φ k X) (hf : inB f C.ats = true) (hb : ∀ x p q, o ≠ .Call (.Name x p) [] [] q) (ha : SE C Φ X own vw a o) : SE C Φ X own vw (.fld a f) (.Attribute o f p) := by
  intro Z P σ H env As d env' S e Q q
  simp only [ev] at e
  obtain ⟨z, e1, k1, k2⟩ := bd_inv e
  obtain ⟨k3, rfl⟩ := lf_inv k2
  refine (pe_fldX Cy.we (base_of hb)).we ?_
  refine ha Z P σ H env As _ _ S k1 _ fun v1 H1 A1 As1 S1 T1 r1 E1 => ?_
  have mA := r1.mut
  cases r1 with
  | @er1 p dd c u x A0 h1 hk hc h2 r1 =>
    simp only [fldD] at k3
    split at k3
    rotate_left
    · cases k3
    rename_i hf2
    simp only [Option.some.injEq] at k3
    subst k3 hf2
    have KA := (F.kxA hk).cl c hc
    refine .inr ⟨p, dd, _, _, u, rfl, h1, ⟨KA.exc.hg, KA.exc.hk, KA.exc.hs, KA.exc.hd⟩, KA.no, h2, by simp [List.lookup], ?_⟩
    exact q u H1 _ As1 S1 T1 r1 (E1.weak (fun h => h) (fun h => h))
  | @obj p C0 dx c fvs fs ds A0 h1 h2 h3 r1 =>
    subst h3
    simp only [fldD] at k3
    obtain ⟨v, B, g1, g2, g3⟩ := getF_sub r1 k3
    obtain ⟨c1, c2⟩ := F.cls _ _ h2
    refine .inl ⟨p, C0, dx, fvs, v, rfl, h1, c1, c2 f hf, g1, ?_⟩
    have E2 := E1.sub (g3.trans (List.sublist_cons_self p A0))
    exact q v H1 B As1 S1 T1 g2 (E2.weak (fun h => h) (fun h => h))
  | _ => simp [fldD] at k3
theorem se_dct0 {own vw : List Nat} {p : Pos} : SE C Φ X own vw .dct0 (.Dict [] [] p) := by
  intro Z P σ H env As d env' S e Q q
  simp only [ev, Option.some.injEq, Rs.ok.injEq] at e
  obtain ⟨rfl, rfl⟩ := e
  refine pe_dnewK.we fun d hd => ?_
  have sm : Same H (upd H d (.dK [])) := same_new hd
  exact q (.ref d) _ [d] As (S.grow sm) (TR.grow sm) (.dct upd_same rfl .nil) (EF.cons S (.inl TR.refl) (fun a h => nomatch h) hd (EF.pure.weak (fun h => h) (fun h => h)))
theorem se_dct2 {own vw : List Nat} {k1 k2 : Str} {v1 v2 : Int} {j1 j2 j3 j4 : _} {p1 p2 p3 p4 p : Pos} : SE C Φ X own vw (.dct2 k1 v1 k2 v2) (.Dict [some (.Constant (.str k1) j1 p1), some (.Constant (.str k2) j2 p2)] [.Constant (.int v1) j3 p3, .Constant (.int v2) j4 p4] p) := by
  intro Z P σ H env As d env' S e Q q
  simp only [ev] at e
  split at e
  · cases e
  rename_i hne
  simp only [Option.some.injEq, Rs.ok.injEq] at e
  obtain ⟨rfl, rfl⟩ := e
  refine (pe_disp (pps_cons pe_str pe_int (pps_cons pe_str pe_int pps_nil)) rfl rfl (by simp) (by simp)).we fun d hd => ?_
  refine ⟨upd_same, [(.inr k1, .int v1), (.inr k2, .int v2)], rfl, by simp, ?_⟩
  have em : mergeK [] [((.inr k1 : Key), V.int v1), (.inr k2, .int v2)] = [(.inr k1, .int v1), (.inr k2, .int v2)] := by
    simp [mergeK, putK, hne]
  rw [em, upd_upd]
  have sm : Same H (upd H d (.dK [((.inr k1 : Key), V.int v1), (.inr k2, .int v2)])) := same_new hd
  exact q (.ref d) _ [d] As (S.grow sm) (TR.grow sm) (.dct upd_same rfl (.cons (.int v1) (.cons (.int v2) .nil))) (EF.cons S (.inl TR.refl) (fun a h => nomatch h) hd (EF.pure.weak (fun h => h) (fun h => h)))
theorem se_dct1 {own vw : List Nat} {a b : DE} {x y : Expr} {p : Pos} (ha : SE C Φ X own vw a x) (hb : SE C Φ X own vw b y) : SE C Φ X own vw (.dct1 a b) (.Dict [some x] [y] p) := by
  intro Z P σ H env As d env' S e Q q
  simp only [ev] at e
  obtain ⟨dk, e1, k1, k2⟩ := bd_inv e
  obtain ⟨g, k2⟩ := gd_inv k2
  obtain ⟨dv, e2, k3, k4⟩ := bd_inv k2
  obtain ⟨k5, rfl⟩ := lf_inv k4
  simp only [Option.map_eq_some_iff] at k5
  obtain ⟨ky, hky, rfl⟩ := k5
  refine (pe_disp (pps_cons Cy.we Cy.we pps_nil) rfl rfl (by simp) (by simp)).we fun d hd => ?_
  have sm : Same H (upd H d (.dK [])) := same_new hd
  have S0 := S.grow sm
  have T0 : TR own (ioE a || ioE b) H As (upd H d (.dK [])) As := TR.grow sm
  show WE X x σ _ _
  refine ha Z P σ _ env As _ _ S0 k1 _ fun v1 H1 A1 As1 S1 T1 r1 E1 => ?_
  show WE X y σ _ _
  refine hb Z P σ H1 e1 As1 _ _ S1 k3 _ fun v2 H2 A2 As2 S2 T2 r2 E2 => ?_
  have nd : ¬ OwA own As d := fun c => S.own_some c hd
  have nd1 : ¬ OwA own As1 d := fun c => by
    rcases T1.ow d c with z | z
    · exact nd z
    · rw [upd_same] at z; cases z
  have hd1 : H1 d = some (.dK []) := T1.keep _ _ upd_same fun _ => nd
  have hd2 : H2 d = some (.dK []) := T2.keep _ _ hd1 fun _ => nd1
  have nd2 : ¬ OwA own As2 d := fun c => by
    rcases T2.ow d c with z | z
    · exact nd1 z
    · rw [hd1] at z; cases z
  obtain rfl := key_V r1 hky
  have d0 : ∀ j, d ∉ As j := fun j c => by
    obtain ⟨xs, m⟩ := S.slot_mut c
    rw [hd] at m; cases m
  have d1 : ∀ j, d ∉ As1 j := fun j c => by
    rcases T1.al j d c with ⟨l, z⟩ | z
    · exact d0 l z
    · rw [upd_same] at z; cases z
  have d2 : ∀ j, d ∉ As2 j := fun j c => by
    rcases T2.al j d c with ⟨l, z⟩ | z
    · exact d1 l z
    · rw [hd1] at z; cases z
  have dA : d ∉ A2 := fun c => by
    rcases E2.2.2 d c with z | ⟨l, z⟩
    · rw [hd1] at z; cases z
    · exact d1 l z
  refine ⟨hd2, [(ky, v2)], rfl, Nat.le_of_ble_eq_true rfl, ?_⟩
  have em : mergeK [] [(ky, v2)] = [(ky, v2)] := rfl
  rw [em]
  have mt : MutH H2 d := ⟨⟨.dK [], trivial⟩, hd2⟩
  have S3 := S2.apart (ho := .dK [(ky, v2)]) d2 mt
  have T12 : TR own (ioE a || ioE b) H As H2 As2 := T0.trans (T1.trans T2 (io := ioE a || ioE b) (orl (b := ioE b)) (orr (a := ioE a))) id id
  have T3 : TR own (ioE (.dct1 a b)) H As (upd H2 d (.dK [(ky, v2)])) As2 := ⟨fun a h => by
      by_cases z : a = d
      · rw [z, upd_same]; simp
      · rw [upd_ne z]; exact T12.mono a h, fun a o h n => by
      rw [upd_ne (ne_of_none h hd)]; exact T12.keep a o h n, T12.ow, T12.al⟩
  have r3 : Rep X.K (upd H2 d (.dK [(ky, v2)])) (.ref d) (.dct [ky] [dv]) (d :: A2) := .dct upd_same rfl (Reps.one (r2.keep (fun a o h n => by
    obtain ⟨xs, m⟩ := mt
    rw [upd_ne (show a ≠ d from fun z => n xs (by rw [z, m] at h; exact (Option.some.inj h).symm))]; exact h) fun a ha o h => by rw [upd_ne (show a ≠ d from fun z => dA (z ▸ ha))]; exact h))
  have E3 := (E2.back (T0.trans T1 (io := ioE a || ioE b) id (orl (b := ioE b)))).orr
  have np : New own H As As2 d := ⟨.inl hd, nd2⟩
  refine q (.ref d) _ (d :: A2) As2 S3 T3 r3 ⟨fun h => ⟨List.nodup_cons.mpr ⟨dA, (E3.1 h).1⟩, fun a ha => ?_⟩, fun h a ha => ?_, fun a ha => ?_⟩
  · rcases List.mem_cons.mp ha with z | z
    · exact z ▸ np
    · exact (E3.1 h).2 a z
  · rcases List.mem_cons.mp ha with z | z
    · exact .inl (z ▸ np)
    · exact E3.2.1 h a z
  · rcases List.mem_cons.mp ha with z | z
    · exact .inl (z ▸ hd)
    · exact E3.2.2 a z
end
end Cy
end
section
set_option Elab.async false
set_option linter.all false
set_option maxRecDepth 100000
set_option maxHeartbeats 2000000
namespace Cy
open PySem L2 PyProof.Rows
variable [ClTab] [Fxd]
section
variable {C : Ct} {Φ : Nat → Fn} {k : Nat} {X : Cx}

theorem se_call {own vw : List Nat} {f : Nat} {es : DEs} {y : Str} {fr : Bool} {x : Expr} {xs : List Expr} {p pos : Pos} (F : Fx C Φ k X) (hy : C.calls[f]? = some y) (hs : C.sigs[f]? = some (none, fr)) (hg : X.env.scope.names.lookup y = some .globalImplicit) (ho : okN y = true)
    (hp : (x :: xs).all plainX = true) (hl : SL C Φ X own vw es (x :: xs)) : SE C Φ X own vw (.call f es) (.Call (.Name y p) (x :: xs) [] pos) := by
  intro Z P σ H env As d env' S e Q q
  simp only [ev] at e
  obtain ⟨ds, e1, h1, h2⟩ := bd_inv e
  split at h2
  · rename_i d0 hF
    simp only [Option.some.injEq, Rs.ok.injEq] at h2
    obtain ⟨rfl, rfl⟩ := h2
    obtain ⟨fa, fd, ps, K⟩ := F.calls f y _ hy ho hs
    simp only [List.all_cons, Bool.and_eq_true] at hp
    refine (pe_call K.ok F.room hg K.mg K.kp K.bi .nil pass0 Cy.wa (okN_eq ho).1 (plain_star hp.1) (plain_any hp.2)).we ?_
    refine hl Z P σ H env As _ _ S h1 _ fun vs H1 A As1 S1 T1 r E => ?_
    show spD X.K (none, fr) (Φ f) (vs ++ []) H1 Q E0
    rw [List.append_nil]
    unfold spD
    show spP X.K fr (Φ f) vs H1 Q E0
    refine ⟨ds, A, _, r, hF, fun v H' A' sm rd hfr hal => ?_⟩
    have mA : ∀ a ∈ A, MutH H1 a := fun a h => r.mut a h
    have T2 : TR own (ioL es) H As H' As1 := T1.trans (TR.grow (io := ioL es) sm) id id
    have nw : ∀ a, H1 a = none → New own H As As1 a := fun a h => ⟨.inl (by
      cases q : H a with
      | none => rfl
      | some o => exact absurd h (T1.mono a (by rw [q]; simp))), fun c => S1.own_some c h⟩
    have hfr' : frE C.sigs (.call f es) = fr := by simp only [frE, hs]
    have hsh' : shE C.sigs (own ++ vw) (.call f es) = (fr || shL C.sigs (own ++ vw) es) := by simp only [shE, hs]
    refine q v H' A' As1 (S1.grow sm) T2 rd ⟨fun h => ?_, fun h a ha => ?_, fun a ha => ?_⟩
    · rw [hfr'] at h
      exact ⟨(hfr h).1, fun a ha => nw a ((hfr h).2 a ha)⟩
    · rw [hsh'] at h
      rcases hal a ha with z | z
      · exact .inl (nw a z)
      · rcases Bool.or_eq_true_iff.mp h with h | h
        · exact .inl (nw a ((hfr h).2 a ha))
        · exact E.2.1 h a z
    · rcases hal a ha with z | z
      · exact .inl (T1.back z)
      · exact E.2.2 a z
  · cases h2
/-- views killed -/
theorem kil_get : ∀ {ks : List Nat} {e : En} {i : Nat} {d : D}, (kil ks e)[i]? = some (some d) → e[i]? = some (some d) ∧ (i ∈ ks → pureD d = true)
  | [], e, i, d, h => ⟨h, fun z => nomatch z⟩
  | k :: ks, e, i, d, h => by
    unfold kil at h
    split at h
    · rename_i d0 hk
      split at h
      · rename_i hp
        obtain ⟨a, b⟩ := kil_get h
        refine ⟨a, fun z => ?_⟩
        rcases List.mem_cons.mp z with z | z
        · subst z
          rw [hk] at a
          simp only [Option.some.injEq] at a
          subst a; exact hp
        · exact b z
      · obtain ⟨a, b⟩ := kil_get h
        by_cases hki : k = i
        · subst hki
          rw [List.getElem?_set] at a
          simp at a
        · rw [List.getElem?_set_ne hki] at a
          refine ⟨a, fun z => ?_⟩
          rcases List.mem_cons.mp z with z | z
          · exact absurd z.symm hki
          · exact b z
    · rename_i hk
      obtain ⟨a, b⟩ := kil_get h
      refine ⟨a, fun z => ?_⟩
      rcases List.mem_cons.mp z with z | z
      · subst z
        exact absurd a (hk d)
      · exact b z
theorem kil_len : ∀ {ks : List Nat} {e : En}, (kil ks e).length = e.length
  | [], e => rfl
  | k :: ks, e => by
    unfold kil
    split
    · split
      · exact kil_len
      · rw [kil_len, List.length_set]
    · exact kil_len
/-- the addresses behind a change of slot i -/
def AsC (As : Asg) (i : Nat) (A0 : List Addr) (e : En) : Asg := fun j => match e[j]? with
  | some (some _) => if j = i then A0 else As j
  | _ => []
theorem AsC_sub {As : Asg} {i : Nat} {A0 : List Addr} {e : En} {j : Nat} {a : Addr} (h : a ∈ AsC As i A0 e j) : (∃ d, e[j]? = some (some d)) ∧ (if j = i then a ∈ A0 else a ∈ As j) := by
  unfold AsC at h
  split at h
  · rename_i d hd
    refine ⟨⟨d, hd⟩, ?_⟩
    split
    · rename_i z; rwa [if_pos z] at h
    · rename_i z; rwa [if_neg z] at h
  · cases h
/-- an owned slot's data changed in place -/
theorem SR.change {K : PySem.W.Frag} {n : Nat} {own vw : List Nat} {Z P : Addr → Prop} {σ : L2.St} {H H' : Hp} {env : En} {As : Asg} {i : Nat} {d1 : D} {v0 : V} {A0 : List Addr} {kl : List Nat}
    (S : SR K n own vw Z P σ H env As) (hi : i ∈ own) (hn : i < n) (hv : σ[i]? = some (some v0)) (mono : ∀ a, H a ≠ none → H' a ≠ none) (keep : ∀ a o, H a = some o → a ∉ As i → H' a = some o)
    (r : Rep K H' v0 d1 A0) (nd : A0.Nodup) (hA : ∀ a ∈ A0, a ∈ As i ∨ (H a = none)) (hk : ∀ j ∈ vw, j ∈ kl) :
    SR K n own vw Z P σ H' (kil kl (env.set i (some d1))) (AsC As i A0 (kil kl (env.set i (some d1)))) ∧ TR own true H As H' (AsC As i A0 (kil kl (env.set i (some d1)))) := by
  have nP : ∀ a ∈ A0, ¬ P a := fun a ha hp => by
    rcases hA a ha with z | z
    · exact S.noP i hi a z hp
    · exact S.ph a hp z
  have nO : ∀ j ∈ own, j ≠ i → ∀ a ∈ A0, a ∉ As j := fun j hj hne a ha hb => by
    rcases hA a ha with z | z
    · exact S.dis i hi j hj (fun e => hne e.symm) a z hb
    · exact S.own_some ⟨j, hj, hb⟩ z
  refine ⟨⟨S.len, by rw [kil_len, List.length_set]; exact S.lenE, fun j d h => ?_, fun j h => ?_, fun j h1 h2 a ha => ?_, fun j hj => ?_, fun j hj a ha => ?_, fun j hj l hl hne a ha hb => ?_, S.zp, fun a h => mono a (S.ph a h), S.fix⟩, ?_⟩
  · have he : AsC As i A0 (kil kl (env.set i (some d1))) j = if j = i then A0 else As j := by
      unfold AsC; rw [h]
    obtain ⟨h1, h2⟩ := kil_get h
    rw [he]
    by_cases e : j = i
    · subst e
      rw [List.getElem?_set_self (by rw [S.lenE]; exact hn)] at h1
      simp only [Option.some.injEq] at h1
      subst h1
      rw [if_pos rfl]
      exact ⟨v0, hv, r⟩
    · rw [List.getElem?_set_ne (fun z => e z.symm)] at h1
      rw [if_neg e]
      obtain ⟨v, g1, g2⟩ := S.rep j d h1
      refine ⟨v, g1, g2.keep (fun a o ha hn2 => keep a o ha fun c => ?_) fun a ha o hao => keep a o hao fun c => ?_⟩
      · obtain ⟨xs, q⟩ := S.own_mut ⟨i, hi, c⟩
        rw [ha] at q
        exact hn2 xs (Option.some.inj q)
      · by_cases hj : j ∈ own
        · exact S.dis j hj i hi e a ha c
        · by_cases hw : j ∈ vw
          · rw [g2.pure (h2 (hk j hw))] at ha; cases ha
          · exact S.noP i hi a c (S.zp a (S.shr j hj hw a ha))
  · unfold AsC
    split
    · rename_i d hd; exact absurd hd (h d)
    · rfl
  · have q := (AsC_sub ha).2
    by_cases e : j = i
    · subst e; exact absurd hi h1
    · rw [if_neg e] at q; exact S.shr j h1 h2 a q
  · unfold AsC
    split
    · split
      · exact nd
      · exact S.nod j hj
    · exact List.nodup_nil
  · have q := (AsC_sub ha).2
    by_cases e : j = i
    · rw [if_pos e] at q; exact nP a q
    · rw [if_neg e] at q; exact S.noP j hj a q
  · have q1 := (AsC_sub ha).2
    have q2 := (AsC_sub hb).2
    by_cases e : j = i
    · rw [if_pos e] at q1
      by_cases e2 : l = i
      · exact hne (e.trans e2.symm)
      · rw [if_neg e2] at q2; exact nO l hl e2 a q1 q2
    · rw [if_neg e] at q1
      by_cases e2 : l = i
      · rw [if_pos e2] at q2; exact nO j hj e a q2 q1
      · rw [if_neg e2] at q2; exact S.dis j hj l hl hne a q1 q2
  · refine ⟨mono, fun a o h hn2 => keep a o h fun c => hn2 rfl ⟨i, hi, c⟩, fun a ⟨j, hj, ha⟩ => ?_, fun j a ha => ?_⟩
    rotate_left
    · have q := (AsC_sub ha).2
      by_cases e : j = i
      · rw [if_pos e] at q
        rcases hA a q with z | z
        · exact .inl ⟨i, z⟩
        · exact .inr z
      · rw [if_neg e] at q; exact .inl ⟨j, q⟩
    have q := (AsC_sub ha).2
    by_cases e : j = i
    · rw [if_pos e] at q
      rcases hA a q with z | z
      · exact .inl ⟨i, hi, z⟩
      · exact .inr z
    · rw [if_neg e] at q; exact .inl ⟨j, hj, q⟩
theorem each_sl {own vw : List Nat} : ∀ {es : DEs} {xs : List Expr}, Each (SE C Φ X own vw) es xs → xs.all plainX = true → SL C Φ X own vw es xs
  | .nil, _, .nil, _ => sl_nil
  | .cons a es, _, .cons h t, hp => by
    simp only [List.all_cons, Bool.and_eq_true] at hp
    exact sl_cons hp.1 h (each_sl t hp.2)
theorem each_evL {R : DE → Expr → Prop} : ∀ {es : DEs} {xs : List Expr} {env env' : En} {ds : List D}, Each R es xs → evL Φ es env = some (.ok ds env') → ds.length = xs.length
  | .nil, _, _, _, _, .nil, h => by
    simp only [evL, Option.some.injEq, Rs.ok.injEq] at h
    rw [← h.1]; rfl
  | .cons a es, _, env, env', ds, .cons h t, e => by
    simp only [evL] at e
    obtain ⟨y, e1, h1, h2⟩ := bd_inv e
    obtain ⟨g, h2⟩ := gd_inv h2
    obtain ⟨ys, e2, h3, h4⟩ := bd_inv h2
    simp only [Option.some.injEq, Rs.ok.injEq] at h4
    obtain ⟨rfl, rfl⟩ := h4
    rw [List.length_cons, List.length_cons, each_evL t h3]
theorem insAt_erase {α : Type} : ∀ {j : Nat} {x : α} {xs : List α}, xs[j]? = some x → insAt j x (xs.eraseIdx j) = xs
  | _, _, [], h => by simp at h
  | 0, x, y :: ys, h => by
    simp at h; subst h; rfl
  | j + 1, x, y :: ys, h => by
    have := insAt_erase (j := j) (x := x) (xs := ys) (by simpa using h)
    unfold insAt at this ⊢
    simpa using this
/-- arguments, one of them a name's -/
theorem wa_ins {own vw : List Nat} {i : Nat} {x0 : Str} {p0 : Pos} (F : Fx C Φ k X) (hn : C.N[i]? = some x0) (hv : Vis X.env.scope x0) (ho0 : okN x0 = true) : ∀ {es : DEs} {xs : List Expr} {j : Nat}, j ≤ xs.length → xs.all plainX = true → Each (SE C Φ X own vw) es xs → ioL es = false →
    ∀ (Z P : Addr → Prop) (σ : L2.St) (H : Hp) (env : En) (As : Asg) (ds : List D) (env' : En) (v0 : V), SR X.K C.N.length own vw Z P σ H env As → σ[i]? = some (some v0) → evL Φ es env = some (.ok ds env') →
    ∀ Q : List V → Hp → Prop, (∀ vs H' A As', SR X.K C.N.length own vw Z P σ H' env' As' → TR own false H As H' As' → Reps X.K H' vs ds A → EF own Z (frL C.sigs es) (shL C.sigs (own ++ vw) es) H As As' A → Q (insAt j v0 vs) H') → WA X (insAt j (.Name x0 p0) xs) σ H Q
  | es, xs, 0, hj, hp, he, hio => fun Z P σ H env As ds env' v0 S hv0 h1 Q q => by
    show WA X (.Name x0 p0 :: xs) σ H Q
    refine (pa_cons (pe_var (i := i) (by rw [F.nN]; exact hn) hv (okN_eq ho0).1 (okN_eq ho0).2) Cy.wa (plain_star rfl)).we ?_
    refine ⟨v0, hv0, each_sl he hp Z P σ H env As _ _ S h1 _ fun vs H1 A As1 S1 T1 r E => ?_⟩
    exact q vs H1 A As1 S1 (by rw [hio] at T1; exact T1) r E
  | .nil, _, j + 1, hj, hp, .nil, hio => fun Z P σ H env As ds env' v0 S hv0 h1 Q q => by simp at hj
  | .cons a es, x :: xs, j + 1, hj, hp, .cons ha he, hio => fun Z P σ H env As ds env' v0 S hv0 h1 Q q => by
    simp only [List.all_cons, Bool.and_eq_true] at hp
    simp only [ioL, Bool.or_eq_false_iff] at hio
    simp only [evL] at h1
    obtain ⟨y, e1, h2, h3⟩ := bd_inv h1
    obtain ⟨g, h3⟩ := gd_inv h3
    obtain ⟨ys, e2, h4, h5⟩ := bd_inv h3
    simp only [Option.some.injEq, Rs.ok.injEq] at h5
    obtain ⟨rfl, rfl⟩ := h5
    have e0 : insAt (j + 1) (Expr.Name x0 p0) (x :: xs) = x :: insAt j (.Name x0 p0) xs := by simp [insAt]
    rw [e0]
    refine (pa_cons Cy.we Cy.wa (plain_star hp.1)).we ?_
    refine ha Z P σ H env As _ _ S h2 _ fun v1 H1 A1 As1 S1 T1 r1 E1 => ?_
    refine wa_ins F hn hv ho0 (j := j) (by simpa using hj) hp.2 he hio.2 Z P σ H1 e1 As1 _ _ v0 S1 hv0 h4 _ fun vs H2 A2 As2 S2 T2 r2 E2 => ?_
    have e3 : v1 :: insAt j v0 vs = insAt (j + 1) v0 (v1 :: vs) := by simp [insAt]
    rw [e3]
    have T1' : TR own false H As H1 As1 := by rw [hio.1] at T1; exact T1
    exact q _ H2 _ As2 S2 (T1'.trans T2 id id) (.cons (r1.step S1 T2 (fun z => by cases z)) r2) (EF.app (fun a h => r1.mut a h) T1 T2 E1.orr E2)
theorem se_cio {own vw : List Nat} {f j i : Nat} {es : DEs} {kl : List Nat} {y x0 : Str} {a0 : Expr} {as xs : List Expr} {p p0 pos : Pos} (F : Fx C Φ k X) (hy : C.calls[f]? = some y) (hs : C.sigs[f]? = some (some j, true)) (hg : X.env.scope.names.lookup y = some .globalImplicit) (ho : okN y = true)
    (hn : C.N[i]? = some x0) (hv : Vis X.env.scope x0) (ho0 : okN x0 = true) (hi : i ∈ own) (hk : ∀ j ∈ vw, j ∈ kl) (hio : ioL es = false) (hsh : shL C.sigs (own ++ vw) es = true) (hj : j ≤ xs.length) (ha : a0 :: as = insAt j (.Name x0 p0) xs) (hp : xs.all plainX = true) (hl : Each (SE C Φ X own vw) es xs) :
    SE C Φ X own vw (.cio f j i es kl) (.Call (.Name y p) (a0 :: as) [] pos) := by
  intro Z P σ H env As d env' S e Q q
  simp only [ev] at e
  split at e
  · rename_i d00 hd00
    obtain ⟨ds, e1, h1, h2⟩ := bd_inv e
    split at h2
    · rename_i d0 hd0
      split at h2
      · rename_i d d1 hF
        simp only [Option.some.injEq, Rs.ok.injEq] at h2
        obtain ⟨rfl, rfl⟩ := h2
        obtain ⟨fa, fd, ps, K⟩ := F.calls f y _ hy ho hs
        have hlt : i < C.N.length := by
          have := (List.getElem?_eq_some_iff.mp hn).1
          exact this
        obtain ⟨v0, hv0, _⟩ := S.rep i _ hd00
        have hpa : (a0 :: as).all plainX = true := by
          rw [ha]
          simp only [List.all_eq_true] at hp ⊢
          intro z hz
          simp only [insAt, List.mem_append, List.mem_cons] at hz
          rcases hz with z1 | z1 | z1
          · exact hp z (List.mem_of_mem_take z1)
          · rw [z1]; rfl
          · exact hp z (List.mem_of_mem_drop z1)
        simp only [List.all_cons, Bool.and_eq_true] at hpa
        refine (pe_call K.ok F.room hg K.mg K.kp K.bi .nil pass0 Cy.wa (okN_eq ho).1 (plain_star hpa.1) (plain_any hpa.2)).we ?_
        rw [ha]
        refine wa_ins F hn hv ho0 hj hp hl hio Z P σ H env As _ _ v0 S hv0 h1 _ fun vs H1 A As1 S1 T1 r E => ?_
        show spD X.K (some j, true) (Φ f) (insAt j v0 vs ++ []) H1 Q E0
        rw [List.append_nil]
        show spI X.K j (Φ f) (insAt j v0 vs) H1 Q E0
        obtain ⟨v0', hv0', r0⟩ := S1.rep i _ hd0
        rw [hv0] at hv0'
        simp only [Option.some.injEq] at hv0'
        subst hv0'
        refine ⟨v0, vs, d0, ds, As1 i, A, _, d1, rfl, ?_, r0, r, S1.nod i hi, fun a ha hb => ?_, hF, fun v H' A' A0' mono keep r1 nd1 hA1 rd nd hA => ?_⟩
        · rw [r.length, each_evL hl h1]; exact hj
        · rcases E.2.1 hsh a hb with z | z
          · exact z.2 ⟨i, hi, ha⟩
          · exact S1.noP i hi a ha (S1.zp a z)
        · obtain ⟨S2, T2⟩ := S1.change hi hlt hv0 mono keep r1 nd1 hA1 hk
          have nw : ∀ a ∈ A', New own H1 As1 (AsC As1 i A0' (kil kl (e1.set i (some d1)))) a := fun a ha => by
            obtain ⟨z1, z2⟩ := hA a ha
            refine ⟨z1.imp id fun z => ⟨i, hi, z⟩, fun ⟨j, hj, hb⟩ => ?_⟩
            have g := (AsC_sub hb).2
            by_cases ej : j = i
            · rw [if_pos ej] at g; exact z2 g
            · rw [if_neg ej] at g
              rcases z1 with z | z
              · exact S1.own_some ⟨j, hj, g⟩ z
              · exact S1.dis j hj i hi ej a g z
          have E2 : EF own Z true true H1 As1 (AsC As1 i A0' (kil kl (e1.set i (some d1)))) A' := ⟨fun _ => ⟨nd, nw⟩, fun _ a ha => .inl (nw a ha), fun a ha => (hA a ha).1.imp id fun z => ⟨i, z⟩⟩
          exact q v H' A' _ S2 (T1.trans T2 (fun z => by cases z) (fun _ => rfl)) rd ((E2.back T1).weak (fun _ => rfl) (fun _ => rfl))
      · cases h2
    · cases h2
  · cases e
theorem ht_of {o : Expr} {m : Str} {apos pos : Pos} {es : List Expr} {env : PySem.Env} (hbase : attributeBase o m env (eval o env) = eval o env)
    (hfew : ((backTo pos (starEach es env)).all (fun x => !x.1) && (backToKw pos (keywordEach [] env)).all (fun x => x.1.isSome)
      && decide (es.length + ([] : List Keyword).length + (if ([] : List Keyword).isEmpty then 0 else 1) < 30)) = true) (hline : (apos.endLine == pos.line) = true) :
    eval (.Call (.Attribute o m apos) es [] pos) env = (do
      let ov ← eval o env
      standAt apos.atName
      let (f, first) ← holding [ov] (getMethod ov m (do return (← importBound o env).getD true))
      callWith pos f first (backTo pos (starEach es env)) (backToKw pos (keywordEach [] env))) := by
  have hform : methodCallForm (es.length + ([] : List Keyword).length) (backTo pos (starEach es env)) (backToKw pos (keywordEach [] env)) = true := hfew
  have hpos : methodCallPos true o env apos pos = pure pos := by unfold methodCallPos; simp [hline]
  rw [arm_eval_Call, hbase]
  unfold methodCall
  rw [hform, hpos]
  rfl
theorem few_all {es : List Expr} {env : PySem.Env} {cpos : Pos} (h : es.all plainX = true) (hl : es.length < 30) : ((backTo cpos (starEach es env)).all (fun x => !x.1) && (backToKw cpos (keywordEach [] env)).all (fun x => x.1.isSome)
      && decide (es.length + ([] : List Keyword).length + (if ([] : List Keyword).isEmpty then 0 else 1) < 30)) = true := by
  have e1 : (backTo cpos (starEach es env)).all (fun x => !x.1) = true := by
    have := plain_any (pos := cpos) (env := env) h
    rw [List.all_eq_true]
    intro x hx
    rw [List.any_eq_false] at this
    simpa using this x hx
  rw [e1]
  simp [keywordEach, backToKw, hl]
/-- o.m(..) of an instance of some class that has the method -/
def tMethD (K : PySem.W.Frag) (m : Str) (f : Addr) (sp : Sp) (ta : TE) (t : TA) : TE := fun σ H Q => ta σ H fun x H1 => ∃ a C dx fs, x = .ref a ∧ H1 a = some (.ins C dx fs) ∧ Cls K C ∧ Meth K C m f ∧ fs.lookup m = none ∧
  t σ H1 fun vs H2 => sp (x :: vs) H2 Q E0
theorem pe_methD {j : Nat} {f : Addr} {fd : FuncData} {ps : List Str} {sp : Sp} {o : Expr} {m : Str} {apos pos : Pos} {e : Expr} {es : List Expr} {ta : TE} {t : TA} (he : PE X o ta) (F : FnOk X.prog X.w X.K X.mg X.base CX0 j f fd ps sp) (hr : Room j X.A) (hb : Binds X.K fd ps []) (ha : PA X (e :: es) t)
    (hp : (e :: es).all plainX = true) (hl : (e :: es).length < 30) (hbase : attributeBase o m X.env (eval o X.env) = eval o X.env) (hline : (apos.endLine == pos.line) = true) :
    PE X (.Call (.Attribute o m apos) (e :: es) [] pos) (tMethD X.K m f sp ta t) := by
  refine ⟨fun pins s σ H Q I h => ?_⟩
  refine PySem.W.methodCall_KW (pl := (do return (← importBound o X.env).getD true)) (thn (he.run pins s σ H _ I h) fun u s1 ⟨x, H1, I1, rx, a, C, dx, fs, ex, ea, c, hm, l, q⟩ => ?_) (ht_of hbase (few_all hp hl) hline)
  subst ex
  obtain rfl : u = Value.ref a := rx
  refine getmeth_ok I1 ea c hm l ?_
  simp only [List.all_cons, Bool.and_eq_true] at hp
  refine PySem.W.callWith_K (first := [.ref a]) (h₀ := X.base) I1.ok.mod.kin hm.kp (thn (ha.run pos pins s1 σ H1 _ I1 q) fun us s2 ⟨vs, H2, I2, r, q2⟩ => ⟨I2.kIn, ?_⟩) (plain_star hp.1) (plain_any hp.2)
  have q2' : sp (.ref a :: vs ++ []) H2 Q E0 := by rw [List.append_nil]; exact q2
  exact run_fn (us := .ref a :: us) (vs := .ref a :: vs) F hr hb .nil pass0 I2 (.cons rfl r) q2'
theorem pe_methD0 {j : Nat} {f : Addr} {fd : FuncData} {ps : List Str} {sp : Sp} {o : Expr} {m : Str} {apos pos : Pos} {ta : TE} (he : PE X o ta) (F : FnOk X.prog X.w X.K X.mg X.base CX0 j f fd ps sp) (hr : Room j X.A) (hb : Binds X.K fd ps [])
    (hbase : attributeBase o m X.env (eval o X.env) = eval o X.env) (hline : (apos.endLine == pos.line) = true) :
    PE X (.Call (.Attribute o m apos) [] [] pos) (tMethD X.K m f sp ta tNil) := by
  refine ⟨fun pins s σ H Q I h => ?_⟩
  refine PySem.W.methodCall_KW (pl := (do return (← importBound o X.env).getD true)) (thn (he.run pins s σ H _ I h) fun u s1 ⟨x, H1, I1, rx, a, C, dx, fs, ex, ea, c, hm, l, q⟩ => ?_) (ht_of hbase (few_all rfl (by decide)) hline)
  subst ex
  obtain rfl : u = Value.ref a := rx
  refine getmeth_ok I1 ea c hm l ?_
  have q' : sp ([.ref a] ++ []) H1 Q E0 := q
  exact PySem.W.callWith_K0 (first := [.ref a]) I1.kIn hm.kp (run_fn (us := [.ref a]) (vs := [.ref a]) F hr hb .nil pass0 I1 (.cons rfl .nil) q')
/-- both at once -/
theorem we_meth {own vw : List Nat} {j : Nat} {f : Addr} {fd : FuncData} {ps : List Str} {sp : Sp} {o : Expr} {m : Str} {apos pos : Pos} {es : DEs} {xs : List Expr} (F : FnOk X.prog X.w X.K X.mg X.base CX0 j f fd ps sp) (hr : Room j X.A) (hb : Binds X.K fd ps [])
    (hl : Each (SE C Φ X own vw) es xs) (hp : xs.all plainX = true) (hlen : xs.length < 30) (hbase : attributeBase o m X.env (eval o X.env) = eval o X.env) (hline : (apos.endLine == pos.line) = true) {σ : L2.St} {H : Hp} {Q : VK}
    (h : WE X o σ H fun x H1 => ∃ a Ca dx fs, x = .ref a ∧ H1 a = some (.ins Ca dx fs) ∧ Cls X.K Ca ∧ Meth X.K Ca m f ∧ fs.lookup m = none ∧
      ∀ Q2 : List V → Hp → Prop, (∀ vs H2, sp (x :: vs) H2 Q E0 → Q2 vs H2) → ∃ (Z P : Addr → Prop) (env : En) (As : Asg) (ds : List D) (env' : En), SR X.K C.N.length own vw Z P σ H1 env As ∧ evL Φ es env = some (.ok ds env') ∧
        ∀ vs H' A As', SR X.K C.N.length own vw Z P σ H' env' As' → TR own (ioL es) H1 As H' As' → Reps X.K H' vs ds A → EF own Z (frL C.sigs es) (shL C.sigs (own ++ vw) es) H1 As As' A → Q2 vs H') : WE X (.Call (.Attribute o m apos) xs [] pos) σ H Q := by
  have key : ∀ (t : TA), (∀ (Z P : Addr → Prop) (H : Hp) (env : En) (As : Asg) (ds : List D) (env' : En), SR X.K C.N.length own vw Z P σ H env As → evL Φ es env = some (.ok ds env') →
      ∀ Q : List V → Hp → Prop, (∀ vs H' A As', SR X.K C.N.length own vw Z P σ H' env' As' → TR own (ioL es) H As H' As' → Reps X.K H' vs ds A → EF own Z (frL C.sigs es) (shL C.sigs (own ++ vw) es) H As As' A → Q vs H') → t σ H Q) →
      tMethD X.K m f sp (WE X o) t σ H Q := fun t ht => fun pins s I => wpAny_mono (h pins s I) (fun v s1 ⟨x, H1, I1, rx, a, Ca, dx, fs, e1, e2, e3, e4, e5, q⟩ => by
        obtain ⟨Z, P, env, As, ds, env', S, ee, qq⟩ := q (fun vs H2 => sp (x :: vs) H2 Q E0) fun _ _ z => z
        exact ⟨x, H1, I1, rx, a, Ca, dx, fs, e1, e2, e3, e4, e5, ht Z P H1 env As ds env' S ee _ qq⟩) fun _ _ z => z
  cases xs with
  | nil =>
    refine (pe_methD0 Cy.we F hr hb hbase hline).we (key tNil fun Z P H env As ds env' S e Q q => ?_)
    cases hl with
    | nil =>
      simp only [evL, Option.some.injEq, Rs.ok.injEq] at e
      obtain ⟨rfl, rfl⟩ := e
      exact q [] H [] As S TR.refl .nil EF.pure
  | cons x xs => exact (pe_methD Cy.we F hr hb Cy.wa hp hlen hbase hline).we (key (WA X (x :: xs)) fun Z P H env As ds env' S e Q q => each_sl hl hp Z P σ H env As ds env' S e Q q)
theorem isObj_rep {K : PySem.W.Frag} {H : Hp} {v : V} {d : D} {A : List Addr} {c m : Str} (r : Rep K H v d A) (h : isObj c m d = true) : ∃ a Ca dx fvs, v = .ref a ∧ H a = some (.ins Ca dx fvs) ∧ ClTab.is c Ca ∧ fvs.lookup m = none := by
  cases r with
  | @obj p C0 dx c0 fvs fs ds A0 h1 h2 h3 r1 =>
    subst h3
    simp only [isObj, Bool.and_eq_true, decide_eq_true_eq, Option.isNone_iff_eq_none] at h
    obtain ⟨rfl, h⟩ := h
    exact ⟨p, C0, dx, fvs, rfl, h1, h2, getF_none r1 h⟩
  | _ => simp [isObj] at h
/-- o.m(..), nothing handed in changes -/
theorem se_meth {own vw : List Nat} {f : Nat} {c m : Str} {fr : Bool} {a : DE} {es : DEs} {o : Expr} {xs : List Expr} {ap pos : Pos} (F : Fx C Φ k X) (hy : C.ms[f]? = some (c, m)) (hm1 : m ≠ "") (hm2 : m ≠ "__init__") (hs : C.sigs[f]? = some (none, fr))
    (hb : ∀ x p q, o ≠ .Call (.Name x p) [] [] q) (hline : (ap.endLine == pos.line) = true) (hp : xs.all plainX = true) (hlen : xs.length < 30) (ha : SE C Φ X own vw a o) (hl : Each (SE C Φ X own vw) es xs) : SE C Φ X own vw (.meth f c m a es) (.Call (.Attribute o m ap) xs [] pos) := by
  intro Z P σ H env As d env' S e Q q
  simp only [ev] at e
  obtain ⟨d0, e1, h1, h2⟩ := bd_inv e
  obtain ⟨g, h2⟩ := gd_inv h2
  simp only [Bool.or_eq_false_iff, Bool.not_eq_false'] at g
  obtain ⟨ds, e2, h3, h4⟩ := bd_inv h2
  split at h4
  rotate_left
  · cases h4
  rename_i d hF
  simp only [Option.some.injEq, Rs.ok.injEq] at h4
  obtain ⟨rfl, rfl⟩ := h4
  obtain ⟨fa, fd, ps, k', hk, M⟩ := F.ms f c m _ hy hm1 hs
  refine we_meth M.ok (F.room.mono (Nat.le_of_succ_le hk)) M.bi hl hp hlen (base_of hb) hline ?_
  refine ha Z P σ H env As _ _ S h1 _ fun v0 H0 A0 As0 S0 T0 r0 E0' => ?_
  obtain ⟨x, Ca, dx, fvs, rfl, g1, g2, g3⟩ := isObj_rep r0 g.2
  refine ⟨x, Ca, dx, fvs, rfl, g1, (F.cls _ _ g2).1, M.meth hm2 _ g2, g3, fun Q2 hQ => ⟨Z, P, e1, As0, ds, e2, S0, h3, fun vs H1 A As1 S1 T1 r E => hQ vs H1 ?_⟩⟩
  show spP X.K fr (Φ f) (.ref x :: vs) H1 Q E0
  have g11 : (ioL es && !pureD d0) = false := g.1
  have r0' := r0.step S0 T1 (guard_pure g11)
  have m0 : ∀ b ∈ A0, MutH H0 b := fun b h => r0.mut b h
  have T01 := T0.trans T1 (io := ioE a || ioL es) (orl (b := ioL es)) (orr (a := ioE a))
  have EE := EF.app m0 T0 T1 E0'.orr E
  refine ⟨d0 :: ds, A0 ++ A, _, .cons r0' r, hF, fun v H' A' sm rd hfr hal => ?_⟩
  have nw : ∀ a, H1 a = none → New own H As As1 a := fun a h => ⟨.inl (by
    cases q : H a with
    | none => rfl
    | some o => exact absurd h (T01.mono a (by rw [q]; simp))), fun c => S1.own_some c h⟩
  have hfr' : frE C.sigs (.meth f c m a es) = fr := by simp only [frE, hs]
  have hsh' : shE C.sigs (own ++ vw) (.meth f c m a es) = (fr || (shE C.sigs (own ++ vw) a && shL C.sigs (own ++ vw) es)) := by simp only [shE, hs]
  refine q v H' A' As1 (S1.grow sm) (T01.trans (TR.grow (io := ioE a || ioL es) sm) id id) rd ⟨fun h => ?_, fun h a ha => ?_, fun a ha => ?_⟩
  · rw [hfr'] at h
    exact ⟨(hfr h).1, fun a ha => nw a ((hfr h).2 a ha)⟩
  · rw [hsh'] at h
    rcases hal a ha with z | z
    · exact .inl (nw a z)
    · rcases Bool.or_eq_true_iff.mp h with h | h
      · exact .inl (nw a ((hfr h).2 a ha))
      · simp only [Bool.and_eq_true] at h
        exact EE.2.1 (by rw [h.1, h.2]; simp) a z
  · rcases hal a ha with z | z
    · exact .inl (T01.back z)
    · exact EE.2.2 a z
/-- C(..) -/
theorem se_new {own vw : List Nat} {f : Nat} {c : Str} {es : DEs} {x : Expr} {xs : List Expr} {p pos : Pos} (F : Fx C Φ k X) (hy : C.ms[f]? = some (c, ("__init__" : Str))) (hs : C.sigs[f]? = some (some 0, true)) (hg : X.env.scope.names.lookup c = some .globalImplicit) (ho : okN c = true)
    (hp : (x :: xs).all plainX = true) (hl : SL C Φ X own vw es (x :: xs)) : SE C Φ X own vw (.new f c es) (.Call (.Name c p) (x :: xs) [] pos) := by
  intro Z P σ H env As d env' S e Q q
  simp only [ev] at e
  obtain ⟨ds, e1, h1, h2⟩ := bd_inv e
  split at h2
  rotate_left
  · cases h2
  rename_i d1 hF
  simp only [Option.some.injEq, Rs.ok.injEq] at h2
  obtain ⟨rfl, rfl⟩ := h2
  obtain ⟨fa, fd, ps, k', hk, M⟩ := F.ms f c ("__init__" : Str) _ hy (by decide) hs
  obtain ⟨Ca, hc, mk, hmg⟩ := M.make rfl
  simp only [List.all_cons, Bool.and_eq_true] at hp
  refine (pe_make mk M.ok (F.room.mono hk) hg hmg M.bi .nil pass0 Cy.wa (okN_eq ho).1 (plain_star hp.1) (plain_any hp.2)).we ?_
  refine hl Z P σ H env As _ _ S h1 _ fun vs H1 A As1 S1 T1 r E => ?_
  intro x dx hx hdx hne
  rw [List.append_nil]
  have sm : Same H1 (upd (upd H1 dx (.own x)) x (.ins Ca dx [])) := fun a o h => by
    rw [upd_ne (ne_of_none h hx), upd_ne (ne_of_none h hdx)]; exact h
  show spI X.K 0 (Φ f) (insAt 0 (.ref x) vs) _ _ E0
  refine ⟨.ref x, vs, .obj c [] [], ds, [x], A, _, d1, rfl, Nat.zero_le _, .obj upd_same hc rfl .nil, r.mono sm, by simp, fun a ha hb => ?_, hF, fun v H' A' A0' mono keep r1 nd1 hA1 rd nd hA => ?_⟩
  · have : a = x := by simpa using ha
    subst this
    obtain ⟨xs, m⟩ := r.mut a hb
    rw [hx] at m; cases m
  · have sm2 : Same H1 H' := fun a o h => keep a o (sm a o h) fun z => by
      have : a = x := by simpa using z
      subst this
      rw [hx] at h; cases h
    have fresh : ∀ a ∈ A0', H1 a = none := fun a ha => by
      rcases hA1 a ha with z | z
      · have : a = x := by simpa using z
        rw [this]; exact hx
      · cases g : H1 a with
        | none => rfl
        | some o => rw [sm a o g] at z; cases z
    have nw : ∀ a, H1 a = none → New own H As As1 a := fun a h => ⟨.inl (T1.back h), fun c => S1.own_some c h⟩
    refine ⟨by cases rd; rfl, q (.ref x) H' A0' As1 (S1.grow sm2) (T1.trans (TR.grow (io := ioL es) sm2) id id) r1 ⟨fun _ => ⟨nd1, fun a ha => nw a (fresh a ha)⟩, fun _ a ha => .inl (nw a (fresh a ha)), fun a ha => .inl (T1.back (fresh a ha))⟩⟩
theorem getP_app : ∀ {q1 : List AcV} {q2 : List AcV} {d : D}, getP (q1 ++ q2) d = (getP q1 d).bind (getP q2)
  | [], q2, d => rfl
  | .i kk :: q, q2, .lst xs => by
    show (ixD (.lst xs) kk).bind (fun c => getP (q ++ q2) c) = ((ixD (.lst xs) kk).bind fun c => getP q c).bind (getP q2)
    rw [Option.bind_assoc]
    congr 1
    funext c
    exact getP_app
  | .f x :: q, q2, .obj c fs vs => by
    show (fldD (.obj c fs vs) x).bind (fun c => getP (q ++ q2) c) = ((fldD (.obj c fs vs) x).bind fun c => getP q c).bind (getP q2)
    rw [Option.bind_assoc]
    congr 1
    funext c
    exact getP_app
  | .i kk :: q, q2, .non => rfl
  | .i kk :: q, q2, .bl _ => rfl
  | .i kk :: q, q2, .int _ => rfl
  | .i kk :: q, q2, .str _ => rfl
  | .i kk :: q, q2, .tup _ => rfl
  | .i kk :: q, q2, .scr _ => rfl
  | .i kk :: q, q2, .dct _ _ => rfl
  | .i kk :: q, q2, .obj _ _ _ => rfl
  | .i kk :: q, q2, .frz _ => rfl
  | .i kk :: q, q2, .hol _ => rfl
  | .i kk :: q, q2, .any => rfl
  | .i kk :: q, q2, .err _ _ => rfl
  | .f x :: q, q2, .non => rfl
  | .f x :: q, q2, .bl _ => rfl
  | .f x :: q, q2, .int _ => rfl
  | .f x :: q, q2, .str _ => rfl
  | .f x :: q, q2, .tup _ => rfl
  | .f x :: q, q2, .lst _ => rfl
  | .f x :: q, q2, .scr _ => rfl
  | .f x :: q, q2, .dct _ _ => rfl
  | .f x :: q, q2, .frz _ => rfl
  | .f x :: q, q2, .hol _ => rfl
  | .f x :: q, q2, .any => rfl
  | .f x :: q, q2, .err _ _ => rfl
theorem mFp_plain {sc : Scope} {i : Nat} : ∀ {r : List Str} {e : Expr}, mFp C sc i r e = true → plainX e = true ∧ ∀ y p q, e ≠ .Call (.Name y p) [] [] q
  | [], e, h => by
    simp only [mFp] at h
    split at h
    · rename_i hx; obtain ⟨p, rfl⟩ := asName_eq hx; exact ⟨rfl, fun _ _ _ => by simp⟩
    · cases h
  | f :: r, e, h => by
    simp only [mFp] at h
    split at h
    · rename_i hx; obtain ⟨p, rfl⟩ := asFld_eq hx; exact ⟨rfl, fun _ _ _ => by simp⟩
    · cases h
/-- one attribute more -/
theorem nav_fld {H : Hp} {u : V} {d dt : D} {A : List Addr} {f : Str} (F : Fx C Φ k X) (r : Rep X.K H u d A) (h : getP [.f f] d = some dt) : ∃ a Ca dx fvs v B, u = .ref a ∧ H a = some (.ins Ca dx fvs) ∧ ClTab.is (match d with | .obj c _ _ => c | _ => "") Ca ∧ fvs.lookup f = some v ∧ Rep X.K H v dt B ∧ NavV H u [.f f] v := by
  cases r with
  | @obj p C0 dx c fvs fs ds A0 h1 h2 h3 r1 =>
    subst h3
    simp only [getP, fldD, Option.bind_eq_some_iff, Option.some.injEq] at h
    obtain ⟨z, hz, rfl⟩ := h
    obtain ⟨v, B, g1, g2, g3⟩ := getF_sub r1 hz
    exact ⟨p, C0, dx, fvs, v, B, rfl, h1, h2, g1, g2, by simp only [NavV]; exact ⟨p, C0, dx, fvs, v, rfl, h1, g1, rfl⟩⟩
  | _ => simp [getP] at h
/-- a name, and attributes behind it -/
theorem fp_eval (F : Fx C Φ k X) {i : Nat} : ∀ {r : List Str} {ex : Expr}, mFp C X.env.scope i r ex = true → ∀ {σ : L2.St} {H : Hp} {v0 : V} {d0 dt : D} {A : List Addr}, σ[i]? = some (some v0) → Rep X.K H v0 d0 A → getP (pathF r.reverse) d0 = some dt →
    ∀ {Q : VK}, (∀ u, NavV H v0 (pathF r.reverse) u → Q u H) → WE X ex σ H Q
  | [], ex, hm, σ, H, v0, d0, dt, A, hσ, hr, hg, Q, q => by
    simp only [mFp] at hm
    split at hm
    · rename_i x hx; obtain ⟨p, rfl⟩ := asName_eq hx
      simp only [Bool.and_eq_true] at hm
      refine (pe_var (i := i) (by rw [F.nN]; exact nameAt_eq hm.1.1) (visB_eq hm.1.2) (okN_eq hm.2).1 (okN_eq hm.2).2).we ⟨v0, hσ, ?_⟩
      exact q v0 (by simp [pathF, NavV])
    · cases hm
  | f :: r, ex, hm, σ, H, v0, d0, dt, A, hσ, hr, hg, Q, q => by
    simp only [mFp] at hm
    split at hm
    · rename_i o y hx; obtain ⟨p, rfl⟩ := asFld_eq hx
      simp only [Bool.and_eq_true, strEq, decide_eq_true_eq] at hm
      obtain ⟨⟨rfl, hat⟩, hm⟩ := hm
      have ep : pathF (y :: r).reverse = pathF r.reverse ++ [.f y] := by simp [pathF]
      rw [ep, getP_app, Option.bind_eq_some_iff] at hg
      obtain ⟨dm, hg1, hg2⟩ := hg
      refine (pe_fld Cy.we (base_of (mFp_plain hm).2)).we ?_
      refine fp_eval F hm hσ hr hg1 fun u nu => ?_
      obtain ⟨B, rm, _⟩ := nav_rep hr nu hg1
      obtain ⟨a, Ca, dx, fvs, v, B2, rfl, h1, h2, h3, h4, h5⟩ := nav_fld F rm hg2
      obtain ⟨c1, c2⟩ := F.cls _ _ h2
      refine ⟨a, Ca, dx, fvs, v, rfl, h1, c1, c2 y hat, h3, q v ?_⟩
      rw [ep]
      exact nu.app h5
    · cases hm
theorem chkB_eq {b : D → Bool} {i : Nat} {q : List AcV} {e : En} (h : chkB b i q e = true) : ∃ d t, e[i]? = some (some d) ∧ getP q d = some t ∧ b t = true := by
  unfold chkB at h
  split at h
  · rename_i d hd
    split at h
    · rename_i t ht; exact ⟨d, t, hd, ht, h⟩
    · cases h
  · cases h
/-- x.f.m(..): what stands there changes -/
theorem se_mio {own vw : List Nat} {f : Nat} {c m : Str} {i : Nat} {pa : List Str} {es : DEs} {kl : List Nat} {o : Expr} {xs : List Expr} {ap pos : Pos} (F : Fx C Φ k X) (hy : C.ms[f]? = some (c, m)) (hm1 : m ≠ "") (hm2 : m ≠ "__init__") (hs : C.sigs[f]? = some (some 0, true))
    (hmf : mFp C X.env.scope i pa.reverse o = true) (hi : i ∈ own) (hk : ∀ j ∈ vw, j ∈ kl) (hio : ioL es = false) (hsh : shL C.sigs (own ++ vw) es = true) (hline : (ap.endLine == pos.line) = true) (hp : xs.all plainX = true) (hlen : xs.length < 30) (hl : Each (SE C Φ X own vw) es xs) :
    SE C Φ X own vw (.mio f c m i pa es kl) (.Call (.Attribute o m ap) xs [] pos) := by
  intro Z P σ H env As d env' S e Q q
  simp only [ev] at e
  split at e
  rotate_left
  · cases e
  rename_i d00 hd00
  split at e
  rotate_left
  · cases e
  rename_i hck
  obtain ⟨ds, e1, h1, h2⟩ := bd_inv e
  split at h2
  rotate_left
  · cases h2
  rename_i d0 hd0
  split at h2
  rotate_left
  · cases h2
  rename_i dt hdt
  split at h2
  rotate_left
  · cases h2
  rename_i dr d1 hF
  simp only [Option.map_eq_some_iff, Rs.ok.injEq] at h2
  obtain ⟨d', hu, rfl, rfl⟩ := h2
  obtain ⟨d00', dt0, g1, g2, g3⟩ := chkB_eq hck
  rw [hd00] at g1
  simp only [Option.some.injEq] at g1
  subst g1
  obtain ⟨v0, hv0, r00⟩ := S.rep i _ hd00
  have hlt : i < C.N.length := by
    have := (List.getElem?_eq_some_iff.mp hd00).1
    rw [S.lenE] at this; exact this
  obtain ⟨fa, fd, ps, k', hk', M⟩ := F.ms f c m _ hy hm1 hs
  refine we_meth M.ok (F.room.mono (Nat.le_of_succ_le hk')) M.bi hl hp hlen (base_of (mFp_plain hmf).2) hline ?_
  refine fp_eval F hmf hv0 r00 (by rw [List.reverse_reverse]; exact g2) fun u nu => ?_
  rw [List.reverse_reverse] at nu
  obtain ⟨B0, rt0, _⟩ := nav_rep r00 nu g2
  obtain ⟨x, Ca, dx, fvs, rfl, g4, g5, g6⟩ := isObj_rep rt0 g3
  refine ⟨x, Ca, dx, fvs, rfl, g4, (F.cls _ _ g5).1, M.meth hm2 _ g5, g6, fun Q2 hQ => ⟨Z, P, env, As, ds, e1, S, h1, fun vs H1 A As1 S1 T1 r E => hQ vs H1 ?_⟩⟩
  show spI X.K 0 (Φ f) (insAt 0 (.ref x) vs) H1 Q E0
  have T1' : TR own false H As H1 As1 := by rw [hio] at T1; exact T1
  obtain ⟨v0', hv0', r0⟩ := S1.rep i _ hd0
  rw [hv0] at hv0'
  simp only [Option.some.injEq] at hv0'
  subst hv0'
  have nu1 : NavV H1 v0 (pathF pa) (.ref x) := nu.keep fun a o h => T1'.keep a o h (fun z => by cases z)
  obtain ⟨dt2, dt', A1, Cc, A2, i1, i2, i3, i4, i5⟩ := focus r0 nu1 hu
  rw [hdt] at i4
  simp only [Option.some.injEq] at i4 i1
  subst i4 i1
  have nd := S1.nod i hi
  have nd0 := nd
  rw [i2] at nd0
  obtain ⟨m1, m2, m3⟩ := List.nodup_append.mp nd0
  obtain ⟨m4, m5, m6⟩ := List.nodup_append.mp m1
  have inC : ∀ a ∈ Cc, a ∈ As1 i := fun a h => by rw [i2]; simp [h]
  have apart : ∀ a, a ∈ A1 ∨ a ∈ A2 → a ∉ Cc := fun a h z => by
    rcases h with h | h
    · exact m6 a h a z rfl
    · exact m3 a (List.mem_append_right _ z) a h rfl
  refine ⟨.ref x, vs, dt, ds, Cc, A, _, d1, rfl, Nat.zero_le _, i3, r, m5, fun a ha hb => ?_, hF, fun v H' A' A0' mono keep r1 nd1 hA1 rd ndA hA => ?_⟩
  · rcases E.2.1 hsh a hb with z | z
    · exact z.2 ⟨i, hi, inC a ha⟩
    · exact S1.noP i hi a (inC a ha) (S1.zp a z)
  · have rI := i5 H' A0' (fun a o h n => keep a o h fun z => by
      obtain ⟨xs, mm⟩ := i3.mut a z
      rw [h] at mm
      exact n xs (Option.some.inj mm)) (fun a ha o h => keep a o h (apart a ha)) r1
    have some1 : ∀ a ∈ As1 i, H1 a ≠ none := fun a ha => S1.own_some ⟨i, hi, ha⟩
    have ndI : (A1 ++ A0' ++ A2).Nodup := nodup_mid nd0 nd1 fun a ha => (hA1 a ha).imp id fun z c => some1 a (i2 ▸ c) z
    have subI : ∀ a ∈ A1 ++ A0' ++ A2, a ∈ As1 i ∨ H1 a = none := fun a ha => by
      rcases List.mem_append.mp ha with z | z
      · rcases List.mem_append.mp z with z | z
        · exact .inl (by rw [i2]; simp [z])
        · exact (hA1 a z).imp (inC a) id
      · exact .inl (by rw [i2]; simp [z])
    obtain ⟨S2, T2⟩ := S1.change (d1 := d') hi hlt hv0 mono (fun a o h n => keep a o h fun z => n (inC a z)) rI ndI subI hk
    have nw : ∀ a ∈ A', New own H1 As1 (AsC As1 i (A1 ++ A0' ++ A2) (kil kl (e1.set i (some d')))) a := fun a ha => by
      obtain ⟨z1, z2⟩ := hA a ha
      refine ⟨z1.imp id fun z => ⟨i, hi, inC a z⟩, fun ⟨j, hj, hb⟩ => ?_⟩
      have g := (AsC_sub hb).2
      by_cases ej : j = i
      · rw [if_pos ej] at g
        have g' : a ∈ A1 ∨ a ∈ A2 := by
          rcases List.mem_append.mp g with y | y
          · rcases List.mem_append.mp y with y | y
            · exact .inl y
            · exact absurd y z2
          · exact .inr y
        rcases z1 with z | z
        · exact some1 a (by rw [i2]; rcases g' with y | y <;> simp [y]) z
        · exact apart a g' z
      · rw [if_neg ej] at g
        rcases z1 with z | z
        · exact S1.own_some ⟨j, hj, g⟩ z
        · exact S1.dis j hj i hi ej a g (inC a z)
    have E2 : EF own Z true true H1 As1 (AsC As1 i (A1 ++ A0' ++ A2) (kil kl (e1.set i (some d')))) A' := ⟨fun _ => ⟨ndA, nw⟩, fun _ a ha => .inl (nw a ha), fun a ha => (hA a ha).1.imp id fun z => ⟨i, inC a z⟩⟩
    exact q v H' A' _ S2 (T1'.trans T2 (fun z => by cases z) (fun _ => rfl)) rd ((E2.back T1').weak (fun _ => rfl) (fun _ => rfl))
end
end Cy
end
section
set_option Elab.async false
set_option linter.all false
set_option maxRecDepth 100000
set_option maxHeartbeats 4000000
namespace Cy
open PySem L2 PyProof.Rows PySem.Calls
section
variable {P : Program} {w : World} {A : Around} {E : Value → Shared → Prop} {s : Shared}
/-- a new set -/
def set0 (w : World) : Obj := { cls := .type "set", dict := none, data := .set #[] 0 (.fresh 0 0 (!w.params.followText "set-order")) }
/-- what stands behind the filling of the set at S -/
def Filled (w : World) (s : Shared) (S : Addr) (ns : List Int) (s2 : Shared) : Prop :=
  ∃ h' tk c, s2 = { s with heap := h', toks := tk } ∧ SetR w h' S (fun j => decide (j ∈ ns)) c ∧ c ≤ ns.length ∧ ∀ b o, b ≠ S → s.heap.get? b = some o → h'.get? b = some o
theorem fill_list {B : Around} {l : Addr} {items : Array Value} {ns : List Int} {R : PySem.Fin → Shared → Prop} (hh : B.handled = none) (hl : s.heap.IsList l items) (hit : IntsAre items.toList ns) (hb : ns.length + 1 < scanBound)
    (hR : ∀ s2, Filled w { s with heap := s.heap.push (set0 w) } s.heap.objs.size ns s2 → R (.done (.ret .none)) s2) :
    wpAny (model P w) B (Builtin.«set.__init__» ⟨[.ref s.heap.objs.size, .ref l], []⟩) R E { s with heap := s.heap.push (set0 w) } := by
  have hn : items.size = ns.length := by
    have := IntsAre.length hit
    rwa [Array.length_toList] at this
  have hS : (s.heap.push (set0 w)).get? s.heap.objs.size = some (set0 w) := Heap.get?_push_size _ rfl
  obtain ⟨⟨ocls, odict, odata, oslots⟩, hol, hcl, nl, hdl⟩ := hl
  simp only at hcl hdl
  subst hcl; subst hdl
  have hlS : l < s.heap.objs.size := Heap.lt_size hol
  have hl1 : (s.heap.push (set0 w)).IsList l items := ⟨_, Heap.get?_push_of_some _ hol, rfl, nl, rfl⟩
  have hol' := Heap.get?_push_of_some (set0 w) hol
  have hz : (s.heap.push (set0 w)).objs.size = s.heap.objs.size + 1 := Heap.size_push ..
  have a1 := F.sub_list_set
  have a2 := F.sub_list_frozenset
  have a3 : (Value.type "list" == Value.type "dict") = false := by decide
  unfold Builtin.«set.__init__» noKeywords Builtin.Frozenset.updateFrom
  generalize hp : pyIter = pI
  wp_walk
  subst hp
  refine wpAny_pyIter_list hl1 (wpAny_bind (wpAny_runValue ?_))
  have hne : l ≠ (s.heap.push (set0 w)).objs.size := by rw [hz]; exact Nat.ne_of_lt (Nat.lt_succ_of_lt hlS)
  have hSf : s.heap.objs.size ∉ [(s.heap.push (set0 w)).objs.size, l] := by
    simp only [List.mem_cons, List.not_mem_nil, or_false, not_or]
    exact ⟨by rw [hz]; exact Nat.ne_of_lt (Nat.lt_succ_self _), Nat.ne_of_gt hlS⟩
  refine set_update_ints ((Walks.list (by simp [hh]) _ l hne items).toS) s.heap.objs.size hSf ns hn hb (fun i v hv => ?_) (items.size - 0) 0 _ (by omega) (Nat.zero_le _)
    ⟨⟨_, Heap.get?_push_size _ rfl, rfl, rfl⟩, hl1.push _⟩ ⟨0, Nat.le_refl 0, setR_new_at (Heap.get?_push_of_some _ hS)⟩ fun s2 c hm hc h2 => ?_
  · have hi : i < ns.length := by rw [← hn]; exact (Array.getElem?_eq_some_iff.mp hv).1
    obtain ⟨t, e⟩ := IntsAre.int_at hit i v (by rw [Array.getElem?_toList]; exact hv)
    refine ⟨ns[i], t, List.getElem?_eq_getElem hi, ?_⟩
    rw [e, List.getD_eq_getElem?_getD, List.getElem?_eq_getElem hi] <;> rfl
  · obtain ⟨h2', g2, d2, t2, o2⟩ := s2
    obtain rfl : g2 = s.gens := hm.gens
    obtain rfl : d2 = s.drawn := hm.drawn
    obtain rfl : o2 = s.os := hm.os
    rw [hn] at hc
    refine wpAny_pure (wpAny_pure (hR _ ⟨h2', t2, c, rfl, h2, hc, fun b o ne e => ?_⟩))
    have hb : b < (s.heap.push (set0 w)).objs.size := Heap.lt_size e
    exact hm.heap b o (by simp only [List.mem_cons, List.not_mem_nil, or_false, not_or]; exact ⟨ne, Nat.ne_of_lt hb⟩) (Heap.get?_push_of_some _ e)
/-- set(l) -/
theorem call_set_ints {l : Addr} {items : Array Value} {ns : List Int} {Q : Value → Shared → Prop} (hh : A.handled = none) (hl : s.heap.IsList l items) (hit : IntsAre items.toList ns) (hb : ns.length + 1 < scanBound)
    (h : ∀ (h' : Heap) (tk c : Nat), SetR w h' s.heap.objs.size (fun j => decide (j ∈ ns)) c → c ≤ ns.length → (∀ b o, s.heap.get? b = some o → h'.get? b = some o) → Q (.ref s.heap.objs.size) { s with heap := h', toks := tk }) :
    wpAny (model P w) A (call (.type "set") [.ref l]) Q E s := by
  have hS : (s.heap.push (set0 w)).get? s.heap.objs.size = some (set0 w) := Heap.get?_push_size _ rfl
  have hT : Shared.TypeIs { s with heap := s.heap.push (set0 w) } (.ref s.heap.objs.size) "set" := ⟨_, hS, rfl⟩
  obtain ⟨c, tl, hmro⟩ := F.called_set.mro
  have hmade := F.called_set.made
  have hsub := F.called_set.sub
  have h1 := F.called_set.notType
  have h2 := F.called_set.canCreate
  have hct := F.typeCall_set_1 (.ref l)
  have hli := F.called_set.init.lookup
  have hbi := F.called_set.init.bind (.ref s.heap.objs.size)
  refine wpAny_call (codeAny_of_tree ?_)
  show wpAny _ _ (callAny (.type "set") _) _ _ _
  refine wpAny_pure ⟨Code.quiet_builtin _ (by decide +kernel), codeAny_builtin F.entry_type_call ?_⟩
  rw [Around.under_plain (weight_type_call_type "set" [.ref l] []) rfl]
  repeat (any_goals (first | assumption | wp_step))
  refine codeAny_mono (code_set_led1 (.ref l) (E := E) (Q₁ := fun obj s₁ => obj = .ref s.heap.objs.size ∧ s₁ = { s with heap := s.heap.push (set0 w) }) ⟨rfl, rfl⟩) fun r s₁ hr => ?_
  match r, hr with
  | .error e, hr => exact hr
  | .ok (.ret obj), ⟨e1, e2⟩ =>
    subst e1 e2
    repeat (any_goals (first | assumption | wp_step))
    refine codeAny_mono (codeAny_call_builtin (R := wants (fun r s2 => r = .none ∧ Filled w { s with heap := s.heap.push (set0 w) } s.heap.objs.size ns s2) E) F.called_set.init.plain F.entry_set_init (check_set_init_1 hT ?_)) fun r2 s2 hr2 => ?_
    · exact fill_list (by simp [hh]) hl hit hb fun s2 f => ⟨rfl, f⟩
    · match r2, hr2 with
      | .error e, hr2 => exact hr2
      | .ok (.ret v), ⟨e3, h', tk, c', e4, hs, hc, hk⟩ =>
        subst e3 e4
        repeat (any_goals (first | assumption | wp_step))
        exact h _ _ _ hs hc fun b o e => hk b o (Nat.ne_of_lt (Heap.lt_size e)) (Heap.get?_push_of_some _ e)
end
theorem insU_mem (x k : Int) : ∀ ys : List Int, k ∈ insU x ys ↔ k = x ∨ k ∈ ys
  | [] => by simp [insU]
  | y :: ys => by
    unfold insU
    split
    · simp
    · split
      · rename_i e; subst e; simp
      · simp only [List.mem_cons, insU_mem x k ys]
        constructor <;> rintro (h | h | h) <;> simp [h]
theorem insU_rise (x : Int) : ∀ ys : List Int, ys.Pairwise (· < ·) → (insU x ys).Pairwise (· < ·)
  | [], _ => by simp [insU]
  | y :: ys, h => by
    have h1 : ∀ z ∈ ys, y < z := fun z hz => List.rel_of_pairwise_cons h hz
    have h2 := h.of_cons
    unfold insU
    split
    · rename_i l
      refine List.pairwise_cons.mpr ⟨fun z hz => ?_, h⟩
      rcases List.mem_cons.mp hz with rfl | hz
      · exact l
      · exact Int.lt_trans l (h1 z hz)
    · split
      · exact h
      · rename_i n1 n2
        refine List.pairwise_cons.mpr ⟨fun z hz => ?_, insU_rise x ys h2⟩
        rcases (insU_mem x z ys).mp hz with rfl | hz
        · omega
        · exact h1 z hz
theorem srtU_mem (k : Int) : ∀ ns : List Int, k ∈ srtU ns ↔ k ∈ ns
  | [] => by simp [srtU]
  | n :: ns => by rw [srtU, insU_mem, srtU_mem k ns, List.mem_cons]
theorem srtU_rise : ∀ ns : List Int, (srtU ns).Pairwise (· < ·)
  | [] => .nil
  | n :: ns => insU_rise n _ (srtU_rise ns)
theorem rise_eq : ∀ a b : List Int, a.Pairwise (· < ·) → b.Pairwise (· < ·) → (∀ k, k ∈ a ↔ k ∈ b) → a = b
  | [], [], _, _, _ => rfl
  | [], y :: _, _, _, h => by have := (h y).mpr (List.mem_cons_self ..); cases this
  | x :: _, [], _, _, h => by have := (h x).mp (List.mem_cons_self ..); cases this
  | x :: a, y :: b, ha, hb, h => by
    have a1 : ∀ z ∈ a, x < z := fun z hz => List.rel_of_pairwise_cons ha hz
    have b1 : ∀ z ∈ b, y < z := fun z hz => List.rel_of_pairwise_cons hb hz
    have e : x = y := by
      rcases List.mem_cons.mp ((h x).mp (List.mem_cons_self ..)) with e | e
      · exact e
      · rcases List.mem_cons.mp ((h y).mpr (List.mem_cons_self ..)) with e2 | e2
        · exact e2.symm
        · have := b1 x e; have := a1 y e2; omega
    subst e
    rw [rise_eq a b ha.of_cons hb.of_cons fun k => ⟨fun hk => ?_, fun hk => ?_⟩]
    · rcases List.mem_cons.mp ((h k).mp (List.mem_cons_of_mem _ hk)) with e | e
      · have := a1 k hk; omega
      · exact e
    · rcases List.mem_cons.mp ((h k).mpr (List.mem_cons_of_mem _ hk)) with e | e
      · have := b1 k hk; omega
      · exact e
section
variable {X : Cx}
def eqb (b : Bool) : Value → Bool
  | .bool c => c == b
  | _ => false
theorem bl_inv : ∀ {bs : List Bool} {us : List Value}, Vals (bs.map V.bl) us → us = bs.map Value.bool
  | [], _, .nil => rfl
  | b :: bs, _, .cons r t => by
    cases r
    rw [bl_inv t]; rfl
theorem eqb_count (b : Bool) : ∀ bs : List Bool, (bs.map Value.bool).countP (eqb b) = bs.count b
  | [] => rfl
  | c :: bs => by
    rw [List.map_cons, List.countP_cons, List.count_cons, eqb_count b bs]; rfl
def rCntB (K : PySem.W.Frag) : V → List V → Hp → VK → Prop := fun x xs H Q => ∃ (p : Addr) (bs : List Bool) (b : Bool), x = .ref p ∧ xs = [.bl b] ∧ SqL K H p (bs.map V.bl) ∧ Q (.int (bs.count b : Nat)) H
theorem mt_countB : MtR X "list.count" (rCntB X.K) := by
  intro pins s σ H x xs v us Q I rx rxs h
  obtain ⟨p, bs, b, rfl, rfl, hs, q⟩ := h
  cases rx
  obtain ⟨u, rfl, ru⟩ := rxs.one
  cases ru
  obtain ⟨its, rv, ⟨⟨cls, dd, data, sl⟩, n, ho, hc, hdn, hd⟩, hlen⟩ := I.list hs
  simp only at hc hd
  subst hc hd
  have hi := bl_inv rv
  subst hi
  refine call_meets PySem.F.slot_list_count ⟨_, ho, rfl⟩ PySem.F.entry_list_count (PySem.F.args_list_count_2 _ _)
    (SeqAt.list_countAt p _ n dd sl (.bool b) (eqb b)) ⟨ho, fun y hy => ?_, ?_⟩
  · obtain ⟨c, _, rfl⟩ := List.mem_map.mp (show y ∈ bs.map Value.bool by simpa using hy)
    exact SeqAt.EqAt.bool_bool c b
  · refine ⟨.int (bs.count b : Nat), H, I.tok _, ⟨s.toks, ?_⟩, q⟩
    show Value.int (((bs.map Value.bool).toArray.toList.countP (eqb b) : Nat) : Int) s.toks = Value.int ((bs.count b : Nat) : Int) s.toks
    rw [List.toList_toArray, eqb_count]
def rSetI (K : PySem.W.Frag) (w : World) : List V → Hp → VK → Prop := fun xs H Q => ∃ (a : Addr) (ns : List Int), xs = [.ref a] ∧ SqL K H a (ns.map V.int) ∧ ns.length < 60 ∧
  ∀ (p : Addr) (c : Nat), c ≤ ns.length → H p = none → Q (.ref p) (upd H p (SetO w p (fun j => decide (j ∈ ns)) c))
theorem cr_setI (hc : X.calm = true) : CallR X (.type "set") (rSetI X.K X.w) := by
  intro pins s σ H vs us Q I r h
  obtain ⟨a, ns, rfl, hs, hb, q⟩ := h
  obtain ⟨its, rv, hl, hz⟩ := I.list hs
  rw [Vals.ref1 r]
  refine call_set_ints (I.ok.hd hc) hl.isList rv.ints (by unfold scanBound; omega) fun h' tk c R hc' k => ?_
  exact ⟨.ref s.heap.objs.size, upd H s.heap.objs.size (SetO X.w s.heap.objs.size (fun j => decide (j ∈ ns)) c), I.laid (t' := tk) k (Nat.le_refl _) (setO_new R), rfl, q _ _ hc' (I.hok.fresh (Nat.le_refl _))⟩
end
end Cy
end
section
set_option Elab.async false
set_option linter.all false
set_option maxRecDepth 100000
set_option maxHeartbeats 2000000
namespace Cy
open PySem L2 PyProof.Rows
variable [ClTab] [Fxd]
section
variable {C : Ct} {Φ : Nat → Fn} {k : Nat} {X : Cx}

theorem gloOk_eq {sc : Scope} {x : Str} (h : gloOk C sc x = true) : sc.names.lookup x = some .globalImplicit ∧ x ∈ C.bn ∧ x ≠ "__name__" ∧ (x == ("__debug__" : Str)) = false := by
  unfold gloOk at h
  simp only [Bool.and_eq_true] at h
  obtain ⟨⟨⟨a, b⟩, c⟩, d⟩ := h
  refine ⟨gloB_eq a, inB_eq b, ?_, (okN_eq d).1⟩
  simpa using c
/-- what is behind a call of a built-in -/
theorem bi_fin {own vw : List Nat} {b : Bi} {es : DEs} {xs : List Expr} {σ : L2.St} {H : Hp} {env env' : En} {As : Asg} {d : D} {Z P : Addr → Prop} (hio : ioE (.bi b es) = ioL es) (hfr : frE C.sigs (.bi b es) = true → frL C.sigs es = true ∨ pureBi b = true)
    (hsh : shE C.sigs (own ++ vw) (.bi b es) = true → shL C.sigs (own ++ vw) es = true ∨ pureBi b = true)
    (hl : SL C Φ X own vw es xs) (S : SR X.K C.N.length own vw Z P σ H env As) (e : ev Φ (.bi b es) env = some (.ok d env')) {Q : VK}
    (q : ∀ v H' A As', SR X.K C.N.length own vw Z P σ H' env' As' → TR own (ioE (.bi b es)) H As H' As' → Rep X.K H' v d A → EF own Z (frE C.sigs (.bi b es)) (shE C.sigs (own ++ vw) (.bi b es)) H As As' A → Q v H') :
    WA X xs σ H fun vs H1 => rBi X.K b vs H1 Q := by
  simp only [ev] at e
  obtain ⟨ds, e1, h1, h2⟩ := bd_inv e
  obtain ⟨h3, rfl⟩ := lf_inv h2
  refine hl Z P σ H env As _ _ S h1 _ fun vs H1 A As1 S1 T1 r E => ?_
  refine ⟨ds, A, d, r, h3, fun v H' A' vo rd => ?_⟩
  obtain ⟨S3, T3, E3⟩ := fin S1 T1 (fun a h => r.mut a h) E vo
  refine q v H' A' As1 S3 (by rw [hio]; exact T3) rd (E3.weak (fun h => ?_) (fun h => ?_))
  · rcases hfr h with z | z
    · rw [z]; rfl
    · rw [z]; exact Bool.or_true _
  · rcases hsh h with z | z
    · rw [z]; rfl
    · rw [z]; exact Bool.or_true _
theorem se_bif {own vw : List Nat} {b : Bi} {id : String} {es : DEs} {x : Expr} {xs : List Expr} {p pos : Pos} {sc : Scope} (hX : X.env.scope = sc) (F : Fx C Φ k X) (hc : CallR X (.builtin id) (rBi X.K b)) (hb : bootBuiltins (biN b) = some (.builtin id)) (hg : gloOk C sc (biN b) = true)
    (hio : ioE (.bi b es) = ioL es) (hfr : frE C.sigs (.bi b es) = true → frL C.sigs es = true ∨ pureBi b = true) (hsh : shE C.sigs (own ++ vw) (.bi b es) = true → shL C.sigs (own ++ vw) es = true ∨ pureBi b = true)
    (hp : (x :: xs).all plainX = true) (hl : SL C Φ X own vw es (x :: xs)) : SE C Φ X own vw (.bi b es) (.Call (.Name (biN b) p) (x :: xs) [] pos) := by
  intro Z P σ H env As d env' S e Q q
  obtain ⟨g1, g2, g3, g4⟩ := gloOk_eq hg
  simp only [List.all_cons, Bool.and_eq_true] at hp
  refine (pe_callB hc (by show X.env.scope.names.lookup _ = _; rw [hX]; exact g1) (F.bn _ g2) hb Cy.wa g3 g4 (plain_star hp.1) (plain_any hp.2)).we ?_
  exact bi_fin hio hfr hsh hl S e q
theorem se_bit {own vw : List Nat} {b : Bi} {id : String} {es : DEs} {x : Expr} {xs : List Expr} {p pos : Pos} {sc : Scope} (hX : X.env.scope = sc) (F : Fx C Φ k X) (hc : CallR X (.type id) (rBi X.K b)) (hb : bootBuiltins (biN b) = some (.type id)) (hg : gloOk C sc (biN b) = true)
    (hio : ioE (.bi b es) = ioL es) (hfr : frE C.sigs (.bi b es) = true → frL C.sigs es = true ∨ pureBi b = true) (hsh : shE C.sigs (own ++ vw) (.bi b es) = true → shL C.sigs (own ++ vw) es = true ∨ pureBi b = true)
    (hp : (x :: xs).all plainX = true) (hl : SL C Φ X own vw es (x :: xs)) : SE C Φ X own vw (.bi b es) (.Call (.Name (biN b) p) (x :: xs) [] pos) := by
  intro Z P σ H env As d env' S e Q q
  obtain ⟨g1, g2, g3, g4⟩ := gloOk_eq hg
  simp only [List.all_cons, Bool.and_eq_true] at hp
  refine (pe_callTy hc (by show X.env.scope.names.lookup _ = _; rw [hX]; exact g1) (F.bn _ g2) hb Cy.wa g3 g4 (plain_star hp.1) (plain_any hp.2)).we ?_
  exact bi_fin hio hfr hsh hl S e q
theorem se_isi {own vw : List Nat} {t : TyN} {a : DE} {u : Expr} {p p2 pos : Pos} {sc : Scope} (hX : X.env.scope = sc) (F : Fx C Φ k X) (hg : gloOk C sc "isinstance" = true) (hg2 : gloOk C sc (tyNm t) = true) (hp : plainX u = true) (ha : SE C Φ X own vw a u) :
    SE C Φ X own vw (.bi (.isi t) (.cons a .nil)) (.Call (.Name "isinstance" p) [u, .Name (tyNm t) p2] [] pos) := by
  intro Z P σ H env As d env' S e Q q
  obtain ⟨g1, g2, g3, g4⟩ := gloOk_eq hg
  obtain ⟨f1, f2, f3, f4⟩ := gloOk_eq hg2
  simp only [ev, evL] at e
  obtain ⟨ds, e1, h1, h2⟩ := bd_inv e
  obtain ⟨d0, e0, h3, h4⟩ := bd_inv h1
  obtain ⟨_, h4⟩ := gd_inv h4
  obtain ⟨d9, e9, h5, h6⟩ := bd_inv h4
  simp only [Option.some.injEq, Rs.ok.injEq] at h5 h6
  obtain ⟨rfl, rfl⟩ := h5
  obtain ⟨rfl, rfl⟩ := h6
  obtain ⟨h7, rfl⟩ := lf_inv h2
  simp only [biD, Option.map_eq_some_iff] at h7
  obtain ⟨b, h8, rfl⟩ := h7
  have hc : CallR X (.builtin "isinstance") (fun vs H Q => ∃ v d A b, vs = [v, .ty (tyStr t)] ∧ Rep X.K H v d A ∧ isiD t d = some b ∧ Q (.bl b) H) := by
    intro pins s σ H vs us Q I rv ⟨v, d, A, b, ev, r, h, qq⟩
    subst ev
    exact bi_isi t I rv r h qq
  have hbt : bootBuiltins (tyNm t) = some (.type (tyStr t)) := by cases t <;> decide +kernel
  refine (pe_callB hc (by show X.env.scope.names.lookup _ = _; rw [hX]; exact g1) (F.bn _ g2) PyProof.Rows.boot_isinstance (pa_cons Cy.we (pa_cons (pe_bltn (v := .ty (tyStr t)) (by show X.env.scope.names.lookup _ = _; rw [hX]; exact f1) (F.bn _ f2) hbt rfl f3 f4) pa_nil (plain_star rfl)) (plain_star hp)) g3 g4 (plain_star hp) (plain_any (by rfl))).we ?_
  refine ha Z P σ H env As _ _ S h3 _ fun v1 H1 A1 As1 S1 T1 r1 E1 => ?_
  refine ⟨v1, d0, A1, b, rfl, r1, h8, q _ _ [] As1 S1 ?_ (.bl _) EF.pure⟩
  exact T1.weak fun z => by show (ioE a || false) = true; rw [z]; rfl
theorem asks_clsV {X : Cx} {C : Ct} {Φ : Nat → Fn} {k : Nat} {sc : Scope} (hX : X.env.scope = sc) (F : Fx C Φ k X) {y : Str} {p : Pos} (h : clsB C sc y = true) :
    PE X (.Name y p) (fun σ H Q => Q (clsV X.K y) H) ∧ (y = "ValueError" ∨ y ∈ ClTab.xs) := by
  unfold clsB at h
  split at h
  · rename_i hv
    have e := strEq_eq hv
    subst e
    obtain ⟨g1, g2, g3, g4⟩ := gloOk_eq h
    refine ⟨?_, .inl rfl⟩
    have z := pe_bltn (X := X) (x := "ValueError") (pos := p) (v := .ty "ValueError") (by show X.env.scope.names.lookup _ = _; rw [hX]; exact g1) (F.bn _ g2) (by decide +kernel) rfl g3 g4
    refine ⟨fun pins s σ H Q I q => z.run pins s σ H Q I ?_⟩
    unfold clsV at q
    rw [if_pos rfl] at q
    exact q
  · rename_i hv
    simp only [Bool.and_eq_true, Bool.or_eq_true] at h
    obtain ⟨⟨h1, h2⟩, h3⟩ := h
    have gm : X.mg y = some (.ref (He.ga X.K y)) := h1.elim (fun h => (F.xcl y _ (hasX_eq h)).gm) fun h => (F.xcl y _ (hasX_eq h)).gm
    have hxs : y ∈ ClTab.xs := h1.elim (fun h => F.xxs y _ (hasX_eq h)) fun h => F.xxs y _ (hasX_eq h)
    refine ⟨?_, .inr hxs⟩
    have hne : y ≠ "ValueError" := fun e => hv (by rw [e]; decide)
    have z := pe_glob (X := X) (x := y) (pos := p) (v := .ref (He.ga X.K y)) (by show X.env.scope.names.lookup _ = _; rw [hX]; exact gloB_eq h2) gm rfl (okN_eq h3).1
    refine ⟨fun pins s σ H Q I q => z.run pins s σ H Q I ?_⟩
    unfold clsV at q
    rw [if_neg hne] at q
    exact q
theorem asks_all {X : Cx} {C : Ct} {Φ : Nat → Fn} {k : Nat} {sc : Scope} (hX : X.env.scope = sc) (F : Fx C Φ k X) : ∀ {cs : List Str} {ws : List Expr}, clsL C sc cs ws = true →
    PA X ws (fun σ H Q => Q (cs.map (clsV X.K)) H) ∧ (∀ c ∈ cs, c = "ValueError" ∨ c ∈ ClTab.xs) ∧ cs.length = ws.length
  | [], [], _ => ⟨⟨fun pins s σ H Q I q => pa_nil.run pins s σ H Q I q⟩, (fun c h => nomatch h), rfl⟩
  | c :: cs, w :: ws, h => by
    simp only [clsL, Bool.and_eq_true] at h
    obtain ⟨h1, h2⟩ := h
    split at h1
    rotate_left
    · cases h1
    rename_i y hy
    obtain ⟨p, rfl⟩ := asName_eq hy
    simp only [Bool.and_eq_true] at h1
    have e := strEq_eq h1.1
    subst e
    obtain ⟨a1, a2⟩ := asks_clsV hX F (p := p) h1.2
    obtain ⟨b1, b2, b3⟩ := asks_all hX F h2
    refine ⟨⟨fun pins s σ H Q I q => (pa_cons a1 b1 (plain_star rfl)).run pins s σ H Q I q⟩, fun c hc => ?_, by simp [b3]⟩
    rcases List.mem_cons.mp hc with e | hc
    · rw [e]; exact a2
    · exact b2 c hc
  | [], _ :: _, h => by simp [clsL] at h
  | _ :: _, [], h => by simp [clsL] at h
/-- isinstance of an error -/
theorem se_isx {own vw : List Nat} {cs : List Str} {a : DE} {u w : Expr} {p pos : Pos} {sc : Scope} (hX : X.env.scope = sc) (F : Fx C Φ k X) (hkx : C.kx = true) (hg : gloOk C sc "isinstance" = true) (hp : plainX u = true) (ha : SE C Φ X own vw a u)
    (hw : (∃ y q, w = .Name y q ∧ clsL C sc cs [w] = true) ∨ ∃ ws j q, w = .Tuple ws j q ∧ clsL C sc cs ws = true ∧ ws.length ≤ 1000) :
    SE C Φ X own vw (.bi (.isx cs) (.cons a .nil)) (.Call (.Name "isinstance" p) [u, w] [] pos) := by
  intro Z P σ H env As d env' S e Q q
  obtain ⟨g1, g2, g3, g4⟩ := gloOk_eq hg
  simp only [ev, evL] at e
  obtain ⟨ds, e1, h1, h2⟩ := bd_inv e
  obtain ⟨d0, e0, h3, h4⟩ := bd_inv h1
  obtain ⟨_, h4⟩ := gd_inv h4
  obtain ⟨d9, e9, h5, h6⟩ := bd_inv h4
  simp only [Option.some.injEq, Rs.ok.injEq] at h5 h6
  obtain ⟨rfl, rfl⟩ := h5
  obtain ⟨rfl, rfl⟩ := h6
  obtain ⟨h7, rfl⟩ := lf_inv h2
  simp only [biD, Option.map_eq_some_iff] at h7
  obtain ⟨b, h8, rfl⟩ := h7
  have KA := F.kxA (F.kxa hkx)
  rcases hw with ⟨y, qq, rfl, hl⟩ | ⟨ws, j, qq, rfl, hl, hn⟩
  · obtain ⟨b1, b2, b3⟩ := asks_all hX F hl
    have hc : ∃ c, cs = [c] := by
      cases cs with
      | nil => simp at b3
      | cons c cs => cases cs with
        | nil => exact ⟨c, rfl⟩
        | cons c2 cs => simp at b3
    obtain ⟨c, rfl⟩ := hc
    have hcall : CallR X (.builtin "isinstance") (fun vs H Q => ∃ v d A b, vs = [v, clsV X.K c] ∧ Rep X.K H v d A ∧ isxD [c] d = some b ∧ Q (.bl b) H) := by
      intro pins s σ H vs us Q I rv ⟨v, d, A, b, ev, r, h, qq⟩
      subst ev
      exact bi_isx1 I KA rv r h (b2 c (List.mem_singleton.mpr rfl)) qq
    refine (pe_callB hcall (by show X.env.scope.names.lookup _ = _; rw [hX]; exact g1) (F.bn _ g2) PyProof.Rows.boot_isinstance (pa_cons Cy.we b1 (plain_star hp)) g3 g4 (plain_star hp) (plain_any (by simp only [List.all_cons, List.all_nil, Bool.and_true]; rfl))).we ?_
    refine ha Z P σ H env As _ _ S h3 _ fun v1 H1 A1 As1 S1 T1 r1 E1 => ?_
    refine ⟨v1, d0, A1, b, rfl, r1, h8, q _ _ [] As1 S1 ?_ (.bl _) EF.pure⟩
    exact T1.weak fun z => by show (ioE a || false) = true; rw [z]; rfl
  · obtain ⟨b1, b2, b3⟩ := asks_all hX F hl
    have hcall : CallR X (.builtin "isinstance") (fun vs H Q => ∃ v tp d A b, vs = [v, .ref tp] ∧ H tp = some (.tup (cs.map (clsV X.K))) ∧ Rep X.K H v d A ∧ isxD cs d = some b ∧ Q (.bl b) H) := by
      intro pins s σ H vs us Q I rv ⟨v, tp, d, A, b, ev, hT, r, h, qq⟩
      subst ev
      exact bi_isxT I KA rv hT r h b2 qq
    refine (pe_callB hcall (by show X.env.scope.names.lookup _ = _; rw [hX]; exact g1) (F.bn _ g2) PyProof.Rows.boot_isinstance (pa_cons Cy.we (pa_cons (pe_tup b1) pa_nil (plain_star rfl)) (plain_star hp)) g3 g4 (plain_star hp) (plain_any (by simp only [List.all_cons, List.all_nil, Bool.and_true]; rfl))).we ?_
    refine ha Z P σ H env As _ _ S h3 _ fun v1 H1 A1 As1 S1 T1 r1 E1 => ?_
    refine ⟨?_, fun tp htp => ?_⟩
    · rw [List.length_map, b3]; exact Nat.le_trans hn (by decide)
    · have sm : Same H1 (upd H1 tp (.tup (cs.map (clsV X.K)))) := same_new htp
      refine ⟨v1, tp, d0, A1, b, rfl, upd_same, r1.mono sm, h8, q _ _ [] As1 (S1.grow sm) ?_ (.bl _) EF.pure⟩
      exact (T1.trans (TR.grow (io := ioE a) sm) id id).weak fun z => by show (ioE a || false) = true; rw [z]; rfl
theorem bits_eq (i : Int) : (Builtin.Int.intBits i : Nat) = bitsI i := by
  unfold Builtin.Int.intBits bitsI
  by_cases h : i = 0
  · simp [h]
  · rw [if_neg (by simpa using h), if_neg h]
theorem few_arg {e : Expr} {env : PySem.Env} {cpos : Pos} (h : plainX e = true) : ((backTo cpos (starEach [e] env)).all (fun x => !x.1) && (backToKw cpos (keywordEach [] env)).all (fun x => x.1.isSome)
      && decide (([e] : List Expr).length + ([] : List Keyword).length + (if ([] : List Keyword).isEmpty then 0 else 1) < 30)) = true := by
  rw [plain_star h]
  rfl
theorem se_join {own vw : List Nat} {a b : DE} {o x : Expr} {ap pos : Pos} (hb : ∀ x p q, o ≠ .Call (.Name x p) [] [] q) (hp : plainX x = true) (hl : (ap.endLine == pos.line) = true) (ha : SE C Φ X own vw a o) (hx : SE C Φ X own vw b x) :
    SE C Φ X own vw (.mt .join a (.cons b .nil)) (.Call (.Attribute o "join" ap) [x] [] pos) := by
  intro Z P σ H env As d env' S e Q q
  simp only [ev, evL] at e
  obtain ⟨d0, e0, h3, h4⟩ := bd_inv e
  obtain ⟨g, h4⟩ := gd_inv h4
  obtain ⟨ds, e9, h5, h6⟩ := bd_inv h4
  obtain ⟨d1, e1, h7, h8⟩ := bd_inv h5
  obtain ⟨_, h8⟩ := gd_inv h8
  obtain ⟨d2, e2, h9, h10⟩ := bd_inv h8
  simp only [Option.some.injEq, Rs.ok.injEq] at h9 h10
  obtain ⟨rfl, rfl⟩ := h9
  obtain ⟨rfl, rfl⟩ := h10
  obtain ⟨h11, rfl⟩ := lf_inv h6
  refine (pe_bm PySem.F.plainAttrs_str PySem.F.slot_str_join PySem.F.type_str_join mt_join Cy.we (pa_cons Cy.we pa_nil (plain_star hp)) (base_of hb) (few_arg hp) hl (plain_star hp) rfl).we ?_
  refine ha Z P σ H env As _ _ S h3 _ fun v1 H1 A1 As1 S1 T1 r1 E1 => ?_
  cases r1 with
  | str a =>
    cases d1 with
    | lst xs =>
      simp only [mtD, Option.bind_eq_some_iff] at h11
      obtain ⟨ys, k1, k2⟩ := h11
      split at k2
      rotate_left
      · cases k2
      rename_i hz
      simp only [Option.some.injEq] at k2
      subst k2
      refine ⟨rfl, ?_⟩
      refine hx Z P σ H1 e0 As1 _ _ S1 h7 _ fun v2 H2 A2 As2 S2 T2 r2 E2 => ?_
      cases r2 with
      | lst h r =>
        obtain ⟨rfl, rfl⟩ := reps_strs r k1
        refine ⟨a, _, ys, rfl, rfl, .inl (SqL.of h), Nat.le_trans hz (by show (1000000 : Nat) ≤ 16777216; decide), ?_⟩
        rw [TL.join_eq]
        refine q _ H2 [] As2 S2 (T1.trans T2 (fun z => ?_) (fun z => ?_)) (.str _) EF.pure
        · show (ioE _ || (ioE b || false)) = true; rw [z]; rfl
        · show (ioE _ || (ioE b || false)) = true; rw [z]; simp
    | _ => simp [mtD] at h11
  | _ => cases d1 <;> simp [mtD] at h11
/-- c.join(e): behind the written text a token is out -/
theorem pet_joinC {X : Cx} {c : Str} {j : Nat} {cp ap pos : Pos} {e : Expr} {te : TE} (he : PET X e te) (hs : starEach [e] X.env = [(false, eval e X.env)]) (hline : (ap.endLine == pos.line) = true) :
    PE X (.Call (.Attribute (.Constant (.str c) j cp) "join" ap) [e] [] pos) (fun σ H Q => te σ H fun v H1 => ∃ p, ∃ ys : List Str, v = .ref p ∧ SqL X.K H1 p (ys.map V.str) ∧ (ys.map (·.length)).sum + ys.length * c.length ≤ 16777216 ∧ Q (.str (Txt.join c ys)) H1) := by
  refine ⟨fun pins s σ H Q I h => ?_⟩
  refine PySem.Call_method1 (base_of (by intro x p q; simp)) hs hline (Calls.Constant_str ?_)
  refine ⟨"str", _, PySem.F.plainAttrs_str, PySem.F.slot_str_join, PySem.F.type_str_join, typeIs_str _ _ _, (fun _ e => nomatch e), Calls.callWith_builtin rfl (Calls.evalArgs_plain (Calls.spliced_cons ?_))⟩
  refine thn (he pins _ σ H _ (by show 1 ≤ s.toks + 1; omega) (I.tok _) h) fun u s2 ⟨y, H2, I2, r2, p, ys, e1, hp, hz, q2⟩ => Calls.spliced_nil ?_
  subst e1
  exact mt_join pins s2 σ H2 (.str c) [.ref p] _ [u] Q I2 ⟨_, rfl⟩ (.cons r2 .nil) ⟨c, p, ys, rfl, rfl, .inl hp, hz, q2⟩
theorem se_jrep {own vw : List Nat} {A R B : DE} {c y z : Str} {j j1 j2 : Nat} {cp ap pos ap2 c1 c2 p p1 p2 lp : Pos} {xa xr xb : Expr} (hl : (ap.endLine == pos.line) = true) (hl2 : (ap2.endLine == p.line) = true) (hyz : (y == z) = false) (hb : ∀ x p q, xr ≠ .Call (.Name x p) [] [] q)
    (iA : ioE A = false) (iR : ioE R = false) (iB : ioE B = false) (ha : SE C Φ X own vw A xa) (hr : SE C Φ X own vw R xr) (hx : SE C Φ X own vw B xb) :
    SE C Φ X own vw (.mt .replace (.c (.str c)) (.cons A (.cons R (.cons (.c (.str y)) (.cons (.c (.str z)) (.cons B .nil))))))
      (.Call (.Attribute (.Constant (.str c) j cp) "join" ap) [.BinOp (.BinOp xa .Add (.List [.Call (.Attribute xr "replace" ap2) [.Constant (.str y) j1 c1, .Constant (.str z) j2 c2] [] p] lp) p1) .Add xb p2] [] pos) := by
  intro Z P σ H env As d env' S e Q q
  simp only [ev, evL] at e
  obtain ⟨d0, e0, h3, h4⟩ := bd_inv e
  obtain ⟨_, h4⟩ := gd_inv h4
  obtain ⟨ds, e9, h5, h6⟩ := bd_inv h4
  simp only [Option.some.injEq, Rs.ok.injEq] at h3
  obtain ⟨rfl, rfl⟩ := h3
  obtain ⟨d1, e1, hA, h5⟩ := bd_inv h5
  obtain ⟨_, h5⟩ := gd_inv h5
  obtain ⟨t1, f1, h7, h5⟩ := bd_inv h5
  simp only [Option.some.injEq, Rs.ok.injEq] at h5
  obtain ⟨rfl, rfl⟩ := h5
  obtain ⟨d2, e2, hR, h7⟩ := bd_inv h7
  obtain ⟨_, h7⟩ := gd_inv h7
  obtain ⟨t2, f2, h8, h7⟩ := bd_inv h7
  simp only [Option.some.injEq, Rs.ok.injEq] at h7
  obtain ⟨rfl, rfl⟩ := h7
  obtain ⟨d3, e3, hY, h8⟩ := bd_inv h8
  simp only [Option.some.injEq, Rs.ok.injEq] at hY
  obtain ⟨rfl, rfl⟩ := hY
  obtain ⟨_, h8⟩ := gd_inv h8
  obtain ⟨t3, f3, h9, h8⟩ := bd_inv h8
  simp only [Option.some.injEq, Rs.ok.injEq] at h8
  obtain ⟨rfl, rfl⟩ := h8
  obtain ⟨d4, e4, hZ, h9⟩ := bd_inv h9
  simp only [Option.some.injEq, Rs.ok.injEq] at hZ
  obtain ⟨rfl, rfl⟩ := hZ
  obtain ⟨_, h9⟩ := gd_inv h9
  obtain ⟨t4, f4, h10, h9⟩ := bd_inv h9
  simp only [Option.some.injEq, Rs.ok.injEq] at h9
  obtain ⟨rfl, rfl⟩ := h9
  obtain ⟨d5, e5, hB, h10⟩ := bd_inv h10
  obtain ⟨_, h10⟩ := gd_inv h10
  simp only [bd, Option.some.injEq, Rs.ok.injEq] at h10
  obtain ⟨rfl, rfl⟩ := h10
  obtain ⟨h11, rfl⟩ := lf_inv h6
  refine (pet_joinC (CwR.pet_op (op_bin .cat) (CwR.pet_op (op_bin .cat) (CwR.PET.of Cy.we) (pet_lst (pat_cons (CwR.pet_replC Cy.we hyz rfl (base_of hb) hl2) pat_nil))) (CwR.PET.of Cy.we)) rfl hl).we ?_
  refine ha Z P σ H env As _ _ S hA _ fun v1 H1 A1 As1 S1 T1 r1 E1 => ?_
  refine hr Z P σ H1 e1 As1 _ _ S1 hR _ fun v2 H2 A2 As2 S2 T2 r2 E2 => ?_
  have r1b := r1.step S1 T2 (fun z => by rw [iR] at z; cases z)
  cases r1b with
  | @lst pa ws1 xs1 A1' hq1 rr1 =>
    cases r2 with
    | str a =>
      cases d5 with
      | lst xs5 =>
        simp only [mtD] at h11
        split at h11
        rotate_left
        · cases h11
        rename_i hz
        simp only [Option.bind_eq_some_iff] at h11
        obtain ⟨ys, k1, k2⟩ := h11
        split at k2
        rotate_left
        · cases k2
        rename_i hz2
        simp only [Option.some.injEq] at k2
        subst k2
        refine ⟨a, rfl, Nat.le_trans hz.1 (by show (1000000 : Nat) ≤ 16777216; decide), ?_⟩
        refine ⟨by show (1 : Nat) ≤ sizeLine; decide, fun pn hpn => ?_⟩
        have sm1 : Same H2 (upd H2 pn (.lst [V.str (Txt.replace a y z)])) := same_new hpn
        have S3 := S2.grow sm1
        refine ⟨.lst xs1, .lst [.str (Txt.replace a y z)], pa :: A1', [pn], .lst (xs1 ++ [.str (Txt.replace a y z)]), ?_, ?_, ?_, ?_⟩
        · exact (Rep.lst hq1 rr1).mono sm1
        · exact .lst upd_same (.cons (.str _) .nil)
        · simp only [binD]
          rw [if_pos]
          show xs1.length + 1 ≤ 1000000
          have := hz.2
          simp only [LMX] at this
          omega
        · intro v4 H4 A4 vo4 r4
          have S4 := S3.grow vo4.1
          refine hx Z P σ H4 _ As2 _ _ S4 hB _ fun v5 H5 A5 As5 S5 T5 r5 E5 => ?_
          have r4b := r4.step S4 T5 (fun z => by rw [iB] at z; cases z)
          refine ⟨.lst (xs1 ++ [.str (Txt.replace a y z)]), .lst xs5, A4, A5, .lst (xs1 ++ [.str (Txt.replace a y z)] ++ xs5), r4b, r5, ?_, ?_⟩
          · simp only [binD]
            rw [if_pos]
            rw [List.length_append]
            show xs1.length + 1 + xs5.length ≤ 1000000
            exact hz.2
          · intro v6 H6 A6 vo6 r6
            cases r6 with
            | lst hq6 rr6 =>
              obtain ⟨rfl, rfl⟩ := reps_strs rr6 k1
              refine ⟨_, ys, rfl, SqL.of hq6, Nat.le_trans hz2 (by show (1000000 : Nat) ≤ 16777216; decide), ?_⟩
              rw [TL.join_eq]
              have T : TR own false H As H6 As5 := ((((T1.trans (io := false) T2 (fun z => by rw [iA] at z; cases z) (fun z => by rw [iR] at z; cases z)).trans (TR.grow (io := false) sm1) id id).trans (TR.grow (io := false) vo4.1) id id).trans (io := false) T5 id (fun z => by rw [iB] at z; cases z)).trans (TR.grow (io := false) vo6.1) id id
              exact q _ H6 [] As5 (S5.grow vo6.1) (T.weak (fun z => Bool.noConfusion z)) (.str _) EF.pure
      | _ => simp [mtD] at h11
    | _ => simp [mtD] at h11
  | _ => simp [mtD] at h11
theorem se_split {own vw : List Nat} {a0 b : DE} {o x : Expr} {ap pos : Pos} (hb : ∀ x p q, o ≠ .Call (.Name x p) [] [] q) (hp : plainX x = true) (hl : (ap.endLine == pos.line) = true) (ha : SE C Φ X own vw a0 o) (hx : SE C Φ X own vw b x) :
    SE C Φ X own vw (.mt .split a0 (.cons b .nil)) (.Call (.Attribute o "split" ap) [x] [] pos) := by
  intro Z P σ H env As d env' S e Q q
  simp only [ev, evL] at e
  obtain ⟨d0, e0, h3, h4⟩ := bd_inv e
  obtain ⟨g, h4⟩ := gd_inv h4
  obtain ⟨ds, e9, h5, h6⟩ := bd_inv h4
  obtain ⟨d1, e1, h7, h8⟩ := bd_inv h5
  obtain ⟨_, h8⟩ := gd_inv h8
  obtain ⟨d2, e2, h9, h10⟩ := bd_inv h8
  simp only [Option.some.injEq, Rs.ok.injEq] at h9 h10
  obtain ⟨rfl, rfl⟩ := h9
  obtain ⟨rfl, rfl⟩ := h10
  obtain ⟨h11, rfl⟩ := lf_inv h6
  refine (pe_bm PySem.F.plainAttrs_str PySem.F.slot_str_split PySem.F.type_str_split mt_split Cy.we (pa_cons Cy.we pa_nil (plain_star hp)) (base_of hb) (few_arg hp) hl (plain_star hp) rfl).we ?_
  refine ha Z P σ H env As _ _ S h3 _ fun v1 H1 A1 As1 S1 T1 r1 E1 => ?_
  cases r1 with
  | str a =>
    cases d1 with
    | str x =>
      simp only [mtD] at h11
      split at h11
      rotate_left
      · cases h11
      rename_i hz
      simp only [Option.some.injEq] at h11
      subst h11
      refine ⟨rfl, ?_⟩
      refine hx Z P σ H1 e0 As1 _ _ S1 h7 _ fun v2 H2 A2 As2 S2 T2 r2 E2 => ?_
      cases r2 with
      | str y =>
        refine ⟨a, _, rfl, rfl, by simp; omega, Nat.le_trans hz.2 (by show (1000000 : Nat) ≤ sizeLine; decide), fun p hp => ?_⟩
        have T := T1.trans T2 (io := ioE (.mt .split a0 (.cons b .nil))) (fun z => by show (ioE a0 || (ioE b || false)) = true; rw [z]; rfl) (fun z => by show (ioE a0 || (ioE b || false)) = true; rw [z]; simp)
        obtain ⟨S3, T3, E3⟩ := fin (f := true) (s := true) (A := []) S2 T (fun a h => nomatch h) EF.pure (VO.new0 (pu := true) (o := .lst ((Txt.split a x).map V.str)) hp)
        exact q _ _ [p] As2 S3 T3 (.lst upd_same (reps_of_strs _)) E3
    | _ => simp [mtD] at h11
  | _ => cases d1 <;> simp [mtD] at h11
theorem se_count {own vw : List Nat} {a b : DE} {o x : Expr} {ap pos : Pos} (hb : ∀ x p q, o ≠ .Call (.Name x p) [] [] q) (hp : plainX x = true) (hl : (ap.endLine == pos.line) = true) (ha : SE C Φ X own vw a o) (hx : SE C Φ X own vw b x) :
    SE C Φ X own vw (.mt .count a (.cons b .nil)) (.Call (.Attribute o "count" ap) [x] [] pos) := by
  intro Z P σ H env As d env' S e Q q
  simp only [ev, evL] at e
  obtain ⟨d0, e0, h3, h4⟩ := bd_inv e
  obtain ⟨g, h4⟩ := gd_inv h4
  obtain ⟨ds, e9, h5, h6⟩ := bd_inv h4
  obtain ⟨d1, e1, h7, h8⟩ := bd_inv h5
  obtain ⟨_, h8⟩ := gd_inv h8
  obtain ⟨d2, e2, h9, h10⟩ := bd_inv h8
  simp only [Option.some.injEq, Rs.ok.injEq] at h9 h10
  obtain ⟨rfl, rfl⟩ := h9
  obtain ⟨rfl, rfl⟩ := h10
  obtain ⟨h11, rfl⟩ := lf_inv h6
  refine (pe_bm PySem.F.plainAttrs_list PySem.F.slot_list_count PySem.F.type_list_count mt_countB Cy.we (pa_cons Cy.we pa_nil (plain_star hp)) (base_of hb) (few_arg hp) hl (plain_star hp) rfl).we ?_
  refine ha Z P σ H env As _ _ S h3 _ fun v1 H1 A1 As1 S1 T1 r1 E1 => ?_
  cases d0 with
  | lst xs =>
    cases d1 with
    | bl b1 =>
      simp only [mtD, Option.map_eq_some_iff] at h11
      obtain ⟨bs, k1, rfl⟩ := h11
      have ty : tyV X.K "list" v1 H1 := by
        cases r1 with
        | lst h r => exact .inl ⟨rfl, _, SqL.of h⟩
      refine ⟨ty, ?_⟩
      refine hx Z P σ H1 e0 As1 _ _ S1 h7 _ fun v2 H2 A2 As2 S2 T2 r2 E2 => ?_
      have g' : (ioE b && !pureD (.lst xs)) = false := by
        have : ((ioE b || false) && !pureD (.lst xs)) = false := g
        rwa [Bool.or_false] at this
      have r1' := r1.step S1 T2 (guard_pure g')
      cases r2
      cases r1' with
      | lst h r =>
        obtain ⟨rfl, rfl⟩ := reps_bls r k1
        refine ⟨_, bs, b1, rfl, rfl, SqL.of h, q _ H2 [] As2 S2 (T1.trans T2 (fun z => ?_) (fun z => ?_)) (.int _) EF.pure⟩
        · show (ioE _ || (ioE b || false)) = true; rw [z]; rfl
        · show (ioE _ || (ioE b || false)) = true; rw [z]; simp
    | _ => simp [mtD] at h11
  | _ => cases d1 <;> simp [mtD] at h11
theorem se_sset {own vw : List Nat} {a : DE} {x : Expr} {p p2 pos pos2 : Pos} {sc : Scope} (hX : X.env.scope = sc) (F : Fx C Φ k X) (hg : gloOk C sc "sorted" = true) (hg2 : gloOk C sc "set" = true) (hp : plainX x = true) (ha : SE C Φ X own vw a x) :
    SE C Φ X own vw (.bi .set (.cons a .nil)) (.Call (.Name "sorted" p) [.Call (.Name "set" p2) [x] [] pos2] [] pos) := by
  intro Z P σ H env As d env' S e Q q
  obtain ⟨g1, g2, g3, g4⟩ := gloOk_eq hg
  obtain ⟨f1, f2, f3, f4⟩ := gloOk_eq hg2
  simp only [ev, evL] at e
  obtain ⟨ds, e1, h1, h2⟩ := bd_inv e
  obtain ⟨d0, e0, h3, h4⟩ := bd_inv h1
  obtain ⟨_, h4⟩ := gd_inv h4
  obtain ⟨d9, e9, h5, h6⟩ := bd_inv h4
  simp only [Option.some.injEq, Rs.ok.injEq] at h5 h6
  obtain ⟨rfl, rfl⟩ := h5
  obtain ⟨rfl, rfl⟩ := h6
  obtain ⟨h7, rfl⟩ := lf_inv h2
  refine (pe_callB (cr_sortedSet F.calm) (by show X.env.scope.names.lookup _ = _; rw [hX]; exact g1) (F.bn _ g2) PyProof.Rows.boot_sorted (pa_cons (pe_callTy (cr_setI F.calm) (by show X.env.scope.names.lookup _ = _; rw [hX]; exact f1) (F.bn _ f2) (by decide +kernel) (pa_cons Cy.we pa_nil (plain_star hp)) f3 f4 (plain_star hp) (plain_any (by rfl))) pa_nil (plain_star rfl)) g3 g4 (plain_star rfl) (plain_any (by rfl))).we ?_
  refine ha Z P σ H env As _ _ S h3 _ fun v1 H1 A1 As1 S1 T1 r1 E1 => ?_
  cases d0 with
  | lst xs =>
    simp only [biD, Option.bind_eq_some_iff] at h7
    obtain ⟨ns, k1, k2⟩ := h7
    split at k2
    rotate_left
    · cases k2
    rename_i hlt
    simp only [Option.some.injEq] at k2
    subst k2
    cases r1 with
    | lst h r =>
      obtain ⟨rfl, rfl⟩ := reps_ints r k1
      refine ⟨_, ns, rfl, SqL.of h, hlt, fun q0 c hc hq0 => ⟨q0, _, c, rfl, upd_same, by omega, fun ns2 p9 hs hm hl hp9 => ?_⟩⟩
      have en : ns2 = srtU ns := rise_eq _ _ hs (srtU_rise ns) fun k => by rw [hm k, srtU_mem]; simp
      subst en
      have sm : Same H1 (upd H1 q0 (SetO X.w q0 (fun j => decide (j ∈ ns)) c)) := same_new hq0
      have T2 : TR own (ioE a) H As (upd H1 q0 (SetO X.w q0 (fun j => decide (j ∈ ns)) c)) As1 := T1.trans (TR.grow (io := ioE a) sm) id id
      obtain ⟨S3, T3, E3⟩ := fin (f := true) (s := true) (A := []) (S1.grow sm) T2 (fun a h => nomatch h) EF.pure (VO.new0 (pu := true) (o := .lst ((srtU ns).map V.int)) hp9)
      exact q _ _ [p9] As1 S3 (T3.weak fun z => by show (ioE a || false) = true; rw [z]; rfl) (.lst upd_same (reps_of_ints _)) E3
  | _ => simp [biD] at h7
theorem toPys_map : ∀ xs : List D, toPys xs = xs.map toPy
  | [] => rfl
  | x :: xs => by simp only [toPys, List.map_cons, toPys_map xs]
theorem se_index {own vw : List Nat} {a b : DE} {o x : Expr} {ap pos : Pos} (hu : X.A.units + 65 < cLine) (hb : ∀ x p q, o ≠ .Call (.Name x p) [] [] q) (hp : plainX x = true) (hl : (ap.endLine == pos.line) = true) (ha : SE C Φ X own vw a o) (hx : SE C Φ X own vw b x) :
    SE C Φ X own vw (.mt .index a (.cons b .nil)) (.Call (.Attribute o "index" ap) [x] [] pos) := by
  intro Z P σ H env As d env' S e Q q
  simp only [ev, evL] at e
  obtain ⟨d0, e0, h3, h4⟩ := bd_inv e
  obtain ⟨g, h4⟩ := gd_inv h4
  obtain ⟨ds, e9, h5, h6⟩ := bd_inv h4
  obtain ⟨d1, e1, h7, h8⟩ := bd_inv h5
  obtain ⟨_, h8⟩ := gd_inv h8
  obtain ⟨d2, e2, h9, h10⟩ := bd_inv h8
  simp only [Option.some.injEq, Rs.ok.injEq] at h9 h10
  obtain ⟨rfl, rfl⟩ := h9
  obtain ⟨rfl, rfl⟩ := h10
  obtain ⟨h11, rfl⟩ := lf_inv h6
  cases d0 with
  | lst xs =>
    simp only [mtD] at h11
    split at h11
    rotate_left
    · cases h11
    rename_i hs
    obtain ⟨hs1, hs2⟩ := hs
    simp only [Option.map_eq_some_iff] at h11
    obtain ⟨j, hj, rfl⟩ := h11
    obtain ⟨hjl, hj1, hj2⟩ := List.findIdx?_eq_some_iff_getElem.mp hj
    have sx : ∀ y ∈ xs, shp 59 y = true := fun y hy => by
      have : shps 59 xs = true := hs1
      rw [shps_all, List.all_eq_true] at this
      exact this y hy
    refine (pe_bm PySem.F.plainAttrs_list PySem.F.slot_list_index PySem.F.type_list_index (mt_indexD hu) Cy.we (pa_cons Cy.we pa_nil (plain_star hp)) (base_of hb) (few_arg hp) hl (plain_star hp) rfl).we ?_
    refine ha Z P σ H env As _ _ S h3 _ fun v1 H1 A1 As1 S1 T1 r1 E1 => ?_
    have ty : tyV X.K "list" v1 H1 := by
      cases r1 with
      | lst h r => exact .inl ⟨rfl, _, SqL.of h⟩
    refine ⟨ty, ?_⟩
    refine hx Z P σ H1 e0 As1 _ _ S1 h7 _ fun v2 H2 A2 As2 S2 T2 r2 E2 => ?_
    have g' : (ioE b && !pureD (.lst xs)) = false := by
      have : ((ioE b || false) && !pureD (.lst xs)) = false := g
      rwa [Bool.or_false] at this
    have r1' := r1.step S1 T2 (guard_pure g')
    have dl : Dp X.K H2 v1 (.list (toPys xs)) := Rep.dp 60 r1' hs1
    have dx := Rep.dp 60 r2 hs2
    cases r1' with
    | @lst p1 vs1 _ A h r =>
      refine ⟨p1, v2, toPy d1, toPys xs, j, toPy xs[j], rfl, rfl, dl, dx, shaped_of hs1, shaped_of hs2, ?_, ?_, ?_, q _ H2 [] As2 S2 (T1.trans T2 (fun z => ?_) (fun z => ?_)) (.int _) EF.pure⟩
      · rw [toPys_map, List.getElem?_map, List.getElem?_eq_getElem hjl]; rfl
      · rw [eqv_toPy 59 60 _ _ (sx _ (List.getElem_mem hjl)) hs2]; exact hj1
      · intro m z' hm hz
        rw [toPys_map, List.getElem?_map, List.getElem?_eq_getElem (by omega)] at hz
        simp only [Option.map_some, Option.some.injEq] at hz
        subst hz
        rw [eqv_toPy 59 60 _ _ (sx _ (List.getElem_mem _)) hs2]
        have := hj2 m hm
        simpa using this
      · show (ioE _ || (ioE b || false)) = true; rw [z]; rfl
      · show (ioE _ || (ioE b || false)) = true; rw [z]; simp
  | _ => simp [mtD] at h11
theorem se_bl {own vw : List Nat} {a : DE} {o : Expr} {ap pos : Pos} (hb : ∀ x p q, o ≠ .Call (.Name x p) [] [] q) (hl : (ap.endLine == pos.line) = true) (ha : SE C Φ X own vw a o) : SE C Φ X own vw (.mt .bitlen a .nil) (.Call (.Attribute o "bit_length" ap) [] [] pos) := by
  intro Z P σ H env As d env' S e Q q
  simp only [ev, evL] at e
  obtain ⟨d0, e0, h3, h4⟩ := bd_inv e
  obtain ⟨_, h4⟩ := gd_inv h4
  obtain ⟨d9, e9, h5, h6⟩ := bd_inv h4
  simp only [Option.some.injEq, Rs.ok.injEq] at h5
  obtain ⟨rfl, rfl⟩ := h5
  obtain ⟨h7, rfl⟩ := lf_inv h6
  refine (pe_bits Cy.we (base_of hb) hl).we ?_
  refine ha Z P σ H env As _ _ S h3 _ fun v1 H1 A1 As1 S1 T1 r1 E1 => ?_
  cases r1 <;> simp only [mtD, Option.some.injEq, reduceCtorEq] at h7
  subst h7
  refine ⟨_, rfl, ?_⟩
  rw [bits_eq]
  exact q _ _ [] As1 S1 (T1.weak fun z => by show (ioE a || false) = true; rw [z]; rfl) (.int _) EF.pure
theorem rgV_eq (a b : Int) : rgV a b = (rangeL a b).map V.int := by
  unfold rgV rangeL
  rw [List.map_map]; rfl
theorem rangeL_len (a b : Int) : (rangeL a b).length = (b - a).toNat := by unfold rangeL; rw [List.length_map, List.length_range]
/-- the ends of a range, made -/
theorem rg_core {own vw : List Nat} {es : DEs} {xs : List Expr} {p pos : Pos} {sc : Scope} {Z P : Addr → Prop} {σ : L2.St} {H : Hp} {env env' : En} {As : Asg} {ds : List D} {ns : List Int} (hX : X.env.scope = sc) (F : Fx C Φ k X) (hg : gloOk C sc "range" = true) (he : Each (SE C Φ X own vw) es xs) (hp : xs.all plainX = true) (hlen : xs.length ≤ 2)
    (hne : xs ≠ []) (S : SR X.K C.N.length own vw Z P σ H env As) (e : evL Φ es env = some (.ok ds env')) (hr : rngD ds = some ns) :
    ∃ t, PRg X (.Call (.Name "range" p) xs [] pos) t ∧ ∀ Q : Int → Int → Hp → Prop, (∀ a b H' As', ns = rangeL a b → a.natAbs < 4000000 → b.natAbs < 4000000 → SR X.K C.N.length own vw Z P σ H' env' As' → TR own (ioL es) H As H' As' → Q a b H') → t σ H Q := by
  obtain ⟨g1, g2, g3, g4⟩ := gloOk_eq hg
  have hg1 : Gl X "range" := by show X.env.scope.names.lookup _ = _; rw [hX]; exact g1
  cases he with
  | nil => exact absurd rfl hne
  | @cons a es x xs h1 t1 =>
    simp only [List.all_cons, Bool.and_eq_true] at hp
    cases t1 with
    | nil =>
      refine ⟨_, prg_1 hg1 (F.bn _ g2) Cy.we (plain_star hp.1), fun Q q => ?_⟩
      simp only [evL] at e
      obtain ⟨d0, e0, h3, h4⟩ := bd_inv e
      obtain ⟨_, h4⟩ := gd_inv h4
      obtain ⟨d9, e9, h5, h6⟩ := bd_inv h4
      simp only [Option.some.injEq, Rs.ok.injEq] at h5 h6
      obtain ⟨rfl, rfl⟩ := h5
      obtain ⟨rfl, rfl⟩ := h6
      refine h1 Z P σ H env As _ _ S h3 _ fun v1 H1 A1 As1 S1 T1 r1 E1 => ?_
      cases r1 <;> simp only [rngD, reduceCtorEq] at hr
      split at hr
      · rename_i hz
        simp only [Option.some.injEq] at hr
        exact ⟨_, rfl, q 0 _ H1 As1 hr.symm (by decide) hz S1 (T1.weak fun z => by show (ioE a || false) = true; rw [z]; rfl)⟩
      · cases hr
    | @cons b es2 x2 xs2 h2 t2 =>
      cases t2 with
      | nil =>
        simp only [List.all_cons, Bool.and_eq_true] at hp
        refine ⟨_, prg_2 hg1 (F.bn _ g2) Cy.we Cy.we (plain_star hp.1) (plain_star hp.2.1) (plain_any (by simpa using hp.2)), fun Q q => ?_⟩
        simp only [evL] at e
        obtain ⟨d0, e0, h3, h4⟩ := bd_inv e
        obtain ⟨gg, h4⟩ := gd_inv h4
        obtain ⟨dd, e9, h5, h6⟩ := bd_inv h4
        obtain ⟨d1, e1, h7, h8⟩ := bd_inv h5
        obtain ⟨_, h8⟩ := gd_inv h8
        obtain ⟨d2, e2, h9, h10⟩ := bd_inv h8
        simp only [Option.some.injEq, Rs.ok.injEq] at h6 h9 h10
        obtain ⟨rfl, rfl⟩ := h9
        obtain ⟨rfl, rfl⟩ := h10
        obtain ⟨rfl, rfl⟩ := h6
        refine h1 Z P σ H env As _ _ S h3 _ fun v1 H1 A1 As1 S1 T1 r1 E1 => ?_
        refine h2 Z P σ H1 e0 As1 _ _ S1 h7 _ fun v2 H2 A2 As2 S2 T2 r2 E2 => ?_
        cases r1 <;> cases r2 <;> simp only [rngD, reduceCtorEq] at hr
        split at hr
        · rename_i hz
          simp only [Option.some.injEq] at hr
          refine ⟨_, _, rfl, rfl, q _ _ H2 As2 hr.symm hz.1 hz.2 S2 (T1.trans T2 (fun z => ?_) (fun z => ?_))⟩
          · show (ioE a || (ioE b || false)) = true; rw [z]; rfl
          · show (ioE a || (ioE b || false)) = true; rw [z]; simp
        · cases hr
      | cons _ t3 =>
        exfalso
        simp only [List.length_cons] at hlen
        omega
theorem se_lrng {own vw : List Nat} {es : DEs} {xs : List Expr} {p p2 pos pos2 : Pos} {sc : Scope} (hX : X.env.scope = sc) (F : Fx C Φ k X) (hg : gloOk C sc "list" = true) (hg2 : gloOk C sc "range" = true) (he : Each (SE C Φ X own vw) es xs) (hp : xs.all plainX = true) (hlen : xs.length ≤ 2) (hne : xs ≠ []) :
    SE C Φ X own vw (.bi .lrng es) (.Call (.Name "list" p) [.Call (.Name "range" p2) xs [] pos2] [] pos) := by
  intro Z P σ H env As d env' S e Q q
  obtain ⟨g1, g2, g3, g4⟩ := gloOk_eq hg
  simp only [ev] at e
  obtain ⟨ds, e1, h1, h2⟩ := bd_inv e
  obtain ⟨h3, rfl⟩ := lf_inv h2
  simp only [biD, Option.bind_eq_some_iff] at h3
  obtain ⟨ns, h4, h5⟩ := h3
  split at h5
  · rename_i hz
    simp only [Option.some.injEq] at h5
    subst h5
    obtain ⟨t, ht, hq⟩ := rg_core (p := p2) (pos := pos2) hX F hg2 he hp hlen hne S h1 h4
    refine (pe_listRg F.calm (by show X.env.scope.names.lookup _ = _; rw [hX]; exact g1) (F.bn _ g2) ht (plain_star rfl)).we ?_
    refine hq _ fun a b H1 As1 en ha hb S1 T1 => ⟨⟨by omega, by omega, by omega, by omega, ?_⟩, fun n hn => ?_⟩
    · show (b - a).toNat ≤ 16777216; omega
    · have sm : Same H1 (upd H1 n (.lst (rgV a b))) := same_new hn
      refine q _ _ [n] As1 (S1.grow sm) (T1.trans (TR.grow (io := ioL es) sm) id id) (.lst upd_same ?_) (EF.cons S1 ?_ (fun a h => nomatch h) hn EF.pure)
      · rw [rgV_eq, en]; exact reps_of_ints _
      · revert T1
        show TR own (ioL es) _ _ _ _ → _
        cases ioL es <;> intro T1
        · exact .inl T1
        · exact .inr T1
  · cases h5
/-- what stood at H1 but lists, and the lists at A, stand at H -/
def Kept (H1 : Hp) (A : List Addr) (H : Hp) : Prop := (∀ a o, H1 a = some o → (∀ xs : MO, o ≠ xs.1) → H a = some o) ∧ ∀ a ∈ A, ∀ o, H1 a = some o → H a = some o
def ItOk (K : PySem.W.Frag) (J : It) (H1 : Hp) (A : List Addr) (xs : List D) : Prop :=
  Walk J xs.length (Kept H1 A) (fun i H x H' => Same H H' ∧ ∃ d B, xs[i]? = some d ∧ Rep K H' x d B ∧ B.Sublist A)
theorem Rep.kept {K : PySem.W.Frag} {H1 H : Hp} {A B : List Addr} {v : V} {d : D} (g : Kept H1 A H) (r : Rep K H1 v d B) (s : ∀ a ∈ B, a ∈ A) : Rep K H v d B := r.keep g.1 fun a ha => g.2 a (s a ha)
theorem Reps.kept {K : PySem.W.Frag} {H1 H : Hp} {A B : List Addr} {v : List V} {d : List D} (g : Kept H1 A H) (r : Reps K H1 v d B) (s : ∀ a ∈ B, a ∈ A) : Reps K H v d B := r.keep g.1 fun a ha => g.2 a (s a ha)
def WI (X : Cx) (tg iter : Expr) : TI := fun σ H R => ∀ pins s, Inv X pins σ H s → wpAny (model X.prog X.w) X.A (eval iter X.env) (fun v s1 => wpAny (model X.prog X.w) X.A (pyIter v) (PIE X pins σ tg R) X.xe s1) X.xe s
theorem wi {tg iter : Expr} : PI X tg iter (WI X tg iter) := ⟨fun pins s σ H R I h => h pins s I⟩
theorem _root_.L2.PI.we {tg iter : Expr} {t : TI} {σ : L2.St} {H : Hp} {R : It → Hp → Prop} (h : PI X tg iter t) (q : t σ H R) : WI X tg iter σ H R := fun pins s I => h.run pins s σ H R I q
def SI (C : Ct) (Φ : Nat → Fn) (X : Cx) (own vw : List Nat) (it : DI) (tg iter : Expr) : Prop :=
  ∀ (Z P : Addr → Prop) (σ : L2.St) (H : Hp) (env : En) (As : Asg) (xs : List D) (env' : En), SR X.K C.N.length own vw Z P σ H env As → evI Φ it env = some (.ok xs env') →
    ∀ R : It → Hp → Prop, (∀ J H' A As', SR X.K C.N.length own vw Z P σ H' env' As' → TR own (ioI it) H As H' As' → ItOk X.K J H' A xs → (∀ a ∈ A, MutH H' a) → EF own Z (frI C.sigs it) (shI C.sigs (own ++ vw) it) H As As' A → R J H') → WI X tg iter σ H R
theorem itok_list {K : PySem.W.Frag} {H1 : Hp} {p : Addr} {vs : List V} {ds : List D} {A : List Addr} (h : H1 p = some (.lst vs)) (r : Reps K H1 vs ds A) : ItOk K (Itl K p) H1 (p :: A) ds := by
  unfold ItOk
  rw [← r.length]
  refine walk_list.mono (fun H g => SqL.of (g.2 p (List.mem_cons_self ..) _ h)) fun i H x H' hi g y => ?_
  obtain ⟨rfl, hx⟩ := y
  refine ⟨Same.refl _, ?_⟩
  have hd : i < ds.length := by rw [← r.length]; exact hi
  obtain ⟨v, B, h1, h2, h3⟩ := r.get (i := i) (List.getElem?_eq_getElem hd)
  rw [hx] at h1
  simp only [Option.some.injEq] at h1
  subst h1
  exact ⟨_, B, List.getElem?_eq_getElem hd, h2.kept g fun a ha => List.mem_cons_of_mem _ (h3.subset ha), h3.trans (List.sublist_cons_self _ _)⟩
theorem itok_tup {K : PySem.W.Frag} {H1 : Hp} {p : Addr} {vs : List V} {ds : List D} {A : List Addr} (h : SqT K H1 p vs) (r : Reps K H1 vs ds A) : ItOk K (Itt K p) H1 A ds := by
  unfold ItOk
  rw [← r.length]
  refine walk_tup.mono (fun H g => SqT.keep g.1 h) fun i H x H' hi g y => ?_
  obtain ⟨rfl, hx⟩ := y
  refine ⟨Same.refl _, ?_⟩
  have hd : i < ds.length := by rw [← r.length]; exact hi
  obtain ⟨v, B, h1, h2, h3⟩ := r.get (i := i) (List.getElem?_eq_getElem hd)
  rw [hx] at h1
  simp only [Option.some.injEq] at h1
  subst h1
  exact ⟨_, B, List.getElem?_eq_getElem hd, h2.kept g fun a ha => h3.subset ha, h3⟩
theorem itok_frz {K : PySem.W.Frag} {H1 : Hp} {p : Addr} {o : Obj} {vs : List V} {ds : List D} (h : H1 p = some (.frz o (.lst vs))) (r : Reps K H1 vs ds []) : ItOk K (Itl K p) H1 [] ds := by
  unfold ItOk
  rw [← r.length]
  refine walk_list.mono (fun H g => .inl (.inr ⟨o, g.1 p _ h mu_frz⟩)) fun i H x H' hi g y => ?_
  obtain ⟨rfl, hx⟩ := y
  refine ⟨Same.refl _, ?_⟩
  have hd : i < ds.length := by rw [← r.length]; exact hi
  obtain ⟨v, B, h1, h2, h3⟩ := r.get (i := i) (List.getElem?_eq_getElem hd)
  rw [hx] at h1
  simp only [Option.some.injEq] at h1
  subst h1
  exact ⟨_, B, List.getElem?_eq_getElem hd, h2.kept g fun a ha => h3.subset ha, h3⟩
theorem si_val {own vw : List Nat} {a : DE} {tg x : Expr} (ha : SE C Φ X own vw a x) : SI C Φ X own vw (.val a) tg x := by
  intro Z P σ H env As xs env' S e R q
  simp only [evI] at e
  obtain ⟨d0, e0, h1, h2⟩ := bd_inv e
  obtain ⟨h3, rfl⟩ := lf_inv h2
  cases d0 with
  | lst ds =>
    simp only [itemsD, Option.some.injEq] at h3
    subst h3
    refine (pi_list Cy.we).we ?_
    refine ha Z P σ H env As _ _ S h1 _ fun v1 H1 A1 As1 S1 T1 r1 E1 => ?_
    have m1 := r1.mut
    cases r1 with
    | lst h r => exact ⟨_, rfl, ⟨_, SqL.of h⟩, q _ H1 _ As1 S1 T1 (itok_list h r) m1 E1.orr⟩
  | tup ds =>
    simp only [itemsD, Option.some.injEq] at h3
    subst h3
    refine (pi_tup Cy.we).we ?_
    refine ha Z P σ H env As _ _ S h1 _ fun v1 H1 A1 As1 S1 T1 r1 E1 => ?_
    have m1 := r1.mut
    cases r1 with
    | tup h r => exact ⟨_, rfl, ⟨_, h⟩, q _ H1 _ As1 S1 T1 (itok_tup h r) m1 E1.orr⟩
  | str z =>
    simp only [itemsD, Option.some.injEq] at h3
    subst h3
    refine (pi_str Cy.we).we ?_
    refine ha Z P σ H env As _ _ S h1 _ fun v1 H1 A1 As1 S1 T1 r1 E1 => ?_
    cases r1
    refine ⟨_, rfl, q _ H1 [] As1 S1 T1 ?_ (fun a h => nomatch h) EF.pure⟩
    unfold ItOk
    rw [List.length_map, Array.length_toList]
    refine walk_str.mono (fun H g => trivial) fun i H x H' hi g y => ?_
    obtain ⟨rfl, c, hc, rfl⟩ := y
    refine ⟨Same.refl _, _, [], ?_, .str _, List.Sublist.refl _⟩
    rw [List.getElem?_map, Array.getElem?_toList, hc]; rfl
  | frz ds =>
    simp only [itemsD, Option.some.injEq] at h3
    subst h3
    refine (pi_list Cy.we).we ?_
    refine ha Z P σ H env As _ _ S h1 _ fun v1 H1 A1 As1 S1 T1 r1 E1 => ?_
    have m1 := r1.mut
    cases r1 with
    | frz h r => exact ⟨_, rfl, ⟨_, .inl (.inr ⟨_, h⟩)⟩, q _ H1 _ As1 S1 T1 (itok_frz h r) m1 E1.orr⟩
  | _ => simp [itemsD] at h3
theorem itok_range {K : PySem.W.Frag} {H1 : Hp} (a b : Int) : ItOk K (Itr a (b - a).toNat) H1 [] ((rangeL a b).map D.int) := by
  unfold ItOk
  rw [List.length_map, rangeL_len]
  refine walk_range.mono (fun H g => trivial) fun i H x H' hi g y => ?_
  obtain ⟨rfl, rfl⟩ := y
  refine ⟨Same.refl _, .int (a + i), [], ?_, .int _, List.Sublist.refl _⟩
  unfold rangeL
  simp [hi]
end
end Cy
end
section
set_option Elab.async false
set_option linter.all false
set_option maxRecDepth 100000
set_option maxHeartbeats 2000000
namespace PySem
theorem cyEnumMeets {q : Value} {ob : Obj} {G : Heap → Prop} (bg : Begins q ob G) :
    Meets (Builtin.«enumerate.__new__» ⟨[.type "enumerate", q], []⟩)
      (fun _ R z => G z.heap ∧ R (.ok (.ret (.ref (z.heap.push ob).objs.size)))
        { z with heap := (z.heap.push ob).push { cls := .type "enumerate", data := .fields #[.none, .bool false, .ref z.heap.objs.size, rawInt 0, .none, .none] } }) := by
  refine .of_wp fun pr wd ar R z hyp => ?_
  obtain ⟨g1, hyp⟩ := hyp
  obtain ⟨hp, gs, dr, tks, oss⟩ := z
  have hSub := sub_enumerate
  have hIt : ∀ {ar' : Around} {ex : Value → Shared → Prop} {Q : Value → Shared → Prop},
      Q (.ref hp.objs.size) ⟨hp.push ob, gs, dr, tks, oss⟩ → wpAny (model pr wd) ar' (pyIter q) Q ex ⟨hp, gs, dr, tks, oss⟩ := fun k => bg.iter pr wd _ _ ⟨hp, gs, dr, tks, oss⟩ _ g1 k
  wp_walk using hIt
  refine wpAny_stack_any fun stk => wpAny_pure ?_
  split
  · rename_i cc _ _ _ _ _
    cases (cc == Value.type "enumerate") <;> (wp_walk using hIt; exact ⟨_, rfl, hyp⟩)
  · wp_walk using hIt
    exact ⟨_, rfl, hyp⟩
theorem cyEnumCall {pr : Program} {wd : World} {ar : Around} {ex : Value → Shared → Prop} {z : Shared} {q : Value} {ob : Obj} {G : Heap → Prop} {Q : Value → Shared → Prop} (bg : Begins q ob G) (hg : G z.heap)
    (fin : ∀ hp, IsEnum hp (z.heap.objs.size + 1) z.heap.objs.size 0 .none → hp.get? z.heap.objs.size = some ob → (∀ c u, z.heap.get? c = some u → hp.get? c = some u) →
      Q (.ref (z.heap.objs.size + 1)) { z with heap := hp }) : wpAny (model pr wd) ar (call (.type "enumerate") [q]) Q ex z := by
  have sz : (z.heap.push ob).objs.size = z.heap.objs.size + 1 := Heap.size_push ..
  refine callType_new F.called_enumerate (by decide) (F.typeCall_enumerate_1 q) (F.newCall_enumerate_1 q) (fun it => F.args_object_init_2 it _) F.entry_enumerate_new (cyEnumMeets bg) ⟨hg, ?_⟩
  have en : IsEnum ((z.heap.push ob).push { cls := .type "enumerate", data := .fields #[.none, .bool false, .ref z.heap.objs.size, rawInt 0, .none, .none] }) (z.heap.objs.size + 1) z.heap.objs.size 0 .none := by
    have e0 := Heap.get?_push_size (z.heap.push ob) (o := { cls := .type "enumerate", data := .fields #[.none, .bool false, .ref z.heap.objs.size, rawInt 0, .none, .none] }) rfl
    rwa [sz] at e0
  show _ ∧ _
  rw [sz]
  exact ⟨⟨_, en, rfl⟩, fin _ en (Heap.get?_push_of_some _ (Heap.get?_push_size _ bg.free)) fun c u hc => Heap.get?_push_of_some _ (Heap.get?_push_of_some _ hc)⟩
end PySem
namespace Cy
open PySem L2 PyProof.Rows
/-- the tuple at a, its items in new pairs -/
def ItEt (K : PySem.W.Frag) (a : Addr) : It :=
  ⟨fun i H => ∃ ws v, SqT K H a ws ∧ ws[i]? = some v, fun i H p H' => ∃ n v, p = .ref n ∧ H n = none ∧ H' = upd H n (.tup [.int (i : Nat), v]) ∧ ∀ ws, SqT K H a ws → ws[i]? = some v,
    fun i H => ∃ ws, SqT K H a ws ∧ ws.length ≤ i⟩
theorem turnEt {P : Program} {w : World} {K : PySem.W.Frag} {elts : List Expr} {kk : Nat} {tp : Pos} (a en li : Addr) :
    Turn P w K (.Tuple elts kk tp) (ItEt K a) [en, li] en (fun i h => (∃ old, IsEnum h en li ((i : Nat) : Int) old) ∧ h.IsTupleIter li a i ∧ en ≠ li) where
  mem := List.mem_cons_self ..
  obj := by
    rintro i h ⟨⟨old, hE⟩, ⟨o, h1, _, h2⟩, _⟩ b hb
    rcases List.mem_cons.mp hb with rfl | hb
    · exact ⟨_, hE, fun _ z => nomatch z⟩
    · obtain rfl := List.mem_singleton.mp hb
      exact ⟨o, h1, fun v z => by rw [h2] at z; cases z⟩
  keep := by
    rintro i h h' ⟨⟨old, hE⟩, hT, hne⟩ kp
    exact ⟨⟨old, kp en (List.mem_cons_self ..) _ hE⟩, hT.at fun o q => kp li (by simp) o q, hne⟩
  item := by
    intro X eP eW eK hc i pins s σ H E I hf st hg
    subst eP eW eK
    obtain ⟨⟨old, hE⟩, hT, hne⟩ := st
    obtain ⟨ws, v, hq, hv⟩ := hg
    obtain ⟨us, rv, tu, hz⟩ := I.tuple hq
    obtain ⟨u, hu, ru⟩ := rv.get hv
    have aT : s.heap.IsTuple a us.toArray := tu
    have ltE : en < s.heap.objs.size := Heap.lt_size hE
    have ltI : li < s.heap.objs.size := let ⟨_, q, _⟩ := hT; Heap.lt_size q
    have nAI : a ≠ li := fun z => by
      obtain ⟨o1, q1, q2, q3⟩ := hT
      obtain ⟨o2, q4, q5, q6⟩ := aT
      rw [z, q1] at q4
      cases q4
      rw [q2] at q5; exact absurd q5 (by decide)
    have nAE : a ≠ en := fun z => by
      obtain ⟨o2, q4, q5, q6⟩ := aT
      rw [z, hE] at q4
      cases q4
      exact absurd (show Value.type "enumerate" = Value.type "tuple" from q5) (by decide)
    have dr := Draws.tuple (prog := X.prog) (w := X.w) (A := X.A.in1) (I.ok.hd hc) li a nAI us.toArray
    have hlt : i < us.toArray.size := by
      have h1 : us[i]? = some u := hu
      have := (List.getElem?_eq_some_iff.mp h1).1
      simpa using this
    refine wpAny_pyNext_enum_itemD dr hE ⟨hT, aT⟩ hlt hne (fun z => ?_) fun x h' tk hx hO hS hN hs hk => ?_
    · rcases List.mem_cons.mp z with z | z
      · exact hne z
      · exact nAE (List.mem_singleton.mp z).symm
    · have hx' : x = u := by
        have e1 : us[i]? = some x := by simpa using hx
        rw [hu] at e1
        exact (Option.some.inj e1).symm
      subst hx'
      refine ⟨_, rfl, wpAny_letOwnedTupleGo_enum (s := { s with heap := h', toks := tk + 1 }) hO fun h2 hE2 sb => ?_⟩
      have hN2 : h2.get? s.heap.objs.size = some { cls := .type "tuple", data := .seq #[.int i tk, x] } := (sb.2 _ (Nat.ne_of_gt ltE)).trans hN
      have fresh : H s.heap.objs.size = none := I.hok.fresh (Nat.le_refl _)
      have ob : ObjOk X.prog X.w (upd H s.heap.objs.size (.tup [.int (i : Nat), v])) h2 s.heap.objs.size (.tup [.int (i : Nat), v]) :=
        ⟨by show 2 ≤ sizeLine; decide, [.int i tk, x], .cons ⟨tk, rfl⟩ (.cons ru .nil), ⟨_, hN2, rfl, _, rfl⟩⟩
      have J : Inv X pins σ (upd H s.heap.objs.size (.tup [.int (i : Nat), v])) { s with heap := h2, toks := tk + 1 } := by
        refine I.turnedNew (ch := [en, li]) (fun b o hb q => ?_) hf (Nat.le_refl _) ob
        have b1 : b ≠ en := fun z => hb (by rw [z]; exact List.mem_cons_self ..)
        have b2 : b ≠ li := fun z => hb (by rw [z]; simp)
        exact (sb.2 b b1).trans (hk b o b1 b2 q)
      refine ⟨.ref s.heap.objs.size, _, J, rfl, ⟨_, v, rfl, fresh, rfl, fun ys hy => by rw [I.tuple_inj hy hq]; exact hv⟩, ⟨⟨x, ?_⟩, hS.1.at fun o q => (sb.2 li hne.symm).trans q, hne⟩, fun b hb => ?_⟩
      · have e1 : ((i + 1 : Nat) : Int) = (i : Int) + 1 := Int.natCast_succ i
        rw [e1]; exact hE2
      · have lb : b < s.heap.objs.size := by
          rcases List.mem_cons.mp hb with z | z
          · rw [z]; exact ltE
          · rw [List.mem_singleton.mp z]; exact ltI
        rw [upd_ne (Nat.ne_of_lt lb)]
        exact (hf b hb).1
  done := by
    intro X eP eW eK hc i pins s σ H E I hf st hg
    subst eP eW eK
    obtain ⟨⟨old, hE⟩, hT, hne⟩ := st
    obtain ⟨ws, hq, hl⟩ := hg
    obtain ⟨us, rv, tu, hz⟩ := I.tuple hq
    have aT : s.heap.IsTuple a us.toArray := tu
    obtain ⟨f0, f1, f2, f3, f4, f5⟩ := hf li (by simp)
    have el := rv.length
    have hT2 : s.TypeIs (.ref en) "enumerate" := ⟨_, hE, rfl⟩
    unfold pyNext
    refine wpAny_bind (wpAny_attempt (wpAny_callSpecial?_slot (name := Str.ofString "__next__") hT2 F.slot_enumerate_next
      (wpAny_call_entry F.slot_enumerate_next hT2 F.entry_enumerate_next ?_ (F.args_enumerate_next_1 _))))
    show wpAny _ _ (field (.ref en) 2 >>= _) _ _ _
    refine wpAny_bind (wpAny_field hE rfl (x := .ref li) rfl ?_)
    refine wpAny_bind (RZ.nextOf_tuple_end (I.ok.hd hc) hT aT (by simp; omega) fun hp x hb hx => ?_)
    obtain ⟨o, ho, hc2⟩ := hx
    refine wpAny_bind (wpAny_isInstance (T := "StopIteration") (b := true) ⟨o, ho, hc2⟩ isSubtype_stop ?_)
    exact wpAny_pure ⟨rfl, I.turned (t' := s.toks) (fun b o hb' q => hb b o hb' q) f0 f1 f3 f4 f5⟩
  self := fun A i s Q E st h => by
    obtain ⟨⟨_, hE⟩, _⟩ := st
    exact wpAny_pyIter_enum hE h
def iEnT (K : PySem.W.Frag) (ta : TA) : TI := fun σ H R => ta σ H fun vs H1 => ∃ a ws, vs = [.ref a] ∧ SqT K H1 a ws ∧ R (ItEt K a) H1
theorem pi_enT {X : Cx} {e : Expr} {ta : TA} {p pos tp : Pos} {elts : List Expr} {kk : Nat} (hg : Gl X "enumerate") (hm : X.mg "enumerate" = none) (ha : PA X [e] ta) (hs : starEach [e] X.env = [(false, eval e X.env)]) :
    PI X (.Tuple elts kk tp) (.Call (.Name "enumerate" p) [e] [] pos) (iEnT X.K ta) := by
  constructor
  intro pins s σ H R I h
  refine Call_ (ld_blt I hg hm boot_enumerate (PyProof.Rows.callWith_type1 (thn (ha.run pos pins s σ H _ I h) fun us s1 ⟨vs, H1, I1, r1, q1⟩ => ?_) hs rfl))
  obtain ⟨a, ws, rfl, hq, q⟩ := q1
  obtain ⟨u, rfl, ru⟩ := Vals.one r1
  cases ru
  obtain ⟨its, rv, tu, hz⟩ := I1.tuple hq
  refine cyEnumCall (begins_tuple a its.toArray) tu fun hp hE hO hk => wpAny_pyIter_enum hE ?_
  have J : Inv X pins σ H1 { s1 with heap := hp } := I1.kept (t' := s1.toks) hk
  refine ⟨s1.heap.objs.size + 1, [s1.heap.objs.size + 1, s1.heap.objs.size], _, _, H1, rfl, J, turnEt a (s1.heap.objs.size + 1) s1.heap.objs.size, ⟨⟨.none, hE⟩, ⟨_, hO, rfl, rfl⟩, Nat.succ_ne_self _⟩, fun b hb => ?_, q⟩
  have le : s1.heap.objs.size ≤ b := by
    rcases List.mem_cons.mp hb with z | z
    · rw [z]; exact Nat.le_succ _
    · rw [List.mem_singleton.mp z]; exact Nat.le_refl _
  exact I1.fpOk le (I1.hok.fresh le)
end Cy
end
section
set_option Elab.async false
set_option linter.all false
set_option maxRecDepth 100000
set_option maxHeartbeats 2000000
namespace Cy
open PySem L2 PyProof.Rows
variable [ClTab] [Fxd]
section
variable {C : Ct} {Φ : Nat → Fn} {k : Nat} {X : Cx}
theorem enumL_len : ∀ (n : Nat) (xs : List D), (enumL n xs).length = xs.length
  | _, [] => rfl
  | n, x :: xs => by simp [enumL, enumL_len (n + 1) xs]
theorem enumL_get : ∀ (n : Nat) (xs : List D) (i : Nat) (d : D), xs[i]? = some d → (enumL n xs)[i]? = some (.tup [.int ((n + i : Nat) : Int), d])
  | _, [], _, _, h => by simp at h
  | n, x :: xs, 0, d, h => by
    simp at h; subst h; simp [enumL]
  | n, x :: xs, i + 1, d, h => by
    have := enumL_get (n + 1) xs i d (by simpa using h)
    simp only [enumL, List.getElem?_cons_succ, this]
    have e : n + 1 + i = n + (i + 1) := by omega
    rw [e]
theorem zipL_len : ∀ (xs ys : List D), (zipL xs ys).length = min xs.length ys.length
  | [], _ => by simp [zipL]
  | _ :: _, [] => by simp [zipL]
  | x :: xs, y :: ys => by
    simp only [zipL, List.length_cons, zipL_len xs ys]
    omega
theorem zipL_get : ∀ (xs ys : List D) (i : Nat) (d e : D), xs[i]? = some d → ys[i]? = some e → (zipL xs ys)[i]? = some (.tup [d, e])
  | [], _, _, _, _, h, _ => by simp at h
  | _ :: _, [], _, _, _, _, h => by simp at h
  | x :: xs, y :: ys, 0, d, e, h, h2 => by
    simp at h h2; subst h h2; simp [zipL]
  | x :: xs, y :: ys, i + 1, d, e, h, h2 => by
    have := zipL_get xs ys i d e (by simpa using h) (by simpa using h2)
    simpa [zipL] using this
theorem pair_rep {K : PySem.W.Frag} {H : Hp} {n : Addr} {v w : V} {d e : D} {A B : List Addr} (hn : H n = none) (r : Rep K H v d A) (q : Rep K H w e B) : Rep K (upd H n (.tup [v, w])) (.ref n) (.tup [d, e]) (A ++ B) := by
  have h := (Reps.cons r (Reps.one q)).mono (same_new (o := .tup [v, w]) hn)
  exact .tup (SqT.of upd_same) h
theorem si_enu {own vw : List Nat} {a : DE} {x : Expr} {elts : List Expr} {kk : Nat} {tp p pos : Pos} {sc : Scope} (hX : X.env.scope = sc) (F : Fx C Φ k X) (hg : gloOk C sc "enumerate" = true) (hp : plainX x = true) (ha : SE C Φ X own vw a x) :
    SI C Φ X own vw (.enu a) (.Tuple elts kk tp) (.Call (.Name "enumerate" p) [x] [] pos) := by
  intro Z P σ H env As xs env' S e R q
  obtain ⟨g1, g2, g3, g4⟩ := gloOk_eq hg
  have hgl : Gl X "enumerate" := by show X.env.scope.names.lookup _ = _; rw [hX]; exact g1
  simp only [evI] at e
  obtain ⟨d0, e0, h1, h2⟩ := bd_inv e
  split at h2
  · rename_i ds
    simp only [Option.some.injEq, Rs.ok.injEq] at h2
    obtain ⟨rfl, rfl⟩ := h2
    refine (pi_enum hgl (F.bn _ g2) (pa_cons Cy.we pa_nil (plain_star hp)) (plain_star hp)).we ?_
    refine ha Z P σ H env As _ _ S h1 _ fun v1 H1 A1 As1 S1 T1 r1 E1 => ?_
    have m1 := r1.mut
    cases r1 with
    | @lst p vs ds A h r =>
      refine ⟨_, vs, rfl, SqL.of h, q _ H1 _ As1 S1 T1 ?_ m1 E1.orr⟩
      unfold ItOk
      rw [enumL_len, ← r.length]
      refine walk_enum.mono (fun H g => SqL.of (g.2 _ (List.mem_cons_self ..) _ h)) fun i H w H' hi g y => ?_
      obtain ⟨n, v, v2, rfl, hn, rfl, hv, hv2⟩ := y
      simp only [Option.some.injEq] at hv
      subst hv
      have hd : i < ds.length := by rw [← r.length]; exact hi
      obtain ⟨v', B, h1, h2, h3⟩ := r.get (i := i) (List.getElem?_eq_getElem hd)
      have hv2 : vs[i]? = some v2 := hv2
      rw [hv2] at h1
      simp only [Option.some.injEq] at h1
      subst h1
      refine ⟨same_new hn, _, [] ++ B, enumL_get 0 ds i _ (List.getElem?_eq_getElem hd), ?_, (h3.trans (List.sublist_cons_self _ _))⟩
      rw [Nat.zero_add]
      exact pair_rep hn (.int _) (h2.kept g fun a ha => List.mem_cons_of_mem _ (h3.subset ha))
  · rename_i ds
    simp only [Option.some.injEq, Rs.ok.injEq] at h2
    obtain ⟨rfl, rfl⟩ := h2
    refine (pi_enT hgl (F.bn _ g2) (pa_cons Cy.we pa_nil (plain_star hp)) (plain_star hp)).we ?_
    refine ha Z P σ H env As _ _ S h1 _ fun v1 H1 A1 As1 S1 T1 r1 E1 => ?_
    have m1 := r1.mut
    cases r1 with
    | @tup p vs ds A h r =>
      refine ⟨_, vs, rfl, h, q _ H1 _ As1 S1 T1 ?_ m1 E1.orr⟩
      unfold ItOk
      rw [enumL_len, ← r.length]
      refine ⟨fun i H hi g => ⟨vs, vs[i], SqT.keep g.1 h, by simp [hi]⟩, fun H g => ⟨vs, SqT.keep g.1 h, Nat.le_refl _⟩, fun i H w H' hi g y => ?_⟩
      obtain ⟨n, v2, rfl, hn, rfl, hv2⟩ := y
      have hv2 := hv2 vs (SqT.keep g.1 h)
      have hd : i < ds.length := by rw [← r.length]; exact hi
      obtain ⟨v', B, h1, h2, h3⟩ := r.get (i := i) (List.getElem?_eq_getElem hd)
      rw [hv2] at h1
      simp only [Option.some.injEq] at h1
      subst h1
      refine ⟨same_new hn, _, [] ++ B, enumL_get 0 ds i _ (List.getElem?_eq_getElem hd), ?_, h3⟩
      rw [Nat.zero_add]
      exact pair_rep hn (.int _) (h2.kept g fun a ha => h3.subset ha)
  · cases h2
def seqD : D → Option (List D)
  | .lst xs => some xs
  | .frz xs => some xs
  | _ => none
theorem seq_rep {K : PySem.W.Frag} {H : Hp} {v : V} {d : D} {ds : List D} {A : List Addr} (r : Rep K H v d A) (h : seqD d = some ds) :
    ∃ p vs A', v = .ref p ∧ SqL K H p vs ∧ Reps K H vs ds A' ∧ A'.Sublist A ∧ ∀ B H', (∀ a ∈ A, a ∈ B) → Kept H B H' → SqL K H' p vs := by
  cases r with
  | @lst p1 vs1 ds1 A1 h1 r1 =>
    simp only [seqD, Option.some.injEq] at h; subst h
    exact ⟨p1, vs1, A1, rfl, SqL.of h1, r1, List.sublist_cons_self _ _, fun B H' hb g => SqL.of (g.2 _ (hb _ (List.mem_cons_self ..)) _ h1)⟩
  | @frz p1 o vs1 ds1 h1 r1 =>
    simp only [seqD, Option.some.injEq] at h; subst h
    exact ⟨p1, vs1, [], rfl, .inl (.inr ⟨_, h1⟩), r1, List.Sublist.refl _, fun B H' hb g => .inl (.inr ⟨o, g.1 _ _ h1 mu_frz⟩)⟩
  | _ => simp [seqD] at h
theorem zip_yield {K : PySem.W.Frag} {H1 H H' : Hp} {vs1 vs2 : List V} {as bs : List D} {A1 A2 A B : List Addr} {i : Nat} {w : V} (r1' : Reps K H1 vs1 as A1) (r2' : Reps K H1 vs2 bs A2) (s1 : A1.Sublist A) (s2 : A2.Sublist B) (hi : i < min vs1.length vs2.length) (g : Kept H1 (A ++ B) H)
    (y : YPair (fun i => vs1[i]?) (fun i => vs2[i]?) i H w H') : Same H H' ∧ ∃ d B0, (zipL as bs)[i]? = some d ∧ Rep K H' w d B0 ∧ B0.Sublist (A ++ B) := by
  obtain ⟨n, v1, v2, rfl, hn, rfl, hv1, hv2⟩ := y
  have hd1 : i < as.length := by rw [← r1'.length]; omega
  have hd2 : i < bs.length := by rw [← r2'.length]; omega
  obtain ⟨v', B1, k1, k2, k3⟩ := r1'.get (i := i) (List.getElem?_eq_getElem hd1)
  obtain ⟨w', B2, k4, k5, k6⟩ := r2'.get (i := i) (List.getElem?_eq_getElem hd2)
  have hv1 : vs1[i]? = some v1 := hv1
  have hv2 : vs2[i]? = some v2 := hv2
  rw [hv1] at k1
  rw [hv2] at k4
  simp only [Option.some.injEq] at k1 k4
  subst k1 k4
  refine ⟨same_new hn, _, B1 ++ B2, zipL_get as bs i _ _ (List.getElem?_eq_getElem hd1) (List.getElem?_eq_getElem hd2), pair_rep hn (k2.kept g fun a ha => ?_) (k5.kept g fun a ha => ?_), ?_⟩
  · exact List.mem_append_left _ (s1.subset (k3.subset ha))
  · exact List.mem_append_right _ (s2.subset (k6.subset ha))
  · exact List.Sublist.append (k3.trans s1) (k6.trans s2)
theorem walk_zipT {K : PySem.W.Frag} {a b : Addr} {xs ys : List V} {n : Nat} (hn : n = min xs.length ys.length) : Walk (RZ.ItzT K a b) n (fun H => SqT K H a xs ∧ SqT K H b ys) (YPair (fun i => xs[i]?) (fun i => ys[i]?)) := by
  subst hn
  refine ⟨fun i _ hi q => ?_, fun _ q => ⟨xs, ys, q.1, q.2, by omega⟩, fun i H v H' _ q y => ?_⟩
  · have h1 : i < xs.length := by omega
    have h2 : i < ys.length := by omega
    exact ⟨xs, ys, xs[i], ys[i], q.1, q.2, by simp [h1], by simp [h2]⟩
  · obtain ⟨T, x, z, h1, h2, h3, h4, h5⟩ := y
    exact ⟨T, x, z, h1, h2, h3, h4 xs q.1, h5 ys q.2⟩
theorem si_zip {own vw : List Nat} {es : DEs} {x y : Expr} {elts : List Expr} {kk : Nat} {tp p pos : Pos} {sc : Scope} (hX : X.env.scope = sc) (F : Fx C Φ k X) (hg : gloOk C sc "zip" = true) (hp : [x, y].all plainX = true) (hl : SL C Φ X own vw es [x, y]) :
    SI C Φ X own vw (.zip es) (.Tuple elts kk tp) (.Call (.Name "zip" p) [x, y] [] pos) := by
  intro Z P σ H env As xs env' S e R q
  obtain ⟨g1, g2, g3, g4⟩ := gloOk_eq hg
  have hgl : Gl X "zip" := by show X.env.scope.names.lookup _ = _; rw [hX]; exact g1
  simp only [List.all_cons, Bool.and_eq_true] at hp
  simp only [evI] at e
  obtain ⟨ds, e0, h1, h2⟩ := bd_inv e
  have key : (∃ d1 d2 as bs, ds = [d1, d2] ∧ seqD d1 = some as ∧ seqD d2 = some bs ∧ xs = zipL as bs ∧ env' = e0) ∨ (∃ as bs, ds = [.tup as, .tup bs] ∧ xs = zipL as bs ∧ env' = e0) := by
    split at h2
    · simp only [Option.some.injEq, Rs.ok.injEq] at h2
      obtain ⟨rfl, rfl⟩ := h2
      exact .inl ⟨_, _, _, _, rfl, rfl, rfl, rfl, rfl⟩
    · simp only [Option.some.injEq, Rs.ok.injEq] at h2
      obtain ⟨rfl, rfl⟩ := h2
      exact .inl ⟨_, _, _, _, rfl, rfl, rfl, rfl, rfl⟩
    · simp only [Option.some.injEq, Rs.ok.injEq] at h2
      obtain ⟨rfl, rfl⟩ := h2
      exact .inr ⟨_, _, rfl, rfl, rfl⟩
    · cases h2
  refine (RZ.pi_zipA hgl (F.bn _ g2) Cy.wa (plain_star hp.1) (plain_any (by simpa using hp.2.1))).we ?_
  refine hl Z P σ H env As _ _ S h1 _ fun vs H1 A As1 S1 T1 r E => ?_
  have m1 := r.mut
  rcases key with ⟨d1, d2, as, bs, rfl, ea, eb, rfl, rfl⟩ | ⟨as, bs, rfl, rfl, rfl⟩
  · obtain ⟨v, w, B, D, rfl, rfl, r1, r2⟩ := two_reps r
    obtain ⟨p1, vs1, A1, rfl, q1, r1', s1, f1⟩ := seq_rep r1 ea
    obtain ⟨p2, vs2, A2, rfl, q2, r2', s2, f2⟩ := seq_rep r2 eb
    refine ⟨_, _, vs1, vs2, rfl, .inl ⟨q1, q2, q _ H1 _ As1 S1 T1 ?_ m1 E⟩⟩
    unfold ItOk
    rw [zipL_len, ← r1'.length, ← r2'.length]
    refine (walk_zip rfl).mono (fun H g => ⟨f1 _ _ (fun a ha => List.mem_append_left _ ha) g, f2 _ _ (fun a ha => List.mem_append_right _ ha) g⟩) fun i H w H' hi g y => ?_
    exact zip_yield r1' r2' s1 s2 hi g y
  · obtain ⟨v, w, B, D, rfl, rfl, r1, r2⟩ := two_reps r
    cases r1 with
    | @tup p1 vs1 _ _ q1 r1' =>
      cases r2 with
      | @tup p2 vs2 _ _ q2 r2' =>
        refine ⟨_, _, vs1, vs2, rfl, .inr ⟨q1, q2, q _ H1 _ As1 S1 T1 ?_ m1 E⟩⟩
        unfold ItOk
        rw [zipL_len, ← r1'.length, ← r2'.length]
        refine (walk_zipT rfl).mono (fun H g => ⟨SqT.keep (fun a o ho hm => g.1 a o ho hm) q1, SqT.keep (fun a o ho hm => g.1 a o ho hm) q2⟩) fun i H w H' hi g y => ?_
        exact zip_yield r1' r2' (List.Sublist.refl _) (List.Sublist.refl _) hi g y
theorem si_rev {own vw : List Nat} {a : DE} {tg x : Expr} {p pos : Pos} {sc : Scope} (hX : X.env.scope = sc) (F : Fx C Φ k X) (hg : gloOk C sc "reversed" = true) (hp : plainX x = true) (ha : SE C Φ X own vw a x) :
    SI C Φ X own vw (.rev a) tg (.Call (.Name "reversed" p) [x] [] pos) := by
  intro Z P σ H env As xs env' S e R q
  obtain ⟨g1, g2, g3, g4⟩ := gloOk_eq hg
  have hgl : Gl X "reversed" := by show X.env.scope.names.lookup _ = _; rw [hX]; exact g1
  simp only [evI] at e
  obtain ⟨d0, e0, h1, h2⟩ := bd_inv e
  split at h2
  · rename_i ds
    simp only [Option.some.injEq, Rs.ok.injEq] at h2
    obtain ⟨rfl, rfl⟩ := h2
    refine (pi_reversed hgl (F.bn _ g2) (pa_cons Cy.we pa_nil (plain_star hp)) (plain_star hp)).we ?_
    refine ha Z P σ H env As _ _ S h1 _ fun v1 H1 A1 As1 S1 T1 r1 E1 => ?_
    have m1 := r1.mut
    cases r1 with
    | @lst p vs ds A h r =>
      refine ⟨_, vs, rfl, SqL.of h, q _ H1 _ As1 S1 T1 ?_ m1 E1.orr⟩
      unfold ItOk
      rw [List.length_reverse, ← r.length]
      refine walk_rev.mono (fun H g => SqL.of (g.2 _ (List.mem_cons_self ..) _ h)) fun i H w H' hi g y => ?_
      obtain ⟨rfl, hw⟩ := y
      have hd : vs.length - 1 - i < ds.length := by rw [← r.length]; omega
      obtain ⟨v', B, h1, h2, h3⟩ := r.get (i := vs.length - 1 - i) (List.getElem?_eq_getElem hd)
      rw [hw] at h1
      simp only [Option.some.injEq] at h1
      subst h1
      refine ⟨Same.refl _, _, B, ?_, h2.kept g fun a ha => List.mem_cons_of_mem _ (h3.subset ha), h3.trans (List.sublist_cons_self _ _)⟩
      rw [List.getElem?_reverse (by rw [← r.length]; exact hi)]
      have e1 : ds.length - 1 - i = vs.length - 1 - i := by rw [r.length]
      rw [e1]
      exact List.getElem?_eq_getElem hd
  · cases h2
theorem rangeN_len (a b : Int) : (rangeN a b).length = (a - b).toNat := by unfold rangeN; rw [List.length_map, List.length_range]
theorem evL_cons_inv {a : DE} {es : DEs} {env e2 : En} {ds : List D} (h : evL Φ (.cons a es) env = some (.ok ds e2)) : ∃ d ds' e1, ds = d :: ds' ∧ evL Φ es e1 = some (.ok ds' e2) := by
  simp only [evL] at h
  obtain ⟨d0, e0, h3, h4⟩ := bd_inv h
  obtain ⟨_, h4⟩ := gd_inv h4
  obtain ⟨dd, e9, h5, h6⟩ := bd_inv h4
  simp only [Option.some.injEq, Rs.ok.injEq] at h6
  obtain ⟨rfl, rfl⟩ := h6
  exact ⟨d0, dd, _, rfl, h5⟩
theorem evL_nil_inv {env e2 : En} {ds : List D} (h : evL Φ .nil env = some (.ok ds e2)) : ds = [] := by
  simp only [evL, Option.some.injEq, Rs.ok.injEq] at h
  exact h.1.symm
theorem si_rng {own vw : List Nat} {es : DEs} {tg : Expr} {xs : List Expr} {p pos : Pos} {sc : Scope} (hX : X.env.scope = sc) (F : Fx C Φ k X) (hg : gloOk C sc "range" = true) (he : Each (SE C Φ X own vw) es xs) (hp : xs.all plainX = true) :
    SI C Φ X own vw (.rng es) tg (.Call (.Name "range" p) xs [] pos) := by
  intro Z P σ H env As items env' S e R q
  obtain ⟨g1, g2, g3, g4⟩ := gloOk_eq hg
  have hgl : Gl X "range" := by show X.env.scope.names.lookup _ = _; rw [hX]; exact g1
  have hl := each_sl he hp
  simp only [evI] at e
  obtain ⟨ds, e0, h1, h2⟩ := bd_inv e
  obtain ⟨h3, rfl⟩ := lf_inv h2
  simp only [Option.map_eq_some_iff] at h3
  obtain ⟨ns, h3, rfl⟩ := h3
  cases he with
  | nil =>
    rw [evL_nil_inv h1] at h3
    simp [rngD] at h3
  | @cons a es x xs k1 t1 =>
    obtain ⟨d1, ds1, f1, rfl, h4⟩ := evL_cons_inv h1
    simp only [List.all_cons, Bool.and_eq_true] at hp
    cases t1 with
    | nil =>
      obtain rfl := evL_nil_inv h4
      refine (pi_range1 hgl (F.bn _ g2) Cy.wa (plain_star hp.1)).we ?_
      refine hl Z P σ H env As _ _ S h1 _ fun vs H1 A As1 S1 T1 r E => ?_
      obtain ⟨v, rfl, r1⟩ := r.one_inv
      cases d1 <;> simp only [rngD, reduceCtorEq] at h3
      rename_i b
      cases r1
      split at h3
      · rename_i hz
        simp only [Option.some.injEq] at h3
        subst h3
        have io := itok_range (K := X.K) (H1 := H1) 0 b
        rw [Int.sub_zero] at io
        exact ⟨b, rfl, by omega, by omega, q _ H1 [] As1 S1 T1 io (fun a h => nomatch h) EF.pure⟩
      · cases h3
    | @cons a2 es2 x2 xs2 k2 t2 =>
      obtain ⟨d2, ds2, f2, rfl, h5⟩ := evL_cons_inv h4
      simp only [List.all_cons, Bool.and_eq_true] at hp
      cases t2 with
      | nil =>
        obtain rfl := evL_nil_inv h5
        refine (pi_range2 hgl (F.bn _ g2) Cy.wa (by rw [plain_star hp.1, plain_star hp.2.1]; rfl) (plain_star hp.2.1)).we ?_
        refine hl Z P σ H env As _ _ S h1 _ fun vs H1 A As1 S1 T1 r E => ?_
        obtain ⟨v, w, B, Dd, rfl, rfl, r1, r2⟩ := two_reps r
        cases d1 <;> cases d2 <;> simp only [rngD, reduceCtorEq] at h3
        rename_i a0 b
        cases r1
        cases r2
        split at h3
        · rename_i hz
          simp only [Option.some.injEq] at h3
          subst h3
          exact ⟨a0, b, rfl, ⟨by omega, by omega, by omega, by omega⟩, q _ H1 [] As1 S1 T1 (itok_range a0 b) (fun a h => nomatch h) EF.pure⟩
        · cases h3
      | @cons a3 es3 x3 xs3 k3 t3 =>
        obtain ⟨d3, ds3, f3, rfl, h6⟩ := evL_cons_inv h5
        simp only [List.all_cons, Bool.and_eq_true] at hp
        cases t3 with
        | nil =>
          obtain rfl := evL_nil_inv h6
          refine (pi_range3 hgl (F.bn _ g2) Cy.wa (plain_star hp.1) (plain_any (by simp only [List.all_cons, List.all_nil, Bool.and_true, Bool.and_eq_true]; exact ⟨hp.2.1, hp.2.2.1⟩))).we ?_
          refine hl Z P σ H env As _ _ S h1 _ fun vs H1 A As1 S1 T1 r E => ?_
          cases r with
          | cons r1 r =>
            obtain ⟨v, w, B, Dd, rfl, rfl, r2, r3⟩ := two_reps r
            cases d1 <;> cases d2 <;> cases d3 <;> simp only [rngD, reduceCtorEq] at h3
            rename_i a0 b c
            cases r1
            cases r2
            cases r3
            split at h3
            · rename_i hz
              obtain ⟨z1, z2, rfl⟩ := hz
              simp only [Option.some.injEq] at h3
              subst h3
              refine ⟨a0, b, -1, (a0 - b).toNat, rfl, RgC.neg (by omega) (by omega) (by omega) (by omega), q _ H1 [] As1 S1 T1 ?_ (fun a h => nomatch h) EF.pure⟩
              unfold ItOk
              rw [List.length_map, rangeN_len]
              refine walk_rangeC.mono (fun H g => trivial) fun i H x H' hi g y => ?_
              obtain ⟨rfl, rfl⟩ := y
              refine ⟨Same.refl _, .int (a0 - i), [], ?_, ?_, List.Sublist.refl _⟩
              · unfold rangeN
                simp [hi]
              · have e1 : a0 + (i : Nat) * (-1 : Int) = a0 - (i : Int) := by omega
                dsimp only
                rw [e1]; exact .int _
            · cases h3
        | cons k4 t4 =>
          obtain ⟨d4, ds4, f4, rfl, h7⟩ := evL_cons_inv h6
          simp [rngD] at h3
theorem si_rrg {own vw : List Nat} {es : DEs} {tg : Expr} {xs : List Expr} {p p2 pos pos2 : Pos} {sc : Scope} (hX : X.env.scope = sc) (F : Fx C Φ k X) (hg : gloOk C sc "reversed" = true) (hg2 : gloOk C sc "range" = true) (he : Each (SE C Φ X own vw) es xs) (hp : xs.all plainX = true) (hlen : xs.length ≤ 2) (hne : xs ≠ []) :
    SI C Φ X own vw (.rrg es) tg (.Call (.Name "reversed" p) [.Call (.Name "range" p2) xs [] pos2] [] pos) := by
  intro Z P σ H env As items env' S e R q
  obtain ⟨g1, g2, g3, g4⟩ := gloOk_eq hg
  have hgl : Gl X "reversed" := by show X.env.scope.names.lookup _ = _; rw [hX]; exact g1
  simp only [evI] at e
  obtain ⟨ds, e0, h1, h2⟩ := bd_inv e
  have h2 : lf ((rngD ds).map fun ns => (ns.map D.int).reverse) e0 = some (.ok items env') := by
    split at h2
    · exact h2
    · exact h2
    · cases h2
  obtain ⟨h3, rfl⟩ := lf_inv h2
  simp only [Option.map_eq_some_iff] at h3
  obtain ⟨ns, h3, rfl⟩ := h3
  obtain ⟨t, ht, hq⟩ := rg_core (p := p2) (pos := pos2) hX F hg2 he hp hlen hne S h1 h3
  refine (pi_revR hgl (F.bn _ g2) ht (plain_star rfl)).we ?_
  refine hq _ fun a b H1 As1 en ha hb S1 T1 => ⟨by omega, by omega, by omega, by omega, q _ H1 [] As1 S1 T1 ?_ (fun a h => nomatch h) EF.pure⟩
  unfold ItOk
  rw [List.length_reverse, List.length_map, en, rangeL_len]
  refine walk_rangeC.mono (fun H g => trivial) fun i H x H' hi g y => ?_
  obtain ⟨rfl, rfl⟩ := y
  refine ⟨Same.refl _, .int (a + ((b - a).toNat : Nat) - 1 - i), [], ?_, ?_, List.Sublist.refl _⟩
  · rw [List.getElem?_reverse (by rw [List.length_map, rangeL_len]; exact hi), List.length_map, rangeL_len]
    unfold rangeL
    rw [List.getElem?_map, List.getElem?_map, List.getElem?_range (by omega)]
    simp only [Option.map_some, Option.some.injEq, D.int.injEq]
    omega
  · have e1 : a + (((b - a).toNat : Nat) : Int) - 1 + (i : Nat) * (-1 : Int) = a + ((b - a).toNat : Nat) - 1 - (i : Int) := by omega
    dsimp only
    rw [e1]; exact .int _
end
end Cy
end
section
set_option Elab.async false
set_option linter.all false
set_option maxRecDepth 100000
set_option maxHeartbeats 2000000
namespace Cy
open PySem L2 PyProof.Rows
variable [ClTab] [Fxd]
mutual
def gT (K : PySem.W.Frag) : Tg → TG
  | .n i => gName i
  | .t ts => gTup K ts.length (gTs K ts)
def gTs (K : PySem.W.Frag) : List Tg → TGs
  | [] => gNil
  | t :: ts => gCons (gT K t) (gTs K ts)
end
/-- which names may be stored here -/
def StOk (X : Cx) (st : Scope) : Prop := ∀ x, locB st x = true → Loc X.env.scope x ∧ (X.fn x = true ∨ X.env.scope.names.lookup x = some .local)
theorem asg_all {env : PySem.Env} : ∀ {es : List Expr}, es.all plainX = true → (assignEach es env).length = es.length ∧ (assignEach es env).findIdx? (·.1) = none
  | [], _ => ⟨rfl, rfl⟩
  | e :: es, h => by
    simp only [List.all_cons, Bool.and_eq_true] at h
    rw [plain_asg h.1]
    obtain ⟨a, b⟩ := asg_all (env := env) h.2
    refine ⟨by rw [List.length_cons, List.length_cons, a], ?_⟩
    rw [List.findIdx?_cons]
    simp [b]
section
variable {C : Ct} {Φ : Nat → Fn} {k : Nat} {X : Cx}
mutual
theorem pgT {st : Scope} (F : Fx C Φ k X) (hs : StOk X st) : ∀ {t : Tg} {e : Expr}, mT C st t e = true → PG X e (gT X.K t)
  | .n i, e, h => by
    simp only [mT] at h
    split at h
    · rename_i x hx
      obtain ⟨p, rfl⟩ := asName_eq hx
      simp only [Bool.and_eq_true] at h
      obtain ⟨a, b⟩ := hs x h.1.2
      simp only [gT]
      exact pg_name (by rw [F.nN]; exact F.nd) (by rw [F.nN]; exact nameAt_eq h.1.1) a b
    · cases h
  | .t ts, e, h => by
    simp only [mT] at h
    split at h
    · rename_i es hx
      obtain ⟨j, p, rfl⟩ := asTup_eq hx
      simp only [Bool.and_eq_true, decide_eq_true_eq] at h
      obtain ⟨g, hp⟩ := pgTs F hs h.1
      obtain ⟨a, b⟩ := asg_all (env := X.env) hp
      simp only [gT]
      exact pg_tup F.calm g (by rw [a, h.2]) b
    · cases h
theorem pgTs {st : Scope} (F : Fx C Φ k X) (hs : StOk X st) : ∀ {ts : List Tg} {es : List Expr}, mTs C st ts es = true → PGs X es (gTs X.K ts) ∧ es.all plainX = true
  | [], [], _ => by
    simp only [gTs]
    exact ⟨pgs_nil, rfl⟩
  | [], _ :: _, h => by simp [mTs] at h
  | _ :: _, [], h => by simp [mTs] at h
  | t :: ts, e :: es, h => by
    simp only [mTs, Bool.and_eq_true] at h
    obtain ⟨g, hp⟩ := pgTs F hs h.2
    simp only [gTs]
    refine ⟨pgs_cons (pgT F hs h.1.1) g (by rw [plain_asg h.1.2]; rfl), ?_⟩
    simp only [List.all_cons, Bool.and_eq_true]
    exact ⟨h.1.2, hp⟩
end
theorem Fx.fxn (F : Fx C Φ k X) {i : Nat} (h : C.fx.contains i = false) : Fxd.fx i = none := by
  cases e : Fxd.fx i with
  | none => rfl
  | some v => rw [F.fx i v e] at h; cases h
mutual
theorem mT_fx {st : Scope} (F : Fx C Φ k X) : ∀ {t : Tg} {e : Expr}, mT C st t e = true → ∀ i ∈ tgs t, Fxd.fx i = none
  | .n i, e, h, j, hj => by
    simp only [mT] at h
    split at h
    · simp only [Bool.and_eq_true, Bool.not_eq_true'] at h
      have : j = i := by simpa [tgs] using hj
      rw [this]; exact F.fxn h.2
    · cases h
  | .t ts, e, h, j, hj => by
    simp only [mT] at h
    split at h
    · simp only [Bool.and_eq_true, decide_eq_true_eq] at h
      exact mTs_fx F h.1 j (by simpa [tgs] using hj)
    · cases h
theorem mTs_fx {st : Scope} (F : Fx C Φ k X) : ∀ {ts : List Tg} {es : List Expr}, mTs C st ts es = true → ∀ i ∈ tgsL ts, Fxd.fx i = none
  | [], [], _, j, hj => by simp [tgsL] at hj
  | [], _ :: _, h, _, _ => by simp [mTs] at h
  | _ :: _, [], h, _, _ => by simp [mTs] at h
  | t :: ts, e :: es, h, j, hj => by
    simp only [mTs, Bool.and_eq_true] at h
    simp only [tgsL, List.mem_append] at hj
    rcases hj with hj | hj
    · exact mT_fx F h.1.1 j hj
    · exact mTs_fx F h.2 j hj
end
structure BR (K : PySem.W.Frag) (H : Hp) (ts : List Nat) (A : List Addr) (σ σ' : L2.St) (env env' : En) (B : Asg) : Prop where
  len : σ'.length = σ.length
  lenE : env'.length = env.length
  out : ∀ i, i ∉ ts → σ'[i]? = σ[i]? ∧ env'[i]? = env[i]?
  inn : ∀ i ∈ ts, ∃ v d, σ'[i]? = some (some v) ∧ env'[i]? = some (some d) ∧ Rep K H v d (B i)
  sub : ∀ i ∈ ts, ∀ a ∈ B i, a ∈ A
  nd : A.Nodup → (∀ i ∈ ts, (B i).Nodup) ∧ ∀ i ∈ ts, ∀ j ∈ ts, i ≠ j → ∀ a ∈ B i, a ∉ B j
mutual
theorem bind_ok {K : PySem.W.Frag} {H : Hp} : ∀ {tg : Tg} {v : V} {d : D} {A : List Addr} {σ : L2.St} {env env' : En} (r : Rep K H v d A) (hb : bindT tg d env = some env') (hl : σ.length = env.length) (hn : (tgs tg).Nodup) (hi : ∀ i ∈ tgs tg, i < env.length)
    {Q : L2.St → Hp → Prop}, (∀ σ' B, BR K H (tgs tg) A σ σ' env env' B → Q σ' H) → gT K tg v σ H Q
  | .n i, v, d, A, σ, env, env', r, hb, hl, hn, hi, Q, q => by
    simp only [bindT, Option.some.injEq] at hb
    subst hb
    simp only [gT]
    have hlt := hi i (by simp [tgs])
    refine q _ (fun _ => A) ⟨List.length_set .., List.length_set .., fun j hj => ?_, fun j hj => ?_, fun _ _ a ha => ha, fun h => ⟨fun _ _ => h, fun a ha b hb hne => ?_⟩⟩
    · have : i ≠ j := fun z => hj (by simp [tgs, z])
      exact ⟨List.getElem?_set_ne this, List.getElem?_set_ne this⟩
    · have : j = i := by simpa [tgs] using hj
      subst this
      exact ⟨v, d, List.getElem?_set_self (by rw [hl]; exact hlt), List.getElem?_set_self hlt, r⟩
    · have e1 : a = i := by simpa [tgs] using ha
      have e2 : b = i := by simpa [tgs] using hb
      exact absurd (e1.trans e2.symm) hne
  | .t ts, v, d, A, σ, env, env', r, hb, hl, hn, hi, Q, q => by
    cases r with
    | @tup p vs ds A h1 r =>
      simp only [bindT] at hb
      simp only [gT]
      have hlen : vs.length = ts.length := by
        rw [r.length]
        exact (bindTs_len hb).symm
      exact ⟨_, _, rfl, h1, hlen, binds_ok r hb hl (by simpa [tgs] using hn) (by simpa [tgs] using hi) (by simpa [tgs] using q)⟩
    | _ => simp [bindT] at hb
theorem bindTs_len : ∀ {ts : List Tg} {ds : List D} {env env' : En}, bindTs ts ds env = some env' → ts.length = ds.length
  | [], [], _, _, _ => rfl
  | [], _ :: _, _, _, h => by simp [bindTs] at h
  | _ :: _, [], _, _, h => by simp [bindTs] at h
  | t :: ts, d :: ds, env, env', h => by
    simp only [bindTs, Option.bind_eq_some_iff] at h
    obtain ⟨e1, _, h2⟩ := h
    rw [List.length_cons, List.length_cons, bindTs_len h2]
theorem binds_ok {K : PySem.W.Frag} {H : Hp} : ∀ {ts : List Tg} {vs : List V} {ds : List D} {A : List Addr} {σ : L2.St} {env env' : En} (r : Reps K H vs ds A) (hb : bindTs ts ds env = some env') (hl : σ.length = env.length) (hn : (tgsL ts).Nodup) (hi : ∀ i ∈ tgsL ts, i < env.length)
    {Q : L2.St → Hp → Prop}, (∀ σ' B, BR K H (tgsL ts) A σ σ' env env' B → Q σ' H) → gTs K ts vs σ H Q
  | [], _, _, A, σ, env, env', r, hb, hl, hn, hi, Q, q => by
    cases r with
    | nil =>
      simp only [bindTs, Option.some.injEq] at hb
      subst hb
      simp only [gTs]
      refine ⟨rfl, q σ (fun _ => []) ⟨rfl, rfl, fun _ _ => ⟨rfl, rfl⟩, (fun i h => by cases h), (fun i h => by cases h), fun _ => ⟨(fun i h => by cases h), (fun i h => by cases h)⟩⟩⟩
    | cons _ _ => simp [bindTs] at hb
  | t :: ts, _, _, A, σ, env, env', r, hb, hl, hn, hi, Q, q => by
    cases r with
    | nil => simp [bindTs] at hb
    | @cons v vs d ds A1 A2 r1 r2 =>
      simp only [bindTs, Option.bind_eq_some_iff] at hb
      obtain ⟨e1, hb1, hb2⟩ := hb
      simp only [tgsL] at hn hi q
      obtain ⟨n1, n2, n3⟩ := List.nodup_append.mp hn
      simp only [gTs]
      refine ⟨v, vs, rfl, bind_ok r1 hb1 hl n1 (fun i h => hi i (List.mem_append_left _ h)) fun σ1 B1 b1 => ?_⟩
      refine binds_ok r2 hb2 (by rw [b1.len, b1.lenE, hl]) n2 (fun i h => by rw [b1.lenE]; exact hi i (List.mem_append_right _ h)) fun σ2 B2 b2 => ?_
      have apart : ∀ i, i ∈ tgs t → i ∉ tgsL ts := fun i h1 h2 => n3 i h1 i h2 rfl
      refine q σ2 (fun i => if i ∈ tgs t then B1 i else B2 i) ⟨b2.len.trans b1.len, b2.lenE.trans b1.lenE, fun i h => ?_, fun i h => ?_, fun i h a ha => ?_, fun hA => ⟨fun i h => ?_, fun i hi' j hj hne a ha hb' => ?_⟩⟩
      · simp only [List.mem_append, not_or] at h
        obtain ⟨x1, x2⟩ := b1.out i h.1
        obtain ⟨y1, y2⟩ := b2.out i h.2
        exact ⟨y1.trans x1, y2.trans x2⟩
      · by_cases h1 : i ∈ tgs t
        · obtain ⟨v', d', g1, g2, g3⟩ := b1.inn i h1
          obtain ⟨y1, y2⟩ := b2.out i (apart i h1)
          rw [if_pos h1]
          exact ⟨v', d', y1.trans g1, y2.trans g2, g3⟩
        · rw [if_neg h1]
          exact b2.inn i ((List.mem_append.mp h).resolve_left h1)
      · try dsimp only at ha
        by_cases h1 : i ∈ tgs t
        · rw [if_pos h1] at ha; exact List.mem_append_left _ (b1.sub i h1 a ha)
        · rw [if_neg h1] at ha; exact List.mem_append_right _ (b2.sub i ((List.mem_append.mp h).resolve_left h1) a ha)
      · obtain ⟨a1, a2, a3⟩ := List.nodup_append.mp hA
        try dsimp only
        by_cases h1 : i ∈ tgs t
        · rw [if_pos h1]; exact (b1.nd a1).1 i h1
        · rw [if_neg h1]; exact (b2.nd a2).1 i ((List.mem_append.mp h).resolve_left h1)
      · try dsimp only at ha hb'
        obtain ⟨a1, a2, a3⟩ := List.nodup_append.mp hA
        by_cases h1 : i ∈ tgs t
        · rw [if_pos h1] at ha
          by_cases h2 : j ∈ tgs t
          · rw [if_pos h2] at hb'; exact (b1.nd a1).2 i h1 j h2 hne a ha hb'
          · rw [if_neg h2] at hb'
            exact a3 a (b1.sub i h1 a ha) a (b2.sub j ((List.mem_append.mp hj).resolve_left h2) a hb') rfl
        · rw [if_neg h1] at ha
          by_cases h2 : j ∈ tgs t
          · rw [if_pos h2] at hb'
            exact a3 a (b1.sub j h2 a hb') a (b2.sub i ((List.mem_append.mp hi').resolve_left h1) a ha) rfl
          · rw [if_neg h2] at hb'
            exact (b2.nd a2).2 i ((List.mem_append.mp hi').resolve_left h1) j ((List.mem_append.mp hj).resolve_left h2) hne a ha hb'
end
end
end Cy
end
section
set_option Elab.async false
set_option linter.all false
set_option maxRecDepth 100000
set_option maxHeartbeats 2000000
namespace Cy
open PySem L2 PyProof.Rows
variable [ClTab] [Fxd]
/-- a block's context -/
def Blk (X : Cx) (scope : Scope) (X' : Cx) : Prop := ∃ (s : Shared) (H : Hp) (c : Addr) (cl : List (Str × Addr)) (fp : List Addr), X' = X.blk s H scope (compEnvC scope cl c X.env) fp
theorem Blk.scope {X X' : Cx} {sc : Scope} (h : Blk X sc X') : X'.env.scope = relS sc X.env.scope := by
  obtain ⟨s, H, c, cl, fp, rfl⟩ := h; rfl
theorem Blk.stok {X X' : Cx} {sc : Scope} (h : Blk X sc X') : StOk X' sc := by
  intro x hx
  have e := h.scope
  obtain ⟨s, H, c, cl, fp, rfl⟩ := h
  rcases locB_eq hx with z | z
  · have y := lookup_relS_keep (sc := X.env.scope) (by simp) z
    exact ⟨.inl (by rw [e]; exact y), .inr (by rw [e]; exact y)⟩
  · have y := lookup_relS_keep (sc := X.env.scope) (by simp) z
    refine ⟨.inr (by rw [e]; exact y), .inl ?_⟩
    show (sc.names.lookup x == some .cell) = true
    rw [z]; rfl
section
variable {C : Ct} {Φ : Nat → Fn} {k : Nat} {X : Cx}
theorem Fx.blk {X' : Cx} {sc : Scope} (F : Fx C Φ k X) (h : Blk X sc X') : Fx C Φ k X' ∧ X'.K = X.K ∧ X'.A = X.A := by
  obtain ⟨s, H, c, cl, fp, rfl⟩ := h
  refine ⟨⟨F.nN, F.nd, F.calm, F.room, fun f x sg h1 h2 h3 => ?_, F.bn, F.gl, F.cls, fun f c m sg h1 h2 h3 => ?_, F.fx, F.cax, F.xcl, F.xex, F.xxs, F.kxa, F.kxA⟩, rfl, rfl⟩
  · obtain ⟨fa, fd, ps, q⟩ := F.calls f x sg h1 h2 h3
    exact ⟨fa, fd, ps, q.mg, q.kp, q.bi, q.ok⟩
  · obtain ⟨fa, fd, ps, k', hk, q⟩ := F.ms f c m sg h1 h2 h3
    exact ⟨fa, fd, ps, k', hk, q.meth, q.make, q.bi, q.ok⟩
theorem wipeE_length (σ : En) : ∀ vs : List Nat, (wipeE vs σ).length = σ.length
  | [] => rfl
  | v :: vs => by unfold wipeE; rw [List.length_set, wipeE_length σ vs]
theorem wipeE_some {σ : En} {i : Nat} {x : D} : ∀ {vs : List Nat}, (wipeE vs σ)[i]? = some (some x) → σ[i]? = some (some x) ∧ i ∉ vs
  | [], h => ⟨h, by simp⟩
  | v :: vs, h => by
    unfold wipeE at h
    by_cases hi : v = i
    · subst hi
      rw [List.getElem?_set] at h
      simp at h
    · rw [List.getElem?_set_ne hi] at h
      obtain ⟨h1, h2⟩ := wipeE_some h
      exact ⟨h1, by simp only [List.mem_cons, not_or]; exact ⟨fun e => hi e.symm, h2⟩⟩
theorem wipeE_out {σ : En} {i : Nat} : ∀ {vs : List Nat}, i ∉ vs → (wipeE vs σ)[i]? = σ[i]?
  | [], _ => rfl
  | v :: vs, h => by
    simp only [List.mem_cons, not_or] at h
    unfold wipeE
    rw [List.getElem?_set_ne (fun e => h.1 e.symm)]
    exact wipeE_out h.2
theorem wipe_in {σ : L2.St} {i : Nat} : ∀ {vs : List Nat}, i ∈ vs → (wipe σ vs)[i]? = if i < σ.length then some none else none
  | v :: vs, h => by
    unfold wipe
    by_cases e : v = i
    · subst e
      by_cases hl : v < σ.length
      · rw [List.getElem?_set_self (by rw [wipe_length]; exact hl), if_pos hl]
      · rw [if_neg hl, List.getElem?_eq_none (by rw [List.length_set, wipe_length]; omega)]
    · rw [List.getElem?_set_ne e]
      rcases List.mem_cons.mp h with z | z
      · exact absurd z.symm e
      · exact wipe_in z
theorem wipe_eq {σ σ2 : L2.St} {vs ts : List Nat} (hl : σ2.length = σ.length) (h : ∀ i, i ∉ ts → σ2[i]? = (wipe σ vs)[i]?) (hs : ∀ i ∈ ts, i ∈ vs) : wipe σ2 vs = wipe σ vs := by
  refine List.ext_getElem? fun i => ?_
  by_cases hi : i ∈ vs
  · rw [wipe_in hi, wipe_in hi, hl]
  · rw [wipe_out hi, wipe_out hi, h i (fun z => hi (hs i z)), wipe_out hi]
/-- the block's state -/
theorem SR.blkIn {K : PySem.W.Frag} {n : Nat} {ow vw os : List Nat} {b : Bool} {tg : Tg} {Z P : Addr → Prop} {σ σ2 : L2.St} {H1 H : Hp} {env env2 : En} {As B : Asg} {A B0 : List Addr}
    (S : SR K n ow vw Z P σ H1 env As) (sm : Same H1 H) (R : BR K H (tgs tg) B0 (wipe σ os) σ2 (wipeE os env) env2 B) (hB : ∀ a ∈ B0, a ∈ A) (mA : ∀ a ∈ A, MutH H1 a) (hox : ∀ j ∈ os, Fxd.fx j = none) (hto : ∀ j ∈ tgs tg, j ∈ os) :
    SR K n [] (ow ++ vw ++ (if b = true then [] else tgs tg)) (fun a => Z a ∨ (b = true ∧ a ∈ A)) (fun a => P a ∨ (b = true ∧ a ∈ A)) σ2 H env2 (fun j => if j ∈ tgs tg then B j else if j ∈ os then [] else As j) where
  len := by rw [R.len, wipe_length, S.len]
  lenE := by rw [R.lenE, wipeE_length, S.lenE]
  rep := fun i d h => by
    by_cases ht : i ∈ tgs tg
    · obtain ⟨v, d', h1, h2, h3⟩ := R.inn i ht
      rw [h] at h2
      simp only [Option.some.injEq] at h2
      subst h2
      rw [if_pos ht]
      exact ⟨v, h1, h3⟩
    · obtain ⟨o1, o2⟩ := R.out i ht
      rw [o2] at h
      obtain ⟨h1, h2⟩ := wipeE_some h
      obtain ⟨v, h3, h4⟩ := S.rep i d h1
      rw [if_neg ht, if_neg h2]
      exact ⟨v, by rw [o1, wipe_out h2]; exact h3, h4.mono sm⟩
  non := fun i h => by
    by_cases ht : i ∈ tgs tg
    · obtain ⟨v, d', h1, h2, h3⟩ := R.inn i ht
      exact absurd h2 (h d')
    · rw [if_neg ht]
      by_cases ho : i ∈ os
      · rw [if_pos ho]
      · rw [if_neg ho]
        refine S.non i fun d z => h d ?_
        rw [(R.out i ht).2, wipeE_out ho]; exact z
  shr := fun i _ h2 a ha => by
    simp only [List.mem_append, not_or] at h2
    by_cases ht : i ∈ tgs tg
    · rw [if_pos ht] at ha
      cases hb : b with
      | true => exact .inr ⟨rfl, hB a (R.sub i ht a ha)⟩
      | false =>
        rw [hb] at h2
        exact absurd ht (by simpa using h2.2)
    · rw [if_neg ht] at ha
      split at ha
      · cases ha
      · exact .inl (S.shr i h2.1.1 h2.1.2 a ha)
  nod := fun i h => nomatch h
  noP := fun i h => nomatch h
  dis := fun i h => nomatch h
  zp := fun a h => h.imp (S.zp a) id
  ph := fun a h => by
    have up : H1 a ≠ none → H a ≠ none := fun z => by
      cases q : H1 a with
      | none => exact absurd q z
      | some o => rw [sm a o q]; simp
    rcases h with h | ⟨_, h⟩
    · exact up (S.ph a h)
    · obtain ⟨xs, q⟩ := mA a h
      exact up (by rw [q]; simp)
  fix := fun i v h => by
    have ho : i ∉ os := fun z => by rw [hox i z] at h; cases h
    have ht : i ∉ tgs tg := fun z => ho (hto i z)
    rw [(R.out i ht).1, wipe_out ho]; exact S.fix i v h
/-- a clause's tests: the weakest reading -/
def WTs (X : Cx) (ifs : List Expr) : TT := fun σ H Q => ∀ pins s, Inv X pins σ H s →
  wpAny (model X.prog X.w) X.A (forIn ifs true fun c r => if r = true then do let ok ← isTrue c X.env (eval c X.env); pure (ForInStep.yield ok) else pure (ForInStep.yield r)) (TP X pins σ Q) X.xe s
theorem _root_.L2.PTs.we {ifs : List Expr} {t : TT} {σ : L2.St} {H : Hp} {Q : Bool → Hp → Prop} (h : PTs X ifs t) (q : t σ H Q) : WTs X ifs σ H Q := fun pins s I => h.run pins s σ H Q I q
def STs (C : Ct) (Φ : Nat → Fn) (X : Cx) (own vw : List Nat) (ifs : DEs) (fs : List Expr) : Prop :=
  ∀ (Z P : Addr → Prop) (σ : L2.St) (H : Hp) (env : En) (As : Asg) (b : Bool) (env' : En), SR X.K C.N.length own vw Z P σ H env As → evTs Φ ifs env = some (.ok b env') →
    ∀ Q : Bool → Hp → Prop, (∀ H' As', SR X.K C.N.length own vw Z P σ H' env' As' → TR own (ioL ifs) H As H' As' → Q b H') → WTs X fs σ H Q
theorem sts_nil {own vw : List Nat} : STs C Φ X own vw .nil [] := by
  intro Z P σ H env As b env' S e Q q
  simp only [evTs, Option.some.injEq, Rs.ok.injEq] at e
  obtain ⟨rfl, rfl⟩ := e
  exact pts_nil.we (q H As S TR.refl)
theorem sts_one {own vw : List Nat} {a : DE} {x : Expr} (h : SB C Φ X own vw (ioE a) (ev Φ a) (WT X x)) : STs C Φ X own vw (.cons a .nil) [x] := by
  intro Z P σ H env As b env' S e Q q
  simp only [evTs] at e
  obtain ⟨y, e1, h1, h2⟩ := bd_inv e
  refine (pts_one Cy.wt).we ?_
  have w : ∀ {H' : Hp} {As' : Asg}, TR own (ioE a) H As H' As' → TR own (ioL (.cons a .nil)) H As H' As' := fun t => t.weak fun z => by show (ioE a || false) = true; rw [z]; rfl
  split at h2
  · simp only [Option.some.injEq, Rs.ok.injEq] at h2
    obtain ⟨rfl, rfl⟩ := h2
    exact h Z P σ H env As _ _ S h1 _ fun H' As' S' T' => q H' As' S' (w T')
  · simp only [Option.some.injEq, Rs.ok.injEq] at h2
    obtain ⟨rfl, rfl⟩ := h2
    exact h Z P σ H env As _ _ S h1 _ fun H' As' S' T' => q H' As' S' (w T')
  · cases h2
/-- what a comprehension's turns have made: acc at D, of the data ds, its lists Aa -/
structure Acc (K : PySem.W.Frag) (H1 : Hp) (Dn : Addr) (f s : Bool) (Zb : Addr → Prop) (Asb : Addr → Prop) (ds : List D) (H : Hp) : Prop where
  sm : Same H1 H
  ex : ∃ acc Aa, H Dn = some (.lst acc) ∧ Reps K H acc ds Aa ∧ Dn ∉ Aa ∧ (f = true → Aa.Nodup ∧ ∀ a ∈ Aa, H1 a = none) ∧ (s = true → ∀ a ∈ Aa, H1 a = none ∨ Zb a) ∧ ∀ a ∈ Aa, H1 a = none ∨ Asb a
theorem compL_len {bt : D → Option En} {tst : En → Option (Rs Bool)} {elt : En → Option (Rs D)} : ∀ {xs ds : List D}, compL bt tst elt xs = some ds → ds.length ≤ LMX
  | [], ds, h => by
    simp only [compL, Option.some.injEq] at h
    subst h; exact Nat.zero_le _
  | x :: xs, ds, h => by
    simp only [compL] at h
    split at h
    · cases h
    · split at h
      · split at h
        · simp only [Option.bind_eq_some_iff] at h
          obtain ⟨d3, h1, h2⟩ := h
          split at h2
          · rename_i hl
            simp only [Option.some.injEq] at h2
            subst h2
            exact hl
          · cases h2
        · cases h
      · exact compL_len h
      · cases h
/-- the tests and the item, in any block's context -/
def tts (X : Cx) (scope : Scope) (fs : List Expr) : TT := fun σ H Q => ∀ X', Blk X scope X' → WTs X' fs σ H Q
def tes (X : Cx) (scope : Scope) (x : Expr) : TE := fun σ H Q => ∀ X', Blk X scope X' → WE X' x σ H Q
theorem ownP_map (C : Ct) (os : List Nat) : (ownP C os).map (·.2) = os := by
  unfold ownP
  rw [List.map_map]
  exact List.map_id' os
theorem comp_core {own vw os : List Nat} {elt : DE} {tg : Tg} {it : DI} {ifs : DEs} {x t i : Expr} {fs : List Expr} {scope : Scope} {pos : Pos} (F : Fx C Φ k X)
    (hox : ∀ j ∈ os, Fxd.fx j = none) (hbl : blkC C.N X.env.scope scope (ownP C os) = true) (hmt : mT C scope tg t = true) (hts : ∀ j ∈ tgs tg, j ∈ os) (hnd : (tgs tg).Nodup) (hp : plainX i = true) (hio : ioE elt = false) (hil : ioL ifs = false)
    (hi : SI C Φ X own vw it t i)
    (hf : ∀ X', Blk X scope X' → STs C Φ X' [] (own ++ vw ++ (if shI C.sigs (own ++ vw) it = true then [] else tgs tg)) ifs fs)
    (he : ∀ X', Blk X scope X' → SE C Φ X' [] (own ++ vw ++ (if shI C.sigs (own ++ vw) it = true then [] else tgs tg)) elt x) {Z P : Addr → Prop} {σ : L2.St} {H : Hp} {env env' : En} {As : Asg} {d : D}
    (S : SR X.K C.N.length own vw Z P σ H env As) (e : ev Φ (.comp elt tg it ifs os) env = some (.ok d env')) {Q : VK}
    (q : ∀ v H' A As', SR X.K C.N.length own vw Z P σ H' env' As' → TR own (ioE (.comp elt tg it ifs os)) H As H' As' → Rep X.K H' v d A → EF own Z (frE C.sigs (.comp elt tg it ifs os)) (shE C.sigs (own ++ vw) (.comp elt tg it ifs os)) H As As' A → Q v H') :
    tLc (WI X t i) (gT X.K tg) (tts X scope fs) (tes X scope x) os σ H Q := by
  simp only [ev] at e
  obtain ⟨xs, e1, h1, h2⟩ := bd_inv e
  obtain ⟨h3, rfl⟩ := lf_inv h2
  simp only [Option.map_eq_some_iff] at h3
  obtain ⟨ds, h3, rfl⟩ := h3
  have hbo : BlkOk X.N X.env.scope scope (ownP C os) := by rw [F.nN]; exact blkOk_by hbl
  refine hi Z P σ H env As _ _ S h1 _ fun J H1 A As1 S1 T1 io mA E1 => ?_
  intro Dn hDn
  -- what stands at the end of turn j
  have hz := compL_len h3
  let sb := shI C.sigs (own ++ vw) it
  have smD : Same H1 (upd H1 Dn (.lst [])) := same_new hDn
  refine lc_it (g := gT X.K tg) (tt := tts X scope fs) (te := tes X scope x) (vs := os) (σ := σ) (H1 := H1) (D := Dn) (Qd := fun H => Q (.ref Dn) H) io (fun j Hj => ∃ d1 d2, ds = d1 ++ d2 ∧ compL (fun x => bindT tg x (wipeE os e1)) (fun e2 => evTs Φ ifs e2) (fun e2 => ev Φ elt e2) (xs.drop j) = some d2 ∧
      Acc X.K H1 Dn (frE C.sigs elt) (shE C.sigs (own ++ vw ++ (if sb = true then [] else tgs tg)) elt) (fun a => Z a ∨ (sb = true ∧ a ∈ A)) (fun a => a ∈ A ∨ ∃ i, a ∈ As1 i) d1 Hj) ?_ ?_ ?_ ?_
  · exact ⟨[], ds, rfl, by simpa using h3, smD, [], [], upd_same, .nil, (fun h => nomatch h), fun _ => ⟨List.nodup_nil, fun a h => nomatch h⟩, (fun _ a h => nomatch h), (fun a h => nomatch h)⟩
  · rintro j Hj hj ⟨d1, d2, _, _, ac⟩
    exact ⟨fun a o h _ => ac.sm a o h, fun a ha o h => ac.sm a o h⟩
  · rintro j v Hj Hj' hj ⟨d1, d2, ed, ec, ac⟩ ⟨sm2, dj, B0, hdj, rj, sB⟩
    have sm1 : Same H1 Hj' := fun a o h => sm2 a o (ac.sm a o h)
    have hdr : xs.drop j = dj :: xs.drop (j + 1) := by
      obtain ⟨hl, hg⟩ := List.getElem?_eq_some_iff.mp hdj
      rw [List.drop_eq_getElem_cons hl, hg]
    rw [hdr] at ec
    simp only [compL] at ec
    split at ec
    · cases ec
    rename_i e2 hbt
    refine bind_ok rj hbt (by rw [wipe_length, wipeE_length, S1.len, S1.lenE]) hnd (fun z hz => ?_) fun σ2 B R => ?_
    · rw [wipeE_length, S1.lenE]
      have hz2 := hts z hz
      have hix := hbo.ix (C.N.getD z "", z) (by unfold ownP; exact List.mem_map.mpr ⟨z, hz2, rfl⟩)
      rw [F.nN] at hix
      exact (List.getElem?_eq_some_iff.mp hix).1
    refine ⟨wipe_eq (by rw [R.len, wipe_length]) (fun i hi => (R.out i hi).1) hts, ?_⟩
    have S2 := S1.blkIn (b := sb) (A := A) sm1 R (fun a ha => sB.subset ha) mA hox hts
    -- the state does not depend on the block
    split at ec
    · rename_i e3 htt
      split at ec
      · rename_i dd e4 hee
        simp only [Option.bind_eq_some_iff] at ec
        obtain ⟨d3, ec, ez⟩ := ec
        split at ez
        rotate_left
        · cases ez
        rename_i hlen
        simp only [Option.some.injEq] at ez
        subst ez
        intro X' hX
        obtain ⟨FX, kk, aa⟩ := F.blk hX
        refine hf X' hX _ _ σ2 Hj' e2 _ true e3 (by rw [kk]; exact S2) htt _ fun H3 As3 S3 T3 => ?_
        rw [if_pos rfl]
        intro X2 hX2
        obtain ⟨FX2, kk2, aa2⟩ := F.blk hX2
        refine he X2 hX2 _ _ σ2 H3 e3 _ dd e4 (by rw [kk2, ← kk]; exact S3) hee _ fun w H4 A4 As4 S4 T4 r4 E4 => ?_
        rw [kk2] at r4
        have sm3 : Same Hj' H3 := fun a o h => T3.keep a o h fun z => by rw [hil] at z; cases z
        have sm4 : Same H3 H4 := fun a o h => T4.keep a o h fun z => by rw [hio] at z; cases z
        have smj : Same Hj H4 := fun a o h => sm4 a o (sm3 a o (sm2 a o h))
        have T34 := T3.trans T4 (io := true) (fun _ => rfl) (fun _ => rfl)
        obtain ⟨acc, Aa, hD, rA, nD, f1, f2, f3⟩ := ac.ex
        have hD4 := smj _ _ hD
        have bk : ∀ a, H3 a = none → H1 a = none := fun a h => by
          cases q : H1 a with
          | none => rfl
          | some o =>
            have := sm3 a o (sm1 a o q)
            rw [this] at h; cases h
        have nD4 : Dn ∉ A4 := fun c => by
          have E5 := (E4.back T3).2.2 Dn c
          rcases E5 with z | ⟨i, z⟩
          · rw [sm2 _ _ hD] at z; cases z
          · try dsimp only at z
            split at z
            · obtain ⟨ys, mz⟩ := mA Dn (sB.subset (R.sub i (by assumption) Dn z))
              rw [hDn] at mz; cases mz
            · split at z
              · cases z
              · by_cases hq : ∃ d, e1[i]? = some (some d)
                · obtain ⟨d, hq⟩ := hq
                  obtain ⟨v', _, r'⟩ := S1.rep i d hq
                  obtain ⟨ys, mz⟩ := r'.mut Dn z
                  rw [hDn] at mz; cases mz
                · rw [S1.non i (fun d z => hq ⟨d, z⟩)] at z; cases z
        have smU : ∀ a o, H4 a = some o → a ≠ Dn → (upd H4 Dn (.lst (acc ++ [w]))) a = some o := fun a o h n => by rw [upd_ne n]; exact h
        have r4' : Rep X.K (upd H4 Dn (.lst (acc ++ [w]))) w dd A4 := r4.keep (fun a o h n => smU a o h fun z => n ⟨.lst acc, trivial⟩ (by rw [z, hD4] at h; exact (Option.some.inj h).symm)) fun a ha o h => smU a o h fun z => nD4 (z ▸ ha)
        have rA' : Reps X.K (upd H4 Dn (.lst (acc ++ [w]))) acc d1 Aa := (rA.mono smj).keep (fun a o h n => smU a o h fun z => n ⟨.lst acc, trivial⟩ (by rw [z, hD4] at h; exact (Option.some.inj h).symm)) fun a ha o h => smU a o h fun z => nD (z ▸ ha)
        have mAa : ∀ a ∈ Aa, MutH Hj a := fun a ha => rA.mut a ha
        refine ⟨acc, hD4, ?_, d1 ++ [dd], d3, by rw [ed, List.append_assoc]; rfl, ec, ?_, acc ++ [w], Aa ++ A4, upd_same, rA'.append (Reps.one r4'), ?_, fun h => ?_, fun h a ha => ?_, fun a ha => ?_⟩
        · rw [rA.length]
          refine line_ltLMX (Nat.lt_of_lt_of_le ?_ hz)
          rw [ed, List.length_append, List.length_cons]; omega
        · intro a o h
          have z := smj a o (ac.sm a o h)
          by_cases c : a = Dn
          · subst c; rw [hDn] at h; cases h
          · rw [upd_ne c]; exact z
        · simp only [List.mem_append, not_or]; exact ⟨nD, nD4⟩
        · obtain ⟨n1, g1⟩ := f1 h
          obtain ⟨n2, g2⟩ := E4.1 h
          have fresh : ∀ a ∈ A4, H3 a = none := fun a ha => by
            rcases (g2 a ha).1 with z | ⟨i, hi, _⟩
            · exact z
            · cases hi
          refine ⟨List.nodup_append.mpr ⟨n1, n2, fun a ha b hb => ?_⟩, fun a ha => ?_⟩
          · intro c; subst c
            obtain ⟨ys, mz⟩ := mAa a ha
            have := fresh a hb
            rw [sm3 _ _ (sm2 _ _ mz)] at this; cases this
          · rcases List.mem_append.mp ha with ha | ha
            · exact g1 a ha
            · exact bk a (fresh a ha)
        · rcases List.mem_append.mp ha with ha | ha
          · exact f2 h a ha
          · rcases E4.2.1 (by simpa using h) a ha with z | z
            · rcases z.1 with z | ⟨i, hi, _⟩
              · exact .inl (bk a z)
              · cases hi
            · exact .inr z
        · rcases List.mem_append.mp ha with ha | ha
          · exact f3 a ha
          · rcases (E4.back T3).2.2 a ha with z | ⟨i, z⟩
            · left
              cases q : H1 a with
              | none => rfl
              | some o => rw [sm1 a o q] at z; cases z
            · try dsimp only at z
              split at z
              · exact .inr (.inl (sB.subset (R.sub i (by assumption) a z)))
              · split at z
                · cases z
                · exact .inr (.inr ⟨i, z⟩)
      · cases ec
    · rename_i e3 htt
      intro X' hX
      obtain ⟨FX, kk, aa⟩ := F.blk hX
      refine hf X' hX _ _ σ2 Hj' e2 _ false e3 (by rw [kk]; exact S2) htt _ fun H3 As3 S3 T3 => ?_
      rw [if_neg Bool.false_ne_true]
      have sm3 : Same Hj' H3 := fun a o h => T3.keep a o h fun z => by rw [hil] at z; cases z
      have smj : Same Hj H3 := fun a o h => sm3 a o (sm2 a o h)
      obtain ⟨acc, Aa, hD, rA, nD, f1, f2, f3⟩ := ac.ex
      exact ⟨d1, d2, ed, ec, fun a o h => smj a o (ac.sm a o h), acc, Aa, smj _ _ hD, rA.mono smj, nD, f1, f2, f3⟩
    · cases ec
  · rintro Hj ⟨d1, d2, ed, ec, ac⟩
    rw [List.drop_length] at ec
    simp only [compL, Option.some.injEq] at ec
    subst ec
    rw [List.append_nil] at ed
    subst ed
    obtain ⟨acc, Aa, hD, rA, nD, f1, f2, f3⟩ := ac.ex
    have nw : ∀ a, H1 a = none → New own H As As1 a := fun a h => ⟨.inl (T1.back h), fun c => S1.own_some c h⟩
    refine q (.ref Dn) Hj (Dn :: Aa) As1 (S1.grow ac.sm) ((T1.trans (TR.grow (io := ioI it) ac.sm) id id).weak fun z => ?_) (.lst hD rA) ⟨fun h => ⟨List.nodup_cons.mpr ⟨nD, (f1 h).1⟩, fun a ha => ?_⟩, fun h a ha => ?_, fun a ha => ?_⟩
    · show (ioE elt || ioI it || ioL ifs) = true
      rw [z]; simp
    · rcases List.mem_cons.mp ha with z | ha
      · exact z ▸ nw Dn hDn
      · exact nw a ((f1 h).2 a ha)
    · rcases List.mem_cons.mp ha with z | ha
      · exact .inl (z ▸ nw Dn hDn)
      · simp only [shE, Bool.or_eq_true] at h
        rcases h with h | h
        · exact .inl (nw a ((f1 h).2 a ha))
        · have h' : shE C.sigs (own ++ vw ++ (if sb = true then [] else tgs tg)) elt = true := by
            show shE C.sigs (own ++ vw ++ (if shI C.sigs (own ++ vw) it = true then [] else tgs tg)) elt = true
            split at h
            · rename_i hs; rw [if_pos hs, List.append_nil]; exact h
            · rename_i hs; rw [if_neg hs]; exact h
          rcases f2 h' a ha with z | z | ⟨z, za⟩
          · exact .inl (nw a z)
          · exact .inr z
          · exact E1.2.1 z a za
    · rcases List.mem_cons.mp ha with z | ha
      · exact .inl (T1.back (z ▸ hDn))
      · rcases f3 a ha with z | z | ⟨i, z⟩
        · exact .inl (T1.back z)
        · exact E1.2.2 a z
        · exact (T1.al i a z).symm
/-- [elt for tg in it if ifs] -/
theorem se_comp {own vw os : List Nat} {elt : DE} {tg : Tg} {it : DI} {ifs : DEs} {x t i : Expr} {fs : List Expr} {scope : Scope} {pos : Pos} (F : Fx C Φ k X)
    (hox : ∀ j ∈ os, Fxd.fx j = none) (hbl : blkC C.N X.env.scope scope (ownP C os) = true) (hmt : mT C scope tg t = true) (hts : ∀ j ∈ tgs tg, j ∈ os) (hnd : (tgs tg).Nodup) (hp : plainX i = true) (hio : ioE elt = false) (hil : ioL ifs = false)
    (hi : SI C Φ X own vw it t i)
    (hf : ∀ X', Blk X scope X' → STs C Φ X' [] (own ++ vw ++ (if shI C.sigs (own ++ vw) it = true then [] else tgs tg)) ifs fs)
    (he : ∀ X', Blk X scope X' → SE C Φ X' [] (own ++ vw ++ (if shI C.sigs (own ++ vw) it = true then [] else tgs tg)) elt x) :
    SE C Φ X own vw (.comp elt tg it ifs os) (.ListComp x [⟨t, i, fs, 0⟩] scope pos) := by
  intro Z P σ H env As d env' S e Q q
  have hbo : BlkOk X.N X.env.scope scope (ownP C os) := by rw [F.nN]; exact blkOk_by hbl
  refine (pe_lc (g := gT X.K tg) (tt := tts X scope fs) (te := tes X scope x) F.calm (by rw [F.nN]; exact F.nd) Cy.wi hbo
    (fun s H c cl fp => ?_) (fun s H c cl fp => ⟨fun pins s' σ' H' Q' I' w => w _ ⟨s, H, c, cl, fp, rfl⟩ pins s' I'⟩) (fun s H c cl fp => ⟨fun pins s' σ' H' Q' I' w => w _ ⟨s, H, c, cl, fp, rfl⟩ pins s' I'⟩) (fun z => plain_fold hp z)).we ?_
  · have hb : Blk X scope (X.blk s H scope (compEnvC scope cl c X.env) fp) := ⟨s, H, c, cl, fp, rfl⟩
    exact pgT (F.blk hb).1 hb.stok hmt
  rw [ownP_map]
  exact comp_core (pos := pos) F hox hbl hmt hts hnd hp hio hil hi hf he S e q
/-- name = [..], on the name's own line -/
theorem ps_comp {own vw os : List Nat} {elt : DE} {tg : Tg} {it : DI} {ifs : DEs} {x t i : Expr} {fs : List Expr} {scope : Scope} {pos : Pos} (F : Fx C Φ k X)
    (hox : ∀ j ∈ os, Fxd.fx j = none) (hbl : blkC C.N X.env.scope scope (ownP C os) = true) (hmt : mT C scope tg t = true) (hts : ∀ j ∈ tgs tg, j ∈ os) (hnd : (tgs tg).Nodup) (hp : plainX i = true) (hio : ioE elt = false) (hil : ioL ifs = false)
    (hi : SI C Φ X own vw it t i)
    (hf : ∀ X', Blk X scope X' → STs C Φ X' [] (own ++ vw ++ (if shI C.sigs (own ++ vw) it = true then [] else tgs tg)) ifs fs)
    (he : ∀ X', Blk X scope X' → SE C Φ X' [] (own ++ vw ++ (if shI C.sigs (own ++ vw) it = true then [] else tgs tg)) elt x) {y : Str} {j : Nat} {py spos : Pos} (hy : C.N[j]? = some y) (hyl : X.env.scope.names.lookup y = some .local) (hk : X.env.scope.kind = .function) (hl : (py.line == pos.line) = true)
    (ha : (scope.names.any fun (n, k) => n == y && (k == .local || k == .cell)) = false) : PS X (.Assign [.Name y py] (.ListComp x [⟨t, i, fs, 0⟩] scope pos) spos) (tAsg (tLc (WI X t i) (gT X.K tg) (tts X scope fs) (tes X scope x) os) (gName j)) := by
  have hbo : BlkOk X.N X.env.scope scope (ownP C os) := by rw [F.nN]; exact blkOk_by hbl
  have z := ps_setLc (spos := spos) (g := gT X.K tg) (tt := tts X scope fs) (te := tes X scope x) F.calm (by rw [F.nN]; exact F.nd) (by rw [F.nN]; exact hy) hyl (sw_true hk hyl hl ha) (Cy.wi (tg := t) (iter := i)) hbo
    (fun s H c cl fp => ?_) (fun s H c cl fp => ⟨fun pins s' σ' H' Q' I' w => w _ ⟨s, H, c, cl, fp, rfl⟩ pins s' I'⟩) (fun s H c cl fp => ⟨fun pins s' σ' H' Q' I' w => w _ ⟨s, H, c, cl, fp, rfl⟩ pins s' I'⟩) (fun z => plain_fold hp z)
  · rw [ownP_map] at z
    exact z
  · have hb : Blk X scope (X.blk s H scope (compEnvC scope cl c X.env) fp) := ⟨s, H, c, cl, fp, rfl⟩
    exact pgT (F.blk hb).1 hb.stok hmt
end
end Cy
end
section
set_option Elab.async false
set_option linter.all false
set_option maxRecDepth 100000
set_option maxHeartbeats 4000000
namespace Cy
open PySem L2 PyProof.Rows
variable [ClTab] [Fxd]
section
variable {C : Ct} {Φ : Nat → Fn} {k : Nat} {X : Cx}
theorem wipeE_none {os : List Nat} {e : En} {i : Nat} (h : i ∈ os) : ∀ d, (wipeE os e)[i]? ≠ some (some d) := fun d z => (wipeE_some z).2 h
theorem wipe_some {σ : L2.St} {os : List Nat} {i : Nat} {v : V} (h : (wipe σ os)[i]? = some (some v)) : i ∉ os ∧ σ[i]? = some (some v) := by
  by_cases ho : i ∈ os
  · rw [wipe_in ho] at h
    split at h <;> simp at h
  · exact ⟨ho, by rw [← wipe_out ho]; exact h⟩
theorem SR.wipeS {K : PySem.W.Frag} {n : Nat} {own vw os : List Nat} {Z P : Addr → Prop} {σ : L2.St} {H : Hp} {env : En} {As : Asg} (S : SR K n own vw Z P σ H env As) (hox : ∀ j ∈ os, Fxd.fx j = none) :
    SR K n own vw Z P (wipe σ os) H (wipeE os env) (fun i => if i ∈ os then [] else As i) where
  len := by rw [wipe_length]; exact S.len
  lenE := by rw [wipeE_length]; exact S.lenE
  rep := fun i d h => by
    obtain ⟨h1, h2⟩ := wipeE_some h
    obtain ⟨v, a, b⟩ := S.rep i d h1
    rw [if_neg h2]
    exact ⟨v, by rw [wipe_out h2]; exact a, b⟩
  non := fun i h => by
    by_cases ho : i ∈ os
    · rw [if_pos ho]
    · rw [if_neg ho]
      refine S.non i fun d z => h d ?_
      rw [wipeE_out ho]; exact z
  shr := fun i h1 h2 a ha => by
    split at ha
    · cases ha
    · exact S.shr i h1 h2 a ha
  nod := fun i h => by
    split
    · exact List.nodup_nil
    · exact S.nod i h
  noP := fun i h a ha => by
    split at ha
    · cases ha
    · exact S.noP i h a ha
  dis := fun i hi j hj ne a ha hb => by
    split at ha
    · cases ha
    · split at hb
      · cases hb
      · exact S.dis i hi j hj ne a ha hb
  zp := S.zp
  ph := S.ph
  fix := fun i v h => by
    have ho : i ∉ os := fun z => by rw [hox i z] at h; cases h
    rw [wipe_out ho]; exact S.fix i v h
theorem SR.unwipe {K : PySem.W.Frag} {n : Nat} {own vw os : List Nat} {Z P : Addr → Prop} {σ : L2.St} {H : Hp} {env : En} {As : Asg} (S : SR K n own vw Z P (wipe σ os) H env As) : SR K n own vw Z P σ H env As where
  len := by have := S.len; rwa [wipe_length] at this
  lenE := S.lenE
  rep := fun i d h => by
    obtain ⟨v, a, b⟩ := S.rep i d h
    exact ⟨v, (wipe_some a).2, b⟩
  non := S.non
  shr := S.shr
  nod := S.nod
  noP := S.noP
  dis := S.dis
  zp := S.zp
  ph := S.ph
  fix := fun i v h => (wipe_some (S.fix i v h)).2
theorem comIL_len {bt : D → En → Option En} {elt : En → Option (Rs D)} {os : List Nat} : ∀ {xs ds : List D} {e e' : En}, comIL bt elt os xs e = some (.ok ds e') → ds.length ≤ LMX
  | [], ds, e, e', h => by
    simp only [comIL, Option.some.injEq, Rs.ok.injEq] at h
    rw [← h.1]; exact Nat.zero_le _
  | x :: xs, ds, e, e', h => by
    simp only [comIL] at h
    split at h
    · cases h
    · split at h
      · split at h
        · split at h
          · split at h
            · rename_i hl
              simp only [Option.some.injEq, Rs.ok.injEq] at h
              rw [← h.1]; exact hl
            · cases h
          · cases h
        · cases h
      · cases h
theorem se_comI {own vw os : List Nat} {elt : DE} {tg : Tg} {es : DEs} {x t i : Expr} {scope : Scope} {pos : Pos} (F : Fx C Φ k X)
    (hox : ∀ j ∈ os, Fxd.fx j = none) (hbl : blkC C.N X.env.scope scope (ownP C os) = true) (hmt : mT C scope tg t = true) (hts : ∀ j ∈ tgs tg, j ∈ os) (hnd : (tgs tg).Nodup) (hp : plainX i = true)
    (hi : SI C Φ X own vw (.rng es) t i) (hio : ioL es = false)
    (he : ∀ X', Blk X scope X' → SE C Φ X' own vw elt x) :
    SE C Φ X own vw (.comI elt tg es os) (.ListComp x [⟨t, i, [], 0⟩] scope pos) := by
  intro Z P σ H env As d env' S e Q q
  have hbo : BlkOk X.N X.env.scope scope (ownP C os) := by rw [F.nN]; exact blkOk_by hbl
  refine (pe_lc (g := gT X.K tg) (tt := tts X scope []) (te := tes X scope x) F.calm (by rw [F.nN]; exact F.nd) Cy.wi hbo
    (fun s H c cl fp => ?_) (fun s H c cl fp => ⟨fun pins s' σ' H' Q' I' w => w _ ⟨s, H, c, cl, fp, rfl⟩ pins s' I'⟩) (fun s H c cl fp => ⟨fun pins s' σ' H' Q' I' w => w _ ⟨s, H, c, cl, fp, rfl⟩ pins s' I'⟩) (fun z => plain_fold hp z)).we ?_
  · have hb : Blk X scope (X.blk s H scope (compEnvC scope cl c X.env) fp) := ⟨s, H, c, cl, fp, rfl⟩
    exact pgT (F.blk hb).1 hb.stok hmt
  rw [ownP_map]
  simp only [ev] at e
  obtain ⟨args, e1, h1, h2⟩ := bd_inv e
  split at h2
  rotate_left
  · cases h2
  rename_i ns hns
  obtain ⟨ds, eE, h3, h4⟩ := bd_inv h2
  simp only [Option.some.injEq, Rs.ok.injEq] at h4
  obtain ⟨rfl, rfl⟩ := h4
  have h1' : evI Φ (.rng es) env = some (.ok (ns.map D.int) e1) := by
    simp only [evI, h1, bd, hns]; rfl
  refine hi Z P σ H env As _ _ S h1' _ fun J H1 A As1 S1 T1 io mA E1 => ?_
  have T1 : TR own false H As H1 As1 := by
    have e : ioI (.rng es) = false := hio
    rw [e] at T1; exact T1
  have nwA : ∀ a ∈ A, New own H As As1 a := (E1.1 rfl).2
  intro Dn hDn
  have hz := comIL_len h3
  have S1w := S1.wipeS (os := os) hox
  have notDn : ∀ l, Dn ∉ As1 l := fun l c => by
    obtain ⟨xs, m⟩ := S1.slot_mut c
    rw [hDn] at m; cases m
  have smD : Same H1 (upd H1 Dn (.lst [])) := same_new hDn
  refine lc_it (g := gT X.K tg) (tt := tts X scope []) (te := tes X scope x) (vs := os) (σ := σ) (H1 := H1) (D := Dn) (Qd := fun H => Q (.ref Dn) H) io (fun j Hj => ∃ d1 d2 ej Asj, ds = d1 ++ d2 ∧ comIL (fun x e2 => bindT tg x e2) (fun e2 => ev Φ elt e2) os ((ns.map D.int).drop j) ej = some (.ok d2 eE) ∧
      SR X.K C.N.length own vw Z P (wipe σ os) Hj ej Asj ∧ (∀ i ∈ os, ∀ d, ej[i]? ≠ some (some d)) ∧ TR own true H1 As1 Hj Asj ∧ (∀ l, Dn ∉ Asj l) ∧ ∃ acc, Hj Dn = some (.lst acc) ∧ Reps X.K Hj acc d1 []) ?_ ?_ ?_ ?_
  · refine ⟨[], ds, wipeE os e1, _, rfl, by simpa using h3, S1w.grow smD, fun i hi => wipeE_none hi, ⟨(TR.grow (own := own) (io := true) (As := As1) smD).mono, (TR.grow (own := own) (io := true) (As := As1) smD).keep, fun a ⟨l, hl, ha⟩ => ?_, fun l a ha => ?_⟩, fun l c => ?_, [], upd_same, .nil⟩
    · dsimp only at ha
      split at ha
      · cases ha
      · exact .inl ⟨l, hl, ha⟩
    · try dsimp only at ha
      split at ha
      · cases ha
      · exact .inl ⟨l, ha⟩
    · try dsimp only at c
      split at c
      · cases c
      · exact notDn l c
  · rintro j Hj hj ⟨d1, d2, ej, Asj, _, _, Sj, _, Tj, _, _⟩
    exact ⟨fun a o h n => Tj.keep a o h fun _ c => by
      obtain ⟨xs, m⟩ := S1.own_mut c
      rw [h] at m
      exact n xs (Option.some.inj m), fun a ha o h => Tj.keep a o h fun _ => (nwA a ha).2⟩
  · rintro j v Hj Hj' hj ⟨d1, d2, ej, Asj, ed, ec, Sj, wj, Tj, nDj, acc, hD, rA⟩ ⟨sm2, dj, B0, hdj, rj, sB⟩
    have hdr : (ns.map D.int).drop j = dj :: (ns.map D.int).drop (j + 1) := by
      obtain ⟨hl, hg⟩ := List.getElem?_eq_some_iff.mp hdj
      rw [List.drop_eq_getElem_cons hl, hg]
    have hpj : pureD dj = true := by
      have := List.mem_of_getElem? hdj
      obtain ⟨z, _, rfl⟩ := List.mem_map.mp this
      simp [pureD]
    have hB0 := rj.pure hpj
    subst hB0
    rw [hdr] at ec
    simp only [comIL] at ec
    split at ec
    · cases ec
    rename_i e2 hbt
    refine bind_ok rj hbt (by rw [Sj.len, Sj.lenE]) hnd (fun z hz => ?_) fun σ2 B R => ?_
    · rw [Sj.lenE]
      have hz2 := hts z hz
      have hix := hbo.ix (C.N.getD z "", z) (by unfold ownP; exact List.mem_map.mpr ⟨z, hz2, rfl⟩)
      rw [F.nN] at hix
      exact (List.getElem?_eq_some_iff.mp hix).1
    have wσ : wipe σ2 os = wipe σ os := wipe_eq (by rw [R.len, wipe_length]) (fun i hi => (R.out i hi).1) hts
    refine ⟨wσ, ?_⟩
    have Sj' := Sj.grow sm2
    have emp : ∀ i ∈ tgs tg, Asj i = [] := fun i hi => Sj.non i (wj i (hts i hi))
    have S2 : SR X.K C.N.length own vw Z P σ2 Hj' e2 Asj := by
      refine ⟨by rw [R.len]; exact Sj.len, by rw [R.lenE]; exact Sj.lenE, fun i d h => ?_, fun i h => ?_, Sj'.shr, Sj'.nod, Sj'.noP, Sj'.dis, Sj'.zp, Sj'.ph, fun i v h => ?_⟩
      · by_cases ht : i ∈ tgs tg
        · obtain ⟨v', d', g1, g2, g3⟩ := R.inn i ht
          rw [h] at g2
          simp only [Option.some.injEq] at g2
          subst g2
          have eB : B i = [] := List.eq_nil_iff_forall_not_mem.mpr fun a ha => by
            have := R.sub i ht a ha
            cases this
          rw [eB] at g3
          rw [emp i ht]; exact ⟨v', g1, g3⟩
        · obtain ⟨y1, y2⟩ := R.out i ht
          rw [y1]
          rw [y2] at h
          exact Sj'.rep i d h
      · by_cases ht : i ∈ tgs tg
        · exact emp i ht
        · refine Sj'.non i fun d z => h d ?_
          rw [(R.out i ht).2]; exact z
      · have ho : i ∉ os := fun z => by rw [hox i z] at h; cases h
        rw [(R.out i (fun z => ho (hts i z))).1]; exact Sj'.fix i v h
    split at ec
    rotate_left
    · cases ec
    rename_i dd e4 hee
    split at ec
    rotate_left
    · cases ec
    rename_i hpd
    split at ec
    rotate_left
    · cases ec
    rename_i d3 e5 ec3
    split at ec
    rotate_left
    · cases ec
    rename_i hlen
    simp only [Option.some.injEq, Rs.ok.injEq] at ec
    obtain ⟨rfl, rfl⟩ := ec
    intro X' hX
    refine pts_nil.we ?_
    unfold tYes
    simp only [if_true]
    intro X2 hX2
    obtain ⟨FX2, kk2, aa2⟩ := F.blk hX2
    refine he X2 hX2 Z P σ2 Hj' e2 Asj dd e4 (by rw [kk2]; exact S2) hee _ fun w H4 A4 As4 S4 T4 r4 E4 => ?_
    rw [kk2] at r4 S4
    have hA4 := r4.pure hpd
    subst hA4
    have nO : ¬ OwA own Asj Dn := fun ⟨l, _, c⟩ => nDj l c
    have hD4 : H4 Dn = some (.lst acc) := T4.keep _ _ (sm2 _ _ hD) fun _ => nO
    have nD4 : ∀ l, Dn ∉ As4 l := fun l c => by
      rcases T4.al l Dn c with ⟨m, z⟩ | z
      · exact nDj m z
      · rw [sm2 _ _ hD] at z; cases z
    have S4w := S4.wipeS (os := os) hox
    rw [wσ] at S4w
    have nD4w : ∀ l, Dn ∉ (fun i => if i ∈ os then [] else As4 i) l := fun l c => by
      dsimp only at c
      split at c
      · cases c
      · exact nD4 l c
    have S5 := S4w.apart (ho := .lst (acc ++ [w])) nD4w ⟨⟨.lst acc, trivial⟩, hD4⟩
    have smU : ∀ a o, H4 a = some o → a ≠ Dn → (upd H4 Dn (.lst (acc ++ [w]))) a = some o := fun a o h n => by rw [upd_ne n]; exact h
    have nmU : ∀ a o, H4 a = some o → (∀ xs : MO, o ≠ xs.1) → (upd H4 Dn (.lst (acc ++ [w]))) a = some o := fun a o h n => smU a o h fun z => n ⟨.lst acc, trivial⟩ (by rw [z, hD4] at h; exact (Option.some.inj h).symm)
    have T4' : TR own true Hj Asj H4 As4 := ((TR.grow (io := true) sm2).trans T4 id (fun _ => rfl))
    have T5 := Tj.trans T4' id id
    have rA4 : Reps X.K H4 acc d1 [] := rA.keep (fun a o h n => T4'.keep a o h fun _ c => by
      obtain ⟨xs, m⟩ := Sj.own_mut c
      rw [h] at m
      exact n xs (Option.some.inj m)) (fun a ha => nomatch ha)
    refine ⟨acc, hD4, ?_, d1 ++ [dd], d3, wipeE os e4, _, by rw [ed, List.append_assoc]; rfl, ec3, S5, fun i hi => wipeE_none hi, ⟨fun a h => ?_, fun a o h n => ?_, fun a ⟨l, hl, ha⟩ => ?_, fun l a ha => ?_⟩, nD4w, acc ++ [w], upd_same, (rA4.keep nmU fun a ha => nomatch ha).append (Reps.one (r4.keep nmU fun a ha => nomatch ha))⟩
    · rw [rA4.length]
      refine line_ltLMX (Nat.lt_of_lt_of_le ?_ hz)
      rw [ed, List.length_append, List.length_cons]; omega
    · by_cases z : a = Dn
      · rw [z, upd_same]; simp
      · rw [upd_ne z]; exact T5.mono a h
    · rw [upd_ne (show a ≠ Dn from fun z => by rw [z, hDn] at h; cases h)]
      exact T5.keep a o h n
    · dsimp only at ha
      split at ha
      · cases ha
      · exact T5.ow a ⟨l, hl, ha⟩
    · try dsimp only at ha
      split at ha
      · cases ha
      · exact T5.al l a ha
  · rintro Hj ⟨d1, d2, ej, Asj, ed, ec, Sj, wj, Tj, nDj, acc, hD, rA⟩
    rw [List.drop_length] at ec
    simp only [comIL, Option.some.injEq, Rs.ok.injEq] at ec
    obtain ⟨rfl, rfl⟩ := ec
    rw [List.append_nil] at ed
    subst ed
    have TT := T1.trans Tj (io := true) (fun z => by cases z) id
    have np : New own H As Asj Dn := ⟨.inl (T1.back hDn), fun ⟨l, _, c⟩ => nDj l c⟩
    refine q (.ref Dn) Hj [Dn] Asj Sj.unwipe TT (.lst hD rA) ⟨fun _ => ⟨by simp, fun a ha => ?_⟩, fun _ a ha => ?_, fun a ha => ?_⟩
    · have : a = Dn := by simpa using ha
      exact this ▸ np
    · have : a = Dn := by simpa using ha
      exact .inl (this ▸ np)
    · have : a = Dn := by simpa using ha
      exact .inl (this ▸ T1.back hDn)
end
end Cy
end
section
set_option Elab.async false
set_option linter.all false
set_option maxRecDepth 100000
set_option maxHeartbeats 4000000
namespace Cy
open PySem L2 PyProof.Rows
variable [ClTab] [Fxd]
/-- an owned slot's data less some of its lists -/
theorem SR.shrink {K : PySem.W.Frag} {n : Nat} {own vw : List Nat} {Z P : Addr → Prop} {σ : L2.St} {H : Hp} {env : En} {As : Asg} (S : SR K n own vw Z P σ H env As) {i : Nat} {d1 : D} {v0 : V} {A1 : List Addr} (hi : i ∈ own) (hn : i < n) (hv : σ[i]? = some (some v0)) (r : Rep K H v0 d1 A1) (nd : A1.Nodup) (hs : ∀ a ∈ A1, a ∈ As i) :
    SR K n own vw Z P σ H (env.set i (some d1)) (fun j => if j = i then A1 else As j) where
  len := S.len
  lenE := by rw [List.length_set]; exact S.lenE
  rep := fun j d h => by
    by_cases e : j = i
    · subst e
      rw [List.getElem?_set_self (by rw [S.lenE]; exact hn)] at h
      simp only [Option.some.injEq] at h; subst h
      rw [if_pos rfl]; exact ⟨v0, hv, r⟩
    · rw [List.getElem?_set_ne (fun z => e z.symm)] at h
      rw [if_neg e]; exact S.rep j d h
  non := fun j h => by
    by_cases e : j = i
    · subst e
      exact absurd (List.getElem?_set_self (by rw [S.lenE]; exact hn)) (h d1)
    · rw [if_neg e]
      exact S.non j fun d z => h d (by rw [List.getElem?_set_ne (fun z => e z.symm)]; exact z)
  shr := fun j h1 h2 a ha => by
    by_cases e : j = i
    · subst e; exact absurd hi h1
    · rw [if_neg e] at ha; exact S.shr j h1 h2 a ha
  nod := fun j hj => by
    by_cases e : j = i
    · rw [if_pos e]; exact nd
    · rw [if_neg e]; exact S.nod j hj
  noP := fun j hj a ha => by
    by_cases e : j = i
    · rw [if_pos e] at ha; exact S.noP i hi a (hs a ha)
    · rw [if_neg e] at ha; exact S.noP j hj a ha
  dis := fun j hj l hl hne a ha hb => by
    by_cases e : j = i
    · rw [if_pos e] at ha
      by_cases e2 : l = i
      · exact hne (e.trans e2.symm)
      · rw [if_neg e2] at hb; exact S.dis i hi l hl (fun z => e2 z.symm) a (hs a ha) hb
    · rw [if_neg e] at ha
      by_cases e2 : l = i
      · rw [if_pos e2] at hb; exact S.dis j hj i hi e a ha (hs a hb)
      · rw [if_neg e2] at hb; exact S.dis j hj l hl hne a ha hb
  zp := S.zp
  ph := S.ph
  fix := S.fix
theorem isNon_ne {K : PySem.W.Frag} {H : Hp} {v : V} {d : D} {A : List Addr} (r : Rep K H v d A) (h : isNonD d = false) : v ≠ .non := by
  intro z; subst z
  cases r with
  | non => simp [isNonD] at h
  | any hn => exact hn rfl
/-- an item of a list or a tuple, and what is left without it -/
theorem take_rep {K : PySem.W.Frag} {H : Hp} {v0 : V} {d0 k d d1 : D} {A : List Addr} (r : Rep K H v0 d0 A) (hx : ixD d0 k = some d) (hs : setA d0 k = some d1) (hn : isNonD d = false) :
    ∃ p vs kk v C A', v0 = .ref p ∧ k = .int kk ∧ (SqL K H p vs ∨ SqT K H p vs) ∧ atI vs kk = some v ∧ Rep K H v d C ∧ Rep K H v0 d1 A' ∧ (∀ a ∈ C, a ∈ A) ∧ (∀ a ∈ A', a ∈ A) ∧ (A.Nodup → C.Nodup ∧ A'.Nodup ∧ ∀ a ∈ C, a ∉ A') := by
  have sub : ∀ {vs : List V} {ds : List D} {A0 : List Addr} {kk : Int} {j : Nat}, Reps K H vs ds A0 → ixP ds.length kk = some j → ds[j]? = some d →
      ∃ v C A1 A2, A0 = A1 ++ C ++ A2 ∧ atI vs kk = some v ∧ Rep K H v d C ∧ Reps K H vs (ds.set j .any) (A1 ++ [] ++ A2) := fun {vs ds A0 kk j} r hj hd => by
    obtain ⟨A1, C, A2, v, e, g, rv, fin⟩ := r.sub hd
    refine ⟨v, C, A1, A2, e, ?_, rv, fin H [] .any (fun _ _ h _ => h) (fun _ _ _ h => h) (.any (isNon_ne rv hn))⟩
    unfold atI
    rw [r.length, ← ixP_N, hj]; exact g
  cases r with
  | @lst p vs ds A0 h1 r =>
    cases k <;> simp only [ixD, setA, keyD, reduceCtorEq, Option.bind_none] at hx hs
    rename_i kk
    simp only [Option.bind_eq_some_iff, Option.map_eq_some_iff] at hx hs
    obtain ⟨j, hj, hd⟩ := hx
    obtain ⟨j', hj', hs⟩ := hs
    rw [hj] at hj'
    simp only [Option.some.injEq] at hj'
    subst hj'; subst hs
    obtain ⟨v, C, A1, A2, e, g, rv, r2⟩ := sub r hj hd
    refine ⟨p, vs, kk, v, C, p :: (A1 ++ [] ++ A2), rfl, rfl, .inl (SqL.of h1), g, rv, .lst h1 r2, fun a ha => by rw [e]; simp [ha], fun a ha => ?_, fun nd => ?_⟩
    · rw [e]
      rcases List.mem_cons.mp ha with z | z
      · rw [z]; exact List.mem_cons_self ..
      · rw [List.append_nil] at z
        rcases List.mem_append.mp z with z | z <;> simp [z]
    · rw [e] at nd
      obtain ⟨n1, n2⟩ := List.nodup_cons.mp nd
      obtain ⟨m1, m2, m3⟩ := List.nodup_append.mp n2
      obtain ⟨k1, k2, k3⟩ := List.nodup_append.mp m1
      rw [List.append_nil]
      refine ⟨k2, List.nodup_cons.mpr ⟨fun z => n1 ?_, List.nodup_append.mpr ⟨k1, m2, fun a ha b hb z => m3 a (List.mem_append_left _ ha) b hb z⟩⟩, fun a ha z => ?_⟩
      · rcases List.mem_append.mp z with z | z <;> simp [z]
      · rcases List.mem_cons.mp z with z | z
        · exact n1 (by rw [← z]; simp [ha])
        · rcases List.mem_append.mp z with z | z
          · exact k3 a z a ha rfl
          · exact m3 a (List.mem_append_right _ ha) a z rfl
  | @tup p vs ds A0 h1 r =>
    cases k <;> simp only [ixD, setA, keyD, reduceCtorEq, Option.bind_none] at hx hs
    rename_i kk
    simp only [Option.bind_eq_some_iff, Option.map_eq_some_iff] at hx hs
    obtain ⟨j, hj, hd⟩ := hx
    obtain ⟨j', hj', hs⟩ := hs
    rw [hj] at hj'
    simp only [Option.some.injEq] at hj'
    subst hj'; subst hs
    obtain ⟨v, C, A1, A2, e, g, rv, r2⟩ := sub r hj hd
    refine ⟨p, vs, kk, v, C, A1 ++ [] ++ A2, rfl, rfl, .inr h1, g, rv, .tup h1 r2, fun a ha => by rw [e]; simp [ha], fun a ha => ?_, fun nd => ?_⟩
    · rw [e]
      rw [List.append_nil] at ha
      rcases List.mem_append.mp ha with z | z <;> simp [z]
    · rw [e] at nd
      obtain ⟨m1, m2, m3⟩ := List.nodup_append.mp nd
      obtain ⟨k1, k2, k3⟩ := List.nodup_append.mp m1
      rw [List.append_nil]
      refine ⟨k2, List.nodup_append.mpr ⟨k1, m2, fun a ha b hb z => m3 a (List.mem_append_left _ ha) b hb z⟩, fun a ha z => ?_⟩
      rcases List.mem_append.mp z with z | z
      · exact k3 a z a ha rfl
      · exact m3 a (List.mem_append_right _ ha) a z rfl
  | _ => simp [setA] at hs
section
variable {C : Ct} {Φ : Nat → Fn} {k : Nat} {X : Cx}
theorem ix_two : IxR X (fun x y H Q => rIxL X.K x y H Q ∨ rIxT X.K x y H Q) := ix_list.or ix_tup
theorem se_tk {own vw : List Nat} {i : Nat} {a : DE} {x : Str} {r : Expr} {p pos : Pos} (F : Fx C Φ k X) (hn : C.N[i]? = some x) (hv : Vis X.env.scope x) (ho : okN x = true) (hi : i ∈ own) (hp : plainX r = true) (hio : ioE a = false) (ha : SE C Φ X own vw a r) :
    SE C Φ X own vw (.tk i a) (.Subscript (.Name x p) r pos) := by
  intro Z P σ H env As d env' S e Q q
  simp only [ev] at e
  split at e
  rotate_left
  · cases e
  rename_i dz hz
  obtain ⟨kd, e1, h1, h2⟩ := bd_inv e
  split at h2
  rotate_left
  · cases h2
  rename_i d0 hd0
  split at h2
  rotate_left
  · cases h2
  rename_i d' d1 hx hs
  split at h2
  · rename_i hnn
    simp only [Option.some.injEq, Rs.ok.injEq] at h2
    obtain ⟨rfl, rfl⟩ := h2
    have hd : d' = .non := by cases d' <;> simp [isNonD] at hnn <;> rfl
    subst hd
    obtain ⟨v0, hv0, _⟩ := S.rep i dz hz
    refine (pe_ix ix_two (pe_var (i := i) (by rw [F.nN]; exact hn) hv (okN_eq ho).1 (okN_eq ho).2) Cy.we (plain_ix hp)).we ⟨v0, hv0, ?_⟩
    refine ha Z P σ H env As _ _ S h1 _ fun vk H1 Ak As1 S1 T1 rk Ek => ?_
    obtain ⟨v0', hv0', r0⟩ := S1.rep i d0 hd0
    rw [hv0] at hv0'
    simp only [Option.some.injEq] at hv0'
    subst hv0'
    generalize As1 i = Ai at r0
    cases kd with
    | int kk =>
      cases rk
      cases r0 with
      | @lst pp vs ds A0 g1 r =>
        simp only [ixD, Option.bind_eq_some_iff] at hx
        obtain ⟨j, hj, hc⟩ := hx
        obtain ⟨w, B, w1, w2, _⟩ := r.get hc
        cases w2
        exact .inl ⟨pp, vs, kk, .non, rfl, rfl, SqL.of g1, by unfold atI; rw [r.length, ← ixP_N, hj]; exact w1, q .non H1 [] As1 S1 T1 .non EF.pure⟩
      | @tup pp vs ds A0 g1 r =>
        simp only [ixD, Option.bind_eq_some_iff] at hx
        obtain ⟨j, hj, hc⟩ := hx
        obtain ⟨w, B, w1, w2, _⟩ := r.get hc
        cases w2
        exact .inr ⟨pp, vs, kk, .non, rfl, rfl, g1, by unfold atI; rw [r.length, ← ixP_N, hj]; exact w1, q .non H1 [] As1 S1 T1 .non EF.pure⟩
      | _ => simp [setA] at hs
    | _ => cases d0 <;> simp [setA] at hs
  rename_i hnn
  have hnn : isNonD d' = false := by simpa using hnn
  simp only [Option.some.injEq, Rs.ok.injEq] at h2
  obtain ⟨rfl, rfl⟩ := h2
  obtain ⟨v0, hv0, _⟩ := S.rep i dz hz
  have hlt : i < C.N.length := by
    have := (List.getElem?_eq_some_iff.mp hz).1
    rw [S.lenE] at this; exact this
  refine (pe_ix ix_two (pe_var (i := i) (by rw [F.nN]; exact hn) hv (okN_eq ho).1 (okN_eq ho).2) Cy.we (plain_ix hp)).we ⟨v0, hv0, ?_⟩
  refine ha Z P σ H env As _ _ S h1 _ fun vk H1 Ak As1 S1 T1 rk Ek => ?_
  have T1 : TR own false H As H1 As1 := by rw [hio] at T1; exact T1
  obtain ⟨v0', hv0', r0⟩ := S1.rep i d0 hd0
  rw [hv0] at hv0'
  simp only [Option.some.injEq] at hv0'
  subst hv0'
  obtain ⟨pp, vs, kk, v, Cc, A', rfl, rfl, sq, g, rv, r2, c1, c2, c3⟩ := take_rep r0 hx hs hnn
  obtain ⟨n1, n2, n3⟩ := c3 (S1.nod i hi)
  cases rk
  have S2 := S1.shrink hi hlt hv0 r2 n2 c2
  have sub : ∀ a, OwA own (fun j => if j = i then A' else As1 j) a → OwA own As1 a ∧ a ∉ Cc := fun a ⟨j, hj, ha⟩ => by
    dsimp only at ha
    by_cases e : j = i
    · rw [if_pos e] at ha; exact ⟨⟨i, hi, c2 a ha⟩, fun z => n3 a z ha⟩
    · rw [if_neg e] at ha; exact ⟨⟨j, hj, ha⟩, fun z => S1.dis j hj i hi e a ha (c1 a z)⟩
  have T2 : TR own false H1 As1 H1 (fun j => if j = i then A' else As1 j) := ⟨fun _ h => h, fun _ _ h _ => h, fun a h => .inl (sub a h).1, fun j a h => by
    split at h
    · exact .inl ⟨i, c2 a h⟩
    · exact .inl ⟨j, h⟩⟩
  have nw : ∀ a ∈ Cc, New own H1 As1 (fun j => if j = i then A' else As1 j) a := fun a ha => ⟨.inr ⟨i, hi, c1 a ha⟩, fun c => (sub a c).2 ha⟩
  have E2 : EF own Z (frE C.sigs (.tk i a)) (shE C.sigs (own ++ vw) (.tk i a)) H1 As1 (fun j => if j = i then A' else As1 j) Cc := ⟨fun _ => ⟨n1, nw⟩, fun _ a ha => .inl (nw a ha), fun a ha => .inr ⟨i, c1 a ha⟩⟩
  have fin := q v H1 Cc _ S2 (by show TR own (ioE a) _ _ _ _; rw [hio]; exact T1.trans T2 (io := false) id id) rv (EF.back T1 E2)
  rcases sq with sq | sq
  · exact .inl ⟨pp, vs, kk, v, rfl, rfl, sq, g, fin⟩
  · exact .inr ⟨pp, vs, kk, v, rfl, rfl, sq, g, fin⟩
end
end Cy
end
section
set_option Elab.async false
set_option linter.all false
set_option maxRecDepth 100000
set_option maxHeartbeats 4000000
namespace Cy
open PySem L2 PyProof.Rows
variable [ClTab] [Fxd]
section
variable {C : Ct} {Φ : Nat → Fn} {k : Nat}
def SEB (C : Ct) (Φ : Nat → Fn) (X : Cx) (own vw : List Nat) (e : DE) (x : Expr) : Prop := SE C Φ X own vw e x ∧ SB C Φ X own vw (ioE e) (ev Φ e) (WT X x)
theorem WE.mono {X : Cx} {e : Expr} {σ : L2.St} {H : Hp} {Q Q' : VK} (h : WE X e σ H Q) (q : ∀ v H', Q v H' → Q' v H') : WE X e σ H Q' := fun pins s I =>
  wpAny_mono (h pins s I) (fun u s' ⟨v, H', I', r, z⟩ => ⟨v, H', I', r, q v H' z⟩) fun _ _ z => z
theorem WW.wt {X : Cx} {e : Expr} {σ : L2.St} {H : Hp} {Q : Bool → Hp → Prop} (h : WW X e σ H Q) : WT X e σ H Q := fun pins s I => h _ pins s I
theorem Each.imp {R R' : DE → Expr → Prop} (f : ∀ a x, R a x → R' a x) : ∀ {es : DEs} {xs : List Expr}, Each R es xs → Each R' es xs
  | _, _, .nil => .nil
  | _, _, .cons h t => .cons (f _ _ h) (Each.imp f t)
theorem op_eq {op : Operator} {o : BO} (h : (op == opOf o) = true) : op = opOf o := by
  cases o <;> cases op <;> first | rfl | exact absurd h (by decide)
theorem cop_eq {op : CmpOp} {o : CO} (h : (op == copOf o) = true) : op = copOf o := by
  cases o <;> cases op <;> first | rfl | exact absurd h (by decide)
theorem Fx.un {X : Cx} (F : Fx C Φ k X) : X.A.units + 65 < cLine := by have := F.room.un; omega
theorem seb_val {X : Cx} {own vw : List Nat} {e : DE} {x : Expr} (ht : ∀ whole, isTrue x X.env whole = (do let v ← whole; standAt x.pos; holding [v] (truthy v))) (h : SE C Φ X own vw e x) : SEB C Φ X own vw e x := ⟨h, sb_val ht h⟩
theorem sb_pur {X : Cx} {own vw : List Nat} {a : DE} {x : Expr} (h : SB C Φ X own vw (ioE a) (ev Φ a) (WT X x)) : SB C Φ X own vw (ioE (.pur a)) (ev Φ (.pur a)) (WT X x) := by
  intro Z P σ H env As b env' S e Q q
  simp only [ev] at e
  obtain ⟨y, e1, h1, h2⟩ := bd_inv e
  split at h2
  · simp only [Option.some.injEq, Rs.ok.injEq] at h2
    obtain ⟨rfl, rfl⟩ := h2
    exact h Z P σ H env As _ _ S h1 Q q
  · cases h2
theorem seb_and {X : Cx} {own vw : List Nat} {es : DEs} {xs : List Expr} {p : Pos} (h : Each (SEB C Φ X own vw) es xs) : SEB C Φ X own vw (.and es) (.BoolOp .And xs p) := by
  refine ⟨fun Z P σ H env As d env' S e Q q => ?_, fun Z P σ H env As b env' S e Q q => ?_⟩
  · simp only [ev] at e
    obtain ⟨c, rfl⟩ := evAnd_bl e
    exact (sv_and (p := p) (h.imp fun _ _ z => z.1) Z P σ H env As _ _ S e (fun b H' => Q (.bl b) H') fun H' As' S' T' => q _ _ [] As' S' T' (.bl _) EF.pure).mono fun v H' ⟨b, ev, z⟩ => ev ▸ z
  · simp only [ev] at e
    exact (st_and (p := p) (h.imp fun _ _ z => z.2) Z P σ H env As _ _ S e Q q).wt
theorem seb_or {X : Cx} {own vw : List Nat} {es : DEs} {xs : List Expr} {p : Pos} (h : Each (SEB C Φ X own vw) es xs) : SEB C Φ X own vw (.or es) (.BoolOp .Or xs p) := by
  refine ⟨fun Z P σ H env As d env' S e Q q => ?_, fun Z P σ H env As b env' S e Q q => ?_⟩
  · simp only [ev] at e
    obtain ⟨c, rfl⟩ := evOr_bl e
    exact (sv_or (p := p) (h.imp fun _ _ z => z.1) Z P σ H env As _ _ S e (fun b H' => Q (.bl b) H') fun H' As' S' T' => q _ _ [] As' S' T' (.bl _) EF.pure).mono fun v H' ⟨b, ev, z⟩ => ev ▸ z
  · simp only [ev] at e
    exact (st_or (p := p) (h.imp fun _ _ z => z.2) Z P σ H env As _ _ S e Q q).wt
theorem fx_name {f : Nat} {x : Str} (h : (match C.calls[f]? with | some y => strEq x y | none => false) = true) : C.calls[f]? = some x := by
  cases hc : C.calls[f]? with
  | none => rw [hc] at h; cases h
  | some y => rw [hc] at h; rw [strEq_eq h]
theorem sigAt {f : Nat} {g : Option Nat → Bool → Bool} (h : (match C.sigs[f]? with | some (io, fr) => g io fr | none => false) = true) : ∃ io fr, C.sigs[f]? = some (io, fr) ∧ g io fr = true := by
  cases hs : C.sigs[f]? with
  | none => rw [hs] at h; exact absurd h (by simp)
  | some s => obtain ⟨io, fr⟩ := s; rw [hs] at h; exact ⟨io, fr, rfl, h⟩
theorem mOk_ne {m : Str} (h : mOk m = true) : m ≠ "" ∧ m ≠ "__init__" := by
  unfold mOk strEq at h
  simp only [Bool.and_eq_true, Bool.not_eq_true', decide_eq_false_iff_not] at h
  exact h
theorem ms_at {f : Nat} {c m : Str} (h : (match C.ms[f]? with | some (c', m') => strEq c' c && strEq m' m | none => false) = true) : C.ms[f]? = some (c, m) := by
  cases hc : C.ms[f]? with
  | none => rw [hc] at h; exact absurd h (by simp)
  | some y =>
    obtain ⟨c', m'⟩ := y
    rw [hc] at h
    simp only [Bool.and_eq_true] at h
    rw [strEq_eq h.1, strEq_eq h.2]
theorem Each.sl {X : Cx} {own vw : List Nat} {es : DEs} {xs : List Expr} (h : Each (SEB C Φ X own vw) es xs) (hp : xs.all plainX = true) : SL C Φ X own vw es xs := each_sl (h.imp fun _ _ z => z.1) hp
theorem sts_of {X : Cx} {own vw : List Nat} {ifs : DEs} {fs : List Expr} (h : Each (SEB C Φ X own vw) ifs fs) (hl : fs.length ≤ 1) : STs C Φ X own vw ifs fs := by
  cases h with
  | nil => exact sts_nil
  | cons h1 t => cases t with
    | nil => exact sts_one h1.2
    | cons _ _ => simp at hl
mutual
theorem soundE : ∀ (e : DE) {X : Cx} {own vw : List Nat} {x : Expr}, Fx C Φ k X → mE C X.env.scope e x = true → okE C.sigs own vw e = true → SEB C Φ X own vw e x
  | .v i, X, own, vw, x, F, h, o => by
    simp only [mE] at h
    split at h
    · rename_i e; obtain ⟨p, rfl⟩ := asName_eq e
      simp only [Bool.and_eq_true] at h
      exact seb_val (fun _ => rfl) (se_var F (nameAt_eq h.1.1) (visB_eq h.1.2) h.2)
    · cases h
  | .mv i, X, own, vw, x, F, h, o => by
    simp only [mE] at h
    split at h
    · rename_i e; obtain ⟨p, rfl⟩ := asName_eq e
      simp only [Bool.and_eq_true] at h
      simp only [okE, List.contains_eq_mem, decide_eq_true_eq] at o
      exact seb_val (fun _ => rfl) (se_mv F (nameAt_eq h.1.1) (visB_eq h.1.2) h.2 o)
    · cases h
  | .tk i a, X, own, vw, x, F, h, o => by
    simp only [mE] at h
    split at h
    rotate_left
    · cases h
    rename_i z y e; obtain ⟨p, rfl⟩ := asIx_eq e
    split at h
    rotate_left
    · cases h
    rename_i w e2; obtain ⟨p2, rfl⟩ := asName_eq e2
    simp only [Bool.and_eq_true] at h
    simp only [okE, Bool.and_eq_true, List.contains_eq_mem, decide_eq_true_eq, Bool.not_eq_true'] at o
    exact seb_val (fun _ => rfl) (se_tk F (nameAt_eq h.1.1.1) (visB_eq h.1.1.2) h.1.2 o.1.1 (mE_plain h.2).1 o.2 (soundE a F h.2 o.1.2).1)
  | .pur a, X, own, vw, x, F, h, o => by
    have z := soundE a (own := own) (vw := vw) F (by simpa only [mE] using h) (by simpa only [okE] using o)
    exact ⟨se_pur z.1, sb_pur z.2⟩
  | .c d, X, own, vw, x, F, h, o => by
    simp only [mE] at h
    split at h
    · rename_i e; obtain ⟨j, p, rfl⟩ := asConst_eq e
      exact seb_val (fun _ => rfl) (se_c h)
    · cases h
  | .g y d, X, own, vw, x, F, h, o => by
    simp only [mE] at h
    split at h
    · rename_i e; obtain ⟨p, rfl⟩ := asName_eq e
      simp only [Bool.and_eq_true] at h
      have := strEq_eq h.1.1.1
      subst this
      exact seb_val (fun _ => rfl) (se_g F (gloB_eq h.1.1.2) h.1.2 h.2)
    · cases h
  | .bin op a b, X, own, vw, x, F, h, o => by
    simp only [mE] at h
    split at h
    · rename_i e; obtain ⟨p, rfl⟩ := asBin_eq e
      simp only [Bool.and_eq_true] at h
      simp only [okE, Bool.and_eq_true] at o
      have := op_eq h.1.1
      subst this
      exact seb_val (fun _ => rfl) (se_bin (soundE a F h.1.2 o.1).1 (soundE b F h.2 o.2).1)
    · cases h
  | .neg a, X, own, vw, x, F, h, o => by
    simp only [mE] at h
    split at h
    · rename_i e; obtain ⟨p, rfl⟩ := asUn_eq e
      exact seb_val (fun _ => rfl) (se_neg (soundE a F h (by simpa only [okE] using o)).1)
    · cases h
  | .cmp op a b, X, own, vw, x, F, h, o => by
    simp only [mE] at h
    split at h
    · rename_i e; obtain ⟨p, rfl⟩ := asCmp1_eq e
      simp only [Bool.and_eq_true] at h
      simp only [okE, Bool.and_eq_true] at o
      have := cop_eq h.1.1
      subst this
      have ha := soundE a F h.1.2 o.1
      have hb := soundE b F h.2 o.2
      exact ⟨se_cmp F.un (mE_plain h.2).1 ha.1 hb.1, sb_cmp F.un (mE_plain h.2).1 ha.1 hb.1⟩
    · cases h
  | .chn op op' a b c, X, own, vw, x, F, h, o => by
    simp only [mE] at h
    split at h
    · rename_i e; obtain ⟨p, rfl⟩ := asCmp2_eq e
      simp only [Bool.and_eq_true] at h
      simp only [okE, Bool.and_eq_true] at o
      have := cop_eq h.1.1.1.1
      subst this
      have := cop_eq h.1.1.1.2
      subst this
      have ha := soundE a F h.1.1.2 o.1.1
      have hb := soundE b F h.1.2 o.1.2
      have hc := soundE c F h.2 o.2
      exact ⟨se_chn F.un (mE_plain h.2).1 ha.1 hb.1 hc.1, sb_chn F.un (mE_plain h.2).1 ha.1 hb.1 hc.1⟩
    · cases h
  | .chn3 op op' op2 a b c d, X, own, vw, x, F, h, o => by
    simp only [mE] at h
    split at h
    · rename_i e; obtain ⟨p, rfl⟩ := asCmp3_eq e
      simp only [Bool.and_eq_true] at h
      simp only [okE, Bool.and_eq_true] at o
      have := cop_eq h.1.1.1.1.1.1
      subst this
      have := cop_eq h.1.1.1.1.1.2
      subst this
      have := cop_eq h.1.1.1.1.2
      subst this
      have ha := soundE a F h.1.1.1.2 o.1.1
      have hb := soundE b F h.1.1.2 o.1.2
      have hc := soundE c F h.1.2 o.2.1
      have hd := soundE d F h.2 o.2.2
      exact ⟨se_chn3 F.un (mE_plain h.2).1 ha.1 hb.1 hc.1 hd.1, sb_chn3 F.un (mE_plain h.2).1 ha.1 hb.1 hc.1 hd.1⟩
    · cases h
  | .and es, X, own, vw, x, F, h, o => by
    simp only [mE] at h
    split at h
    · rename_i e; obtain ⟨p, rfl⟩ := asBool_eq e
      exact seb_and (soundL es F h (by simpa only [okE] using o))
    · cases h
  | .or es, X, own, vw, x, F, h, o => by
    simp only [mE] at h
    split at h
    · rename_i e; obtain ⟨p, rfl⟩ := asBool_eq e
      exact seb_or (soundL es F h (by simpa only [okE] using o))
    · cases h
  | .not a, X, own, vw, x, F, h, o => by
    simp only [mE] at h
    split at h
    · rename_i e; obtain ⟨p, rfl⟩ := asUn_eq e
      have z := soundE a (own := own) (vw := vw) F h (by simpa only [okE] using o)
      exact ⟨se_not z.1, sb_not z.2⟩
    · cases h
  | .tup es, X, own, vw, x, F, h, o => by
    simp only [mE] at h
    split at h
    · rename_i e; obtain ⟨j, p, rfl⟩ := asTup_eq e
      exact seb_val (fun _ => rfl) (se_tup ((soundL es F h (by simpa only [okE] using o)).sl (mL_plain h)))
    · cases h
  | .lst es, X, own, vw, x, F, h, o => by
    simp only [mE] at h
    split at h
    · rename_i e; obtain ⟨p, rfl⟩ := asLst_eq e
      exact seb_val (fun _ => rfl) (se_lst ((soundL es F h (by simpa only [okE] using o)).sl (mL_plain h)))
    · cases h
  | .dct0, X, own, vw, x, F, h, o => by
    simp only [mE] at h
    obtain ⟨p, rfl⟩ := asDct0_eq h
    exact seb_val (fun _ => rfl) se_dct0
  | .dct2 k1 v1 k2 v2, X, own, vw, x, F, h, o => by
    simp only [mE] at h
    split at h
    · rename_i e; obtain ⟨p, rfl⟩ := asDct2_eq e
      simp only [Bool.and_eq_true] at h
      obtain ⟨⟨⟨h1, h2⟩, h3⟩, h4⟩ := h
      obtain ⟨_, _, rfl⟩ := isCn_str h1
      obtain ⟨_, _, rfl⟩ := isCn_str h2
      obtain ⟨_, _, rfl⟩ := isCn_int h3
      obtain ⟨_, _, rfl⟩ := isCn_int h4
      exact seb_val (fun _ => rfl) se_dct2
    · cases h
  | .dct1 a b, X, own, vw, x, F, h, o => by
    simp only [mE] at h
    split at h
    · rename_i u w e; obtain ⟨p, rfl⟩ := asDct1_eq e
      simp only [Bool.and_eq_true] at h
      simp only [okE, Bool.and_eq_true] at o
      exact seb_val (fun _ => rfl) (se_dct1 (soundE a F h.1 o.1).1 (soundE b F h.2 o.2).1)
    · cases h
  | .ix a i, X, own, vw, x, F, h, o => by
    simp only [mE] at h
    split at h
    · rename_i e; obtain ⟨p, rfl⟩ := asIx_eq e
      simp only [Bool.and_eq_true] at h
      simp only [okE, Bool.and_eq_true] at o
      exact seb_val (fun _ => rfl) (se_ix F.un (mE_plain h.2).1 (soundE a F h.1 o.1).1 (soundE i F h.2 o.2).1)
    · cases h
  | .sl a lo hi, X, own, vw, x, F, h, o => by
    simp only [mE] at h
    split at h
    · rename_i e; obtain ⟨p, q, rfl⟩ := asSl_eq e
      simp only [Bool.and_eq_true] at h
      simp only [okE, Bool.and_eq_true] at o
      exact seb_val (fun _ => rfl) (se_sl (soundE a F h.1.1 o.1.1).1 (soundP lo F h.1.2 o.1.2) (soundP hi F h.2 o.2))
    · cases h
  | .slp a lo hi, X, own, vw, x, F, h, o => by
    simp only [mE] at h
    split at h
    · rename_i e; obtain ⟨p, q, rfl⟩ := asSl_eq e
      simp only [Bool.and_eq_true] at h
      simp only [okE, Bool.and_eq_true] at o
      exact seb_val (fun _ => rfl) (se_slp (soundE a F h.1.1 o.1.1).1 (soundP lo F h.1.2 o.1.2) (soundP hi F h.2 o.2))
    · cases h
  | .sl3 a lo hi st, X, own, vw, x, F, h, o => by
    simp only [mE] at h
    split at h
    · rename_i e; obtain ⟨p, q, rfl⟩ := asSl3_eq e
      simp only [Bool.and_eq_true] at h
      simp only [okE, Bool.and_eq_true] at o
      exact seb_val (fun _ => rfl) (se_sl3 (soundE a F h.1.1.1 o.1.1.1).1 (soundP lo F h.1.1.2 o.1.1.2) (soundP hi F h.1.2 o.1.2) (soundE st F h.2 o.2).1)
    · cases h
  | .fld a f, X, own, vw, x, F, h, o => by
    simp only [mE] at h
    split at h
    · rename_i ob y e; obtain ⟨p, rfl⟩ := asFld_eq e
      simp only [Bool.and_eq_true] at h
      have e1 := strEq_eq h.1.1
      subst e1
      exact seb_val (fun _ => rfl) (se_fld F h.1.2 (mE_plain h.2).2 (soundE a F h.2 (by simpa only [okE] using o)).1)
    · cases h
  | .call f es, X, own, vw, x, F, h, o => by
    simp only [mE] at h
    split at h
    · rename_i e; obtain ⟨v, ws, p, q, rfl, rfl⟩ := asCall_eq e
      simp only [Bool.and_eq_true] at h
      simp only [okE, Bool.and_eq_true] at o
      obtain ⟨io, fr, h1, h2⟩ := sigAt (C := C) (f := f) (g := fun io _ => io.isNone) o.2
      have : io = none := by simpa using h2
      subst this
      exact seb_val (fun _ => rfl) (se_call F (fx_name h.1.1.1) h1 (gloB_eq h.1.1.2) h.1.2 (mL_plain h.2) ((soundL es F h.2 o.1).sl (mL_plain h.2)))
    · cases h
  | .cio f j i es kl, X, own, vw, x, F, h, o => by
    simp only [mE] at h
    split at h
    · rename_i y vs e; obtain ⟨v', ws', p, q, e2, rfl⟩ := asCall_eq e
      simp only [Bool.and_eq_true] at h
      obtain ⟨⟨⟨⟨h1, h2⟩, h3⟩, h4⟩, h5⟩ := h
      split at h4
      rotate_left
      · cases h4
      rename_i v hvj
      split at h4
      · rename_i z ez; obtain ⟨p0, rfl⟩ := asName_eq ez
        simp only [Bool.and_eq_true] at h4
        simp only [okE, Bool.and_eq_true] at o
        obtain ⟨⟨⟨⟨⟨o1, o2⟩, o3⟩, o4⟩, o5⟩, o6⟩ := o
        obtain ⟨io, fr, g1, g2⟩ := sigAt (C := C) (f := f) (g := fun io fr => io == some j && fr) o6
        simp only [Bool.and_eq_true, beq_iff_eq] at g2
        obtain ⟨rfl, rfl⟩ := g2
        have hj : j ≤ (vs.eraseIdx j).length := by
          have := (List.getElem?_eq_some_iff.mp hvj).1
          rw [List.length_eraseIdx_of_lt this]; omega
        refine seb_val (fun _ => rfl) (se_cio F (fx_name h1) g1 (gloB_eq h2) h3 (nameAt_eq h4.1.1) (visB_eq h4.1.2) h4.2 (by simpa using o2) (fun j hj => ?_) (by simpa using o3) o4 hj (by rw [insAt_erase hvj]; exact e2.symm) (mL_plain h5) ((soundL es F h5 o1).imp fun _ _ z => z.1))
        have := List.all_eq_true.mp o5 j hj
        simpa using this
      · cases h4
    · cases h
  | .meth f c m a es, X, own, vw, x, F, h, o => by
    simp only [mE] at h
    split at h
    · rename_i ob y vs e; obtain ⟨ap, cp, rfl, hl⟩ := asMeth_eq e
      simp only [Bool.and_eq_true] at h
      obtain ⟨⟨⟨⟨⟨h1, h2⟩, h3⟩, h4⟩, h5⟩, hnm⟩ := h
      simp only [okE, Bool.and_eq_true] at o
      obtain ⟨⟨o1, o2⟩, o3⟩ := o
      obtain ⟨io, fr, g1, g2⟩ := sigAt (C := C) (f := f) (g := fun io fr => io.isNone) o3
      have g2 : io = none := by simpa using g2
      subst g2
      have e1 := strEq_eq h1
      subst e1
      have n1 := ms_at h2
      have n2 := mOk_ne hnm
      refine seb_val (fun _ => rfl) (se_meth F n1 n2.1 n2.2 g1 (mE_plain h3).2 hl (mL_plain h4) (by simpa [fewB] using h5) (soundE a F h3 o1).1 ((soundL es F h4 o2).imp fun _ _ z => z.1))
    · cases h
  | .mio f c m i p es kl, X, own, vw, x, F, h, o => by
    simp only [mE] at h
    split at h
    · rename_i ob y vs e; obtain ⟨ap, cp, rfl, hl⟩ := asMeth_eq e
      simp only [Bool.and_eq_true] at h
      obtain ⟨⟨⟨⟨⟨h1, h2⟩, h3⟩, h4⟩, h5⟩, hnm⟩ := h
      simp only [okE, Bool.and_eq_true] at o
      obtain ⟨⟨⟨⟨⟨o1, o2⟩, o3⟩, o4⟩, o5⟩, o6⟩ := o
      obtain ⟨io, fr, g1, g2⟩ := sigAt (C := C) (f := f) (g := fun io fr => io == some 0 && fr) o6
      simp only [Bool.and_eq_true, beq_iff_eq] at g2
      obtain ⟨rfl, rfl⟩ := g2
      have e1 := strEq_eq h1
      subst e1
      have n1 := ms_at h2
      have n2 := mOk_ne hnm
      refine seb_val (fun _ => rfl) (se_mio F n1 n2.1 n2.2 g1 h3 (by simpa using o2) (fun j hj => ?_) (by simpa using o3) o4 hl (mL_plain h4) (by simpa [fewB] using h5) ((soundL es F h4 o1).imp fun _ _ z => z.1))
      have := List.all_eq_true.mp o5 j hj
      simpa using this
    · cases h
  | .new f c es, X, own, vw, x, F, h, o => by
    simp only [mE] at h
    split at h
    · rename_i y vs e; obtain ⟨v, ws, p, q, rfl, rfl⟩ := asCall_eq e
      simp only [Bool.and_eq_true] at h
      obtain ⟨⟨⟨⟨h1, h2⟩, h3⟩, h4⟩, h5⟩ := h
      simp only [okE, Bool.and_eq_true] at o
      obtain ⟨⟨o1, o2⟩, o6⟩ := o
      obtain ⟨io, fr, g1, g2⟩ := sigAt (C := C) (f := f) (g := fun io fr => io == some 0 && fr) o6
      simp only [Bool.and_eq_true, beq_iff_eq] at g2
      obtain ⟨rfl, rfl⟩ := g2
      have e1 := strEq_eq h1
      subst e1
      exact seb_val (fun _ => rfl) (se_new F (ms_at h2) g1 (gloB_eq h3) h4 (mL_plain h5) ((soundL es F h5 o1).sl (mL_plain h5)))
    · cases h
  | .bi (.isi t) (.cons a .nil), X, own, vw, x, F, h, o => by
    simp only [mE] at h
    split at h
    · rename_i y u w e; obtain ⟨v', ws', p, q, e2, rfl⟩ := asCall_eq e
      simp only [List.cons.injEq] at e2
      obtain ⟨rfl, rfl⟩ := e2
      simp only [Bool.and_eq_true] at h
      obtain ⟨⟨⟨h1, h2⟩, h3⟩, h4⟩ := h
      split at h4
      · rename_i z ez; obtain ⟨p0, rfl⟩ := asName_eq ez
        simp only [Bool.and_eq_true] at h4
        have e1 := strEq_eq h1
        have e2 := strEq_eq h4.1
        subst e1 e2
        simp only [okE, okL, Bool.and_true] at o
        exact seb_val (fun _ => rfl) (se_isi rfl F h2 h4.2 (mE_plain h3).1 (soundE a F h3 o).1)
      · cases h4
    · cases h
  | .bi (.isx cs) (.cons a .nil), X, own, vw, x, F, h, o => by
    simp only [mE] at h
    split at h
    · rename_i y u w e; obtain ⟨v', ws', p, q, e2, rfl⟩ := asCall_eq e
      simp only [List.cons.injEq] at e2
      obtain ⟨rfl, rfl⟩ := e2
      simp only [Bool.and_eq_true] at h
      obtain ⟨⟨⟨⟨h1, h2⟩, h3⟩, hk⟩, h4⟩ := h
      have e1 := strEq_eq h1
      subst e1
      simp only [okE, okL, Bool.and_true] at o
      split at h4
      · rename_i z ez; obtain ⟨p0, rfl⟩ := asName_eq ez
        exact seb_val (fun _ => rfl) (se_isx rfl F hk h2 (mE_plain h3).1 (soundE a F h3 o).1 (.inl ⟨_, _, rfl, h4⟩))
      · split at h4
        · rename_i ws ew; obtain ⟨jj, p0, rfl⟩ := asTup_eq ew
          simp only [Bool.and_eq_true, decide_eq_true_eq] at h4
          exact seb_val (fun _ => rfl) (se_isx rfl F hk h2 (mE_plain h3).1 (soundE a F h3 o).1 (.inr ⟨_, _, _, rfl, h4.1, h4.2⟩))
        · cases h4
    · cases h
  | .bi (.isx cs) .nil, X, own, vw, x, F, h, o => by simp [mE] at h
  | .bi (.isx cs) (.cons a (.cons b es)), X, own, vw, x, F, h, o => by simp [mE] at h
  | .bi (.isi t) .nil, X, own, vw, x, F, h, o => by simp [mE] at h
  | .bi (.isi t) (.cons a (.cons b es)), X, own, vw, x, F, h, o => by simp [mE] at h
  | .bi .lrng es, X, own, vw, x, F, h, o => by
    simp only [mE] at h
    split at h
    · rename_i y u e; obtain ⟨v', ws', p, q, e2, rfl⟩ := asCall_eq e
      simp only [List.cons.injEq] at e2
      obtain ⟨rfl, rfl⟩ := e2
      simp only [Bool.and_eq_true] at h
      obtain ⟨⟨h1, h2⟩, h3⟩ := h
      split at h3
      · rename_i z vs ez; obtain ⟨v1, ws1, p1, q1, rfl, rfl⟩ := asCall_eq ez
        simp only [Bool.and_eq_true, decide_eq_true_eq] at h3
        obtain ⟨⟨⟨h4, h5⟩, h6⟩, h7⟩ := h3
        have e1 := strEq_eq h1
        have e2 := strEq_eq h4
        subst e1 e2
        exact seb_val (fun _ => rfl) (se_lrng rfl F h2 h5 ((soundL es F h6 (by simpa only [okE] using o)).imp fun _ _ z => z.1) (mL_plain h6) h7 (by simp))
      · cases h3
    · cases h
  | .bi .dict es, X, own, vw, x, F, h, o => by simp [mE] at h
  | .bi .set (.cons a .nil), X, own, vw, x, F, h, o => by
    simp only [mE] at h
    split at h
    · rename_i y u e; obtain ⟨v', ws', p, q, e2, rfl⟩ := asCall_eq e
      simp only [List.cons.injEq] at e2
      obtain ⟨rfl, rfl⟩ := e2
      simp only [Bool.and_eq_true] at h
      obtain ⟨⟨h1, h2⟩, h3⟩ := h
      split at h3
      · rename_i z w ez; obtain ⟨v1, ws1, p1, q1, e3, rfl⟩ := asCall_eq ez
        simp only [List.cons.injEq] at e3
        obtain ⟨rfl, rfl⟩ := e3
        simp only [Bool.and_eq_true, mL, Bool.and_true] at h3
        obtain ⟨⟨h4, h5⟩, h6⟩ := h3
        have e1 := strEq_eq h1
        have e2 := strEq_eq h4
        subst e1 e2
        simp only [okE, okL, Bool.and_true] at o
        exact seb_val (fun _ => rfl) (se_sset rfl F h2 h5 (mE_plain h6).1 (soundE a F h6 o).1)
      · cases h3
    · cases h
  | .bi .set .nil, X, own, vw, x, F, h, o => by
    simp only [mE, mL] at h
    split at h <;> simp at h
    split at h <;> simp at h
  | .bi .set (.cons a (.cons b es)), X, own, vw, x, F, h, o => by
    simp only [mE, mL] at h
    split at h <;> simp at h
    split at h <;> simp at h
  | .bi .len es, X, own, vw, x, F, h, o => by
    simp only [mE] at h
    split at h
    · rename_i y vs e; obtain ⟨v, ws, p, q, rfl, rfl⟩ := asCall_eq e
      simp only [Bool.and_eq_true] at h
      have e1 := strEq_eq h.1.1
      subst e1
      exact seb_val (fun _ => rfl) (se_bif (b := .len) (id := "len") rfl F bi_len (by decide +kernel) h.1.2 rfl (fun _ => .inr rfl) (fun _ => .inr rfl) (mL_plain h.2) ((soundL es F h.2 (by simpa only [okE] using o)).sl (mL_plain h.2)))
    · cases h
  | .bi .abs es, X, own, vw, x, F, h, o => by
    simp only [mE] at h
    split at h
    · rename_i y vs e; obtain ⟨v, ws, p, q, rfl, rfl⟩ := asCall_eq e
      simp only [Bool.and_eq_true] at h
      have e1 := strEq_eq h.1.1
      subst e1
      exact seb_val (fun _ => rfl) (se_bif (b := .abs) (id := "abs") rfl F bi_abs (by decide +kernel) h.1.2 rfl (fun _ => .inr rfl) (fun _ => .inr rfl) (mL_plain h.2) ((soundL es F h.2 (by simpa only [okE] using o)).sl (mL_plain h.2)))
    · cases h
  | .bi .sum es, X, own, vw, x, F, h, o => by
    simp only [mE] at h
    split at h
    · rename_i y vs e; obtain ⟨v, ws, p, q, rfl, rfl⟩ := asCall_eq e
      simp only [Bool.and_eq_true] at h
      have e1 := strEq_eq h.1.1
      subst e1
      exact seb_val (fun _ => rfl) (se_bif (b := .sum) (id := "sum") rfl F (bi_sum F.calm) (by decide +kernel) h.1.2 rfl (fun _ => .inr rfl) (fun _ => .inr rfl) (mL_plain h.2) ((soundL es F h.2 (by simpa only [okE] using o)).sl (mL_plain h.2)))
    · cases h
  | .bi .min es, X, own, vw, x, F, h, o => by
    simp only [mE] at h
    split at h
    · rename_i y vs e; obtain ⟨v, ws, p, q, rfl, rfl⟩ := asCall_eq e
      simp only [Bool.and_eq_true] at h
      have e1 := strEq_eq h.1.1
      subst e1
      exact seb_val (fun _ => rfl) (se_bif (b := .min) (id := "min") rfl F (bi_min F.calm) (by decide +kernel) h.1.2 rfl (fun _ => .inr rfl) (fun _ => .inr rfl) (mL_plain h.2) ((soundL es F h.2 (by simpa only [okE] using o)).sl (mL_plain h.2)))
    · cases h
  | .bi .max es, X, own, vw, x, F, h, o => by
    simp only [mE] at h
    split at h
    · rename_i y vs e; obtain ⟨v, ws, p, q, rfl, rfl⟩ := asCall_eq e
      simp only [Bool.and_eq_true] at h
      have e1 := strEq_eq h.1.1
      subst e1
      exact seb_val (fun _ => rfl) (se_bif (b := .max) (id := "max") rfl F (bi_max F.calm) (by decide +kernel) h.1.2 rfl (fun _ => .inr rfl) (fun _ => .inr rfl) (mL_plain h.2) ((soundL es F h.2 (by simpa only [okE] using o)).sl (mL_plain h.2)))
    · cases h
  | .bi .all es, X, own, vw, x, F, h, o => by
    simp only [mE] at h
    split at h
    · rename_i y vs e; obtain ⟨v, ws, p, q, rfl, rfl⟩ := asCall_eq e
      simp only [Bool.and_eq_true] at h
      have e1 := strEq_eq h.1.1
      subst e1
      exact seb_val (fun _ => rfl) (se_bif (b := .all) (id := "all") rfl F (bi_all F.calm) (by decide +kernel) h.1.2 rfl (fun _ => .inr rfl) (fun _ => .inr rfl) (mL_plain h.2) ((soundL es F h.2 (by simpa only [okE] using o)).sl (mL_plain h.2)))
    · cases h
  | .bi .any es, X, own, vw, x, F, h, o => by
    simp only [mE] at h
    split at h
    · rename_i y vs e; obtain ⟨v, ws, p, q, rfl, rfl⟩ := asCall_eq e
      simp only [Bool.and_eq_true] at h
      have e1 := strEq_eq h.1.1
      subst e1
      exact seb_val (fun _ => rfl) (se_bif (b := .any) (id := "any") rfl F (bi_any F.calm) (by decide +kernel) h.1.2 rfl (fun _ => .inr rfl) (fun _ => .inr rfl) (mL_plain h.2) ((soundL es F h.2 (by simpa only [okE] using o)).sl (mL_plain h.2)))
    · cases h
  | .bi .tuple es, X, own, vw, x, F, h, o => by
    simp only [mE] at h
    split at h
    · rename_i y vs e; obtain ⟨v, ws, p, q, rfl, rfl⟩ := asCall_eq e
      simp only [Bool.and_eq_true] at h
      have e1 := strEq_eq h.1.1
      subst e1
      exact seb_val (fun _ => rfl) (se_bit (b := .tuple) (id := "tuple") rfl F bi_tuple (by decide +kernel) h.1.2 rfl (fun z => .inl (by simpa only [frE] using z)) (fun z => .inl (by simpa only [shE] using z)) (mL_plain h.2) ((soundL es F h.2 (by simpa only [okE] using o)).sl (mL_plain h.2)))
    · cases h
  | .bi .list es, X, own, vw, x, F, h, o => by
    simp only [mE] at h
    split at h
    · rename_i y vs e; obtain ⟨v, ws, p, q, rfl, rfl⟩ := asCall_eq e
      simp only [Bool.and_eq_true] at h
      have e1 := strEq_eq h.1.1
      subst e1
      exact seb_val (fun _ => rfl) (se_bit (b := .list) (id := "list") rfl F bi_list (by decide +kernel) h.1.2 rfl (fun z => .inl (by simpa only [frE] using z)) (fun z => .inl (by simpa only [shE] using z)) (mL_plain h.2) ((soundL es F h.2 (by simpa only [okE] using o)).sl (mL_plain h.2)))
    · cases h
  | .bi .str es, X, own, vw, x, F, h, o => by
    simp only [mE] at h
    split at h
    · rename_i y vs e; obtain ⟨v, ws, p, q, rfl, rfl⟩ := asCall_eq e
      simp only [Bool.and_eq_true] at h
      have e1 := strEq_eq h.1.1
      subst e1
      exact seb_val (fun _ => rfl) (se_bit (b := .str) (id := "str") rfl F bi_str (by decide +kernel) h.1.2 rfl (fun _ => .inr rfl) (fun _ => .inr rfl) (mL_plain h.2) ((soundL es F h.2 (by simpa only [okE] using o)).sl (mL_plain h.2)))
    · cases h
  | .bi .listp es, X, own, vw, x, F, h, o => by
    simp only [mE] at h
    split at h
    · rename_i y vs e; obtain ⟨v, ws, p, q, rfl, rfl⟩ := asCall_eq e
      simp only [Bool.and_eq_true] at h
      have e1 := strEq_eq h.1.1
      subst e1
      exact seb_val (fun _ => rfl) (se_bit (b := .listp) (id := "list") rfl F bi_listp (by decide +kernel) h.1.2 rfl (fun _ => .inr rfl) (fun _ => .inr rfl) (mL_plain h.2) ((soundL es F h.2 (by simpa only [okE] using o)).sl (mL_plain h.2)))
    · cases h
  | .bi .sorted es, X, own, vw, x, F, h, o => by
    simp only [mE] at h
    split at h
    · rename_i y vs e; obtain ⟨v, ws, p, q, rfl, rfl⟩ := asCall_eq e
      simp only [Bool.and_eq_true] at h
      have e1 := strEq_eq h.1.1
      subst e1
      exact seb_val (fun _ => rfl) (se_bif (b := .sorted) (id := "sorted") rfl F bi_sorted (by decide +kernel) h.1.2 rfl (fun _ => .inr rfl) (fun _ => .inr rfl) (mL_plain h.2) ((soundL es F h.2 (by simpa only [okE] using o)).sl (mL_plain h.2)))
    · cases h
  | .bi .int es, X, own, vw, x, F, h, o => by
    simp only [mE] at h
    split at h
    · rename_i y vs e; obtain ⟨v, ws, p, q, rfl, rfl⟩ := asCall_eq e
      simp only [Bool.and_eq_true] at h
      have e1 := strEq_eq h.1.1
      subst e1
      exact seb_val (fun _ => rfl) (se_bit (b := .int) (id := "int") rfl F bi_int (by decide +kernel) h.1.2 rfl (fun _ => .inr rfl) (fun _ => .inr rfl) (mL_plain h.2) ((soundL es F h.2 (by simpa only [okE] using o)).sl (mL_plain h.2)))
    · cases h
  | .mt .bitlen a .nil, X, own, vw, x, F, h, o => by
    simp only [mE] at h
    split at h
    · rename_i ob y e; obtain ⟨ap, p, rfl, hl⟩ := asMeth_eq e
      simp only [Bool.and_eq_true] at h
      have e1 := strEq_eq h.1
      subst e1
      simp only [okE, Bool.and_eq_true] at o
      exact seb_val (fun _ => rfl) (se_bl (mE_plain h.2).2 hl (soundE a F h.2 o.1).1)
    · cases h
  | .mt .join a (.cons b .nil), X, own, vw, x, F, h, o => by
    simp only [mE] at h
    split at h
    · rename_i ob y z e; obtain ⟨ap, p, rfl, hl⟩ := asMeth_eq e
      simp only [Bool.and_eq_true] at h
      have e1 := strEq_eq h.1.1
      subst e1
      simp only [okE, okL, Bool.and_eq_true] at o
      exact seb_val (fun _ => rfl) (se_join (mE_plain h.1.2).2 (mE_plain h.2).1 hl (soundE a F h.1.2 o.1).1 (soundE b F h.2 o.2.1).1)
    · cases h
  | .mt .bitlen a (.cons b es), X, own, vw, x, F, h, o => by simp [mE] at h
  | .mt .join a .nil, X, own, vw, x, F, h, o => by simp [mE] at h
  | .mt .join a (.cons b (.cons c es)), X, own, vw, x, F, h, o => by simp [mE] at h
  | .mt .split a (.cons b .nil), X, own, vw, x, F, h, o => by
    simp only [mE] at h
    split at h
    · rename_i ob y z e; obtain ⟨ap, p, rfl, hl⟩ := asMeth_eq e
      simp only [Bool.and_eq_true] at h
      have e1 := strEq_eq h.1.1
      subst e1
      simp only [okE, okL, Bool.and_eq_true] at o
      exact seb_val (fun _ => rfl) (se_split (mE_plain h.1.2).2 (mE_plain h.2).1 hl (soundE a F h.1.2 o.1).1 (soundE b F h.2 o.2.1).1)
    · cases h
  | .mt .split a .nil, X, own, vw, x, F, h, o => by simp [mE] at h
  | .mt .split a (.cons b (.cons c es)), X, own, vw, x, F, h, o => by simp [mE] at h
  | .mt .count a (.cons b .nil), X, own, vw, x, F, h, o => by
    simp only [mE] at h
    split at h
    · rename_i ob y z e; obtain ⟨ap, p, rfl, hl⟩ := asMeth_eq e
      simp only [Bool.and_eq_true] at h
      have e1 := strEq_eq h.1.1
      subst e1
      simp only [okE, okL, Bool.and_eq_true] at o
      exact seb_val (fun _ => rfl) (se_count (mE_plain h.1.2).2 (mE_plain h.2).1 hl (soundE a F h.1.2 o.1).1 (soundE b F h.2 o.2.1).1)
    · cases h
  | .mt .count a .nil, X, own, vw, x, F, h, o => by simp [mE] at h
  | .mt .count a (.cons b (.cons c es)), X, own, vw, x, F, h, o => by simp [mE] at h
  | .mt .index a (.cons b .nil), X, own, vw, x, F, h, o => by
    simp only [mE] at h
    split at h
    · rename_i ob y z e; obtain ⟨ap, p, rfl, hl⟩ := asMeth_eq e
      simp only [Bool.and_eq_true] at h
      have e1 := strEq_eq h.1.1
      subst e1
      simp only [okE, okL, Bool.and_eq_true] at o
      exact seb_val (fun _ => rfl) (se_index F.un (mE_plain h.1.2).2 (mE_plain h.2).1 hl (soundE a F h.1.2 o.1).1 (soundE b F h.2 o.2.1).1)
    · cases h
  | .mt .index a .nil, X, own, vw, x, F, h, o => by simp [mE] at h
  | .mt .index a (.cons b (.cons c es)), X, own, vw, x, F, h, o => by simp [mE] at h
  | .mt .isdigit a es, X, own, vw, x, F, h, o => by simp [mE] at h
  | .mt .replace a (.cons A (.cons R (.cons Y (.cons Z (.cons B .nil))))), X, own, vw, x, F, h, o => by
    simp only [mE] at h
    split at h
    · rename_i ob y w e
      obtain ⟨ap, p, rfl, hl⟩ := asMeth_eq e
      split at h
      · rename_i c y1 z1 c1 xa xr y2 z2 xb e1 e2
        simp only [Bool.and_eq_true, Bool.not_eq_true'] at h
        obtain ⟨⟨⟨⟨⟨⟨⟨⟨⟨⟨q1, q2⟩, q3⟩, q4⟩, q5⟩, q6⟩, q7⟩, q8⟩, q9⟩, q10⟩, q11⟩ := h
        have g1 := strEq_eq q1
        have g2 := strEq_eq q2
        have g3 := strEq_eq q3
        have g4 := strEq_eq q4
        subst g1 g2 g3 g4
        obtain ⟨j, cp, rfl⟩ := asStrC_eq e1
        obtain ⟨ap2, j1, d1, j2, d2, p3, lp, p1, p2, rfl, hl2⟩ := asJr_eq e2
        simp only [okE, okL, Bool.and_eq_true] at o
        exact seb_val (fun _ => rfl) (se_jrep hl hl2 q5 (mE_plain q7).2 q9 q10 q11 (soundE A F q6 o.2.1).1 (soundE R F q7 o.2.2.1).1 (soundE B F q8 o.2.2.2.2.2.1).1)
      · cases h
    · cases h
  | .mt .replace a .nil, X, own, vw, x, F, h, o => by simp [mE] at h
  | .mt .replace a (.cons A .nil), X, own, vw, x, F, h, o => by simp [mE] at h
  | .mt .replace a (.cons A (.cons R .nil)), X, own, vw, x, F, h, o => by simp [mE] at h
  | .mt .replace a (.cons A (.cons R (.cons Y .nil))), X, own, vw, x, F, h, o => by simp [mE] at h
  | .mt .replace a (.cons A (.cons R (.cons Y (.cons Z .nil)))), X, own, vw, x, F, h, o => by simp [mE] at h
  | .mt .replace a (.cons A (.cons R (.cons Y (.cons Z (.cons B (.cons b2 es)))))), X, own, vw, x, F, h, o => by simp [mE] at h
  | .mt .partition a es, X, own, vw, x, F, h, o => by simp [mE] at h
  | .mt .upper a es, X, own, vw, x, F, h, o => by simp [mE] at h
  | .comp elt tg it ifs os, X, own, vw, x, F, h, o => by
    simp only [mE] at h
    split at h
    · rename_i y t i fs s e; obtain ⟨p, rfl⟩ := asComp_eq e
      simp only [Bool.and_eq_true, decide_eq_true_eq] at h
      obtain ⟨⟨⟨⟨⟨⟨⟨⟨h1, h0⟩, h2⟩, h3⟩, h4⟩, h5⟩, h6⟩, h7⟩, h8⟩ := h
      simp only [okE, Bool.and_eq_true, decide_eq_true_eq] at o
      obtain ⟨⟨⟨⟨⟨o1, o2⟩, o3⟩, o4⟩, o5⟩, o6⟩ := o
      have hox : ∀ j ∈ os, Fxd.fx j = none := fun j hj => F.fxn (by have := List.all_eq_true.mp h0 j hj; simpa using this)
      refine seb_val (fun _ => rfl) (se_comp F hox h1 h2 (fun j hj => ?_) o6 h8 (by simpa using o2) (by simpa using o3) (soundI it F h3 o1) (fun X' hX => ?_) fun X' hX => ?_)
      · have := List.all_eq_true.mp h7 j hj
        simpa using this
      · exact sts_of (soundL ifs (F.blk hX).1 (by rw [hX.scope]; exact h4) o5) h5
      · exact (soundE elt (F.blk hX).1 (by rw [hX.scope]; exact h6) o4).1
    · cases h
  | .comI elt tg es os, X, own, vw, x, F, h, o => by
    simp only [mE] at h
    split at h
    · rename_i y t i fs s e; obtain ⟨p, rfl⟩ := asComp_eq e
      simp only [Bool.and_eq_true, decide_eq_true_eq, List.isEmpty_iff] at h
      obtain ⟨⟨⟨⟨⟨⟨⟨h1, h0⟩, h2⟩, h3⟩, h5⟩, h6⟩, h7⟩, h8⟩ := h
      subst h5
      simp only [okE, Bool.and_eq_true, decide_eq_true_eq, Bool.not_eq_true'] at o
      obtain ⟨⟨⟨⟨o1, o2⟩, o3⟩, o4⟩, o5⟩ := o
      have hox : ∀ j ∈ os, Fxd.fx j = none := fun j hj => F.fxn (by have := List.all_eq_true.mp h0 j hj; simpa using this)
      have hSI : SI C Φ X own vw (.rng es) t i := by
        split at h3
        · rename_i y2 vs e2; obtain ⟨v', ws', p2, q2, e3, rfl⟩ := asCall_eq e2
          simp only [Bool.and_eq_true] at h3
          have e1 := strEq_eq h3.1.1
          subst e1 e3
          exact si_rng rfl F h3.1.2 ((soundL es F h3.2 o1).imp fun _ _ z => z.1) (mL_plain h3.2)
        · cases h3
      refine seb_val (fun _ => rfl) (se_comI F hox h1 h2 (fun j hj => ?_) o4 h8 hSI o2 fun X' hX => ?_)
      · have := List.all_eq_true.mp h7 j hj
        simpa using this
      · exact (soundE elt (F.blk hX).1 (by rw [hX.scope]; exact h6) o3).1
    · cases h
theorem soundL : ∀ (es : DEs) {X : Cx} {own vw : List Nat} {xs : List Expr}, Fx C Φ k X → mL C X.env.scope es xs = true → okL C.sigs own vw es = true → Each (SEB C Φ X own vw) es xs
  | .nil, X, own, vw, [], F, h, o => .nil
  | .nil, X, own, vw, _ :: _, F, h, o => by simp [mL] at h
  | .cons a es, X, own, vw, [], F, h, o => by simp [mL] at h
  | .cons a es, X, own, vw, x :: xs, F, h, o => by
    simp only [mL, Bool.and_eq_true] at h
    simp only [okL, Bool.and_eq_true] at o
    exact .cons (soundE a F h.1 o.1) (soundL es F h.2 o.2)
theorem soundP : ∀ (e : DO) {X : Cx} {own vw : List Nat} {x : Option Expr}, Fx C Φ k X → mP C X.env.scope e x = true → okP C.sigs own vw e = true → SP C Φ X own vw e x
  | .no, X, own, vw, none, F, h, o => sp_no
  | .no, X, own, vw, some _, F, h, o => by simp [mP] at h
  | .so a, X, own, vw, none, F, h, o => by simp [mP] at h
  | .so a, X, own, vw, some x, F, h, o => by
    simp only [mP] at h
    simp only [okP] at o
    exact sp_so (soundE a F h o).1
theorem soundI : ∀ (it : DI) {X : Cx} {own vw : List Nat} {t i : Expr}, Fx C Φ k X → mI C X.env.scope it t i = true → okI C.sigs own vw it = true → SI C Φ X own vw it t i
  | .val a, X, own, vw, t, i, F, h, o => by
    simp only [mI] at h
    simp only [okI] at o
    exact si_val (soundE a F h o).1
  | .rng es, X, own, vw, t, i, F, h, o => by
    simp only [mI] at h
    simp only [okI] at o
    split at h
    · rename_i y vs e; obtain ⟨v, ws, p, q, rfl, rfl⟩ := asCall_eq e
      simp only [Bool.and_eq_true] at h
      have e1 := strEq_eq h.1.1
      subst e1
      exact si_rng rfl F h.1.2 ((soundL es F h.2 o).imp fun _ _ z => z.1) (mL_plain h.2)
    · cases h
  | .enu a, X, own, vw, t, i, F, h, o => by
    simp only [mI] at h
    simp only [okI] at o
    split at h
    · rename_i ts y v et e; obtain ⟨j, p0, rfl⟩ := asTup_eq et
      obtain ⟨v', ws', p, q, e2, rfl⟩ := asCall_eq e
      simp only [List.cons.injEq] at e2
      obtain ⟨rfl, rfl⟩ := e2
      simp only [Bool.and_eq_true] at h
      have e1 := strEq_eq h.1.1
      subst e1
      exact si_enu rfl F h.1.2 (mE_plain h.2).1 (soundE a F h.2 o).1
    · cases h
  | .zip es, X, own, vw, t, i, F, h, o => by
    simp only [mI] at h
    simp only [okI] at o
    split at h
    · rename_i ts y v w et e; obtain ⟨j, p0, rfl⟩ := asTup_eq et
      obtain ⟨v', ws', p, q, e2, rfl⟩ := asCall_eq e
      simp only [List.cons.injEq] at e2
      obtain ⟨rfl, rfl⟩ := e2
      simp only [Bool.and_eq_true] at h
      have e1 := strEq_eq h.1.1
      subst e1
      exact si_zip rfl F h.1.2 (mL_plain h.2) ((soundL es F h.2 o).sl (mL_plain h.2))
    · cases h
  | .rev a, X, own, vw, t, i, F, h, o => by
    simp only [mI] at h
    simp only [okI] at o
    split at h
    · rename_i y v e; obtain ⟨v', ws', p, q, e2, rfl⟩ := asCall_eq e
      simp only [List.cons.injEq] at e2
      obtain ⟨rfl, rfl⟩ := e2
      simp only [Bool.and_eq_true] at h
      have e1 := strEq_eq h.1.1
      subst e1
      exact si_rev rfl F h.1.2 (mE_plain h.2).1 (soundE a F h.2 o).1
    · cases h
  | .rrg es, X, own, vw, t, i, F, h, o => by
    simp only [mI] at h
    simp only [okI] at o
    split at h
    · rename_i y v e; obtain ⟨v', ws', p, q, e2, rfl⟩ := asCall_eq e
      simp only [List.cons.injEq] at e2
      obtain ⟨rfl, rfl⟩ := e2
      simp only [Bool.and_eq_true] at h
      obtain ⟨⟨h1, h2⟩, h3⟩ := h
      split at h3
      · rename_i z vs ez; obtain ⟨v1, ws1, p1, q1, rfl, rfl⟩ := asCall_eq ez
        simp only [Bool.and_eq_true, decide_eq_true_eq] at h3
        obtain ⟨⟨⟨h4, h5⟩, h6⟩, h7⟩ := h3
        have e1 := strEq_eq h1
        have e2 := strEq_eq h4
        subst e1 e2
        exact si_rrg rfl F h2 h5 ((soundL es F h6 o).imp fun _ _ z => z.1) (mL_plain h6) h7 (by simp)
      · cases h3
    · cases h
end
end
end Cy
end
section
set_option Elab.async false
set_option linter.all false
set_option maxRecDepth 100000
set_option maxHeartbeats 4000000
namespace Cy
open PySem L2 PyProof.Rows
variable [ClTab] [Fxd]
/-- from one moment to a later one, over statements -/
structure TSx (io : Bool) (Z P : Addr → Prop) (H : Hp) (As : Asg) (Z' P' : Addr → Prop) (H' : Hp) (As' : Asg) : Prop where
  mono : ∀ a, H a ≠ none → H' a ≠ none
  keep : ∀ a o, H a = some o → (P a ∨ (∀ xs : MO, o ≠ xs.1) ∨ io = false) → H' a = some o
  al : ∀ j a, a ∈ As' j → (∃ i, a ∈ As i) ∨ H a = none
  zz : ∀ a, Z a → Z' a
  pp : ∀ a, P a → P' a
section
variable {K : PySem.W.Frag} {n : Nat} {own vw : List Nat} {Z P Z1 P1 Z2 P2 : Addr → Prop} {σ : L2.St} {H H1 H2 H' : Hp} {env env1 env2 : En} {As As1 As2 As' : Asg} {io io1 io2 : Bool}
theorem TSx.refl : TSx io Z P H As Z P H As := ⟨fun _ h => h, fun _ _ h _ => h, fun j _ h => .inl ⟨j, h⟩, fun _ h => h, fun _ h => h⟩
theorem TSx.back (t : TSx io Z P H As Z1 P1 H1 As1) {a : Addr} (h : H1 a = none) : H a = none := by
  cases e : H a with
  | none => rfl
  | some o => exact absurd h (t.mono a (by rw [e]; simp))
theorem TSx.trans (t : TSx io1 Z P H As Z1 P1 H1 As1) (u : TSx io2 Z1 P1 H1 As1 Z2 P2 H2 As2) (h1 : io1 = true → io = true) (h2 : io2 = true → io = true) : TSx io Z P H As Z2 P2 H2 As2 where
  mono := fun a h => u.mono a (t.mono a h)
  keep := fun a o h c => by
    have f : io = false → io1 = false ∧ io2 = false := fun z => by
      subst z
      constructor
      · cases io1
        · rfl
        · exact absurd (h1 rfl) (by simp)
      · cases io2
        · rfl
        · exact absurd (h2 rfl) (by simp)
    rcases c with c | c | c
    · exact u.keep a o (t.keep a o h (.inl c)) (.inl (t.pp a c))
    · exact u.keep a o (t.keep a o h (.inr (.inl c))) (.inr (.inl c))
    · exact u.keep a o (t.keep a o h (.inr (.inr (f c).1))) (.inr (.inr (f c).2))
  al := fun j a h => by
    rcases u.al j a h with ⟨i, q⟩ | q
    · exact t.al i a q
    · exact .inr (t.back q)
  zz := fun a h => u.zz a (t.zz a h)
  pp := fun a h => u.pp a (t.pp a h)
theorem TSx.weak (t : TSx io1 Z P H As Z1 P1 H1 As1) (h1 : io1 = true → io = true) : TSx io Z P H As Z1 P1 H1 As1 := t.trans (TSx.refl (io := false)) h1 (fun z => by cases z)
/-- an expression's step is one -/
theorem TR.tsx (S : SR K n own vw Z P σ H env As) (t : TR own io H As H1 As1) : TSx io Z P H As Z P H1 As1 where
  mono := t.mono
  keep := fun a o h c => t.keep a o h fun e ⟨i, hi, ha⟩ => by
    rcases c with c | c | c
    · exact S.noP i hi a ha c
    · obtain ⟨xs, q⟩ := S.own_mut ⟨i, hi, ha⟩
      rw [h] at q
      exact c xs (Option.some.inj q)
    · rw [e] at c; cases c
  al := t.al
  zz := fun _ h => h
  pp := fun _ h => h
/-- some lists are frozen -/
theorem SR.freeze (S : SR K n own vw Z P σ H env As) {A : Addr → Prop} (m : ∀ a, A a → MutH H a) (h : ∀ a, A a → ¬ OwA own As a) : SR K n own vw (fun a => Z a ∨ A a) (fun a => P a ∨ A a) σ H env As :=
  ⟨S.len, S.lenE, S.rep, S.non, fun i h1 h2 a ha => .inl (S.shr i h1 h2 a ha), S.nod, fun i hi a ha c => c.elim (S.noP i hi a ha) fun c => h a c ⟨i, hi, ha⟩, S.dis, fun a h => h.imp (S.zp a) id, fun a h => by
    rcases h with h | h
    · exact S.ph a h
    · obtain ⟨xs, q⟩ := m a h
      rw [q]; simp, S.fix⟩
theorem TSx.freeze {A : Addr → Prop} : TSx io Z P H As (fun a => Z a ∨ A a) (fun a => P a ∨ A a) H As := ⟨fun _ h => h, fun _ _ h _ => h, fun j _ h => .inl ⟨j, h⟩, fun _ h => .inl h, fun _ h => .inl h⟩
/-- a slot may take a value whose lists are all new (f), or of what is shared alone (s) -/
def kOk (own vw : List Nat) (f s : Bool) (i : Nat) : Bool := if own.contains i then f else (vw.contains i || f || s)
/-- names stored: the slots ts take values whose lists are at B, all within A -/
theorem SR.bind {ts : List Nat} {f s : Bool} {A : List Addr} {σ' : L2.St} {env' : En} {B : Asg} {H0 : Hp} {As0 : Asg}
    (S : SR K n own vw Z P σ H env As) (R : BR K H ts A σ σ' env env' B) (E : EF own Z f s H0 As0 As A) (hs : ∀ a, H0 a ≠ none → H a ≠ none) (S0 : ∀ a, OwA own As0 a → ¬ P a) (P0 : ∀ a, P a → H0 a ≠ none) (mA : ∀ a ∈ A, MutH H a) (hk : ∀ i ∈ ts, kOk own vw f s i = true) (hfx : ∀ i ∈ ts, Fxd.fx i = none) :
    SR K n own vw (fun a => Z a ∨ ∃ i ∈ ts, i ∉ own ∧ i ∉ vw ∧ a ∈ B i) (fun a => P a ∨ ∃ i ∈ ts, i ∉ own ∧ i ∉ vw ∧ a ∈ B i) σ' H env' (fun j => if j ∈ ts then B j else As j) := by
  have kO : ∀ i ∈ ts, i ∈ own → f = true := fun i hi ho => by
    have := hk i hi
    unfold kOk at this
    rw [if_pos (by simpa using ho)] at this
    exact this
  have kS : ∀ i ∈ ts, i ∉ own → i ∉ vw → f = true ∨ s = true := fun i hi ho hv => by
    have := hk i hi
    unfold kOk at this
    rw [if_neg (by simpa using ho)] at this
    simpa [hv] using this
  have nw : ∀ a, New own H0 As0 As a → ¬ P a ∧ ¬ OwA own As a := fun a h => ⟨fun c => h.1.elim (P0 a c) fun z => S0 a z c, h.2⟩
  -- what is shared is none of what is owned
  have sh : ∀ i ∈ ts, i ∉ own → i ∉ vw → ∀ a ∈ B i, ¬ OwA own As a := fun i hi ho hv a ha ⟨j, hj, hb⟩ => by
    have hA := R.sub i hi a ha
    rcases kS i hi ho hv with z | z
    · exact (nw a ((E.1 z).2 a hA)).2 ⟨j, hj, hb⟩
    · rcases E.2.1 z a hA with y | y
      · exact (nw a y).2 ⟨j, hj, hb⟩
      · exact S.noP j hj a hb (S.zp a y)
  refine ⟨by rw [R.len, S.len], by rw [R.lenE, S.lenE], fun i d h => ?_, fun i h => ?_, fun i h1 h2 a ha => ?_, fun i hi => ?_, fun i hi a ha c => ?_, fun i hi j hj hne a ha hb => ?_, fun a h => h.imp (S.zp a) id, fun a h => ?_, fun i v h => by
    have ht : i ∉ ts := fun z => by rw [hfx i z] at h; cases h
    rw [(R.out i ht).1]; exact S.fix i v h⟩
  · by_cases ht : i ∈ ts
    · obtain ⟨v, d', h1, h2, h3⟩ := R.inn i ht
      rw [h] at h2
      simp only [Option.some.injEq] at h2
      subst h2
      rw [if_pos ht]; exact ⟨v, h1, h3⟩
    · obtain ⟨o1, o2⟩ := R.out i ht
      rw [if_neg ht, o1]
      rw [o2] at h
      exact S.rep i d h
  · by_cases ht : i ∈ ts
    · obtain ⟨v, d', h1, h2, h3⟩ := R.inn i ht
      exact absurd h2 (h d')
    · rw [if_neg ht]
      refine S.non i fun d z => h d ?_
      rw [(R.out i ht).2]; exact z
  · by_cases ht : i ∈ ts
    · rw [if_pos ht] at ha
      exact .inr ⟨i, ht, h1, h2, ha⟩
    · rw [if_neg ht] at ha
      exact .inl (S.shr i h1 h2 a ha)
  · by_cases ht : i ∈ ts
    · rw [if_pos ht]
      exact (R.nd (E.1 (kO i ht hi)).1).1 i ht
    · rw [if_neg ht]; exact S.nod i hi
  · by_cases ht : i ∈ ts
    · rw [if_pos ht] at ha
      have ff := kO i ht hi
      rcases c with c | ⟨j, hj, j1, j2, hb⟩
      · exact (nw a ((E.1 ff).2 a (R.sub i ht a ha))).1 c
      · exact (R.nd (E.1 ff).1).2 i ht j hj (fun e => j1 (e ▸ hi)) a ha hb
    · rw [if_neg ht] at ha
      rcases c with c | ⟨j, hj, j1, j2, hb⟩
      · exact S.noP i hi a ha c
      · exact sh j hj j1 j2 a hb ⟨i, hi, ha⟩
  · by_cases ht : i ∈ ts
    · rw [if_pos ht] at ha
      have ff := kO i ht hi
      by_cases ht2 : j ∈ ts
      · rw [if_pos ht2] at hb
        exact (R.nd (E.1 ff).1).2 i ht j ht2 hne a ha hb
      · rw [if_neg ht2] at hb
        exact (nw a ((E.1 ff).2 a (R.sub i ht a ha))).2 ⟨j, hj, hb⟩
    · rw [if_neg ht] at ha
      by_cases ht2 : j ∈ ts
      · rw [if_pos ht2] at hb
        exact (nw a ((E.1 (kO j ht2 hj)).2 a (R.sub j ht2 a hb))).2 ⟨i, hi, ha⟩
      · rw [if_neg ht2] at hb
        exact S.dis i hi j hj hne a ha hb
  · rcases h with h | ⟨i, hi, _, _, ha⟩
    · exact S.ph a h
    · obtain ⟨xs, q⟩ := mA a (R.sub i hi a ha)
      rw [q]; simp
theorem TSx.bind {ts : List Nat} {A : List Addr} {B : Asg} {W : Addr → Prop} (t : TSx io Z P H As Z1 P1 H1 As1) (hB : ∀ i ∈ ts, ∀ a ∈ B i, a ∈ A) (hA : ∀ a ∈ A, H a = none ∨ ∃ i, a ∈ As i) :
    TSx io Z P H As (fun a => Z1 a ∨ W a) (fun a => P1 a ∨ W a) H1 (fun j => if j ∈ ts then B j else As1 j) :=
  ⟨t.mono, t.keep, fun j a h => by
    by_cases ht : j ∈ ts
    · rw [if_pos ht] at h; exact (hA a (hB j ht a h)).symm
    · rw [if_neg ht] at h; exact t.al j a h, fun a h => .inl (t.zz a h), fun a h => .inl (t.pp a h)⟩
end

/-- of a value given back -/
def RF (fr : Bool) (own : List Nat) (P : Addr → Prop) (H : Hp) (As As' : Asg) (A : List Addr) : Prop := (fr = true → A.Nodup ∧ ∀ a ∈ A, ¬ P a ∧ ¬ OwA own As' a) ∧ ∀ a ∈ A, H a = none ∨ ∃ i, a ∈ As i
/-- of a payload: all its own -/
def XF (own : List Nat) (P' : Addr → Prop) (H : Hp) (As As' : Asg) (A : List Addr) : Prop := A.Nodup ∧ (∀ a ∈ A, ¬ P' a ∧ ¬ OwA own As' a) ∧ ∀ a ∈ A, H a = none ∨ ∃ i, a ∈ As i
/-- what a statement that ends so leads to -/
def Dn (K : PySem.W.Frag) (n : Nat) (own vw : List Nat) (fr io : Bool) (Z P : Addr → Prop) (H : Hp) (As : Asg) (o : Ou) (env' : En) (D : Ends) (Wx : WX) : Prop :=
  match o with
  | .xn c x => ∀ cls d σ' H' Z' P' As' A, SR K n own vw Z' P' σ' H' env' As' → TSx io Z P H As Z' P' H' As' → XRep K H' cls d c x A → XF own P' H As As' A → Wx cls d σ' H'
  | .nx => ∀ σ' H' Z' P' As', SR K n own vw Z' P' σ' H' env' As' → TSx io Z P H As Z' P' H' As' → D.nx σ' H'
  | .bk => ∀ σ' H' Z' P' As', SR K n own vw Z' P' σ' H' env' As' → TSx io Z P H As Z' P' H' As' → D.bk σ' H'
  | .ct => ∀ σ' H' Z' P' As', SR K n own vw Z' P' σ' H' env' As' → TSx io Z P H As Z' P' H' As' → D.ct σ' H'
  | .rt d => ∀ v σ' H' Z' P' As' A, SR K n own vw Z' P' σ' H' env' As' → TSx io Z P H As Z' P' H' As' → Rep K H' v d A → RF fr own P H As As' A → D.rt v H'
section
variable {C : Ct} {Φ : Nat → Fn} {k : Nat} {X : Cx}
def SS (C : Ct) (X : Cx) (own vw : List Nat) (fr io : Bool) (m : En → Option (Rs Ou)) (W : TS) : Prop :=
  ∀ (Z P : Addr → Prop) (σ : L2.St) (H : Hp) (env : En) (As : Asg) (o : Ou) (env' : En), SR X.K C.N.length own vw Z P σ H env As → m env = some (.ok o env') →
    ∀ (D : Ends) (Wx : WX), Takes X Wx → Dn X.K C.N.length own vw fr io Z P H As o env' D Wx → W D σ H
theorem RF.step {K : PySem.W.Frag} {n : Nat} {own : List Nat} {fr io : Bool} {Z P Z1 P1 : Addr → Prop} {H H1 : Hp} {As As1 As' : Asg} {A : List Addr} (t : TSx io Z P H As Z1 P1 H1 As1) (h : RF fr own P1 H1 As1 As' A) : RF fr own P H As As' A :=
  ⟨fun z => ⟨(h.1 z).1, fun a ha => ⟨fun c => ((h.1 z).2 a ha).1 (t.pp a c), ((h.1 z).2 a ha).2⟩⟩, fun a ha => by
    rcases h.2 a ha with z | ⟨i, z⟩
    · exact .inl (t.back z)
    · exact (t.al i a z).symm⟩
/-- one step ahead -/
theorem Dn.step {K : PySem.W.Frag} {n : Nat} {own vw : List Nat} {fr io io1 io2 : Bool} {Z P Z1 P1 : Addr → Prop} {H H1 : Hp} {As As1 : Asg} {o : Ou} {env' : En} {D : Ends} {Wx : WX} (t : TSx io1 Z P H As Z1 P1 H1 As1) (h1 : io1 = true → io = true) (h2 : io2 = true → io = true)
    (h : Dn K n own vw fr io Z P H As o env' D Wx) : Dn K n own vw fr io2 Z1 P1 H1 As1 o env' D Wx := by
  cases o with
  | xn c x => exact fun cls d σ' H' Z' P' As' A S T r e => h cls d σ' H' Z' P' As' A S (t.trans T h1 h2) r ⟨e.1, e.2.1, fun a ha => by
    rcases e.2.2 a ha with z | ⟨i, z⟩
    · exact .inl (t.back z)
    · exact (t.al i a z).symm⟩
  | nx => exact fun σ' H' Z' P' As' S T => h σ' H' Z' P' As' S (t.trans T h1 h2)
  | bk => exact fun σ' H' Z' P' As' S T => h σ' H' Z' P' As' S (t.trans T h1 h2)
  | ct => exact fun σ' H' Z' P' As' S T => h σ' H' Z' P' As' S (t.trans T h1 h2)
  | rt d => exact fun v σ' H' Z' P' As' A S T r e => h v σ' H' Z' P' As' A S (t.trans T h1 h2) r (RF.step (K := K) (n := n) t e)
theorem WSs.of_nil {own vw : List Nat} {fr io : Bool} : SS C X own vw fr io (fun e => some (.ok .nx e)) (WSs X []) := by
  intro Z P σ H env As o env' S e D Wx tk q
  simp only [Option.some.injEq, Rs.ok.injEq] at e
  obtain ⟨rfl, rfl⟩ := e
  exact pss_nil.we (q σ H Z P As S TSx.refl)
theorem ss_cons {own vw : List Nat} {fr i1 i2 : Bool} {m1 m2 : En → Option (Rs Ou)} {st : Stmt} {rest : List Stmt} (h1 : SS C X own vw fr i1 m1 (WS X st)) (h2 : SS C X own vw fr i2 m2 (WSs X rest)) :
    SS C X own vw fr (i1 || i2) (fun e => match m1 e with | some (.ok .nx e1) => m2 e1 | r => r) (WSs X (st :: rest)) := by
  intro Z P σ H env As o env' S e D Wx tk q
  refine (pss_cons Cy.ws Cy.wss).we ?_
  show WS X st { D with nx := WSs X rest D } σ H
  dsimp only at e
  have o1 : i1 = true → (i1 || i2) = true := fun z => by rw [z]; rfl
  have o2 : i2 = true → (i1 || i2) = true := fun z => by rw [z]; simp
  split at e
  · rename_i e1 he
    refine h1 Z P σ H env As _ _ S he _ Wx tk fun σ1 H1 Z1 P1 As1 S1 T1 => ?_
    exact h2 Z1 P1 σ1 H1 e1 As1 o env' S1 e D Wx tk (Dn.step T1 o1 o2 q)
  · rename_i hne
    have he := e
    refine h1 Z P σ H env As _ _ S he _ Wx tk ?_
    have q' := Dn.step (io2 := i1) (TSx.refl (io := false)) (fun z => by cases z) o1 q
    cases o with
    | nx => exact absurd he (hne _)
    | bk => exact q'
    | ct => exact q'
    | rt d => exact q'
    | xn c x => exact q'
theorem ss_pas {own vw : List Nat} {fr io : Bool} {st : Stmt} (h : PS X st tNext) : SS C X own vw fr io (fun e => some (.ok .nx e)) (WS X st) := by
  intro Z P σ H env As o env' S e D Wx tk q
  simp only [Option.some.injEq, Rs.ok.injEq] at e
  obtain ⟨rfl, rfl⟩ := e
  exact h.we (q σ H Z P As S TSx.refl)
theorem ss_brk {own vw : List Nat} {fr io : Bool} {p : Pos} : SS C X own vw fr io (fun e => some (.ok .bk e)) (WS X (.Break p)) := by
  intro Z P σ H env As o env' S e D Wx tk q
  simp only [Option.some.injEq, Rs.ok.injEq] at e
  obtain ⟨rfl, rfl⟩ := e
  exact ps_break.we (q σ H Z P As S TSx.refl)
theorem ss_cnt {own vw : List Nat} {fr io : Bool} {p : Pos} : SS C X own vw fr io (fun e => some (.ok .ct e)) (WS X (.Continue p)) := by
  intro Z P σ H env As o env' S e D Wx tk q
  simp only [Option.some.injEq, Rs.ok.injEq] at e
  obtain ⟨rfl, rfl⟩ := e
  exact ps_continue.we (q σ H Z P As S TSx.refl)
theorem ss_retN {own vw : List Nat} {fr io : Bool} {p : Pos} : SS C X own vw fr io (fun e => some (.ok (.rt .non) e)) (WS X (.Return none p)) := by
  intro Z P σ H env As o env' S e D Wx tk q
  simp only [Option.some.injEq, Rs.ok.injEq] at e
  obtain ⟨rfl, rfl⟩ := e
  exact ps_retN.we (q .non σ H Z P As [] S TSx.refl .non ⟨fun _ => ⟨List.nodup_nil, fun a h => nomatch h⟩, fun a h => nomatch h⟩)
theorem SR.newP {K : PySem.W.Frag} {n : Nat} {own vw : List Nat} {Z P : Addr → Prop} {σ : L2.St} {H : Hp} {env : En} {As As' : Asg} (S : SR K n own vw Z P σ H env As) {a : Addr} (h : New own H As As' a) : ¬ P a ∧ ¬ OwA own As' a :=
  ⟨fun c => h.1.elim (fun z => S.ph a c z) fun ⟨i, hi, z⟩ => S.noP i hi a z c, h.2⟩
theorem ss_ret {own vw : List Nat} {fr : Bool} {a : DE} {x : Expr} {p : Pos} (ha : SE C Φ X own vw a x) (hf : fr = true → frE C.sigs a = true) : SS C X own vw fr (ioE a) (evS Φ (.ret a)) (WS X (.Return (some x) p)) := by
  intro Z P σ H env As o env' S e D Wx tk q
  simp only [evS] at e
  obtain ⟨d, e1, h1, h2⟩ := bd_inv e
  simp only [Option.some.injEq, Rs.ok.injEq] at h2
  obtain ⟨rfl, rfl⟩ := h2
  refine (ps_ret Cy.we).we ?_
  show WE X x σ H D.rt
  refine ha Z P σ H env As _ _ S h1 _ fun v H1 A As1 S1 T1 r E => ?_
  exact q v σ H1 Z P As1 A S1 (T1.tsx S) r ⟨fun z => ⟨(E.1 (hf z)).1, fun b hb => S.newP ((E.1 (hf z)).2 b hb)⟩, E.2.2⟩
theorem ss_ex {own vw : List Nat} {fr : Bool} {a : DE} {x : Expr} {p : Pos} (ha : SE C Φ X own vw a x) (hs : swapsWith x none p.line X.env = pure false) : SS C X own vw fr (ioE a) (evS Φ (.ex a)) (WS X (.Expr x p)) := by
  intro Z P σ H env As o env' S e D Wx tk q
  simp only [evS] at e
  obtain ⟨d, e1, h1, h2⟩ := bd_inv e
  simp only [Option.some.injEq, Rs.ok.injEq] at h2
  obtain ⟨rfl, rfl⟩ := h2
  refine (ps_expr Cy.we hs).we ?_
  refine ha Z P σ H env As _ _ S h1 _ fun v H1 A As1 S1 T1 r E => ?_
  exact q σ H1 Z P As1 S1 (T1.tsx S)
theorem ss_if {own vw : List Nat} {fr i1 i2 : Bool} {c : DE} {a b : DSs} {x : Expr} {xs ys : List Stmt} {p : Pos} (hc : SB C Φ X own vw (ioE c) (ev Φ c) (WT X x)) (ha : SS C X own vw fr i1 (evSs Φ a) (WSs X xs)) (hb : SS C X own vw fr i2 (evSs Φ b) (WSs X ys)) :
    SS C X own vw fr (ioE c || i1 || i2) (evS Φ (.ifs c a b)) (WS X (.If x xs ys p)) := by
  intro Z P σ H env As o env' S e D Wx tk q
  simp only [evS] at e
  obtain ⟨d, e1, h1, h2⟩ := bd_inv e
  refine (ps_if Cy.wt Cy.wss Cy.wss).we ?_
  have o0 : ioE c = true → (ioE c || i1 || i2) = true := fun z => by rw [z]; rfl
  have o1 : i1 = true → (ioE c || i1 || i2) = true := fun z => by rw [z]; simp
  have o2 : i2 = true → (ioE c || i1 || i2) = true := fun z => by rw [z]; simp
  split at h2
  · refine hc Z P σ H env As _ _ S h1 _ fun H1 As1 S1 T1 => ?_
    rw [if_pos rfl]
    exact ha Z P σ H1 e1 As1 o env' S1 h2 D Wx tk (Dn.step (T1.tsx S) o0 o1 q)
  · refine hc Z P σ H env As _ _ S h1 _ fun H1 As1 S1 T1 => ?_
    rw [if_neg Bool.false_ne_true]
    exact hb Z P σ H1 e1 As1 o env' S1 h2 D Wx tk (Dn.step (T1.tsx S) o0 o2 q)
  · cases h2
/-- what is behind a name's store -/
theorem asg_fin {own vw : List Nat} {fr f s io : Bool} {ts : List Nat} {Z P : Addr → Prop} {σ σ' : L2.St} {H H1 : Hp} {env env1 env' : En} {As As1 B : Asg} {A : List Addr} {D : Ends} {K : PySem.W.Frag} {n : Nat}
    (S : SR K n own vw Z P σ H env As) (S1 : SR K n own vw Z P σ H1 env1 As1) (T1 : TR own io H As H1 As1) (E : EF own Z f s H As As1 A) (mA : ∀ a ∈ A, MutH H1 a) (hk : ∀ i ∈ ts, kOk own vw f s i = true) (hfx : ∀ i ∈ ts, Fxd.fx i = none) (R : BR K H1 ts A σ σ' env1 env' B)
    {Wx : WX} (q : Dn K n own vw fr io Z P H As .nx env' D Wx) : D.nx σ' H1 :=
  q σ' H1 _ _ _ (S1.bind R E T1.mono (fun a ⟨i, hi, z⟩ c => S.noP i hi a z c) S.ph mA hk hfx) ((T1.tsx S).bind R.sub E.2.2)
theorem ss_asg {own vw : List Nat} {fr : Bool} {tg : Tg} {a : DE} {t x : Expr} {p : Pos} {st : Scope} (F : Fx C Φ k X) (hs : StOk X st) (hm : mT C st tg t = true) (ha : SE C Φ X own vw a x) (hk : ∀ i ∈ tgs tg, kOk own vw (frE C.sigs a) (shE C.sigs (own ++ vw) a) i = true) (hn : (tgs tg).Nodup) (hi : ∀ i ∈ tgs tg, i < C.N.length)
    (h1 : swapsWithSole [t] x p.line X.env = pure false) (h2 : swappedStores [t] x X.env = pure none) (h3 : (assignEach [t] X.env).map (·.2) = [assign t X.env]) : SS C X own vw fr (ioE a) (evS Φ (.asg tg a)) (WS X (.Assign [t] x p)) := by
  intro Z P σ H env As o env' S e D Wx tk q
  simp only [evS] at e
  obtain ⟨d, e1, k1, k2⟩ := bd_inv e
  simp only [Option.map_eq_some_iff, Rs.ok.injEq] at k2
  obtain ⟨e2, hb, rfl, rfl⟩ := k2
  refine (ps_asg Cy.we (pgT F hs hm) h1 h2 h3).we ?_
  refine ha Z P σ H env As _ _ S k1 _ fun v H1 A As1 S1 T1 r E => ?_
  exact bind_ok r hb (by rw [S1.len, S1.lenE]) hn (fun i h => by rw [S1.lenE]; exact hi i h) fun σ' B R => asg_fin S S1 T1 E (fun a h => r.mut a h) hk (mT_fx F hm) R q
end
end Cy
end
section
set_option Elab.async false
set_option linter.all false
set_option maxRecDepth 100000
set_option maxHeartbeats 4000000
namespace Cy
open PySem L2 PyProof.Rows
variable [ClTab] [Fxd]
section
variable {C : Ct} {Φ : Nat → Fn} {k : Nat} {X : Cx}
theorem k_one {own vw : List Nat} {f s : Bool} {i : Nat} (h : kOk own vw f s i = true) : ∀ j ∈ [i], kOk own vw f s j = true := fun j hj => by
  rw [List.mem_singleton] at hj
  rw [hj]; exact h
theorem f_one {i : Nat} (h : Fxd.fx i = none) : ∀ j ∈ [i], Fxd.fx j = none := fun j hj => by
  rw [List.mem_singleton] at hj
  rw [hj]; exact h
theorem BR.one {K : PySem.W.Frag} {H : Hp} {σ : L2.St} {env : En} {i : Nat} {v : V} {d : D} {A : List Addr} (r : Rep K H v d A) (h1 : i < σ.length) (h2 : i < env.length) : BR K H [i] A σ (σ.set i (some v)) env (env.set i (some d)) (fun _ => A) where
  len := List.length_set ..
  lenE := List.length_set ..
  out := fun j hj => by
    have : i ≠ j := fun z => hj (by simp [z])
    exact ⟨List.getElem?_set_ne this, List.getElem?_set_ne this⟩
  inn := fun j hj => by
    have : j = i := by simpa using hj
    subst this
    exact ⟨v, d, List.getElem?_set_self h1, List.getElem?_set_self h2, r⟩
  sub := fun _ _ a ha => ha
  nd := fun h => ⟨fun _ _ => h, fun a ha b hb hne => by
    have e1 : a = i := by simpa using ha
    have e2 : b = i := by simpa using hb
    exact absurd (e1.trans e2.symm) hne⟩
theorem ss_setLc {own vw os : List Nat} {fr : Bool} {elt : DE} {tg : Tg} {it : DI} {ifs : DEs} {x t i : Expr} {fs : List Expr} {scope : Scope} {pos : Pos} (F : Fx C Φ k X)
    (hox : ∀ j ∈ os, Fxd.fx j = none) (hbl : blkC C.N X.env.scope scope (ownP C os) = true) (hmt : mT C scope tg t = true) (hts : ∀ j ∈ tgs tg, j ∈ os) (hnd : (tgs tg).Nodup) (hp : plainX i = true) (hio : ioE elt = false) (hil : ioL ifs = false)
    (hi : SI C Φ X own vw it t i)
    (hf : ∀ X', Blk X scope X' → STs C Φ X' [] (own ++ vw ++ (if shI C.sigs (own ++ vw) it = true then [] else tgs tg)) ifs fs)
    (he : ∀ X', Blk X scope X' → SE C Φ X' [] (own ++ vw ++ (if shI C.sigs (own ++ vw) it = true then [] else tgs tg)) elt x)
    {y : Str} {j : Nat} {py spos : Pos} (hfx : Fxd.fx j = none) (hy : C.N[j]? = some y) (hyl : X.env.scope.names.lookup y = some .local) (hk : X.env.scope.kind = .function) (hl : (py.line == pos.line) = true)
    (ha : (scope.names.any fun (n, k) => n == y && (k == .local || k == .cell)) = false) (hkk : kOk own vw (frE C.sigs (.comp elt tg it ifs os)) (shE C.sigs (own ++ vw) (.comp elt tg it ifs os)) j = true) :
    SS C X own vw fr (ioE (.comp elt tg it ifs os)) (evS Φ (.asg (.n j) (.comp elt tg it ifs os))) (WS X (.Assign [.Name y py] (.ListComp x [⟨t, i, fs, 0⟩] scope pos) spos)) := by
  intro Z P σ H env As o env' S e D Wx tk q
  simp only [evS] at e
  obtain ⟨d, e1, k1, k2⟩ := bd_inv e
  simp only [bindT, Option.map_some, Option.some.injEq, Rs.ok.injEq] at k2
  obtain ⟨rfl, rfl⟩ := k2
  refine (ps_comp (spos := spos) F hox hbl hmt hts hnd hp hio hil hi hf he hy hyl hk hl ha).we ?_
  have hj : j < C.N.length := (List.getElem?_eq_some_iff.mp hy).1
  refine comp_core (pos := pos) F hox hbl hmt hts hnd hp hio hil hi hf he S k1 fun v H1 A As1 S1 T1 r E => ?_
  exact asg_fin S S1 T1 E (fun a h => r.mut a h) (k_one hkk) (f_one hfx) (BR.one r (by rw [S1.len]; exact hj) (by rw [S1.lenE]; exact hj)) q
/-- a, b = x, y -/
theorem ss_par {own vw : List Nat} {fr : Bool} {i j : Nat} {a b : DE} {x y : Str} {xa xb : Expr} {px py pt p : Pos} {kt k2 : Nat} {pt2 : Pos} (F : Fx C Φ k X) (hi : C.N[i]? = some x) (hj : C.N[j]? = some y) (hij : i ≠ j)
    (hx : X.env.scope.names.lookup x = some .local) (hy : X.env.scope.names.lookup y = some .local) (ha : SE C Φ X own vw a xa) (hb : SE C Φ X own vw b xb) (hp1 : plainX xa = true) (hp2 : plainX xb = true)
    (hw : swappedStores [.Tuple [.Name x px, .Name y py] kt pt] (.Tuple [xa, xb] k2 pt2) X.env = pure (some [x, y]))
    (k1 : kOk own vw (frE C.sigs a) (frE C.sigs a || shE C.sigs (own ++ vw) a) i = true) (kb : kOk own vw (frE C.sigs b) (frE C.sigs b || shE C.sigs (own ++ vw) b) j = true) (hio : ioE b = false) (hfi : Fxd.fx i = none) (hfj : Fxd.fx j = none) :
    SS C X own vw fr (ioE a || ioE b) (evS Φ (.par i j a b)) (WS X (.Assign [.Tuple [.Name x px, .Name y py] kt pt] (.Tuple [xa, xb] k2 pt2) p)) := by
  intro Z P σ H env As o env' S e D Wx tk q
  simp only [evS] at e
  obtain ⟨d, e1, h1, h2⟩ := bd_inv e
  obtain ⟨g, h2⟩ := gd_inv h2
  obtain ⟨d2, e2, h3, h4⟩ := bd_inv h2
  simp only [Option.some.injEq, Rs.ok.injEq] at h4
  obtain ⟨rfl, rfl⟩ := h4
  refine (L2.ps_par F.calm (by rw [F.nN]; exact F.nd) (by rw [F.nN]; exact hi) (by rw [F.nN]; exact hj) hij hx hy (pa_cons Cy.we (pa_cons Cy.we pa_nil (plain_star hp2)) (plain_star hp1)) hw).we ?_
  refine ha Z P σ H env As _ _ S h1 _ fun v1 H1 A1 As1 S1 T1 r1 E1 => ?_
  refine hb Z P σ H1 e1 As1 _ _ S1 h3 _ fun v2 H2 A2 As2 S2 T2 r2 E2 => ?_
  refine ⟨v1, v2, rfl, ?_⟩
  have hil : i < C.N.length := (List.getElem?_eq_some_iff.mp hi).1
  have hjl : j < C.N.length := (List.getElem?_eq_some_iff.mp hj).1
  have r1' := r1.step S1 T2 (guard_pure g)
  have m1 : ∀ a ∈ A1, MutH H1 a := fun a h => r1.mut a h
  -- the first name, then the second one
  have R1 := BR.one (σ := σ) (env := e2) r1' (i := i) (by rw [S2.len]; exact hil) (by rw [S2.lenE]; exact hil)
  have E1' : EF own Z (frE C.sigs a) (frE C.sigs a || shE C.sigs (own ++ vw) a) H As As2 A1 := (E1.step m1 T2).orr
  have T12 := T1.trans T2 (io := ioE a || ioE b) (orl (b := ioE b)) (orr (a := ioE a))
  have S3 := S2.bind R1 E1' T12.mono (fun a ⟨i, hi, z⟩ c => S.noP i hi a z c) S.ph (fun a h => r1'.mut a h) (k_one k1) (f_one hfi)
  have T3 : TSx (ioE a || ioE b) Z P H As _ _ H2 _ := (T12.tsx S).bind R1.sub (W := fun x => ∃ i' ∈ [i], i' ∉ own ∧ i' ∉ vw ∧ x ∈ (fun _ => A1) i') E1'.2.2
  have R2 := BR.one (σ := σ.set i (some v1)) (env := e2.set i (some d)) r2 (i := j) (by rw [List.length_set, S2.len]; exact hjl) (by rw [List.length_set, S2.lenE]; exact hjl)
  have m2 : ∀ a ∈ A2, MutH H2 a := fun a h => r2.mut a h
  -- what is new of the second is new still
  have nw : ∀ c, New own H1 As1 As2 c → New own H1 As1 (fun l => if l ∈ [i] then A1 else As2 l) c := fun c hn => ⟨hn.1, fun ⟨l, hl, hc⟩ => by
    by_cases e : l = i
    · subst e
      simp only [List.mem_singleton, if_true] at hc
      have fa : frE C.sigs a = true := by
        have := k1
        unfold kOk at this
        rw [if_pos (by simpa using hl)] at this
        exact this
      obtain ⟨n1, g1⟩ := E1.1 fa
      exact (g1 c hc).apart (m1 c hc) hn rfl
    · have : ¬ l ∈ [i] := by simpa using e
      have hc : c ∈ (if l ∈ [i] then A1 else As2 l) := hc
      rw [if_neg this] at hc
      exact hn.2 ⟨l, hl, hc⟩⟩
  have E2' : EF own (fun x => Z x ∨ ∃ i' ∈ [i], i' ∉ own ∧ i' ∉ vw ∧ x ∈ (fun _ => A1) i') (frE C.sigs b) (frE C.sigs b || shE C.sigs (own ++ vw) b) H1 As1 (fun l => if l ∈ [i] then A1 else As2 l) A2 :=
    ⟨fun z => ⟨(E2.1 z).1, fun c hc => nw c ((E2.1 z).2 c hc)⟩, fun z c hc => by
      rcases E2.orr.2.1 z c hc with y | y
      · exact .inl (nw c y)
      · exact .inr (.inl y), E2.2.2⟩
  have q' := q
  refine q (((σ.set i (some v1)).set j (some v2))) H2 _ _ _ (S3.bind R2 E2' (fun a h => T2.mono a h) (fun c hc z => ?_) (fun c z => ?_) m2 (k_one kb) (f_one hfj)) (T3.bind R2.sub (fun c hc => (E2.back T1).2.2 c hc))
  · rcases z with z | ⟨l, hl, l1, l2, z⟩
    · obtain ⟨l, hl, hc⟩ := hc
      exact S1.noP l hl c hc z
    · have hl : l = i := by simpa using hl
      subst hl
      have ho : frE C.sigs a = true ∨ shE C.sigs (own ++ vw) a = true := by
        have := k1
        unfold kOk at this
        rw [if_neg (by simpa using l1)] at this
        simp [l2] at this
        rcases this with h | h
        · exact .inl h
        · exact .inr h
      rcases E1.orr.2.1 (by rcases ho with h | h <;> rw [h] <;> simp) c z with y | y
      · exact y.2 hc
      · obtain ⟨l', hl', hc'⟩ := hc
        exact S1.noP l' hl' c hc' (S1.zp c y)
  · rcases z with z | ⟨l, hl, l1, l2, z⟩
    · exact S1.ph c z
    · obtain ⟨xs, m⟩ := m1 c z
      rw [m]; simp
/-- op= of numbers and texts -/
def rAug (o : BO) : V → V → Hp → VK → Prop := fun x y H Q => (∃ i j, x = .int i ∧ y = .int j ∧ ((o = .add ∧ Q (.int (i + j)) H) ∨ (o = .sub ∧ Q (.int (i - j)) H))) ∨
  (∃ i j, x = .str i ∧ y = .str j ∧ o = .add ∧ i.cps.size + j.cps.size ≤ LMX ∧ Q (.str ⟨i.cps ++ j.cps⟩) H)
theorem ip_aug {o : BO} (h : o = .add ∨ o = .sub) : PIp X (opOf o) (rAug o) := by
  intro pins s σ H x y v u Q I rx ry q
  rcases q with ⟨i, j, ex, ey, ⟨rfl, q⟩ | ⟨rfl, q⟩⟩ | ⟨i, j, ex, ey, rfl, hz, q⟩
  · exact ip_add pins s σ H x y v u Q I rx ry ⟨i, j, ex, ey, q⟩
  · exact ip_sub pins s σ H x y v u Q I rx ry ⟨i, j, ex, ey, q⟩
  · exact iop_add_str pins s σ H x y v u Q I rx ry ⟨i, j, ex, ey, line_LMX hz, q⟩
theorem ss_aug {own vw : List Nat} {fr : Bool} {i : Nat} {o : BO} {a : DE} {x : Str} {xa : Expr} {px p : Pos} (F : Fx C Φ k X) (hn : C.N[i]? = some x) (hx : Loc X.env.scope x) (hf : X.fn x = true ∨ X.env.scope.names.lookup x = some .local) (ha : SE C Φ X own vw a xa) (ho : o = .add ∨ o = .sub) (hfx : Fxd.fx i = none) :
    SS C X own vw fr (ioE a) (evS Φ (.aug i o a)) (WS X (.AugAssign (.Name x px) (opOf o) xa p)) := by
  intro Z P σ H env As ou env' S e D Wx tk q
  simp only [evS] at e
  split at e
  rotate_left
  · cases e
  rename_i d0 hd0
  obtain ⟨d, e1, h1, h2⟩ := bd_inv e
  split at h2
  rotate_left
  · cases h2
  rename_i hp
  simp only [Option.map_eq_some_iff, Rs.ok.injEq] at h2
  obtain ⟨z, hz, rfl, rfl⟩ := h2
  obtain ⟨v0, hv0, r0⟩ := S.rep i d0 hd0
  refine (L2.ps_aug (i := i) (by rw [F.nN]; exact F.nd) (by rw [F.nN]; exact hn) hx Cy.we (ip_aug ho) hf).we ⟨v0, hv0, ?_⟩
  refine ha Z P σ H env As _ _ S h1 _ fun v1 H1 A1 As1 S1 T1 r1 E1 => ?_
  have r0' := r0.step S T1 (fun _ => hp)
  have hl : i < C.N.length := (List.getElem?_eq_some_iff.mp hn).1
  have fin : ∀ (zv : V), Rep X.K H1 zv z [] → D.nx (σ.set i (some zv)) H1 := fun zv rz => by
    refine asg_fin (f := true) (s := true) (A := []) (ts := [i]) S S1 T1 EF.pure (fun a h => nomatch h) (fun j hj => ?_) (f_one hfx) (BR.one rz (by rw [S1.len]; exact hl) (by rw [S1.lenE]; exact hl)) q
    unfold kOk
    split <;> simp
  generalize As i = A0 at r0'
  rcases ho with rfl | rfl
  · cases r0' <;> cases r1 <;> simp only [binD, Option.some.injEq, reduceCtorEq] at hz
    · subst hz
      exact .inl ⟨_, _, rfl, rfl, .inl ⟨rfl, fin _ (.int _)⟩⟩
    · split at hz
      · rename_i hz2
        simp only [Option.some.injEq] at hz
        subst hz
        exact .inr ⟨_, _, rfl, rfl, rfl, hz2, fin _ (.str _)⟩
      · cases hz
  · cases r0' <;> cases r1 <;> simp only [binD, Option.some.injEq, reduceCtorEq] at hz
    subst hz
    exact .inl ⟨_, _, rfl, rfl, .inr ⟨rfl, fin _ (.int _)⟩⟩
theorem ss_for {own vw : List Nat} {fr i2 fz : Bool} {tg : Tg} {it : DI} {b : DSs} {t x : Expr} {bs : List Stmt} {p : Pos} {st : Scope} (F : Fx C Φ k X) (hpo : PassesOwn (model X.prog X.w) X.A X.env X.xe) (hs : StOk X st) (hm : mT C st tg t = true) (hn : (tgs tg).Nodup) (hil : ∀ i ∈ tgs tg, i < C.N.length) (hno : ∀ i ∈ tgs tg, i ∉ own) (hp : plainX x = true)
    (hi : SI C Φ X own vw it t x) (hb : SS C X own vw fr i2 (evSs Φ b) (WSs X bs)) (hfz : fz = true → frI C.sigs it = true ∨ shI C.sigs (own ++ vw) it = true) (hnf : fz = false → i2 = false ∧ ∀ i ∈ tgs tg, i ∈ vw) :
    SS C X own vw fr (ioI it || i2) (evS Φ (.for tg it b)) (WS X (.For t x bs [] p)) := by
  intro Z P σ H env As o env' S e D Wx tk q
  simp only [evS] at e
  obtain ⟨xs, e1, h1, h2⟩ := bd_inv e
  refine (ps_for hpo F.calm Cy.wi (pgT F hs hm) Cy.wss (fun z => plain_fold hp z)).we ?_
  have o1 : ioI it = true → (ioI it || i2) = true := fun z => by rw [z]; rfl
  have o2 : i2 = true → (ioI it || i2) = true := fun z => by rw [z]; simp
  refine hi Z P σ H env As _ _ S h1 _ fun J H1 A As1 S1 T1 io mA E1 => ?_
  have T1' : TSx (ioI it || i2) Z P H As Z P H1 As1 := (T1.tsx S).weak o1
  -- the walked lists, frozen
  have nwA : fz = true → ∀ a ∈ A, ¬ OwA own As1 a := fun z a ha => by
    rcases hfz z with f | f
    · exact ((E1.1 f).2 a ha).2
    · rcases E1.2.1 f a ha with y | y
      · exact y.2
      · exact fun ⟨i, hi, c⟩ => S1.noP i hi a c (S1.zp a y)
  refine for_it io (fun j σj Hj => ∃ ej Zj Pj Asj, SR X.K C.N.length own vw Zj Pj σj Hj ej Asj ∧ TSx (ioI it || i2) Z P H As Zj Pj Hj Asj ∧ Kept H1 A Hj ∧ (fz = true → ∀ a ∈ A, Zj a) ∧
    forL (fun x e2 => bindT tg x e2) (fun e2 => evSs Φ b e2) (xs.drop j) ej = some (.ok o env')) ?_ ?_ ?_ ?_
  · by_cases z : fz = true
    · refine ⟨e1, _, _, As1, S1.freeze (A := fun a => a ∈ A) (fun a ha => mA a ha) (fun a ha => nwA z a ha), T1'.trans (TSx.freeze (io := false)) id (fun z => by cases z), ⟨fun _ _ h _ => h, fun _ _ _ h => h⟩, fun _ a ha => .inr ha, by simpa using h2⟩
    · exact ⟨e1, Z, P, As1, S1, T1', ⟨fun _ _ h _ => h, fun _ _ _ h => h⟩, fun y => absurd y z, by simpa using h2⟩
  · rintro j σj Hj hj ⟨ej, Zj, Pj, Asj, _, _, kp, _, _⟩
    exact kp
  · rintro j v σj Hj Hj' hj ⟨ej, Zj, Pj, Asj, Sj, Tj, kp, fzz, ee⟩ ⟨sm, dj, B0, hdj, rj, sB⟩
    have hdr : xs.drop j = dj :: xs.drop (j + 1) := by
      obtain ⟨hl, hg⟩ := List.getElem?_eq_some_iff.mp hdj
      rw [List.drop_eq_getElem_cons hl, hg]
    rw [hdr] at ee
    simp only [forL] at ee
    split at ee
    · cases ee
    rename_i e2 hbt
    have Sj' := Sj.grow sm
    refine bind_ok rj hbt (by rw [Sj.len, Sj.lenE]) hn (fun z hz => by rw [Sj.lenE]; exact hil z hz) fun σ2 B R => ?_
    have mB : ∀ a ∈ B0, MutH Hj' a := fun a h => rj.mut a h
    -- the state with the names bound
    have S2 : SR X.K C.N.length own vw Zj Pj σ2 Hj' e2 (fun l => if l ∈ tgs tg then B l else Asj l) := by
      refine ⟨by rw [R.len, Sj.len], by rw [R.lenE, Sj.lenE], fun i d h => ?_, fun i h => ?_, fun i g1 g2 a ha => ?_, fun i hi => ?_, fun i hi a ha c => ?_, fun i hi l hl hne a ha hb => ?_, Sj.zp, Sj'.ph, fun i v h => by
        have ht : i ∉ tgs tg := fun z => by rw [mT_fx F hm i z] at h; cases h
        rw [(R.out i ht).1]; exact Sj.fix i v h⟩
      · by_cases ht : i ∈ tgs tg
        · obtain ⟨v', d', g1, g2, g3⟩ := R.inn i ht
          rw [h] at g2
          simp only [Option.some.injEq] at g2
          subst g2
          rw [if_pos ht]; exact ⟨v', g1, g3⟩
        · obtain ⟨y1, y2⟩ := R.out i ht
          rw [if_neg ht, y1]
          rw [y2] at h
          exact Sj'.rep i d h
      · by_cases ht : i ∈ tgs tg
        · obtain ⟨v', d', g1, g2, g3⟩ := R.inn i ht
          exact absurd g2 (h d')
        · rw [if_neg ht]
          refine Sj.non i fun d z => h d ?_
          rw [(R.out i ht).2]; exact z
      · by_cases ht : i ∈ tgs tg
        · rw [if_pos ht] at ha
          by_cases z : fz = true
          · exact fzz z a (sB.subset (R.sub i ht a ha))
          · exact absurd ((hnf (by simpa using z)).2 i ht) g2
        · rw [if_neg ht] at ha
          exact Sj.shr i g1 g2 a ha
      · rw [if_neg (fun z => hno i z hi)]; exact Sj.nod i hi
      · rw [if_neg (fun z => hno i z hi)] at ha; exact Sj.noP i hi a ha c
      · rw [if_neg (fun z => hno i z hi)] at ha
        rw [if_neg (fun z => hno l z hl)] at hb
        exact Sj.dis i hi l hl hne a ha hb
    have Tg : TSx (ioI it || i2) Z P H As Zj Pj Hj' (fun l => if l ∈ tgs tg then B l else Asj l) := ⟨fun a h => by
        cases z : Hj a with
        | none => exact absurd z (Tj.mono a h)
        | some o => rw [sm a o z]; simp, fun a o h c => sm a o (Tj.keep a o h c), fun l a h => by
        by_cases ht : l ∈ tgs tg
        · rw [if_pos ht] at h
          exact (E1.2.2 a (sB.subset (R.sub l ht a h))).symm
        · rw [if_neg ht] at h; exact Tj.al l a h, Tj.zz, Tj.pp⟩
    have kp' : Kept H1 A Hj' := ⟨fun a o h c => sm a o (kp.1 a o h c), fun a ha o h => sm a o (kp.2 a ha o h)⟩
    -- behind the body
    have again : ∀ {e3 : En}, forL (fun x e2 => bindT tg x e2) (fun e2 => evSs Φ b e2) (xs.drop (j + 1)) e3 = some (.ok o env') → ∀ σ' H' Z' P' As', SR X.K C.N.length own vw Z' P' σ' H' e3 As' → TSx i2 Zj Pj Hj' (fun l => if l ∈ tgs tg then B l else Asj l) Z' P' H' As' →
        ∃ ej Zj Pj Asj, SR X.K C.N.length own vw Zj Pj σ' H' ej Asj ∧ TSx (ioI it || i2) Z P H As Zj Pj H' Asj ∧ Kept H1 A H' ∧ (fz = true → ∀ a ∈ A, Zj a) ∧ forL (fun x e2 => bindT tg x e2) (fun e2 => evSs Φ b e2) (xs.drop (j + 1)) ej = some (.ok o env') :=
      fun {e3} he σ' H' Z' P' As' S' T' => by
        refine ⟨e3, Z', P', As', S', Tg.trans T' id o2, ⟨fun a o h c => T'.keep a o (kp'.1 a o h c) (.inr (.inl c)), fun a ha o h => T'.keep a o (kp'.2 a ha o h) ?_⟩, fun z a ha => T'.zz a (fzz z a ha), he⟩
        by_cases z : fz = true
        · exact .inl (Sj.zp a (fzz z a ha))
        · exact .inr (.inr (hnf (by simpa using z)).1)
    split at ee
    · rename_i e3 hbd
      exact hb Zj Pj σ2 Hj' e2 _ _ _ S2 hbd _ Wx tk fun σ' H' Z' P' As' S' T' => again ee σ' H' Z' P' As' S' T'
    · rename_i e3 hbd
      exact hb Zj Pj σ2 Hj' e2 _ _ _ S2 hbd _ Wx tk fun σ' H' Z' P' As' S' T' => again ee σ' H' Z' P' As' S' T'
    · rename_i e3 hbd
      simp only [Option.some.injEq, Rs.ok.injEq] at ee
      obtain ⟨rfl, rfl⟩ := ee
      exact hb Zj Pj σ2 Hj' e2 _ _ _ S2 hbd _ Wx tk fun σ' H' Z' P' As' S' T' => q σ' H' Z' P' As' S' (Tg.trans T' id o2)
    · rename_i n1 n2 n3
      cases o with
      | nx => exact absurd ee (n1 _)
      | bk => exact absurd ee (n3 _)
      | ct => exact absurd ee (n2 _)
      | xn c x => exact hb Zj Pj σ2 Hj' e2 _ _ _ S2 ee _ Wx tk fun cls d σ' H' Z' P' As' A' S' T' r e => q cls d σ' H' Z' P' As' A' S' (Tg.trans T' id o2) r ⟨e.1, e.2.1, fun a ha => by
          rcases e.2.2 a ha with z | ⟨i, z⟩
          · exact .inl (Tg.back z)
          · exact (Tg.al i a z).symm⟩
      | rt d => exact hb Zj Pj σ2 Hj' e2 _ _ _ S2 ee _ Wx tk fun v σ' H' Z' P' As' A' S' T' r e => q v σ' H' Z' P' As' A' S' (Tg.trans T' id o2) r (RF.step (K := X.K) (n := C.N.length) Tg e)
  · rintro σj Hj ⟨ej, Zj, Pj, Asj, Sj, Tj, kp, fzz, ee⟩
    rw [List.drop_length] at ee
    simp only [forL, Option.some.injEq, Rs.ok.injEq] at ee
    obtain ⟨rfl, rfl⟩ := ee
    exact q σj Hj Zj Pj Asj Sj Tj
theorem ss_whl {own vw : List Nat} {fr i2 : Bool} {c : DE} {b : DSs} {x : Expr} {bs : List Stmt} {p : Pos} (hpo : PassesOwn (model X.prog X.w) X.A X.env X.xe)
    (hc : SB C Φ X own vw (ioE c) (ev Φ c) (WT X x)) (hb : SS C X own vw fr i2 (evSs Φ b) (WSs X bs)) : SS C X own vw fr (ioE c || i2) (evS Φ (.whl c b)) (WS X (.While x bs [] p)) := by
  intro Z P σ H env As o env' S e D Wx tk q
  simp only [evS, wh] at e
  split at e
  rotate_left
  · cases e
  generalize Classical.choose _ = m0 at e
  have o1 : ioE c = true → (ioE c || i2) = true := fun z => by rw [z]; rfl
  have o2 : i2 = true → (ioE c || i2) = true := fun z => by rw [z]; simp
  refine (ps_while hpo Cy.wt Cy.wss).we ?_
  refine ⟨fun m σj Hj => ∃ ej Zj Pj Asj, SR X.K C.N.length own vw Zj Pj σj Hj ej Asj ∧ TSx (ioE c || i2) Z P H As Zj Pj Hj Asj ∧ whN (fun e1 => ev Φ c e1) (fun e1 => evSs Φ b e1) m ej = some (.ok o env'), ⟨m0, env, Z, P, As, S, TSx.refl, e⟩, ?_⟩
  rintro m σj Hj ⟨ej, Zj, Pj, Asj, Sj, Tj, ee⟩
  cases m with
  | zero => simp [whN] at ee
  | succ m =>
    simp only [whN] at ee
    split at ee
    · rename_i e1 hc1
      refine hc Zj Pj σj Hj ej Asj _ _ Sj hc1 _ fun H1 As1 S1 T1 => ?_
      rw [if_pos rfl]
      have T2 : TSx (ioE c || i2) Z P H As Zj Pj H1 As1 := Tj.trans (T1.tsx Sj) id o1
      refine ⟨fun σ' H' => ∃ ej Zj Pj Asj, SR X.K C.N.length own vw Zj Pj σ' H' ej Asj ∧ TSx (ioE c || i2) Z P H As Zj Pj H' Asj ∧ whN (fun e1 => ev Φ c e1) (fun e1 => evSs Φ b e1) m ej = some (.ok o env'), fun σ' H' h => ⟨m, Nat.lt_succ_self m, h⟩, ?_⟩
      split at ee
      · rename_i e2 hbd
        exact hb Zj Pj σj H1 e1 As1 _ _ S1 hbd _ Wx tk fun σ' H' Z' P' As' S' T' => ⟨e2, Z', P', As', S', T2.trans T' id o2, ee⟩
      · rename_i e2 hbd
        exact hb Zj Pj σj H1 e1 As1 _ _ S1 hbd _ Wx tk fun σ' H' Z' P' As' S' T' => ⟨e2, Z', P', As', S', T2.trans T' id o2, ee⟩
      · rename_i e2 hbd
        simp only [Option.some.injEq, Rs.ok.injEq] at ee
        obtain ⟨rfl, rfl⟩ := ee
        exact hb Zj Pj σj H1 e1 As1 _ _ S1 hbd _ Wx tk fun σ' H' Z' P' As' S' T' => q σ' H' Z' P' As' S' (T2.trans T' id o2)
      · rename_i n1 n2 n3
        cases o with
        | nx => exact absurd ee (n1 _)
        | bk => exact absurd ee (n3 _)
        | ct => exact absurd ee (n2 _)
        | xn c x => exact hb Zj Pj σj H1 e1 As1 _ _ S1 ee _ Wx tk fun cls d σ' H' Z' P' As' A' S' T' r e => q cls d σ' H' Z' P' As' A' S' (T2.trans T' id o2) r ⟨e.1, e.2.1, fun a ha => by
            rcases e.2.2 a ha with z | ⟨i, z⟩
            · exact .inl (T2.back z)
            · exact (T2.al i a z).symm⟩
        | rt d => exact hb Zj Pj σj H1 e1 As1 _ _ S1 ee _ Wx tk fun v σ' H' Z' P' As' A' S' T' r e => q v σ' H' Z' P' As' A' S' (T2.trans T' id o2) r (RF.step (K := X.K) (n := C.N.length) T2 e)
    · rename_i e1 hc1
      simp only [Option.some.injEq, Rs.ok.injEq] at ee
      obtain ⟨rfl, rfl⟩ := ee
      refine hc Zj Pj σj Hj ej Asj _ _ Sj hc1 _ fun H1 As1 S1 T1 => ?_
      rw [if_neg Bool.false_ne_true]
      exact q σj H1 Zj Pj As1 S1 (Tj.trans (T1.tsx Sj) id o1)
    · cases ee
end
end Cy
end
section
set_option Elab.async false
set_option linter.all false
set_option maxRecDepth 100000
set_option maxHeartbeats 4000000
namespace Cy
open PySem L2 PyProof.Rows
variable [ClTab] [Fxd]
section
variable {K : PySem.W.Frag} {n : Nat} {own vw : List Nat} {Z P : Addr → Prop} {σ : L2.St} {H H1 H2 : Hp} {env env1 env2 : En} {As As1 As2 : Asg}
/-- the state behind a change of slot i -/
theorem SR.write {i : Nat} {d1 : D} {v0 : V} {A0 : List Addr} {kl : List Nat} {H' : Hp}
    (S : SR K n own vw Z P σ H env As) (hi : i ∈ own) (hn : i < n) (hv : σ[i]? = some (some v0)) (mono : ∀ a, H a ≠ none → H' a ≠ none) (keep : ∀ a o, H a = some o → a ∉ As i → H' a = some o)
    (r : Rep K H' v0 d1 A0) (nd : A0.Nodup) (hA : ∀ a ∈ A0, a ∈ As i ∨ (¬ P a ∧ ¬ OwA own As a)) (hk : ∀ j ∈ vw, j ∈ kl) :
    SR K n own vw Z P σ H' (kil kl (env.set i (some d1))) (AsC As i A0 (kil kl (env.set i (some d1)))) := by
  have nP : ∀ a ∈ A0, ¬ P a := fun a ha hp => by
    rcases hA a ha with z | z
    · exact S.noP i hi a z hp
    · exact z.1 hp
  have nO : ∀ j ∈ own, j ≠ i → ∀ a ∈ A0, a ∉ As j := fun j hj hne a ha hb => by
    rcases hA a ha with z | z
    · exact S.dis i hi j hj (fun e => hne e.symm) a z hb
    · exact z.2 ⟨j, hj, hb⟩
  refine ⟨S.len, by rw [kil_len, List.length_set]; exact S.lenE, fun j d h => ?_, fun j h => ?_, fun j h1 h2 a ha => ?_, fun j hj => ?_, fun j hj a ha => ?_, fun j hj l hl hne a ha hb => ?_, S.zp, fun a h => mono a (S.ph a h), S.fix⟩
  · have he : AsC As i A0 (kil kl (env.set i (some d1))) j = if j = i then A0 else As j := by
      unfold AsC; rw [h]
    obtain ⟨h1, h2⟩ := kil_get h
    rw [he]
    by_cases e : j = i
    · subst e
      rw [List.getElem?_set_self (by rw [S.lenE]; exact hn)] at h1
      simp only [Option.some.injEq] at h1
      subst h1
      rw [if_pos rfl]
      exact ⟨v0, hv, r⟩
    · rw [List.getElem?_set_ne (fun z => e z.symm)] at h1
      rw [if_neg e]
      obtain ⟨v, g1, g2⟩ := S.rep j d h1
      refine ⟨v, g1, g2.keep (fun a o ha hn2 => keep a o ha fun c => ?_) fun a ha o hao => keep a o hao fun c => ?_⟩
      · obtain ⟨xs, q⟩ := S.own_mut ⟨i, hi, c⟩
        rw [ha] at q
        exact hn2 xs (Option.some.inj q)
      · by_cases hj : j ∈ own
        · exact S.dis j hj i hi e a ha c
        · by_cases hw : j ∈ vw
          · rw [g2.pure (h2 (hk j hw))] at ha; cases ha
          · exact S.noP i hi a c (S.zp a (S.shr j hj hw a ha))
  · unfold AsC
    split
    · rename_i d hd; exact absurd hd (h d)
    · rfl
  · have q := (AsC_sub ha).2
    by_cases e : j = i
    · subst e; exact absurd hi h1
    · rw [if_neg e] at q; exact S.shr j h1 h2 a q
  · unfold AsC
    split
    · split
      · exact nd
      · exact S.nod j hj
    · exact List.nodup_nil
  · have q := (AsC_sub ha).2
    by_cases e : j = i
    · rw [if_pos e] at q; exact nP a q
    · rw [if_neg e] at q; exact S.noP j hj a q
  · have q1 := (AsC_sub ha).2
    have q2 := (AsC_sub hb).2
    by_cases e : j = i
    · rw [if_pos e] at q1
      by_cases e2 : l = i
      · exact hne (e.trans e2.symm)
      · rw [if_neg e2] at q2; exact nO l hl e2 a q1 q2
    · rw [if_neg e] at q1
      by_cases e2 : l = i
      · rw [if_pos e2] at q2; exact nO j hj e a q2 q1
      · rw [if_neg e2] at q2; exact S.dis j hj l hl hne a q1 q2
/-- all that a change of a list, a dict, an instance needs -/
theorem upd_finG {i : Nat} {q : List AcV} {t : Addr} {v0 : V} {kl : List Nat} {f : D → Option D} {e' : En} {o : Ou} {D : Ends} {fr io : Bool} (T : TSx io Z P H As Z P H2 As2) (S2 : SR K n own vw Z P σ H2 env2 As2) (hi : i ∈ own) (hn : i < n) (hv : σ[i]? = some (some v0)) (nv : Nav H2 v0 q t) (hk : ∀ j ∈ vw, j ∈ kl)
    (hf : ∀ d y, f d = some y → muD d = true) (hu : updE i q f kl env2 = some (.ok o e')) {Wx : WX} (qd : Dn K n own vw fr true Z P H As o e' D Wx) :
    ∃ dt dt' C0, f dt = some dt' ∧ Rep K H2 (.ref t) dt (t :: C0) ∧ (∀ a ∈ C0, a ∈ As2 i) ∧ t ∈ As2 i ∧ t ∉ C0 ∧ C0.Nodup ∧
      ∀ ho' C0', Rep K (upd H2 t ho') (.ref t) dt' (t :: C0') → C0'.Nodup → (∀ a ∈ C0', a ∈ C0 ∨ (¬ P a ∧ ¬ OwA own As2 a ∧ (H a = none ∨ ∃ i, a ∈ As i))) → D.nx σ (upd H2 t ho') := by
  unfold updE at hu
  split at hu
  rotate_left
  · cases hu
  rename_i d0 hd0
  simp only [Option.map_eq_some_iff, Rs.ok.injEq] at hu
  obtain ⟨d', hu, rfl, rfl⟩ := hu
  obtain ⟨v0', hv', r⟩ := S2.rep i d0 hd0
  rw [hv] at hv'
  simp only [Option.some.injEq] at hv'
  subst hv'
  obtain ⟨dt, dt', C0, h1, h2, h4, h5, h6, h7, fin⟩ := nav_updG r (S2.nod i hi) nv hu hf
  refine ⟨dt, dt', C0, h1, h2, h4, h5, h6, h7, fun ho' C0' r' k1 k2 => ?_⟩
  obtain ⟨A', rA, nA, sA⟩ := fin ho' C0' r' k1 (fun c => by
    rcases k2 t c with z | z
    · exact h6 z
    · exact z.2.1 ⟨i, hi, h5⟩) (fun a ha => (k2 a ha).imp id fun z c => z.2.1 ⟨i, hi, c⟩)
  have keep : ∀ a o, H2 a = some o → a ∉ As2 i → (upd H2 t ho') a = some o := fun a o h c => by
    rw [upd_ne (show a ≠ t from fun z => c (z ▸ h5))]; exact h
  have mono : ∀ a, H2 a ≠ none → (upd H2 t ho') a ≠ none := fun a h => by
    by_cases e : a = t
    · subst e; rw [upd_same]; simp
    · rw [upd_ne e]; exact h
  refine qd σ _ Z P _ (S2.write hi hn hv mono keep rA nA (fun a ha => ?_) hk) ⟨fun a h => mono a (T.mono a h), fun a o h c => ?_, fun j a ha => ?_, fun _ h => h, fun _ h => h⟩
  · rcases sA a ha with z | z
    · exact .inl z
    · rcases k2 a z with y | y
      · exact .inl (h4 a y)
      · exact .inr ⟨y.1, y.2.1⟩
  · rcases c with c | c | c
    · exact keep a o (T.keep a o h (.inl c)) fun z => S2.noP i hi a z c
    · refine keep a o (T.keep a o h (.inr (.inl c))) fun z => ?_
      obtain ⟨xs', y⟩ := S2.own_mut ⟨i, hi, z⟩
      rw [T.keep a o h (.inr (.inl c))] at y
      exact c xs' (Option.some.inj y)
    · cases c
  · have g := (AsC_sub ha).2
    by_cases e : j = i
    · rw [if_pos e] at g
      rcases sA a g with z | z
      · exact T.al i a z
      · rcases k2 a z with y | y
        · exact T.al i a (h4 a y)
        · exact y.2.2.symm
    · rw [if_neg e] at g; exact T.al j a g
/-- .. of a list -/
theorem upd_fin {i : Nat} {q : List AcV} {t : Addr} {v0 : V} {kl : List Nat} {f : D → Option D} {e' : En} {o : Ou} {D : Ends} {fr io : Bool} (T : TSx io Z P H As Z P H2 As2) (S2 : SR K n own vw Z P σ H2 env2 As2) (hi : i ∈ own) (hn : i < n) (hv : σ[i]? = some (some v0)) (nv : Nav H2 v0 q t) (hk : ∀ j ∈ vw, j ∈ kl)
    (hf : ∀ d y, f d = some y → ∃ xs ys, d = .lst xs ∧ y = .lst ys) (hu : updE i q f kl env2 = some (.ok o e')) {Wx : WX} (qd : Dn K n own vw fr true Z P H As o e' D Wx) :
    ∃ xs ys ws C0, f (.lst xs) = some (.lst ys) ∧ H2 t = some (.lst ws) ∧ Reps K H2 ws xs C0 ∧ (∀ a ∈ C0, a ∈ As2 i) ∧ t ∈ As2 i ∧ t ∉ C0 ∧ C0.Nodup ∧
      ∀ ws' C0', Reps K H2 ws' ys C0' → C0'.Nodup → (∀ a ∈ C0', a ∈ C0 ∨ (¬ P a ∧ ¬ OwA own As2 a ∧ (H a = none ∨ ∃ i, a ∈ As i))) → D.nx σ (upd H2 t (.lst ws')) := by
  obtain ⟨dt, dt', C0, h1, h2, h4, h5, h6, h7, fin⟩ := upd_finG T S2 hi hn hv nv hk (fun d y h => by
    obtain ⟨xs, ys, rfl, rfl⟩ := hf d y h
    rfl) hu qd
  obtain ⟨xs, ys, rfl, rfl⟩ := hf _ _ h1
  cases h2 with
  | @lst t ws xs C0 g1 g2 =>
    refine ⟨xs, ys, ws, C0, h1, g1, g2, h4, h5, h6, h7, fun ws' C0' r' k1 k2 => fin _ C0' (.lst upd_same (r'.keep (fun a o h g => ?_) fun a ha o h => ?_)) k1 k2⟩
    · rw [upd_ne (show a ≠ t from fun z => g ⟨.lst ws, trivial⟩ (by rw [z, g1] at h; exact (Option.some.inj h).symm))]; exact h
    · rw [upd_ne]
      · exact h
      · rintro rfl
        rcases k2 a ha with z | z
        · exact h6 z
        · exact z.2.1 ⟨i, hi, h5⟩
end
end Cy
end
section
set_option Elab.async false
set_option linter.all false
set_option maxRecDepth 100000
set_option maxHeartbeats 4000000
namespace Cy
open PySem L2 PyProof.Rows
variable [ClTab] [Fxd]
section
variable {C : Ct} {Φ : Nat → Fn} {k : Nat} {X : Cx}
/-- attributes, then an index -/
def splitP : List Ac → Option (List Str × Option DE)
  | [] => some ([], none)
  | [.i a] => some ([], some a)
  | .f x :: p => (splitP p).map fun r => (x :: r.1, r.2)
  | _ => none
/-- the receiver -/
def mPth (C : Ct) (sc : Scope) (i : Nat) (p : List Ac) (e : Expr) : Bool := match splitP p with
  | some (fs, none) => mFp C sc i fs.reverse e
  | some (fs, some a) => (match asIx e with | some (l, r) => mFp C sc i fs.reverse l && mE C sc a r | none => false)
  | none => false
def okPth (sg : List (Option Nat × Bool)) (own vw : List Nat) (p : List Ac) : Bool := match splitP p with
  | some (_, none) => true
  | some (_, some a) => okE sg own vw a && !ioE a
  | none => false
theorem splitP_eq : ∀ {p : List Ac} {fs : List Str} {o : Option DE}, splitP p = some (fs, o) → p = fs.map Ac.f ++ (match o with | none => [] | some a => [.i a])
  | [], fs, o, h => by
    simp only [splitP, Option.some.injEq, Prod.mk.injEq] at h
    obtain ⟨rfl, rfl⟩ := h; rfl
  | [.i a], fs, o, h => by
    simp only [splitP, Option.some.injEq, Prod.mk.injEq] at h
    obtain ⟨rfl, rfl⟩ := h; rfl
  | .f x :: p, fs, o, h => by
    simp only [splitP, Option.map_eq_some_iff, Prod.mk.injEq] at h
    obtain ⟨⟨fs', o'⟩, h1, rfl, rfl⟩ := h
    rw [splitP_eq h1]; rfl
  | .i a :: b :: p, fs, o, h => by simp [splitP] at h
theorem mPth_plain {sc : Scope} {i : Nat} {p : List Ac} {e : Expr} (h : mPth C sc i p e = true) : plainX e = true ∧ ∀ x p q, e ≠ .Call (.Name x p) [] [] q := by
  unfold mPth at h
  split at h
  · exact mFp_plain h
  · split at h
    · rename_i hx; obtain ⟨p, rfl⟩ := asIx_eq hx; exact ⟨rfl, fun _ _ _ => by simp⟩
    · cases h
  · cases h
theorem evAc_nx : ∀ (p : List Ac) (e : En) (c : Str) (x : Option D) (e' : En), evAc Φ p e ≠ some (.exn c x e')
  | [], _, _, _, _, h => by cases h
  | .f _ :: _, _, _, _, _, h => by
    obtain ⟨_, _, _, h2⟩ := bd_exi h
    cases h2
  | .i _ :: _, _, _, _, _, h => by
    obtain ⟨_, _, _, h2⟩ := bd_exi h
    obtain ⟨_, _, _, h3⟩ := bd_exi h2
    cases h3
theorem evAc_f : ∀ (fs : List Str) (p : List Ac) (e : En), evAc Φ (fs.map Ac.f ++ p) e = bd (evAc Φ p e) fun q e1 => some (.ok (pathF fs ++ q) e1)
  | [], p, e => by
    show evAc Φ p e = _
    cases h : evAc Φ p e with
    | none => rfl
    | some r =>
      cases r with
      | ok a e1 => rfl
      | exn c x e1 => exact absurd h (evAc_nx p e c x e1)
  | x :: fs, p, e => by
    show bd (evAc Φ (fs.map Ac.f ++ p) e) _ = _
    rw [evAc_f fs p e]
    cases evAc Φ p e with
    | none => rfl
    | some r => cases r <;> rfl
theorem lead_f : ∀ (fs : List Str) (p : List Ac), lead p = [] → lead (fs.map Ac.f ++ p) = pathF fs
  | [], p, h => h
  | x :: fs, p, h => by
    show AcV.f x :: lead (fs.map Ac.f ++ p) = _
    rw [lead_f fs p h]; rfl
theorem chk_eq {i : Nat} {q : List AcV} {e : En} (h : chkP i q e = true) : ∃ d xs, e[i]? = some (some d) ∧ getP q d = some (.lst xs) := by
  unfold chkP at h
  split at h
  · rename_i d hd
    split at h
    · rename_i xs hx; exact ⟨d, xs, hd, hx⟩
    · cases h
  · cases h
/-- the walk to what is changed -/
theorem se_pathG {own vw : List Nat} {i : Nat} {p : List Ac} {ex : Expr} (F : Fx C Φ k X) (hm : mPth C X.env.scope i p ex = true) (ho : okPth C.sigs own vw p = true) {Z P : Addr → Prop} {σ : L2.St} {H : Hp} {env env1 : En} {As : Asg} {q : List AcV} {d0 : Cy.D}
    (S : SR X.K C.N.length own vw Z P σ H env As) (hd0 : env[i]? = some (some d0)) (hpre : preOk p d0 = true) (h1 : evAc Φ p env = some (.ok q env1)) {d1 dt : Cy.D} (hd1 : env1[i]? = some (some d1)) (hg : getP q d1 = some dt) {Q : VK}
    (qq : ∀ H1 As1 u v0 B, SR X.K C.N.length own vw Z P σ H1 env1 As1 → TR own false H As H1 As1 → σ[i]? = some (some v0) → NavV H1 v0 q u → Rep X.K H1 u dt B → (p = [] → q = []) → i < C.N.length → Q u H1) : WE X ex σ H Q := by
  obtain ⟨v0, hv0, r0⟩ := S.rep i d0 hd0
  have hlt : i < C.N.length := by
    have := (List.getElem?_eq_some_iff.mp hd0).1
    rw [S.lenE] at this; exact this
  unfold mPth at hm
  unfold okPth at ho
  split at hm
  · rename_i fs hs
    have hp := splitP_eq hs
    simp only [List.append_nil] at hp
    subst hp
    have ee := evAc_f (Φ := Φ) fs [] env
    rw [List.append_nil] at ee
    rw [ee] at h1
    simp only [evAc, bd, Option.some.injEq, Rs.ok.injEq, List.append_nil] at h1
    obtain ⟨rfl, rfl⟩ := h1
    rw [hd0] at hd1
    simp only [Option.some.injEq] at hd1
    subst hd1
    refine fp_eval F hm hv0 r0 (by rw [List.reverse_reverse]; exact hg) fun u nu => ?_
    rw [List.reverse_reverse] at nu
    obtain ⟨B, rb, _⟩ := nav_rep r0 nu hg
    exact qq H As u v0 B S TR.refl hv0 nu rb (fun z => by cases fs with | nil => rfl | cons x xs => cases z) hlt
  · rename_i fs a hs
    have hp := splitP_eq hs
    dsimp only at hp
    subst hp
    rw [hs] at ho
    simp only [Bool.and_eq_true, Bool.not_eq_true'] at ho
    split at hm
    · rename_i l r hl; obtain ⟨p, rfl⟩ := asIx_eq hl
      simp only [Bool.and_eq_true] at hm
      rw [evAc_f] at h1
      obtain ⟨q1, e1, h2, h3⟩ := bd_inv h1
      simp only [Option.some.injEq, Rs.ok.injEq] at h3
      obtain ⟨rfl, rfl⟩ := h3
      simp only [evAc] at h2
      obtain ⟨dk, e2, h4, h5⟩ := bd_inv h2
      obtain ⟨q0, e3, h6, h7⟩ := bd_inv h5
      simp only [Option.some.injEq, Rs.ok.injEq] at h6 h7
      obtain ⟨rfl, rfl⟩ := h6
      obtain ⟨rfl, rfl⟩ := h7
      unfold preOk at hpre
      rw [lead_f fs [.i a] rfl, Option.isSome_iff_exists] at hpre
      obtain ⟨dm0, hg0⟩ := hpre
      refine (pe_ix ix_list Cy.we Cy.we (plain_ix (mE_plain hm.2).1)).we ?_
      refine fp_eval F hm.1 hv0 r0 (by rw [List.reverse_reverse]; exact hg0) fun u nu => ?_
      rw [List.reverse_reverse] at nu
      refine (soundE a F hm.2 ho.1).1 Z P σ H env As _ _ S h4 _ fun vk H1 Ak As1 S1 T1 rk Ek => ?_
      have T1 : TR own false H As H1 As1 := by rw [ho.2] at T1; exact T1
      have nu1 := nu.keep (fun a o h => T1.keep a o h (fun z => by cases z))
      obtain ⟨v0', hv0', r1⟩ := S1.rep i d1 hd1
      rw [hv0] at hv0'
      simp only [Option.some.injEq] at hv0'
      subst hv0'
      rw [getP_app, Option.bind_eq_some_iff] at hg
      obtain ⟨dm, hg1, hg2⟩ := hg
      obtain ⟨B, rm, _⟩ := nav_rep r1 nu1 hg1
      cases rm with
      | @lst pp vs ds A1 g1 g2 =>
        simp only [getP, Option.bind_eq_some_iff] at hg2
        obtain ⟨c, hc1, hc2⟩ := hg2
        simp only [Option.some.injEq] at hc2
        subst hc2
        cases dk <;> simp only [ixD, keyD, reduceCtorEq, Option.bind_eq_some_iff] at hc1
        rename_i kk
        obtain ⟨j, hj, hdj⟩ := hc1
        cases rk
        obtain ⟨w, B, g3, g4, g5⟩ := g2.get hdj
        have hl := g2.length
        refine ⟨pp, vs, kk, w, rfl, rfl, SqL.of g1, ?_, qq H1 As1 w v0 B S1 T1 hv0 (nu1.app ?_) g4 (fun z => by cases fs <;> cases z) hlt⟩
        · unfold atI
          rw [← ixP_N, hl, hj]; exact g3
        · simp only [NavV]
          exact ⟨pp, vs, j, w, rfl, g1, by rw [hl]; exact hj, g3, rfl⟩
      | _ => simp [getP] at hg2
    · cases hm
  · cases hm
theorem se_path {own vw : List Nat} {i : Nat} {p : List Ac} {ex : Expr} (F : Fx C Φ k X) (hm : mPth C X.env.scope i p ex = true) (ho : okPth C.sigs own vw p = true) {Z P : Addr → Prop} {σ : L2.St} {H : Hp} {env env1 : En} {As : Asg} {q : List AcV}
    (S : SR X.K C.N.length own vw Z P σ H env As) (e : rcv Φ i p env = some (.ok q env1)) {Q : VK}
    (qq : ∀ H1 As1 t v0, SR X.K C.N.length own vw Z P σ H1 env1 As1 → TR own false H As H1 As1 → σ[i]? = some (some v0) → Nav H1 v0 q t → (∃ xs, H1 t = some (.lst xs)) → (p = [] → q = []) → i < C.N.length → Q (.ref t) H1) : WE X ex σ H Q := by
  unfold rcv at e
  split at e
  rotate_left
  · cases e
  rename_i d0 hd0
  split at e
  rotate_left
  · cases e
  rename_i hpre
  obtain ⟨q', e1, h1, h2⟩ := bd_inv e
  split at h2
  rotate_left
  · cases h2
  rename_i hc
  simp only [Option.some.injEq, Rs.ok.injEq] at h2
  obtain ⟨rfl, rfl⟩ := h2
  obtain ⟨d1, xs, hd1, hg⟩ := chk_eq hc
  refine se_pathG F hm ho S hd0 hpre h1 hd1 hg fun H1 As1 u v0 B S1 T1 hv0 nu rb hq hlt => ?_
  cases rb with
  | lst g1 g2 => exact qq H1 As1 _ v0 S1 T1 hv0 nu ⟨_, g1⟩ hq hlt
/-- .. to an instance, to a dict -/
theorem se_pathB {own vw : List Nat} {i : Nat} {p : List Ac} {ex : Expr} {b : Cy.D → Bool} (F : Fx C Φ k X) (hm : mPth C X.env.scope i p ex = true) (ho : okPth C.sigs own vw p = true) {Z P : Addr → Prop} {σ : L2.St} {H : Hp} {env env1 : En} {As : Asg} {q : List AcV}
    (S : SR X.K C.N.length own vw Z P σ H env As) (e : rcvB Φ b i p env = some (.ok q env1)) {Q : VK}
    (qq : ∀ H1 As1 u v0 B dt, SR X.K C.N.length own vw Z P σ H1 env1 As1 → TR own false H As H1 As1 → σ[i]? = some (some v0) → NavV H1 v0 q u → Rep X.K H1 u dt B → b dt = true → (p = [] → q = []) → i < C.N.length → Q u H1) : WE X ex σ H Q := by
  unfold rcvB at e
  split at e
  rotate_left
  · cases e
  rename_i d0 hd0
  split at e
  rotate_left
  · cases e
  rename_i hpre
  obtain ⟨q', e1, h1, h2⟩ := bd_inv e
  split at h2
  rotate_left
  · cases h2
  rename_i hc
  simp only [Option.some.injEq, Rs.ok.injEq] at h2
  obtain ⟨rfl, rfl⟩ := h2
  obtain ⟨d1, dt, hd1, hg, hb⟩ := chkB_eq hc
  exact se_pathG F hm ho S hd0 hpre h1 hd1 hg fun H1 As1 u v0 B S1 T1 hv0 nu rb hq hlt => qq H1 As1 u v0 B dt S1 T1 hv0 nu rb hb hq hlt
theorem ty_lst {K : PySem.W.Frag} {H : Hp} {t : Addr} (h : ∃ xs, H t = some (.lst xs)) : tyV K "list" (.ref t) H := by
  obtain ⟨xs, h⟩ := h
  exact .inl ⟨rfl, _, SqL.of h⟩
theorem few_one {e : Expr} {env : PySem.Env} {cpos : Pos} (h : plainX e = true) : ((backTo cpos (starEach [e] env)).all (fun x => !x.1) && (backToKw cpos (keywordEach [] env)).all (fun x => x.1.isSome)
      && decide (([e] : List Expr).length + ([] : List Keyword).length + (if ([] : List Keyword).isEmpty then 0 else 1) < 30)) = true := by
  rw [plain_star h]
  rfl
theorem frE_sub {K : PySem.W.Frag} {n : Nat} {own vw : List Nat} {Z P : Addr → Prop} {σ : L2.St} {H H1 : Hp} {env : En} {As As1 As2 : Asg} {fr sh io : Bool} {A : List Addr} (S : SR K n own vw Z P σ H1 env As1) (T : TR own io H As H1 As1) (E : EF own Z fr sh H1 As1 As2 A) (h : fr = true) :
    A.Nodup ∧ ∀ a ∈ A, ¬ P a ∧ ¬ OwA own As2 a ∧ (H a = none ∨ ∃ i, a ∈ As i) :=
  ⟨(E.1 h).1, fun a ha => ⟨(S.newP ((E.1 h).2 a ha)).1, ((E.1 h).2 a ha).2, (E.back T).2.2 a ha⟩⟩
/-- x.append(e), x[i].append(e) -/
theorem ss_app {own vw : List Nat} {fr : Bool} {i : Nat} {p : List Ac} {a : DE} {kl : List Nat} {ob x : Expr} {ap cp sp : Pos} (F : Fx C Φ k X) (hm : mPth C X.env.scope i p ob = true) (ho : okPth C.sigs own vw p = true) (hi : i ∈ own) (hk : ∀ j ∈ vw, j ∈ kl)
    (hl : (ap.endLine == cp.line) = true) (hp : plainX x = true) (ha : SE C Φ X own vw a x) (hf : frE C.sigs a = true) (hio : p = [] ∨ ioE a = false) :
    SS C X own vw fr true (evS Φ (.upd i p (.app a) kl)) (WS X (.Expr (.Call (.Attribute ob "append" ap) [x] [] cp) sp)) := by
  intro Z P σ H env As o env' S e D Wx tk q
  simp only [evS, evU] at e
  obtain ⟨qp, e1, h1, h2⟩ := bd_inv e
  obtain ⟨d, e2, h3, h4⟩ := bd_inv h2
  refine (ps_expr (pe_bm PySem.F.plainAttrs_list PySem.F.slot_list_append PySem.F.type_list_append mt_append Cy.we (pa_cons Cy.we pa_nil (plain_star hp)) (base_of (mPth_plain hm).2) (few_one hp) hl (plain_star hp) rfl)).we ?_
  refine se_path F hm ho S h1 fun H1 As1 t v0 S1 T1 hv0 nv mt hq hlt => ⟨ty_lst mt, ?_⟩
  refine ha Z P σ H1 e1 As1 _ _ S1 h3 _ fun w H2 Aw As2 S2 T2 rw E2 => ?_
  have nv2 := nv.step T2 (hio.imp hq id)
  obtain ⟨xs, ys, ws, C0, g1, g2, g3, g4, g5, g6, g7, fin⟩ := upd_fin (fr := fr) (io := true) (o := o) (D := D) (((T1.tsx S).trans (T2.tsx S1) (fun z => by cases z) (fun _ => rfl))) S2 hi hlt hv0 nv2 hk (fun d y h => by
    split at h
    · split at h
      · simp only [Option.some.injEq] at h; exact ⟨_, _, rfl, h.symm⟩
      · cases h
    · cases h) h4 q
  dsimp only at g1
  split at g1
  rotate_left
  · cases g1
  rename_i hz
  simp only [Option.some.injEq, Cy.D.lst.injEq] at g1
  subst g1
  obtain ⟨n1, n2⟩ := frE_sub S1 T1 E2 hf
  refine ⟨t, ws, w, rfl, rfl, g2, ?_, fin (ws ++ [w]) (C0 ++ Aw) (g3.append (Reps.one rw)) (List.nodup_append.mpr ⟨g7, n1, fun a ha b hb z => ?_⟩) fun a h => ?_⟩
  · rw [g3.length]; exact line_ltLMX hz
  · subst z; exact (n2 a hb).2.1 ⟨i, hi, g4 a ha⟩
  · rcases List.mem_append.mp h with h | h
    · exact .inl h
    · exact .inr (n2 a h)
/-- x.extend(e) -/
theorem ss_ext {own vw : List Nat} {fr : Bool} {i : Nat} {p : List Ac} {a : DE} {kl : List Nat} {ob x : Expr} {ap cp sp : Pos} (F : Fx C Φ k X) (hm : mPth C X.env.scope i p ob = true) (ho : okPth C.sigs own vw p = true) (hi : i ∈ own) (hk : ∀ j ∈ vw, j ∈ kl)
    (hl : (ap.endLine == cp.line) = true) (hp : plainX x = true) (ha : SE C Φ X own vw a x) (hf : frE C.sigs a = true) (hio : p = [] ∨ ioE a = false) :
    SS C X own vw fr true (evS Φ (.upd i p (.ext a) kl)) (WS X (.Expr (.Call (.Attribute ob "extend" ap) [x] [] cp) sp)) := by
  intro Z P σ H env As o env' S e D Wx tk q
  simp only [evS, evU] at e
  obtain ⟨qp, e1, h1, h2⟩ := bd_inv e
  obtain ⟨d, e2, h3, h4⟩ := bd_inv h2
  refine (ps_expr (pe_bm PySem.F.plainAttrs_list PySem.F.slot_list_extend PySem.F.type_list_extend mt_extend Cy.we (pa_cons Cy.we pa_nil (plain_star hp)) (base_of (mPth_plain hm).2) (few_one hp) hl (plain_star hp) rfl)).we ?_
  refine se_path F hm ho S h1 fun H1 As1 t v0 S1 T1 hv0 nv mt hq hlt => ⟨ty_lst mt, ?_⟩
  refine ha Z P σ H1 e1 As1 _ _ S1 h3 _ fun w H2 Aw As2 S2 T2 rw E2 => ?_
  have nv2 := nv.step T2 (hio.imp hq id)
  obtain ⟨xs, ys, ws, C0, g1, g2, g3, g4, g5, g6, g7, fin⟩ := upd_fin (fr := fr) (io := true) (o := o) (D := D) (((T1.tsx S).trans (T2.tsx S1) (fun z => by cases z) (fun _ => rfl))) S2 hi hlt hv0 nv2 hk (fun d' y h => by
    split at h
    · split at h
      · simp only [Option.some.injEq] at h; exact ⟨_, _, rfl, h.symm⟩
      · cases h
    · cases h) h4 q
  cases rw with
  | @lst b zs dys B r1 r2 =>
    dsimp only at g1
    split at g1
    rotate_left
    · cases g1
    rename_i hz
    simp only [Option.some.injEq, Cy.D.lst.injEq] at g1
    subst g1
    obtain ⟨n1, n2⟩ := frE_sub S1 T1 E2 hf
    obtain ⟨n3, n4⟩ := List.nodup_cons.mp n1
    refine ⟨t, b, ws, zs, rfl, rfl, g2, r1, ?_, fin (ws ++ zs) (C0 ++ B) (g3.append r2) (List.nodup_append.mpr ⟨g7, n4, fun a ha c hc z => ?_⟩) fun a h => ?_⟩
    · rw [g3.length, r2.length]; exact line_LMX hz
    · subst z; exact (n2 a (List.mem_cons_of_mem _ hc)).2.1 ⟨i, hi, g4 a ha⟩
    · rcases List.mem_append.mp h with h | h
      · exact .inl h
      · exact .inr (n2 a (List.mem_cons_of_mem _ h))
  | _ => cases g1
theorem few_two {e f : Expr} {env : PySem.Env} {cpos : Pos} (h : plainX e = true) (h2 : plainX f = true) : ((backTo cpos (starEach [e, f] env)).all (fun x => !x.1) && (backToKw cpos (keywordEach [] env)).all (fun x => x.1.isSome)
      && decide (([e, f] : List Expr).length + ([] : List Keyword).length + (if ([] : List Keyword).isEmpty then 0 else 1) < 30)) = true := by
  rw [plain_star h, plain_star h2]
  rfl
theorem any_one {f : Expr} {env : PySem.Env} {cpos : Pos} (h2 : plainX f = true) : (backTo cpos (starEach [f] env)).any (·.1) = false := by
  rw [plain_star h2]
  rfl
/-- x.insert(j, e), e without lists -/
theorem ss_ins {own vw : List Nat} {fr : Bool} {i : Nat} {j a : DE} {kl : List Nat} {ob x y : Expr} {ap cp sp : Pos} (F : Fx C Φ k X) (hm : mPth C X.env.scope i [] ob = true) (hi : i ∈ own) (hk : ∀ j ∈ vw, j ∈ kl)
    (hl : (ap.endLine == cp.line) = true) (hp : plainX x = true) (hp2 : plainX y = true) (hj : SE C Φ X own vw j x) (ha : SE C Φ X own vw a y) :
    SS C X own vw fr true (evS Φ (.upd i [] (.ins j a) kl)) (WS X (.Expr (.Call (.Attribute ob "insert" ap) [x, y] [] cp) sp)) := by
  intro Z P σ H env As o env' S e D Wx tk q
  simp only [evS, evU] at e
  obtain ⟨qp, e1, h1, h2⟩ := bd_inv e
  obtain ⟨kd, e2, h3, h4⟩ := bd_inv h2
  obtain ⟨d, e3, h5, h6⟩ := bd_inv h4
  split at h6
  rotate_left
  · cases h6
  rename_i hpd
  have ho : okPth C.sigs own vw [] = true := rfl
  refine (ps_expr (pe_bm PySem.F.plainAttrs_list PySem.F.slot_list_insert PySem.F.type_list_insert mt_insert Cy.we (pa_cons Cy.we (pa_cons Cy.we pa_nil (plain_star hp2)) (plain_star hp)) (base_of (mPth_plain hm).2) (few_two hp hp2) hl (plain_star hp) (any_one hp2))).we ?_
  refine se_path F hm ho S h1 fun H1 As1 t v0 S1 T1 hv0 nv mt hq hlt => ⟨ty_lst mt, ?_⟩
  have hq0 : qp = [] := hq rfl
  subst hq0
  refine hj Z P σ H1 e1 As1 _ _ S1 h3 _ fun w2 H2 Aj As2 S2 T2 rj E2 => ?_
  refine ha Z P σ H2 e2 As2 _ _ S2 h5 _ fun w H3 Aw As3 S3 T3 rw E3 => ?_
  have nv2 := (nv.step T2 (.inl rfl)).step T3 (.inl rfl)
  obtain ⟨xs, ys, ws, C0, g1, g2, g3, g4, g5, g6, g7, fin⟩ := upd_fin (fr := fr) (io := true) (o := o) (D := D) (((T1.tsx S).trans (T2.tsx S1) (fun z => by cases z) (fun _ => rfl)).trans (T3.tsx S2) (fun _ => rfl) (fun _ => rfl)) S3 hi hlt hv0 nv2 hk (fun d' y h => by
    split at h
    · split at h
      · simp only [Option.some.injEq] at h; exact ⟨_, _, rfl, h.symm⟩
      · cases h
    · cases h) h6 q
  cases rj with
  | int n =>
    dsimp only at g1
    split at g1
    rotate_left
    · cases g1
    rename_i hz
    simp only [Option.some.injEq, Cy.D.lst.injEq] at g1
    subst g1
    have hAw := rw.pure hpd
    subst hAw
    obtain ⟨B, C, e1, r1, r2⟩ := g3.part n.toNat
    refine ⟨t, ws, n, w, rfl, rfl, g2, ?_, hz.2.1, by have := hz.2.2; omega, fin (ws.take n.toNat ++ [w] ++ ws.drop n.toNat) (B ++ [] ++ C) ((r1.append (Reps.one rw)).append r2) (by rw [List.append_nil, ← e1]; exact g7) fun a h => .inl (by rw [e1]; simpa using h)⟩
    rw [g3.length]; exact line_ltLMX hz.1
  | _ => dsimp only at g1; cases g1
/-- x.clear() -/
theorem ss_clr {own vw : List Nat} {fr : Bool} {i : Nat} {p : List Ac} {kl : List Nat} {ob : Expr} {ap cp sp : Pos} (F : Fx C Φ k X) (hm : mPth C X.env.scope i p ob = true) (ho : okPth C.sigs own vw p = true) (hi : i ∈ own) (hk : ∀ j ∈ vw, j ∈ kl)
    (hl : (ap.endLine == cp.line) = true) : SS C X own vw fr true (evS Φ (.upd i p .clr kl)) (WS X (.Expr (.Call (.Attribute ob "clear" ap) [] [] cp) sp)) := by
  intro Z P σ H env As o env' S e D Wx tk q
  simp only [evS, evU] at e
  obtain ⟨qp, e1, h1, h2⟩ := bd_inv e
  refine (ps_expr (pe_bm0 PySem.F.plainAttrs_list PySem.F.slot_list_clear PySem.F.type_list_clear mt_clear Cy.we (base_of (mPth_plain hm).2) hl)).we ?_
  refine se_path F hm ho S h1 fun H1 As1 t v0 S1 T1 hv0 nv mt hq hlt => ⟨ty_lst mt, ?_⟩
  obtain ⟨xs, ys, ws, C0, g1, g2, g3, g4, g5, g6, g7, fin⟩ := upd_fin (fr := fr) (io := true) (o := o) (D := D) ((T1.tsx S).weak (fun z => by cases z)) S1 hi hlt hv0 nv hk (fun d' y h => by
    split at h
    · simp only [Option.some.injEq] at h; exact ⟨_, _, rfl, h.symm⟩
    · cases h) h2 q
  simp only [Option.some.injEq, Cy.D.lst.injEq] at g1
  subst g1
  exact ⟨t, ws, rfl, rfl, g2, fin [] [] .nil List.nodup_nil (fun a h => nomatch h)⟩
theorem reps_rev {K : PySem.W.Frag} {H : Hp} : ∀ {ds : List D} {vs : List V}, Reps K H vs ds [] → Reps K H vs.reverse ds.reverse []
  | [], [], r => r
  | d :: ds, v :: vs, r => by
    generalize hA : ([] : List Addr) = A at r
    cases r with
    | cons r1 r2 =>
      obtain ⟨e1, e2⟩ := List.append_eq_nil_iff.mp hA.symm
      subst e1; subst e2
      rw [List.reverse_cons, List.reverse_cons]
      exact (reps_rev r2).append (Reps.one r1)
/-- x.reverse() -/
theorem ss_rvs {own vw : List Nat} {fr : Bool} {i : Nat} {p : List Ac} {kl : List Nat} {ob : Expr} {ap cp sp : Pos} (F : Fx C Φ k X) (hm : mPth C X.env.scope i p ob = true) (ho : okPth C.sigs own vw p = true) (hi : i ∈ own) (hk : ∀ j ∈ vw, j ∈ kl)
    (hl : (ap.endLine == cp.line) = true) : SS C X own vw fr true (evS Φ (.upd i p .rvs kl)) (WS X (.Expr (.Call (.Attribute ob "reverse" ap) [] [] cp) sp)) := by
  intro Z P σ H env As o env' S e D Wx tk q
  simp only [evS, evU] at e
  obtain ⟨qp, e1, h1, h2⟩ := bd_inv e
  refine (ps_expr (pe_bm0 PySem.F.plainAttrs_list PySem.F.slot_list_reverse PySem.F.type_list_reverse mt_reverse Cy.we (base_of (mPth_plain hm).2) hl)).we ?_
  refine se_path F hm ho S h1 fun H1 As1 t v0 S1 T1 hv0 nv mt hq hlt => ⟨ty_lst mt, ?_⟩
  obtain ⟨xs, ys, ws, C0, g1, g2, g3, g4, g5, g6, g7, fin⟩ := upd_fin (fr := fr) (io := true) (o := o) (D := D) ((T1.tsx S).weak (fun z => by cases z)) S1 hi hlt hv0 nv hk (fun d' y h => by
    split at h
    · split at h
      · simp only [Option.some.injEq] at h; exact ⟨_, _, rfl, h.symm⟩
      · cases h
    · cases h) h2 q
  dsimp only at g1
  split at g1
  rotate_left
  · cases g1
  rename_i hz
  simp only [Option.some.injEq, Cy.D.lst.injEq] at g1
  subst g1
  obtain rfl := g3.pure hz
  exact ⟨t, ws, rfl, rfl, g2, fin ws.reverse [] (reps_rev g3) List.nodup_nil (fun a h => nomatch h)⟩
/-- x[i] = e, x[i][j] = e -/
theorem ss_sub {own vw : List Nat} {fr : Bool} {i : Nat} {p : List Ac} {j a : DE} {kl : List Nat} {ob ix x : Expr} {tp sp : Pos} (F : Fx C Φ k X) (hm : mPth C X.env.scope i p ob = true) (ho : okPth C.sigs own vw p = true) (hi : i ∈ own) (hk : ∀ j ∈ vw, j ∈ kl)
    (hp : plainX ix = true) (ha : SE C Φ X own vw a x) (hj : SE C Φ X own vw j ix) (hf : frE C.sigs a = true) (hio : ioE j = false)
    (hs : ∀ v, assign (.Subscript ob ix tp) X.env v = (do
      let ov ← holding [v] (eval ob X.env)
      let iv ← holding [v, ov] (eval ix X.env)
      standAt tp
      holding [v, ov, iv] (setItem ov iv v)
      release [v, ov, iv] [])) (h1 : swapsWithSole [.Subscript ob ix tp] x sp.line X.env = pure false) (h2 : swappedStores [.Subscript ob ix tp] x X.env = pure none) :
    SS C X own vw fr true (evS Φ (.upd i p (.set j a) kl)) (WS X (.Assign [.Subscript ob ix tp] x sp)) := by
  intro Z P σ H env As o env' S e D Wx tk q
  simp only [evS, evU] at e
  obtain ⟨d, e1, k1, k2⟩ := bd_inv e
  obtain ⟨qp, e2, k3, k4⟩ := bd_inv k2
  obtain ⟨dk, e3, k5, k6⟩ := bd_inv k4
  refine (ps_asg Cy.we (pg_sub Cy.we Cy.we set_list hs) h1 h2 rfl).we ?_
  refine ha Z P σ H env As _ _ S k1 _ fun w H1 Aw As1 S1 T1 rw E1 => ?_
  refine se_path F hm ho S1 k3 fun H2 As2 t v0 S2 T2 hv0 nv mt hq hlt => ?_
  refine hj Z P σ H2 e2 As2 _ _ S2 k5 _ fun vk H3 Ak As3 S3 T3 rk E3 => ?_
  have T3' : TR own false H2 As2 H3 As3 := by rw [hio] at T3; exact T3
  have nv3 := nv.step T3' (.inr rfl)
  have T23 := T2.trans T3' (io := false) id id
  have rw3 := rw.step S1 T23 (fun z => by cases z)
  have E13 := E1.step (fun a h => rw.mut a h) T23
  have T13 := T1.trans T23 (io := true) (fun _ => rfl) (fun z => by cases z)
  obtain ⟨xs, ys, ws, C0, g1, g2, g3, g4, g5, g6, g7, fin⟩ := upd_fin (fr := fr) (io := true) (o := o) (D := D) (T13.tsx S) S3 hi hlt hv0 nv3 hk (fun d' y h => by
    unfold setD at h
    split at h
    · simp only [Option.map_eq_some_iff] at h
      obtain ⟨_, _, h⟩ := h
      exact ⟨_, _, rfl, h.symm⟩
    · cases h) k6 q
  cases dk <;> simp only [setD, reduceCtorEq, Option.map_eq_some_iff] at g1
  rename_i kk
  obtain ⟨jj, hjj, g1⟩ := g1
  simp only [Cy.D.lst.injEq] at g1
  subst g1
  cases rk
  obtain ⟨n1, n2⟩ := frE_sub (As2 := As3) S (TR.refl (io := false)) E13 hf
  have hlt2 : jj < xs.length := by
    have := ixP_N xs.length kk
    rw [this] at hjj
    exact (ixN_seq hjj).2.1
  obtain ⟨A1, Cc, A2, eA, rs, _⟩ := g3.set jj rw3 hlt2
  have c0 : ∀ a, a ∈ A1 ∨ a ∈ A2 → a ∈ C0 := fun a h => by rw [eA]; rcases h with h | h <;> simp [h]
  refine ⟨t, ws, kk, jj, rfl, rfl, g2, by rw [← ixP_N, g3.length]; exact hjj, fin _ (A1 ++ Aw ++ A2) rs (nodup_mid (C := Cc) (by rw [← eA]; exact g7) n1 fun a ha => .inr fun z => ?_) fun a h => ?_⟩
  · rw [← eA] at z
    exact (n2 a ha).2.1 ⟨i, hi, g4 a z⟩
  · rcases List.mem_append.mp h with h | h
    · rcases List.mem_append.mp h with h | h
      · exact .inl (c0 a (.inl h))
      · exact .inr (n2 a h)
    · exact .inl (c0 a (.inr h))
/-- o[i] of a list of numbers -/
def rGet : V → V → Hp → VK → Prop := fun o i H Q => ∃ t ws kk w, o = .ref t ∧ i = .int kk ∧ H t = some (.lst ws) ∧ atI ws kk = some w ∧ Q w H
theorem get_ok : PGet X rGet := by
  intro pins s σ H o i ov iv Q I ro ri ⟨t, ws, kk, w, eo, ei, hH, hw, q⟩
  subst eo ei
  cases ro
  obtain ⟨tk, rfl⟩ := ri
  obtain ⟨its, r, pl, hz⟩ := I.list (SqL.of hH)
  obtain ⟨j, h1, h2, h3, h4, h5⟩ := atI_get hw
  obtain ⟨u, ew, ru⟩ := r.get h2
  have hl := r.length
  have hn := line63
  have fin : EP X pins σ Q u s := ⟨w, H, I, ru, q⟩
  by_cases h0 : 0 ≤ kk
  · have hj : kk.toNat = j := by
      rw [seqIndex_of h0 h5] at h1
      exact Option.some.inj h1
    exact wpAny_getItem_list pl.isList h0 (by omega) (by rw [hj]; simpa using ew) fin
  · have hj : (kk + (its.toArray.size : Int)).toNat = j := by
      rw [seqIndex_neg (by omega) h4] at h1
      rw [List.size_toArray, ← hl]
      exact Option.some.inj h1
    exact wpAny_getItem_list_neg pl.isList (by omega) (by rw [List.size_toArray] <;> omega) (by omega) (by rw [hj]; simpa using ew) fin
theorem chkI_eq {i : Nat} {q : List AcV} {kd : Cy.D} {e : En} (h : chkI i q kd e = true) : ∃ d xs m, e[i]? = some (some d) ∧ getP q d = some (.lst xs) ∧ ixD (.lst xs) kd = some (.int m) := by
  unfold chkI at h
  split at h
  · rename_i d hd
    split at h
    · rename_i xs hx
      split at h
      · rename_i m hm; exact ⟨d, xs, m, hd, hx, hm⟩
      · cases h
    · cases h
  · cases h
theorem nav_get {K : PySem.W.Frag} {H : Hp} {v0 : V} {d : Cy.D} {A : List Addr} {q : List AcV} {t : Addr} {xs : List Cy.D} (r : Rep K H v0 d A) (nv : Nav H v0 q t) (g : getP q d = some (.lst xs)) : ∃ ws C, H t = some (.lst ws) ∧ Reps K H ws xs C := by
  obtain ⟨C, r1, _⟩ := nav_rep r nv g
  cases r1 with
  | lst h r => exact ⟨_, _, h, r⟩
/-- x[i] += e -/
theorem ss_subaug {own vw : List Nat} {fr : Bool} {i : Nat} {p : List Ac} {op : BO} {j a : DE} {kl : List Nat} {ob ix x : Expr} {tp sp : Pos} (F : Fx C Φ k X) (hm : mPth C X.env.scope i p ob = true) (ho : okPth C.sigs own vw p = true) (hi : i ∈ own) (hk : ∀ j ∈ vw, j ∈ kl)
    (hp : plainX ix = true) (ha : SE C Φ X own vw a x) (hj : SE C Φ X own vw j ix) (hio : ioE j = false) (hio2 : ioE a = false) (hop : op = .add ∨ op = .sub)
    (hs : ∀ ov iv new, augStore ix ov iv new = (do holding [new, ov, iv] (setItem ov iv new); release [new, ov, iv] []; pure .next)) :
    SS C X own vw fr true (evS Φ (.upd i p (.aug op j a) kl)) (WS X (.AugAssign (.Subscript ob ix tp) (opOf op) x sp)) := by
  intro Z P σ H env As o env' S e D Wx tk q
  simp only [evS, evU] at e
  obtain ⟨qp, e1, k1, k2⟩ := bd_inv e
  obtain ⟨dk, e2, k3, k4⟩ := bd_inv k2
  obtain ⟨hch, k4⟩ := gd_inv k4
  obtain ⟨d, e3, k5, k6⟩ := bd_inv k4
  refine (ps_augS Cy.we Cy.we get_ok Cy.we (ip_aug hop) set_list hs).we ?_
  refine se_path F hm ho S k1 fun H1 As1 t v0 S1 T1 hv0 nv mt hq hlt => ?_
  refine hj Z P σ H1 e1 As1 _ _ S1 k3 _ fun vk H2 Ak As2 S2 T2 rk E2 => ?_
  have T2' : TR own false H1 As1 H2 As2 := by rw [hio] at T2; exact T2
  have nv2 := nv.step T2' (.inr rfl)
  obtain ⟨xs2, ht2⟩ : ∃ xs, H2 t = some (.lst xs) := by
    obtain ⟨xs, m⟩ := mt
    exact ⟨xs, T2'.keep _ _ m (fun z => by cases z)⟩
  obtain ⟨dq, xq, m0, hq1, hq2, hq3⟩ := chkI_eq (by simpa using hch)
  obtain ⟨v0', hv0', rq⟩ := S2.rep i dq hq1
  rw [hv0] at hv0'
  simp only [Option.some.injEq] at hv0'
  subst hv0'
  obtain ⟨wq, Cq, hq4, hq5⟩ := nav_get rq nv2 hq2
  rw [ht2] at hq4
  simp only [Option.some.injEq, HO.lst.injEq] at hq4
  subst hq4
  -- the item's value: what stands there still stands behind the value's making
  have key : ∀ (w : V), (∃ kk m, vk = .int kk ∧ atI xs2 kk = some w ∧ w = .int m) → WE X x σ H2 (fun y H4 => rAug op w y H4 fun z H5 => rSetL (.ref t) vk z H5 fun H6 => D.nx σ H6) := by
    rintro w ⟨kk, m, rfl, hat, rfl⟩
    refine ha Z P σ H2 e2 As2 _ _ S2 k5 _ fun vy H3 Ay As3 S3 T3 ry E3 => ?_
    have T3' : TR own false H2 As2 H3 As3 := by rw [hio2] at T3; exact T3
    have nv3 := nv2.step T3' (.inr rfl)
    have T12 := T1.trans (T2'.trans T3' (io := false) id id) (io := true) (fun z => by cases z) (fun z => by cases z)
    obtain ⟨xs, ys, ws, C0, g1, g2, g3, g4, g5, g6, g7, fin⟩ := upd_fin (fr := fr) (io := true) (o := o) (D := D) (T12.tsx S) S3 hi hlt hv0 nv3 hk (fun d' y h => by
      simp only [Option.bind_eq_some_iff] at h
      obtain ⟨_, _, _, _, h⟩ := h
      unfold setD at h
      split at h
      · simp only [Option.map_eq_some_iff] at h
        obtain ⟨_, _, h⟩ := h
        exact ⟨_, _, rfl, h.symm⟩
      · cases h) k6 q
    have ht3 := T3'.keep _ _ ht2 (fun z => by cases z)
    rw [g2] at ht3
    simp only [Option.some.injEq, HO.lst.injEq] at ht3
    subst ht3
    simp only [Option.bind_eq_some_iff] at g1
    obtain ⟨dx, hdx, dz, hdz, g1⟩ := g1
    obtain rfl : dk = .int kk := by
      cases rk with
      | int => rfl
      | any _ => simp [ixD] at hdx
    simp only [ixD, Option.bind_eq_some_iff] at hdx
    obtain ⟨jj, hjj, hdx⟩ := hdx
    simp only [setD, hjj, Option.map_some, Option.some.injEq, Cy.D.lst.injEq] at g1
    subst g1
    have hjw : ixN ws.length kk = some jj := by rw [← ixP_N, g3.length]; exact hjj
    have hlt2 : jj < xs.length := by
      rw [← g3.length]; exact (ixN_seq hjw).2.1
    unfold atI at hat
    rw [hjw] at hat
    simp only [Option.bind_some] at hat
    obtain ⟨w', B', h8, h9, h10⟩ := g3.get hdx
    rw [hat] at h8
    simp only [Option.some.injEq] at h8
    subst h8
    obtain rfl : dx = .int m := by
      cases h9 with
      | int => rfl
      | any _ => rcases hop with rfl | rfl <;> simp [binD] at hdz
    have setOk : ∀ n : Int, dz = .int n → rSetL (.ref t) (.int kk) (.int n) H3 fun H6 => D.nx σ H6 := fun n en => by
      subst en
      obtain ⟨A1, Cc, A2, eA, rs, _⟩ := g3.set jj (Rep.int (K := X.K) (H := H3) n) hlt2
      have c0 : ∀ a, a ∈ A1 ∨ a ∈ A2 → a ∈ C0 := fun a h => by rw [eA]; rcases h with h | h <;> simp [h]
      refine ⟨t, ws, kk, jj, rfl, rfl, g2, hjw, fin _ (A1 ++ [] ++ A2) rs (nodup_mid (C := Cc) (by rw [← eA]; exact g7) List.nodup_nil fun a ha => nomatch ha) fun a h => .inl ?_⟩
      rcases List.mem_append.mp h with h | h
      · rcases List.mem_append.mp h with h | h
        · exact c0 a (.inl h)
        · cases h
      · exact c0 a (.inr h)
    rcases hop with rfl | rfl
    · cases ry <;> simp only [binD, Option.some.injEq, reduceCtorEq] at hdz
      exact .inl ⟨_, _, rfl, rfl, .inl ⟨rfl, setOk _ hdz.symm⟩⟩
    · cases ry <;> simp only [binD, Option.some.injEq, reduceCtorEq] at hdz
      exact .inl ⟨_, _, rfl, rfl, .inr ⟨rfl, setOk _ hdz.symm⟩⟩
  have hkk : ∃ kk, dk = .int kk := by
    cases dk <;> simp only [ixD, keyD, reduceCtorEq] at hq3
    exact ⟨_, rfl⟩
  obtain ⟨kk, rfl⟩ := hkk
  simp only [ixD, Option.bind_eq_some_iff] at hq3
  obtain ⟨jq, hjq, hdq⟩ := hq3
  obtain ⟨w, Bq, hw1, hw2, _⟩ := hq5.get hdq
  cases rk
  have hat : atI xs2 kk = some w := by
    unfold atI
    rw [← ixP_N, hq5.length, hjq]; exact hw1
  cases hw2
  exact ⟨t, xs2, kk, _, rfl, rfl, ht2, hat, key _ ⟨kk, _, rfl, hat, rfl⟩⟩
end
end Cy
end
section
set_option Elab.async false
set_option linter.all false
set_option maxRecDepth 100000
set_option maxHeartbeats 4000000
namespace Cy
open PySem L2 PyProof.Rows
variable [ClTab] [Fxd]
/-- what stands at the end of q, and what another thing there makes of all -/
def Foc (K : PySem.W.Frag) (H : Hp) (v0 : V) (d0 : D) (A : List Addr) (q : List Int) (u : V) (dt : D) : Prop :=
  ∃ A1 C A2, A = A1 ++ C ++ A2 ∧ Rep K H u dt C ∧ ∀ f dt' d', f dt = some dt' → updT q f d0 = some d' → ∀ H' C', (∀ a o, H a = some o → (∀ xs : MO, o ≠ xs.1) → H' a = some o) → (∀ a, a ∈ A1 ∨ a ∈ A2 → ∀ o, H a = some o → H' a = some o) → Rep K H' u dt' C' → Rep K H' v0 d' (A1 ++ C' ++ A2)
theorem getT_app : ∀ {q1 q2 : List Int} {d : D}, getT (q1 ++ q2) d = (getT q1 d).bind (getT q2)
  | [], q2, d => rfl
  | k :: q1, q2, .lst xs => by
    simp only [List.cons_append, getT]
    cases ixD (.lst xs) (.int k) with
    | none => rfl
    | some c => exact getT_app
  | k :: q1, q2, .tup xs => by
    simp only [List.cons_append, getT]
    cases ixD (.tup xs) (.int k) with
    | none => rfl
    | some c => exact getT_app
  | _ :: _, _, .non => rfl
  | _ :: _, _, .bl _ => rfl
  | _ :: _, _, .int _ => rfl
  | _ :: _, _, .str _ => rfl
  | _ :: _, _, .scr _ => rfl
  | _ :: _, _, .dct _ _ => rfl
  | _ :: _, _, .obj _ _ _ => rfl
  | _ :: _, _, .frz _ => rfl
  | _ :: _, _, .hol _ => rfl
  | _ :: _, _, .any => rfl
  | _ :: _, _, .err _ _ => rfl
theorem updT_app (f : D → Option D) : ∀ (q1 q2 : List Int) (d : D), updT (q1 ++ q2) f d = updT q1 (updT q2 f) d
  | [], q2, d => rfl
  | k :: q1, q2, d => by
    simp only [List.cons_append, updT]
    cases ixD d (.int k) with
    | none => rfl
    | some c => simp only [Option.bind_some, updT_app f q1 q2 c]
theorem updT_get {f : D → Option D} : ∀ {q : List Int} {d d' dt : D}, updT q f d = some d' → getT q d = some dt → ∃ dt', f dt = some dt'
  | [], d, d', dt, h, g => by
    simp only [getT, Option.some.injEq] at g; subst g
    exact ⟨d', h⟩
  | k :: q, .lst xs, d', dt, h, g => by
    simp only [updT, getT, Option.bind_eq_some_iff] at h g
    obtain ⟨c, h1, c', h2, _⟩ := h
    obtain ⟨c2, g1, g2⟩ := g
    rw [h1] at g1
    simp only [Option.some.injEq] at g1; subst g1
    exact updT_get h2 g2
  | k :: q, .tup xs, d', dt, h, g => by
    simp only [updT, getT, Option.bind_eq_some_iff] at h g
    obtain ⟨c, h1, c', h2, _⟩ := h
    obtain ⟨c2, g1, g2⟩ := g
    rw [h1] at g1
    simp only [Option.some.injEq] at g1; subst g1
    exact updT_get h2 g2
  | _ :: _, .non, _, _, _, g => by cases g
  | _ :: _, .bl _, _, _, _, g => by cases g
  | _ :: _, .int _, _, _, _, g => by cases g
  | _ :: _, .str _, _, _, _, g => by cases g
  | _ :: _, .scr _, _, _, _, g => by cases g
  | _ :: _, .dct _ _, _, _, _, g => by cases g
  | _ :: _, .obj _ _ _, _, _, _, g => by cases g
  | _ :: _, .frz _, _, _, _, g => by cases g
  | _ :: _, .hol _, _, _, _, g => by cases g
  | _ :: _, .any, _, _, _, g => by cases g
  | _ :: _, .err _ _, _, _, _, g => by cases g
/-- one step on -/
theorem Foc.step {K : PySem.W.Frag} {H : Hp} {v0 : V} {d0 : D} {A : List Addr} {q : List Int} {u : V} {dm dt : D} {k : Int} (h : Foc K H v0 d0 A q u dm) (g : getT [k] dm = some dt) :
    ∃ p vs w, u = .ref p ∧ (SqL K H p vs ∨ SqT K H p vs) ∧ atI vs k = some w ∧ Foc K H v0 d0 A (q ++ [k]) w dt := by
  obtain ⟨A1, C, A2, eA, r, fin⟩ := h
  have at_ : ∀ {vs : List V} {ds : List D} {j : Nat} {w : V} {B : List Addr}, Reps K H vs ds B → ixP ds.length k = some j → vs[j]? = some w → atI vs k = some w := fun {vs ds j w B} r hj hw => by
    unfold atI
    rw [r.length, ← ixP_N, hj]; exact hw
  cases r with
  | @lst p vs ds C0 h1 r =>
    simp only [getT, ixD, Option.bind_eq_some_iff] at g
    obtain ⟨c, ⟨j, hj, hc⟩, g2⟩ := g
    simp only [Option.some.injEq] at g2; subst g2
    obtain ⟨B1, Cc, B2, w, eC, hw, rw', fin2⟩ := r.sub hc
    refine ⟨p, vs, w, rfl, .inl (SqL.of h1), at_ r hj hw, A1 ++ p :: B1, Cc, B2 ++ A2, by rw [eA, eC]; simp, rw', fun f dt' d' hf hu H' C' k1 k2 r' => ?_⟩
    rw [updT_app] at hu
    have hm : updT [k] f (.lst ds) = some (.lst (ds.set j dt')) := by
      simp only [updT, ixD, hj, Option.bind_some, hc, hf, setP, Option.map_some]
    have rr := fin2 H' C' dt' k1 (fun a ha => k2 a (by rcases ha with z | z <;> simp [z])) r'
    have := fin (updT [k] f) _ _ hm hu H' (p :: (B1 ++ C' ++ B2)) k1 (fun a ha => k2 a (by rcases ha with z | z <;> simp [z])) (.lst (k2 p (by simp) _ h1) rr)
    simpa using this
  | @tup p vs ds C0 h1 r =>
    simp only [getT, ixD, Option.bind_eq_some_iff] at g
    obtain ⟨c, ⟨j, hj, hc⟩, g2⟩ := g
    simp only [Option.some.injEq] at g2; subst g2
    obtain ⟨B1, Cc, B2, w, eC, hw, rw', fin2⟩ := r.sub hc
    refine ⟨p, vs, w, rfl, .inr h1, at_ r hj hw, A1 ++ B1, Cc, B2 ++ A2, by rw [eA, eC]; simp, rw', fun f dt' d' hf hu H' C' k1 k2 r' => ?_⟩
    rw [updT_app] at hu
    have hm : updT [k] f (.tup ds) = some (.tup (ds.set j dt')) := by
      simp only [updT, ixD, hj, Option.bind_some, hc, hf, setP, Option.map_some]
    have rr := fin2 H' C' dt' k1 (fun a ha => k2 a (by rcases ha with z | z <;> simp [z])) r'
    have := fin (updT [k] f) _ _ hm hu H' (B1 ++ C' ++ B2) k1 (fun a ha => k2 a (by rcases ha with z | z <;> simp [z])) (.tup (SqT.keep k1 h1) rr)
    simpa using this
  | _ => simp [getT] at g
section
variable {C : Ct} {Φ : Nat → Fn} {k : Nat} {X : Cx}
/-- a name, then indices, the last one first -/
def mKs (C : Ct) (sc : Scope) (i : Nat) : List DE → Expr → Bool
  | [], e => (match asName e with | some x => nameAt C i x && visB sc x && okN x | none => false)
  | a :: r, e => (match asIx e with | some (l, y) => mKs C sc i r l && mE C sc a y | none => false)
theorem rep_int {K : PySem.W.Frag} {H : Hp} {v : V} {i : Int} {A : List Addr} (r : Rep K H v (.int i) A) : v = .int i := by cases r; rfl
theorem kval_we (F : Fx C Φ k X) {own vw : List Nat} {Z P : Addr → Prop} {σ : L2.St} {H : Hp} {env : En} {As : Asg} (S : SR X.K C.N.length own vw Z P σ H env As) {a : DE} {y : Expr} {kk : Int} (hm : mE C X.env.scope a y = true) (h : kval a env = some kk) {Q : VK} (q : Q (.int kk) H) : WE X y σ H Q := by
  unfold kval at h
  split at h
  · rename_i j
    simp only [mE] at hm
    split at hm
    · rename_i z hz; obtain ⟨p, rfl⟩ := asName_eq hz
      simp only [Bool.and_eq_true] at hm
      split at h
      · rename_i k' hk
        simp only [Option.some.injEq] at h; subst h
        obtain ⟨v, hv, r⟩ := S.rep j _ hk
        obtain rfl := rep_int r
        exact (pe_var (i := j) (by rw [F.nN]; exact nameAt_eq hm.1.1) (visB_eq hm.1.2) (okN_eq hm.2).1 (okN_eq hm.2).2).we ⟨_, hv, q⟩
      · cases h
    · cases hm
  · simp only [Option.some.injEq] at h; subst h
    simp only [mE] at hm
    split at hm
    · rename_i c hc; obtain ⟨j, p, rfl⟩ := asConst_eq hc
      cases c <;> simp [mC] at hm
      subst hm
      exact pe_int.we q
    · cases hm
  · cases h
theorem kvals_app {e : En} : ∀ {r : List DE} {a : DE} {q : List Int}, kvals (r ++ [a]) e = some q → ∃ q1 kk, q = q1 ++ [kk] ∧ kvals r e = some q1 ∧ kval a e = some kk
  | [], a, q, h => by
    simp only [List.nil_append, kvals, Option.bind_eq_some_iff, Option.map_eq_some_iff] at h
    obtain ⟨kk, h1, x, h2, rfl⟩ := h
    simp only [Option.some.injEq] at h2; subst h2
    exact ⟨[], kk, rfl, rfl, h1⟩
  | b :: r, a, q, h => by
    simp only [List.cons_append, kvals, Option.bind_eq_some_iff, Option.map_eq_some_iff] at h
    obtain ⟨kb, h1, x, h2, rfl⟩ := h
    obtain ⟨q1, kk, rfl, g1, g2⟩ := kvals_app h2
    exact ⟨kb :: q1, kk, rfl, by simp only [kvals, h1, g1, Option.bind_some, Option.map_some], g2⟩
theorem foc_eval (F : Fx C Φ k X) {own vw : List Nat} {Z P : Addr → Prop} {σ : L2.St} {H : Hp} {env : En} {As : Asg} (S : SR X.K C.N.length own vw Z P σ H env As) {i : Nat} {v0 : V} {d0 : D} {A : List Addr} (hv : σ[i]? = some (some v0)) (r0 : Rep X.K H v0 d0 A) :
    ∀ {rs : List DE} {ex : Expr} {q : List Int} {dt : D}, mKs C X.env.scope i rs ex = true → kvals rs.reverse env = some q → getT q d0 = some dt → ∀ {Q : VK}, (∀ u, Foc X.K H v0 d0 A q u dt → Q u H) → WE X ex σ H Q
  | [], ex, q, dt, hm, hk, hg, Q, qq => by
    simp only [mKs] at hm
    split at hm
    · rename_i z hz; obtain ⟨p, rfl⟩ := asName_eq hz
      simp only [Bool.and_eq_true] at hm
      simp only [List.reverse_nil, kvals, Option.some.injEq] at hk; subst hk
      simp only [getT, Option.some.injEq] at hg; subst hg
      exact (pe_var (i := i) (by rw [F.nN]; exact nameAt_eq hm.1.1) (visB_eq hm.1.2) (okN_eq hm.2).1 (okN_eq hm.2).2).we ⟨_, hv, qq v0 ⟨[], A, [], by simp, r0, fun f dt' d' hf hu H' C' k1 k2 r' => by
        simp only [updT] at hu
        rw [hf] at hu
        simp only [Option.some.injEq] at hu; subst hu
        simpa using r'⟩⟩
    · cases hm
  | a :: rs, ex, q, dt, hm, hk, hg, Q, qq => by
    simp only [mKs] at hm
    split at hm
    rotate_left
    · cases hm
    rename_i l y hl; obtain ⟨p, rfl⟩ := asIx_eq hl
    simp only [Bool.and_eq_true] at hm
    rw [List.reverse_cons] at hk
    obtain ⟨q1, kk, rfl, g1, g2⟩ := kvals_app hk
    rw [getT_app, Option.bind_eq_some_iff] at hg
    obtain ⟨dm, hg1, hg2⟩ := hg
    refine (pe_ix ix_two Cy.we Cy.we (plain_ix (mE_plain hm.2).1)).we ?_
    refine foc_eval F S hv r0 hm.1 g1 hg1 fun u hu => ?_
    refine kval_we F S hm.2 g2 ?_
    obtain ⟨pp, vs, w, rfl, sq, hw, fo⟩ := hu.step hg2
    rcases sq with sq | sq
    · exact .inl ⟨pp, vs, kk, w, rfl, rfl, sq, hw, qq w fo⟩
    · exact .inr ⟨pp, vs, kk, w, rfl, rfl, sq, hw, qq w fo⟩
def cOkD : D → Bool
  | .lst [] | .non | .bl _ | .int _ | .str _ => true
  | .tup [.int _, .int _] => true
  | _ => false
def mCx : D → Expr → Bool
  | .lst [], e => (match asLst e with | some [] => true | _ => false)
  | .tup [.int a, .int b], e => (match asTup e with
    | some [u, w] => (match asConst u, asConst w with | some c, some c' => mC (.int a) c && mC (.int b) c' | _, _ => false)
    | _ => false)
  | d, e => (match asConst e with | some c => mC d c | none => false)
theorem mCx_we {σ : L2.St} {H : Hp} {c : D} {y : Expr} (hm : mCx c y = true) (ho : cOkD c = true) {Q : VK} (q : ∀ v H' B, Same H H' → Rep X.K H' v c B → B.Nodup → (∀ a ∈ B, H a = none) → Q v H') : plainX y = true ∧ WE X y σ H Q := by
  cases c with
  | lst xs =>
    cases xs with
    | nil =>
      simp only [mCx] at hm
      split at hm
      · rename_i hz; obtain ⟨p, rfl⟩ := asLst_eq hz
        refine ⟨rfl, (pe_lst pa_nil).we ⟨Nat.zero_le _, fun n hn => q _ _ [n] (same_new hn) (.lst upd_same .nil) (List.nodup_cons.mpr ⟨(fun z => nomatch z), List.nodup_nil⟩) fun a ha => ?_⟩⟩
        rw [List.mem_singleton.mp ha]; exact hn
      · cases hm
    | cons _ _ => simp [cOkD] at ho
  | tup xs =>
    have hx : ∃ a b, xs = [.int a, .int b] := by
      unfold cOkD at ho
      split at ho <;> simp_all
    obtain ⟨a, b, rfl⟩ := hx
    simp only [mCx] at hm
    split at hm
    · rename_i u w hz; obtain ⟨j, p, rfl⟩ := asTup_eq hz
      split at hm
      · rename_i c c' h1 h2
        obtain ⟨j1, p1, rfl⟩ := asConst_eq h1
        obtain ⟨j2, p2, rfl⟩ := asConst_eq h2
        cases c <;> simp [mC] at hm
        cases c' <;> simp [mC] at hm
        obtain ⟨rfl, rfl⟩ := hm
        refine ⟨rfl, (pe_tup (pa_cons pe_int (pa_cons pe_int pa_nil (plain_star rfl)) (plain_star rfl))).we ⟨by show 2 ≤ sizeLine; decide, fun n hn => q _ _ [] (same_new hn) (.tup (A := []) (SqT.of upd_same) (.cons (A := []) (.int _) (.cons (A := []) (.int _) .nil))) List.nodup_nil fun a h => nomatch h⟩⟩
      · cases hm
    · cases hm
  | non =>
    simp only [mCx] at hm
    split at hm
    · rename_i cc hc; obtain ⟨j, p, rfl⟩ := asConst_eq hc
      cases cc <;> simp [mC] at hm
      exact ⟨rfl, pe_non.we (q _ _ [] (Same.refl _) .non List.nodup_nil fun a h => nomatch h)⟩
    · cases hm
  | bl b =>
    simp only [mCx] at hm
    split at hm
    · rename_i cc hc; obtain ⟨j, p, rfl⟩ := asConst_eq hc
      cases cc <;> simp [mC] at hm
      subst hm
      exact ⟨rfl, pe_bl.we (q _ _ [] (Same.refl _) (.bl _) List.nodup_nil fun a h => nomatch h)⟩
    · cases hm
  | int b =>
    simp only [mCx] at hm
    split at hm
    · rename_i cc hc; obtain ⟨j, p, rfl⟩ := asConst_eq hc
      cases cc <;> simp [mC] at hm
      subst hm
      exact ⟨rfl, pe_int.we (q _ _ [] (Same.refl _) (.int _) List.nodup_nil fun a h => nomatch h)⟩
    · cases hm
  | str b =>
    simp only [mCx] at hm
    split at hm
    · rename_i cc hc; obtain ⟨j, p, rfl⟩ := asConst_eq hc
      cases cc <;> simp [mC] at hm
      subst hm
      exact ⟨rfl, pe_str.we (q _ _ [] (Same.refl _) (.str _) List.nodup_nil fun a h => nomatch h)⟩
    · cases hm
  | _ => simp [cOkD] at ho
theorem mKs_plain {sc : Scope} {i : Nat} : ∀ {rs : List DE} {e : Expr}, mKs C sc i rs e = true → plainX e = true ∧ ∀ x p q, e ≠ .Call (.Name x p) [] [] q
  | [], e, h => by
    simp only [mKs] at h
    split at h
    · rename_i z hz; obtain ⟨p, rfl⟩ := asName_eq hz; exact ⟨rfl, fun _ _ _ => by simp⟩
    · cases h
  | a :: r, e, h => by
    simp only [mKs] at h
    split at h
    · rename_i l y hl; obtain ⟨p, rfl⟩ := asIx_eq hl; exact ⟨rfl, fun _ _ _ => by simp⟩
    · cases h
/-- an own slot changed: what stands at its lists' addresses -/
theorem own_fin {own vw : List Nat} {io : Bool} {Z P : Addr → Prop} {σ : L2.St} {H H2 H3 : Hp} {env2 : En} {As As2 : Asg} {i n : Nat} {K : PySem.W.Frag} {d1 : D} {v0 : V} {A1 : List Addr} {kl : List Nat}
    (T : TSx io Z P H As Z P H2 As2) (S2 : SR K n own vw Z P σ H2 env2 As2) (hi : i ∈ own) (hn : i < n) (hv : σ[i]? = some (some v0)) (hk : ∀ j ∈ vw, j ∈ kl) (mono : ∀ a, H2 a ≠ none → H3 a ≠ none) (keep : ∀ a o, H2 a = some o → a ∉ As2 i → H3 a = some o)
    (r : Rep K H3 v0 d1 A1) (nd : A1.Nodup) (hA : ∀ a ∈ A1, a ∈ As2 i ∨ (¬ P a ∧ ¬ OwA own As2 a ∧ (H a = none ∨ ∃ i, a ∈ As i))) :
    SR K n own vw Z P σ H3 (kil kl (env2.set i (some d1))) (AsC As2 i A1 (kil kl (env2.set i (some d1)))) ∧ TSx true Z P H As Z P H3 (AsC As2 i A1 (kil kl (env2.set i (some d1)))) := by
  refine ⟨S2.write hi hn hv mono keep r nd (fun a ha => (hA a ha).imp id fun z => ⟨z.1, z.2.1⟩) hk, fun a h => mono a (T.mono a h), fun a o h c => ?_, fun j a ha => ?_, fun _ h => h, fun _ h => h⟩
  · rcases c with c | c | c
    · exact keep a o (T.keep a o h (.inl c)) fun z => S2.noP i hi a z c
    · refine keep a o (T.keep a o h (.inr (.inl c))) fun z => ?_
      obtain ⟨xs', y⟩ := S2.own_mut ⟨i, hi, z⟩
      rw [T.keep a o h (.inr (.inl c))] at y
      exact c xs' (Option.some.inj y)
    · cases c
  · have g := (AsC_sub ha).2
    by_cases e : j = i
    · rw [if_pos e] at g
      rcases hA a g with z | z
      · exact T.al i a z
      · exact z.2.2.symm
    · rw [if_neg e] at g; exact T.al j a g
theorem ss_upx {own vw : List Nat} {fr : Bool} {i : Nat} {ks : List DE} {c : D} {kl : List Nat} {ob x : Expr} {ap cp sp : Pos} (F : Fx C Φ k X) (hm : mKs C X.env.scope i ks.reverse ob = true) (hc : mCx c x = true) (ho : cOkD c = true) (hi : i ∈ own) (hk : ∀ j ∈ vw, j ∈ kl) (hl : (ap.endLine == cp.line) = true) :
    SS C X own vw fr true (evS Φ (.upx i ks c kl)) (WS X (.Expr (.Call (.Attribute ob "append" ap) [x] [] cp) sp)) := by
  intro Z P σ H env As o env' S e D Wx tk q
  simp only [evS, Option.bind_eq_some_iff] at e
  obtain ⟨qq, h1, h2⟩ := e
  split at h2
  rotate_left
  · cases h2
  rename_i d0 hd0
  simp only [Option.map_eq_some_iff, Rs.ok.injEq] at h2
  obtain ⟨d', hu, rfl, rfl⟩ := h2
  obtain ⟨v0, hv0, r0⟩ := S.rep i d0 hd0
  have hlt : i < C.N.length := by
    have := (List.getElem?_eq_some_iff.mp hd0).1
    rw [S.lenE] at this; exact this
  have hp : plainX x = true := (mCx_we (X := X) (σ := σ) (H := H) hc ho (Q := fun _ _ => True) fun _ _ _ _ _ _ _ => trivial).1
  -- what stands there
  obtain ⟨dt, hg, xs, hdt⟩ : ∃ dt, getT qq d0 = some dt ∧ ∃ xs, dt = .lst xs := by
    clear h1 hm
    induction qq generalizing d0 d' v0 with
    | nil =>
      refine ⟨d0, rfl, ?_⟩
      simp only [updT, fAp1] at hu
      split at hu
      · exact ⟨_, rfl⟩
      · cases hu
    | cons kk qq ih =>
      simp only [updT, Option.bind_eq_some_iff] at hu
      obtain ⟨c1, e1, c2, e2, e3⟩ := hu
      have aux : ∃ dt, getT qq c1 = some dt ∧ ∃ xs, dt = .lst xs := by
        clear ih e3 e1
        induction qq generalizing c1 c2 with
        | nil =>
          refine ⟨c1, rfl, ?_⟩
          simp only [updT, fAp1] at e2
          split at e2
          · exact ⟨_, rfl⟩
          · cases e2
        | cons k2 qq ih2 =>
          simp only [updT, Option.bind_eq_some_iff] at e2
          obtain ⟨c3, f1, c4, f2, f3⟩ := e2
          obtain ⟨dt, g1, g2⟩ := ih2 c3 c4 f2
          refine ⟨dt, ?_, g2⟩
          cases c1 <;> simp only [setP, reduceCtorEq] at f3 <;> simp only [getT, f1, Option.bind_some, g1]
      obtain ⟨dt, g1, g2⟩ := aux
      refine ⟨dt, ?_, g2⟩
      cases d0 <;> simp only [setP, reduceCtorEq] at e3 <;> simp only [getT, e1, Option.bind_some, g1]
  subst hdt
  refine (ps_expr (pe_bm PySem.F.plainAttrs_list PySem.F.slot_list_append PySem.F.type_list_append mt_append Cy.we (pa_cons Cy.we pa_nil (plain_star hp)) (base_of (mKs_plain hm).2) (few_one hp) hl (plain_star hp) rfl)).we ?_
  refine foc_eval F S hv0 r0 hm (by rw [List.reverse_reverse]; exact h1) hg fun u fo => ?_
  obtain ⟨A1, Cc, A2, eA, ru, fin⟩ := fo
  cases ru with
  | @lst t ws xs C0 g1 g2 =>
    refine ⟨ty_lst ⟨_, g1⟩, ?_⟩
    refine (mCx_we hc ho fun w H1 B sm rw nB fB => ?_).2
    have g1' := sm t _ g1
    have g2' := g2.mono sm
    obtain ⟨dt', hdt'⟩ := updT_get hu hg
    have hdt2 := hdt'
    unfold fAp1 at hdt'
    dsimp only at hdt'
    split at hdt'
    rotate_left
    · cases hdt'
    rename_i hz
    simp only [Option.some.injEq] at hdt'; subst hdt'
    have nd := S.nod i hi
    rw [eA] at nd
    obtain ⟨m1, m2, m3⟩ := List.nodup_append.mp nd
    obtain ⟨n1, n2, n3⟩ := List.nodup_append.mp m1
    obtain ⟨l1, l2⟩ := List.nodup_cons.mp n2
    have tO : t ∈ As i := by rw [eA]; simp
    have tB : t ∉ B := fun z => S.own_some ⟨i, hi, tO⟩ (fB t z)
    have hne : ∀ a, a ∈ A1 ∨ a ∈ A2 → a ≠ t := fun a ha z => by
      subst z
      rcases ha with z | z
      · exact n3 a z a (List.mem_cons_self ..) rfl
      · exact m3 a (List.mem_append_right _ (List.mem_cons_self ..)) a z rfl
    have im : ∀ a o, H1 a = some o → (∀ xs : MO, o ≠ xs.1) → (upd H1 t (.lst (ws ++ [w]))) a = some o := fun a o h g => by
      rw [upd_ne (show a ≠ t from fun z => g ⟨.lst ws, trivial⟩ (by rw [z, g1'] at h; exact (Option.some.inj h).symm))]; exact h
    have rr : Rep X.K (upd H1 t (.lst (ws ++ [w]))) (.ref t) (.lst (xs ++ [c])) (t :: (C0 ++ B)) := by
      refine .lst upd_same (((g2'.append (Reps.one rw))).keep im fun a ha o h => ?_)
      rw [upd_ne]
      · exact h
      · rintro rfl
        rcases List.mem_append.mp ha with z | z
        · exact l1 z
        · exact tB z
    have rf := fin (fAp1 c) _ _ hdt2 hu (upd H1 t (.lst (ws ++ [w]))) (t :: (C0 ++ B)) (fun a o h g => im a o (sm a o h) g) (fun a ha o h => by rw [upd_ne (hne a ha)]; exact sm a o h) rr
    have nf : (A1 ++ t :: (C0 ++ B) ++ A2).Nodup := by
      refine nodup_mid (C := t :: C0) nd (List.nodup_cons.mpr ⟨fun z => ?_, List.nodup_append.mpr ⟨l2, nB, fun a ha b hb z => ?_⟩⟩) fun a ha => ?_
      · rcases List.mem_append.mp z with z | z
        · exact l1 z
        · exact tB z
      · subst z; exact S.own_some ⟨i, hi, by rw [eA]; simp [ha]⟩ (fB a hb)
      · rcases List.mem_cons.mp ha with z | z
        · exact .inl (by rw [z]; simp)
        · rcases List.mem_append.mp z with z | z
          · exact .inl (List.mem_cons_of_mem _ z)
          · exact .inr fun y => S.own_some ⟨i, hi, by rw [eA]; exact y⟩ (fB a z)
    have S1 := S.grow sm
    have T1 : TSx true Z P H As Z P H1 As := (TR.grow (own := own) (io := false) sm).tsx S |>.weak fun z => by cases z
    obtain ⟨S', T'⟩ := own_fin (kl := kl) T1 S1 hi hlt hv0 hk (fun a h => by
      by_cases e : a = t
      · subst e; rw [upd_same]; simp
      · rw [upd_ne e]; exact h) (fun a o h z => by rw [upd_ne (show a ≠ t from fun y => z (y ▸ tO))]; exact h) rf nf (fun a ha => by
        rcases List.mem_append.mp ha with z | z
        · rcases List.mem_append.mp z with z | z
          · exact .inl (by rw [eA]; simp [z])
          · rcases List.mem_cons.mp z with z | z
            · exact .inl (z ▸ tO)
            · rcases List.mem_append.mp z with z | z
              · exact .inl (by rw [eA]; simp [z])
              · exact .inr ⟨fun y => S.ph a y (fB a z), fun y => S.own_some y (fB a z), .inl (fB a z)⟩
        · exact .inl (by rw [eA]; simp [z]))
    refine ⟨t, ws, w, rfl, rfl, g1', ?_, q σ _ Z P _ S' T'⟩
    rw [g2.length]; exact line_ltLMX hz
/-- a name that holds nothing we know may hold anything -/
theorem SR.sig {K : PySem.W.Frag} {n : Nat} {own vw : List Nat} {Z P : Addr → Prop} {σ σ' : L2.St} {H : Hp} {env : En} {As : Asg} (S : SR K n own vw Z P σ H env As) {js : List Nat} (hl : σ'.length = σ.length) (h : ∀ l, l ∉ js → σ'[l]? = σ[l]?) (hn : ∀ j ∈ js, ∀ d, env[j]? ≠ some (some d)) (hf : ∀ j ∈ js, Fxd.fx j = none) : SR K n own vw Z P σ' H env As where
  len := hl.trans S.len
  lenE := S.lenE
  rep := fun i d e => by
    rw [h i fun z => hn i z d e]
    exact S.rep i d e
  non := S.non
  shr := S.shr
  nod := S.nod
  noP := S.noP
  dis := S.dis
  zp := S.zp
  ph := S.ph
  fix := fun i v e => by
    rw [h i fun z => by rw [hf i z] at e; cases e]
    exact S.fix i v e
theorem apAll_get {c : D} : ∀ {rows rows' : List D}, apAll c rows = some rows' → rows'.length = rows.length ∧ ∀ (i : Nat) (r : D), rows[i]? = some r → ∃ xs, r = .lst xs ∧ xs.length < LMX ∧ rows'[i]? = some (.lst (xs ++ [c]))
  | [], rows', h => by
    simp only [apAll, Option.some.injEq] at h; subst h
    exact ⟨rfl, fun i r z => by simp at z⟩
  | r0 :: rows, rows', h => by
    cases r0 with
    | lst xs =>
      simp only [apAll] at h
      split at h
      · rename_i hz
        simp only [Option.map_eq_some_iff] at h
        obtain ⟨r2, h1, rfl⟩ := h
        obtain ⟨g1, g2⟩ := apAll_get h1
        refine ⟨by simp [g1], fun i r z => ?_⟩
        cases i with
        | zero =>
          simp only [List.getElem?_cons_zero, Option.some.injEq] at z; subst z
          exact ⟨xs, rfl, hz, rfl⟩
        | succ i => exact g2 i r (by simpa using z)
      · cases h
    | _ => simp [apAll] at h
theorem ss_fap {own vw : List Nat} {fr : Bool} {i j : Nat} {kk : Int} {c : D} {kl : List Nat} {y : Str} {it x : Expr} {py py2 ap cp sp fp : Pos} (F : Fx C Φ k X) (hpo : PassesOwn (model X.prog X.w) X.A X.env X.xe) (hm : mKs C X.env.scope i [.c (.int kk)] it = true) (hc : mCx c x = true) (ho : cOkD c = true) (hpu : pureD c = true)
    (hj : C.N[j]? = some y) (hyl : Loc X.env.scope y) (hyf : X.fn y = true ∨ X.env.scope.names.lookup y = some .local) (hyv : Vis X.env.scope y) (hyo : okN y = true) (hfj : Fxd.fx j = none) (hij : i ≠ j) (hjo : j ∉ own) (hi : i ∈ own) (hk : ∀ j ∈ vw, j ∈ kl) (hl : (ap.endLine == cp.line) = true) :
    SS C X own vw fr true (evS Φ (.fap i kk j c kl)) (WS X (.For (.Name y py) it [.Expr (.Call (.Attribute (.Name y py2) "append" ap) [x] [] cp) sp] [] fp)) := by
  intro Z P σ H env As o env' S e D Wx tk q
  simp only [evS] at e
  split at e
  rotate_left
  · cases e
  rename_i d0 hd0
  split at e
  rotate_left
  · cases e
  rename_i rows hrows
  split at e
  rotate_left
  · cases e
  rename_i hrl
  simp only [Option.bind_eq_some_iff, Option.map_eq_some_iff, Rs.ok.injEq] at e
  obtain ⟨rows', hap, d', hset, rfl, rfl⟩ := e
  obtain ⟨v0, hv0, r0⟩ := S.rep i d0 hd0
  have hlt : i < C.N.length := by
    have := (List.getElem?_eq_some_iff.mp hd0).1
    rw [S.lenE] at this; exact this
  have hjlt : j < C.N.length := (List.getElem?_eq_some_iff.mp hj).1
  have hp : plainX x = true := (mCx_we (X := X) (σ := σ) (H := H) hc ho (Q := fun _ _ => True) fun _ _ _ _ _ _ _ => trivial).1
  have hg : getT [kk] d0 = some (.lst rows) := by
    cases d0 <;> simp only [setP, reduceCtorEq] at hset <;> simp only [getT, hrows, Option.bind_some]
  have hu : updT [kk] (fun _ => some (.lst rows')) d0 = some d' := by simp only [updT, hrows, Option.bind_some, hset]
  obtain ⟨al, ag⟩ := apAll_get hap
  refine (ps_for hpo F.calm (pi_list Cy.we) (pg_name (i := j) (by rw [F.nN]; exact F.nd) (by rw [F.nN]; exact hj) hyl hyf) Cy.wss (fun z => plain_fold (mKs_plain hm).1 z)).we ?_
  refine foc_eval F S hv0 r0 hm rfl hg fun u fo => ?_
  obtain ⟨A1, Cc, A2, eA, ru, fin⟩ := fo
  cases ru with
  | @lst t vs rows C0 g1 g2 =>
    have nd := S.nod i hi
    rw [eA] at nd
    obtain ⟨m1, m2, m3⟩ := List.nodup_append.mp nd
    obtain ⟨n1, n2, n3⟩ := List.nodup_append.mp m1
    obtain ⟨l1, l2⟩ := List.nodup_cons.mp n2
    have vl := g2.length
    refine ⟨t, rfl, ⟨vs, SqL.of g1⟩, ?_⟩
    refine for_it (walk_list (xs := vs)) (fun m σm Hm => σm.length = σ.length ∧ (∀ l, l ∉ [j] → σm[l]? = σ[l]?) ∧ (∀ a, H a ≠ none → Hm a ≠ none) ∧ (∀ a o, a ∉ C0 → H a = some o → Hm a = some o) ∧ Reps X.K Hm vs (rows'.take m ++ rows.drop m) C0) ⟨rfl, fun _ _ => rfl, fun _ h => h, fun _ _ _ h => h, by simpa using g2⟩ (fun m σm Hm _ ⟨_, _, _, h4, _⟩ => SqL.of (h4 t _ l1 g1)) ?_ ?_
    · rintro m v σm Hm Hm' hmv ⟨h1, h2, h3, h4, h5⟩ ⟨rfl, hx⟩
      have hmr : m < rows.length := by rw [← vl]; exact hmv
      have hrm : (rows'.take m ++ rows.drop m)[m]? = some rows[m] := by
        rw [List.getElem?_append_right (by rw [List.length_take]; omega), List.length_take, al, Nat.min_eq_left (by omega), Nat.sub_self, List.getElem?_drop, Nat.add_zero, List.getElem?_eq_getElem hmr]
      obtain ⟨B1, Cm, B2, v', e1, e2, rv, fin2⟩ := h5.sub hrm
      rw [hx] at e2
      simp only [Option.some.injEq] at e2; subst e2
      obtain ⟨xs, ex, hxs, hr2⟩ := ag m _ (List.getElem?_eq_getElem hmr)
      rw [ex] at rv
      cases rv with
      | @lst tm ws xs Cm0 k1 k2 =>
        have hσj : (σm.set j (some (V.ref tm)))[j]? = some (some (V.ref tm)) := List.getElem?_set_self (by rw [h1, S.len]; exact hjlt)
        show WSs X _ _ (σm.set j (some (V.ref tm))) Hm'
        refine (pss_one (ps_expr (pe_bm PySem.F.plainAttrs_list PySem.F.slot_list_append PySem.F.type_list_append mt_append (pe_var (i := j) (by rw [F.nN]; exact hj) hyv (okN_eq hyo).1 (okN_eq hyo).2) (pa_cons Cy.we pa_nil (plain_star hp)) (base_of (fun _ _ _ => by simp)) (few_one hp) hl (plain_star hp) rfl))).we ?_
        refine ⟨_, hσj, ty_lst ⟨_, k1⟩, ?_⟩
        refine (mCx_we hc ho fun w H1 B sm rw nB fB => ?_).2
        have eB := rw.pure hpu
        subst eB
        have tm0 : tm ∈ C0 := by rw [e1]; simp
        have k1' := sm tm _ k1
        have l2' := l2
        rw [e1] at l2'
        obtain ⟨y1, y2, y3⟩ := List.nodup_append.mp l2'
        obtain ⟨z1, z2, z3⟩ := List.nodup_append.mp y1
        obtain ⟨w1, w2⟩ := List.nodup_cons.mp z2
        have hne : ∀ a, a ∈ B1 ∨ a ∈ B2 → a ≠ tm := fun a ha z => by
          subst z
          rcases ha with z | z
          · exact z3 a z a (List.mem_cons_self ..) rfl
          · exact y3 a (List.mem_append_right _ (List.mem_cons_self ..)) a z rfl
        have im : ∀ a o, H1 a = some o → (∀ xs : MO, o ≠ xs.1) → (upd H1 tm (.lst (ws ++ [w]))) a = some o := fun a o h g => by
          rw [upd_ne (show a ≠ tm from fun z => g ⟨.lst ws, trivial⟩ (by rw [z, k1'] at h; exact (Option.some.inj h).symm))]; exact h
        have rr : Rep X.K (upd H1 tm (.lst (ws ++ [w]))) (.ref tm) (.lst (xs ++ [c])) (tm :: Cm0) := by
          refine .lst upd_same ((by simpa using (((k2.mono sm).append (Reps.one rw))) : Reps X.K H1 (ws ++ [w]) (xs ++ [c]) Cm0).keep im fun a ha o h => ?_)
          rw [upd_ne (show a ≠ tm from fun z => w1 (z ▸ ha))]; exact h
        have rf := fin2 (upd H1 tm (.lst (ws ++ [w]))) (tm :: Cm0) _ (fun a o h g => im a o (sm a o h) g) (fun a ha o h => by rw [upd_ne (hne a ha)]; exact sm a o h) rr
        rw [← e1] at rf
        have es : (rows'.take m ++ rows.drop m).set m (.lst (xs ++ [c])) = rows'.take (m + 1) ++ rows.drop (m + 1) := by
          have hm' : m < rows'.length := by omega
          have hr3 : rows'[m] = .lst (xs ++ [c]) := by
            rw [List.getElem?_eq_getElem hm'] at hr2
            exact Option.some.inj hr2
          rw [List.set_append_right m _ (by rw [List.length_take]; omega), List.length_take, Nat.min_eq_left (by omega), Nat.sub_self, List.drop_eq_getElem_cons hmr, List.set_cons_zero, List.take_succ_eq_append_getElem hm', hr3, List.append_assoc]
          rfl
        rw [es] at rf
        refine ⟨tm, ws, w, rfl, rfl, k1', ?_, by rw [List.length_set]; exact h1, fun l hl' => ?_, fun a ha => ?_, fun a o ha h => ?_, rf⟩
        · rw [k2.length]; exact line_ltLMX hxs
        · rw [List.getElem?_set_ne (fun z => hl' (by rw [z]; simp))]; exact h2 l hl'
        · by_cases z : a = tm
          · subst z; rw [upd_same]; simp
          · rw [upd_ne z]
            cases zz : Hm' a with
            | none => exact absurd zz (h3 a ha)
            | some o => rw [sm a o zz]; simp
        · rw [upd_ne (show a ≠ tm from fun z => ha (z ▸ tm0))]; exact sm a o (h4 a o ha h)
    · rintro σn Hn ⟨h1, h2, h3, h4, h5⟩
      rw [vl, List.drop_length, List.append_nil, ← al, List.take_length] at h5
      have rf := fin (fun _ => some (.lst rows')) _ _ rfl hu Hn (t :: C0) (fun a o h g => h4 a o (fun z => by
        obtain ⟨xs, y⟩ := S.own_mut (a := a) ⟨i, hi, by rw [eA]; simp [z]⟩
        rw [h] at y; exact g xs (Option.some.inj y)) h) (fun a ha o h => h4 a o (fun z => by
        rcases ha with y | y
        · exact n3 a y a (List.mem_cons_of_mem _ z) rfl
        · exact m3 a (List.mem_append_right _ (List.mem_cons_of_mem _ z)) a y rfl) h) (.lst (h4 t _ l1 g1) h5)
      rw [← eA] at rf
      have hnone : ∀ jj ∈ [j], ∀ d, (env.set j none)[jj]? ≠ some (some d) := fun jj hjj d z => by
        obtain rfl : jj = j := by simpa using hjj
        by_cases hb : jj < env.length
        · rw [List.getElem?_set_self hb] at z; cases z
        · rw [List.getElem?_eq_none (by simpa using hb)] at z; cases z
      have S1 := (S.drop j).sig (σ' := σn) (js := [j]) h1 h2 hnone (fun jj hjj => by
        obtain rfl : jj = j := by simpa using hjj
        exact hfj)
      have T1 : TSx true Z P H As Z P H (fun l => if l = j then [] else As l) := ⟨fun _ h => h, fun _ _ h _ => h, fun l a ha => by
        split at ha
        · cases ha
        · exact .inl ⟨l, ha⟩, fun _ h => h, fun _ h => h⟩
      have ei : (fun l => if l = j then [] else As l) i = As i := if_neg hij
      obtain ⟨S', T'⟩ := own_fin (kl := kl) (i := i) (H3 := Hn) (d1 := d') (v0 := v0) (A1 := As i) T1 S1 hi hlt (by rw [h2 i (by simpa using hij)]; exact hv0) hk h3 (fun a o h z => h4 a o (fun y => z (by show a ∈ (if i = j then [] else As i); rw [if_neg hij, eA]; simp [y])) h) rf (S.nod i hi) (fun a ha => .inl (by show a ∈ (if i = j then [] else As i); rw [if_neg hij]; exact ha))
      exact q σn Hn Z P _ S' T'
end
end Cy
end
section
set_option Elab.async false
set_option linter.all false
set_option maxRecDepth 100000
set_option maxHeartbeats 4000000
namespace Cy
open PySem L2 PyProof.Rows
variable [ClTab] [Fxd]
section
variable {C : Ct} {Φ : Nat → Fn} {k : Nat} {X : Cx}
theorem nodup_move {A1 Cx A2 C0 B : List Addr} (h : ((A1 ++ Cx ++ A2) ++ (C0 ++ B)).Nodup) : ((A1 ++ C0 ++ A2) ++ B).Nodup := by
  have s : ((A1 ++ A2) ++ (C0 ++ B)).Sublist ((A1 ++ Cx ++ A2) ++ (C0 ++ B)) := List.Sublist.append (List.Sublist.append (List.sublist_append_left _ _) (List.Sublist.refl _)) (List.Sublist.refl _)
  have p : ((A1 ++ A2) ++ (C0 ++ B)).Perm ((A1 ++ C0 ++ A2) ++ B) := by
    have q : (A1 ++ (A2 ++ C0)).Perm (A1 ++ (C0 ++ A2)) := List.Perm.append_left A1 List.perm_append_comm
    have := List.Perm.append_right B q
    simpa only [List.append_assoc] using this
  exact p.nodup_iff.mp (s.nodup h)
theorem stAll_end {xm ks rs xs' : List D} (h : stAll xm ks rs = some xs') (e : ks = [] ∨ rs = []) : xm = xs' := by
  rcases e with rfl | rfl
  · simpa [stAll] using h
  · cases ks with
    | nil => simpa [stAll] using h
    | cons a ks => cases a <;> simpa [stAll] using h
theorem ss_fst {own vw : List Nat} {fr : Bool} {x i j l : Nat} {b : DE} {kl : List Nat} {st : Scope} {nx ni nj nl : Str} {tgt eb : Expr} {pz pc p3 p4 p5 p6 p7 p8 p9 : Pos} (F : Fx C Φ k X) (hpo : PassesOwn (model X.prog X.w) X.A X.env X.xe) (hst : StOk X st) (hmt : mT C st (.t [.n i, .n j]) tgt = true) (htt : ∃ es kt pt, tgt = .Tuple es kt pt)
    (hg : gloOk C X.env.scope "zip" = true) (hpb : plainX eb = true) (hb : SE C Φ X own vw b eb) (hfb : frE C.sigs b = true) (hio : ioE b = false)
    (hx : C.N[x]? = some nx) (hxv : Vis X.env.scope nx) (hxo : okN nx = true) (hi' : C.N[i]? = some ni) (hiv : Vis X.env.scope ni) (hio' : okN ni = true) (hj' : C.N[j]? = some nj) (hjv : Vis X.env.scope nj) (hjo' : okN nj = true) (hl' : C.N[l]? = some nl) (hlv : Vis X.env.scope nl) (hlo : okN nl = true)
    (hfi : Fxd.fx i = none) (hfj : Fxd.fx j = none) (hij : i ≠ j) (hxi : x ≠ i) (hxj : x ≠ j) (hxl : x ≠ l) (hix : i ∉ own) (hjx : j ∉ own) (hxow : x ∈ own) (hlow : l ∈ own) (hk : ∀ j ∈ vw, j ∈ kl) :
    SS C X own vw fr true (evS Φ (.fst x i j l b kl)) (WS X (.For tgt (.Call (.Name "zip" pz) [.Name nl p3, eb] [] pc) [.Assign [.Subscript (.Name nx p4) (.Name ni p5) p6] (.Name nj p7) p8] [] p9)) := by
  intro Z P σ H env As o env' S e D Wx tk q
  obtain ⟨g1, g2, g3, g4⟩ := gloOk_eq hg
  obtain ⟨tes, tkt, tpt, rfl⟩ := htt
  simp only [evS] at e
  split at e
  rotate_left
  · cases e
  rename_i dl hdl
  obtain ⟨db, e1, h1, h2⟩ := bd_inv e
  split at h2
  rotate_left
  · cases h2
  rename_i rs ks xs hks hxs
  simp only [Option.map_eq_some_iff, Rs.ok.injEq] at h2
  obtain ⟨xs', hsa, rfl, rfl⟩ := h2
  obtain ⟨vl, hvl, _⟩ := S.rep l dl hdl
  have xlt : x < C.N.length := (List.getElem?_eq_some_iff.mp hx).1
  have ilt : i < C.N.length := (List.getElem?_eq_some_iff.mp hi').1
  have jlt : j < C.N.length := (List.getElem?_eq_some_iff.mp hj').1
  refine (ps_for hpo F.calm (pi_zip g1 (F.bn _ g2) (pa_cons (pe_var (i := l) (by rw [F.nN]; exact hl') hlv (okN_eq hlo).1 (okN_eq hlo).2) (pa_cons Cy.we pa_nil (plain_star hpb)) (plain_star rfl)) (plain_star rfl) (plain_any (by simpa using hpb))) (pgT F hst hmt) Cy.wss (fun z => plain_fold rfl z)).we ?_
  refine ⟨vl, hvl, ?_⟩
  refine hb Z P σ H env As _ _ S h1 _ fun vb H1 Ab As1 S1 T1 rb Eb => ?_
  have T1 : TR own false H As H1 As1 := by rw [hio] at T1; exact T1
  obtain ⟨vl', hvl', rl⟩ := S1.rep l _ hks
  rw [hvl] at hvl'
  simp only [Option.some.injEq] at hvl'
  subst hvl'
  obtain ⟨v0, hv0, rx⟩ := S1.rep x _ hxs
  obtain ⟨AL, hAL⟩ : ∃ A, A = As1 l := ⟨_, rfl⟩
  obtain ⟨AX, hAX⟩ : ∃ A, A = As1 x := ⟨_, rfl⟩
  rw [← hAL] at rl
  rw [← hAX] at rx
  have ndx := S1.nod x hxow
  rw [← hAX] at ndx
  obtain ⟨fn, ff⟩ := frE_sub (As2 := As1) S (TR.refl (io := false)) Eb hfb
  cases rl with
  | @lst pl ls ks Al k1 k2 =>
  cases rx with
  | @lst px wx xs Ax x1 x2 =>
  cases rb with
  | @lst pr ws rs D0 r1 r2 =>
    have pxo : px ∈ As1 x := by rw [← hAX]; exact List.mem_cons_self ..
    have plx : pl ≠ px := fun z => S1.dis l hlow x hxow (fun y => hxl y.symm) pl (by rw [← hAL]; exact List.mem_cons_self ..) (z ▸ pxo)
    have prx : pr ≠ px := fun z => (ff pr (List.mem_cons_self ..)).2.1 ⟨x, hxow, z ▸ pxo⟩
    obtain ⟨nx1, nx2⟩ := List.nodup_cons.mp ndx
    obtain ⟨nf1, nf2⟩ := List.nodup_cons.mp fn
    have dD : ∀ a ∈ D0, ¬ OwA own As1 a := fun a ha => (ff a (List.mem_cons_of_mem _ ha)).2.1
    have oX : ∀ a ∈ Ax, OwA own As1 a := fun a ha => ⟨x, hxow, by rw [← hAX]; exact List.mem_cons_of_mem _ ha⟩
    have kl' := k2.length
    have rl' := r2.length
    refine ⟨pl, pr, ls, ws, rfl, SqL.of k1, SqL.of r1, ?_⟩
    refine for_it (walk_zip rfl) (fun m σm Hm => σm.length = σ.length ∧ (∀ l', l' ∉ [i, j] → σm[l']? = σ[l']?) ∧ (∀ a, H1 a ≠ none → Hm a ≠ none) ∧ (∀ a o, a ≠ px → H1 a = some o → Hm a = some o) ∧
      ∃ wm xm Am Bm, Hm px = some (.lst wm) ∧ Reps X.K Hm wm xm Am ∧ Reps X.K Hm (ws.drop m) (rs.drop m) Bm ∧ stAll xm (ks.drop m) (rs.drop m) = some xs' ∧ (Am ++ Bm).Nodup ∧ px ∉ Am ++ Bm ∧ (∀ a ∈ Am, a ∈ Ax ∨ a ∈ D0) ∧ ∀ a ∈ Bm, a ∈ D0)
      ⟨rfl, fun _ _ => rfl, fun _ h => h, fun _ _ _ h => h, wx, xs, Ax, D0, x1, x2, by simpa using r2, by simpa using hsa, List.nodup_append.mpr ⟨nx2, nf2, fun a ha b hb z => dD b hb (z ▸ oX a ha)⟩, fun z => ?_, fun a ha => .inl ha, fun a ha => ha⟩
      (fun m σm Hm _ ⟨_, _, _, h4, _⟩ => ⟨SqL.of (h4 pl _ plx k1), SqL.of (h4 pr _ prx r1)⟩) ?_ ?_
    · rcases List.mem_append.mp z with z | z
      · exact nx1 z
      · exact dD px z ⟨x, hxow, pxo⟩
    · rintro m v σm Hm Hm' hmv ⟨h1, h2, h3, h4, wm, xm, Am, Bm, q1, q2, q3, q4, q5, q6, q7, q8⟩ ⟨n, v1, v2, rfl, hn, rfl, hv1, hv2⟩
      have hv1 : ls[m]? = some v1 := hv1
      have hv2 : ws[m]? = some v2 := hv2
      have hmk : m < ks.length := by rw [← kl']; exact (List.getElem?_eq_some_iff.mp hv1).1
      have hmr : m < rs.length := by rw [← rl']; exact (List.getElem?_eq_some_iff.mp hv2).1
      have hmw : m < ws.length := by rw [rl']; exact hmr
      rw [List.drop_eq_getElem_cons hmk, List.drop_eq_getElem_cons hmr] at q4
      -- the place
      obtain ⟨kk, hkk⟩ : ∃ kk, ks[m] = .int kk := by
        cases hz : ks[m] <;> rw [hz] at q4 <;> simp only [stAll, reduceCtorEq] at q4
        exact ⟨_, rfl⟩
      rw [hkk] at q4
      simp only [stAll, Option.bind_eq_some_iff] at q4
      obtain ⟨jj, hjj, q4⟩ := q4
      obtain ⟨v1', Bk, y1, y2, _⟩ := k2.get (i := m) (List.getElem?_eq_getElem hmk)
      rw [hv1] at y1
      simp only [Option.some.injEq] at y1; subst y1
      rw [hkk] at y2
      obtain rfl := rep_int y2
      -- the item
      have dw : ws.drop m = v2 :: ws.drop (m + 1) := by
        rw [List.drop_eq_getElem_cons hmw]
        congr 1
        rw [List.getElem?_eq_getElem hmw] at hv2
        exact Option.some.inj hv2
      rw [dw, List.drop_eq_getElem_cons hmr] at q3
      cases q3 with
      | @cons _ _ _ _ C0 B' rC rB =>
      have sm : Same Hm (upd Hm n (.tup [.int kk, v2])) := same_new hn
      have npx : n ≠ px := fun z => by rw [z, q1] at hn; cases hn
      have q1' := sm px _ q1
      have q2' := q2.mono sm
      have rC' := rC.mono sm
      have rB' := rB.mono sm
      have jlt2 : jj < xm.length := by
        have hjw : ixN wm.length kk = some jj := by rw [← ixP_N, q2.length]; exact hjj
        rw [← q2.length]; exact (ixN_seq hjw).2.1
      obtain ⟨A1, Cx, A2, eA, rs', _⟩ := q2'.set jj rC' jlt2
      rw [eA] at q5 q6 q7
      have nn : ((A1 ++ C0 ++ A2) ++ B').Nodup := nodup_move q5
      have mem1 : ∀ a, a ∈ (A1 ++ C0 ++ A2) ++ B' → a ∈ (A1 ++ Cx ++ A2) ++ (C0 ++ B') := fun a ha => by
        simp only [List.mem_append] at ha ⊢
        rcases ha with ((z | z) | z) | z <;> simp [z]
      have pxn : px ∉ (A1 ++ C0 ++ A2) ++ B' := fun z => q6 (mem1 px z)
      have keep : ∀ a o, a ≠ px → (upd Hm n (.tup [.int kk, v2])) a = some o → (upd (upd Hm n (.tup [.int kk, v2])) px (.lst (wm.set jj v2))) a = some o := fun a o h g => by rw [upd_ne h]; exact g
      have im : ∀ a o, (upd Hm n (.tup [.int kk, v2])) a = some o → (∀ xs : MO, o ≠ xs.1) → (upd (upd Hm n (.tup [.int kk, v2])) px (.lst (wm.set jj v2))) a = some o := fun a o h g => keep a o (fun z => g ⟨.lst wm, trivial⟩ (by rw [z, q1'] at h; exact (Option.some.inj h).symm)) h
      have σl : ((σm.set i (some (V.int kk))).set j (some v2)).length = σ.length := by rw [List.length_set, List.length_set]; exact h1
      have sj : ((σm.set i (some (V.int kk))).set j (some v2))[j]? = some (some v2) := List.getElem?_set_self (by rw [List.length_set, h1, S.len]; exact jlt)
      have si : ((σm.set i (some (V.int kk))).set j (some v2))[i]? = some (some (.int kk)) := by
        rw [List.getElem?_set_ne (fun z => hij z.symm)]
        exact List.getElem?_set_self (by rw [h1, S.len]; exact ilt)
      have sx : ((σm.set i (some (V.int kk))).set j (some v2))[x]? = some (some (.ref px)) := by
        rw [List.getElem?_set_ne (fun z => hxj z.symm), List.getElem?_set_ne (fun z => hxi z.symm), h2 x (by simp [hxi, hxj])]
        exact hv0
      refine ⟨n, [.int kk, v2], rfl, .inl (.inl upd_same), rfl, .int kk, [v2], rfl, ?_⟩
      show gCons (gName j) gNil [v2] (σm.set i (some (V.int kk))) (upd Hm n (.tup [.int kk, v2])) _
      refine ⟨v2, [], rfl, ?_⟩
      show gNil [] ((σm.set i (some (V.int kk))).set j (some v2)) (upd Hm n (.tup [.int kk, v2])) _
      refine ⟨rfl, ?_⟩
      show WSs X _ _ ((σm.set i (some (V.int kk))).set j (some v2)) (upd Hm n (.tup [.int kk, v2]))
      refine (pss_one (ps_asg (pe_var (i := j) (by rw [F.nN]; exact hj') hjv (okN_eq hjo').1 (okN_eq hjo').2) (pg_sub (pe_var (i := x) (by rw [F.nN]; exact hx) hxv (okN_eq hxo).1 (okN_eq hxo).2) (pe_var (i := i) (by rw [F.nN]; exact hi') hiv (okN_eq hio').1 (okN_eq hio').2) set_list (fun v => rfl)) rfl rfl rfl)).we ?_
      refine ⟨v2, sj, .ref px, sx, .int kk, si, px, wm, kk, jj, rfl, rfl, q1', by rw [← ixP_N, q2.length]; exact hjj, σl, fun l' hl => ?_, fun a ha => ?_, fun a o ha h => keep a o ha (sm a o (h4 a o ha h)), wm.set jj v2, xm.set jj rs[m], A1 ++ C0 ++ A2, B', upd_same, rs'.keep im (fun a ha o h => keep a o (fun z => pxn (by rw [← z]; exact List.mem_append_left _ ha)) h), rB'.keep im (fun a ha o h => keep a o (fun z => pxn (by rw [← z]; exact List.mem_append_right _ ha)) h), q4, nn, pxn, fun a ha => ?_, fun a ha => q8 a (List.mem_append_right _ ha)⟩
      · have n1 : i ≠ l' := fun z => hl (by rw [z]; simp)
        have n2 : j ≠ l' := fun z => hl (by rw [z]; simp)
        rw [List.getElem?_set_ne n2, List.getElem?_set_ne n1]; exact h2 l' hl
      · by_cases z : a = px
        · subst z; rw [upd_same]; simp
        · rw [upd_ne z]
          cases zz : Hm a with
          | none => exact absurd zz (h3 a ha)
          | some o => rw [sm a o zz]; simp
      · rcases List.mem_append.mp ha with z | z
        · rcases List.mem_append.mp z with z | z
          · exact q7 a (by simp [z])
          · exact .inr (q8 a (List.mem_append_left _ z))
        · exact q7 a (by simp [z])
    · rintro σn Hn ⟨h1, h2, h3, h4, wm, xm, Am, Bm, q1, q2, q3, q4, q5, q6, q7, q8⟩
      have xe := stAll_end q4 (by
        rcases Nat.le_total ls.length ws.length with z | z
        · left; rw [Nat.min_eq_left z, kl']; exact List.drop_length
        · right; rw [Nat.min_eq_right z, rl']; exact List.drop_length)
      subst xe
      have hnone : ∀ jj ∈ [i, j], ∀ d, ((e1.set i none).set j none)[jj]? ≠ some (some d) := fun jj hjj d z => by
        by_cases hb2 : jj < e1.length
        · by_cases z1 : j = jj
          · rw [z1, List.getElem?_set_self (by rw [List.length_set]; exact hb2)] at z; cases z
          · rw [List.getElem?_set_ne z1] at z
            have : i = jj := by
              rcases List.mem_cons.mp hjj with y | y
              · exact y.symm
              · exact absurd (List.mem_singleton.mp y).symm z1
            rw [this, List.getElem?_set_self hb2] at z; cases z
        · rw [List.getElem?_eq_none (by rw [List.length_set, List.length_set]; omega)] at z; cases z
      have S2 := ((S1.drop i).drop j).sig (σ' := σn) (js := [i, j]) h1 h2 hnone (fun jj hjj => by
        rcases List.mem_cons.mp hjj with y | y
        · rw [y]; exact hfi
        · rw [List.mem_singleton.mp y]; exact hfj)
      have sub : ∀ l' a, a ∈ (fun l => if l = j then [] else (fun l => if l = i then [] else As1 l) l) l' → a ∈ As1 l' := fun l' a ha => by
        have ha : a ∈ (if l' = j then [] else if l' = i then [] else As1 l') := ha
        split at ha
        · cases ha
        · split at ha
          · cases ha
          · exact ha
      have T1' := T1.tsx S
      have T2 : TSx true Z P H As Z P H1 (fun l => if l = j then [] else (fun l => if l = i then [] else As1 l) l) := ⟨T1'.mono, fun a o h c => T1'.keep a o h (c.imp id fun y => .inr rfl), fun l' a ha => T1'.al l' a (sub l' a ha), fun _ h => h, fun _ h => h⟩
      have ex : (if x = j then [] else if x = i then [] else As1 x) = px :: Ax := by rw [if_neg hxj, if_neg hxi, ← hAX]
      have im : ∀ a o, H1 a = some o → (∀ xs : MO, o ≠ xs.1) → Hn a = some o := fun a o h g => h4 a o (fun z => g ⟨.lst wx, trivial⟩ (by rw [z, x1] at h; exact (Option.some.inj h).symm)) h
      have nAm := (List.nodup_append.mp q5).1
      obtain ⟨S', T'⟩ := own_fin (kl := kl) (i := x) (H3 := Hn) (d1 := .lst xm) (v0 := .ref px) (A1 := px :: Am) T2 S2 hxow xlt (by rw [h2 x (by simp [hxi, hxj])]; exact hv0) hk h3
        (fun a o h z => h4 a o (fun y => z (by show a ∈ (if x = j then [] else if x = i then [] else As1 x); rw [ex, y]; exact List.mem_cons_self ..)) h) (.lst q1 q2)
        (List.nodup_cons.mpr ⟨fun z => q6 (List.mem_append_left _ z), nAm⟩) (fun a ha => by
          show a ∈ (if x = j then [] else if x = i then [] else As1 x) ∨ _
          rw [ex]
          rcases List.mem_cons.mp ha with z | z
          · exact .inl (by rw [z]; exact List.mem_cons_self ..)
          · rcases q7 a z with y | y
            · exact .inl (List.mem_cons_of_mem _ y)
            · have f := ff a (List.mem_cons_of_mem _ y)
              exact .inr ⟨f.1, fun ⟨l', hl1, hl2⟩ => f.2.1 ⟨l', hl1, sub l' a hl2⟩, f.2.2⟩)
      exact q σn Hn Z P _ S' T'
end
end Cy
end
section
set_option Elab.async false
set_option linter.all false
set_option maxRecDepth 100000
set_option maxHeartbeats 4000000
namespace Cy
open PySem L2 PyProof.Rows
variable [ClTab] [Fxd]
section
variable {C : Ct} {Φ : Nat → Fn} {k : Nat} {X : Cx}
theorem putF_keys (f : Str) (v : V) : ∀ fvs : List (Str × V), (putF f v fvs).map (·.1) = putN f (fvs.map (·.1))
  | [] => rfl
  | (g, x) :: r => by
    simp only [putF, List.map_cons, putN]
    split
    · rfl
    · simp only [List.map_cons, putF_keys f v r]
theorem putF_reps {K : PySem.W.Frag} {H : Hp} {f : Str} {w : V} {d : Cy.D} {Aw : List Addr} (rw' : Rep K H w d Aw) : ∀ {fvs : List (Str × V)} {ds : List Cy.D} {A : List Addr}, Reps K H (fvs.map (·.2)) ds A →
    ∃ A1 C A2, A = A1 ++ C ++ A2 ∧ Reps K H ((putF f w fvs).map (·.2)) (putV f d (fvs.map (·.1)) ds) (A1 ++ Aw ++ A2)
  | [], _, _, .nil => ⟨[], [], [], rfl, by
    have := Reps.one rw'
    simpa [putF, putV] using this⟩
  | (g, x) :: r, _, _, .cons (d := d0) (ds := ds0) (A := A0) (B := B0) h t => by
    by_cases e : g = f
    · refine ⟨[], A0, B0, rfl, ?_⟩
      have := Reps.cons rw' t
      simpa only [putF, List.map_cons, putV, if_pos e, List.nil_append] using this
    · obtain ⟨A1, C, A2, e1, q⟩ := putF_reps (f := f) rw' (fvs := r) t
      refine ⟨A0 ++ A1, C, A2, by rw [e1]; simp, ?_⟩
      have := Reps.cons h q
      simpa only [putF, List.map_cons, putV, if_neg e, List.append_assoc] using this
/-- x.f = e, x.g.f = e -/
theorem ss_fset {own vw : List Nat} {fr : Bool} {i : Nat} {p : List Ac} {f : Str} {a : DE} {kl : List Nat} {ob x : Expr} {tp sp : Pos} (F : Fx C Φ k X) (hm : mPth C X.env.scope i p ob = true) (ho : okPth C.sigs own vw p = true) (hi : i ∈ own) (hk : ∀ j ∈ vw, j ∈ kl)
    (hat : inB f C.ats = true) (ha : SE C Φ X own vw a x) (hf : frE C.sigs a = true) :
    SS C X own vw fr true (evS Φ (.upd i p (.fset f a) kl)) (WS X (.Assign [.Attribute ob f tp] x sp)) := by
  intro Z P σ H env As o env' S e D Wx tk q
  simp only [evS, evU] at e
  obtain ⟨d, e1, k1, k2⟩ := bd_inv e
  obtain ⟨qp, e2, k3, k4⟩ := bd_inv k2
  have hs : swapsWith x (some (.Attribute ob f tp)) sp.line X.env = pure false := by cases x <;> rfl
  refine (ps_fld Cy.we Cy.we hs).we ?_
  refine ha Z P σ H env As _ _ S k1 _ fun w H1 Aw As1 S1 T1 rw E1 => ?_
  refine se_pathB F hm ho S1 k3 fun H2 As2 u v0 B dt S2 T2 hv0 nu rb hb hq hlt => ?_
  cases rb with
  | @obj t Ca dx cn fvs fs ds A0 h1 h2 h3 r1 =>
    have rw2 := rw.step S1 T2 (fun z => by cases z)
    have E12 := E1.step (fun a h => rw.mut a h) T2
    have T12 := T1.trans T2 (io := true) (fun _ => rfl) (fun z => by cases z)
    obtain ⟨dt', dt2, C0, g1, g2, g4, g5, g6, g7, fin⟩ := upd_finG (fr := fr) (io := true) (o := o) (D := D) (T12.tsx S) S2 hi hlt hv0 nu hk (fun d' y h => by
      unfold putFD at h
      split at h
      · rfl
      · cases h) k4 q
    obtain ⟨n1, n2⟩ := frE_sub (As2 := As2) S (TR.refl (io := false)) E12 hf
    obtain ⟨c1, c2⟩ := F.cls _ _ h2
    cases g2 with
    | @obj _ Ca' dx' cn' fvs' fs' ds' _ h1' h2' h3' r1' =>
      rw [h1] at h1'
      simp only [Option.some.injEq, HO.ins.injEq] at h1'
      obtain ⟨rfl, rfl, rfl⟩ := h1'
      subst h3'
      simp only [putFD] at g1
      split at g1
      rotate_left
      · cases g1
      rename_i hl
      simp only [Option.some.injEq] at g1
      subst g1
      rw [List.length_map] at hl
      obtain ⟨A1, Cc, A2, eA, rs⟩ := putF_reps (f := f) rw2 r1'
      have sub : ∀ a, a ∈ A1 ∨ a ∈ A2 → a ∈ C0 := fun a h => by rw [eA]; rcases h with h | h <;> simp [h]
      have wN : t ∉ Aw := fun z => (n2 t z).2.1 ⟨i, hi, g5⟩
      refine ⟨t, Ca, dx, fvs, rfl, h1, c1, c2 f hat, hl, fin (.ins Ca dx (putF f w fvs)) (A1 ++ Aw ++ A2) (.obj upd_same h2' (putF_keys f w fvs) (rs.keep (fun a o h n => ?_) fun a ha o h => ?_)) (nodup_mid (C := Cc) (by rw [← eA]; exact g7) n1 fun a ha => .inr fun z => ?_) fun a h => ?_⟩
      · rw [upd_ne (show a ≠ t from fun z => n ⟨.ins Ca dx fvs, trivial⟩ (by rw [z, h1] at h; exact (Option.some.inj h).symm))]; exact h
      · rw [upd_ne]
        · exact h
        · rintro rfl
          rcases List.mem_append.mp ha with ha | ha
          · rcases List.mem_append.mp ha with ha | ha
            · exact g6 (sub a (.inl ha))
            · exact wN ha
          · exact g6 (sub a (.inr ha))
      · rw [← eA] at z
        exact (n2 a ha).2.1 ⟨i, hi, g4 a z⟩
      · rcases List.mem_append.mp h with h | h
        · rcases List.mem_append.mp h with h | h
          · exact .inl (sub a (.inl h))
          · exact .inr (n2 a h)
        · exact .inl (sub a (.inr h))
    | _ => simp [putFD] at g1
  | _ => simp [objB] at hb
theorem putK_keys {kvs : List (Key × V)} {ky : Ky} {v : V} : (putK kvs ky v).map (·.1) = putKs ky (kvs.map (·.1)) := by
  have e : ((kvs.map (·.1)).any fun k' => keqB k' ky) = (kvs.any fun kv => decide (kv.1 = ky)) := by
    rw [List.any_map]
    congr 1
    funext kv
    simp only [Function.comp]
    cases h : keqB kv.1 ky with
    | true => rw [keqB_iff] at h; simp [h]
    | false =>
      have : ¬ kv.1 = ky := fun z => by rw [keqB_iff.mpr z] at h; cases h
      simp [this]
  unfold putK putKs
  rw [e]
  split
  · rw [List.map_map]
    refine List.map_congr_left fun kv _ => ?_
    simp only [Function.comp]
    split <;> rfl
  · simp
theorem putK_reps {K : PySem.W.Frag} {H : Hp} {w : V} {d : Cy.D} {ky : Ky} (rw' : Rep K H w d []) {kvs : List (Key × V)} {ds : List Cy.D} {A : List Addr} (r : Reps K H (kvs.map (·.2)) ds A) :
    ∃ A', A'.Sublist A ∧ Reps K H ((putK kvs ky w).map (·.2)) (putKv ky d (kvs.map (·.1)) ds) A' := by
  have e : ((kvs.map (·.1)).any fun k' => keqB k' ky) = (kvs.any fun kv => decide (kv.1 = ky)) := by
    rw [List.any_map]
    congr 1
    funext kv
    simp only [Function.comp]
    cases h : keqB kv.1 ky with
    | true => rw [keqB_iff] at h; simp [h]
    | false =>
      have : ¬ kv.1 = ky := fun z => by rw [keqB_iff.mpr z] at h; cases h
      simp [this]
  have mp : ∀ {kvs : List (Key × V)} {ds : List Cy.D} {A : List Addr}, Reps K H (kvs.map (·.2)) ds A → ∃ A', A'.Sublist A ∧ Reps K H ((kvs.map fun kv => if kv.1 = ky then (kv.1, w) else kv).map (·.2)) (((kvs.map (·.1)).zip ds).map fun p => if keqB p.1 ky then d else p.2) A' := by
    intro kvs
    induction kvs with
    | nil => intro ds A r; cases r; exact ⟨[], List.Sublist.refl _, .nil⟩
    | cons kv kvs ih =>
      intro ds A r
      cases r with
      | @cons v vs d0 ds A0 B0 h t =>
        obtain ⟨A', s, q⟩ := ih t
        by_cases c : kv.1 = ky
        · refine ⟨A', s.trans (List.sublist_append_right _ _), ?_⟩
          have := Reps.cons rw' q
          simpa only [List.map_cons, List.zip_cons_cons, if_pos c, keqB_iff.mpr c, if_true, List.nil_append] using this
        · refine ⟨A0 ++ A', List.Sublist.append (List.Sublist.refl _) s, ?_⟩
          have c2 : keqB kv.1 ky = false := by
            cases h : keqB kv.1 ky with
            | false => rfl
            | true => exact absurd (keqB_iff.mp h) c
          have := Reps.cons h q
          simpa only [List.map_cons, List.zip_cons_cons, if_neg c, c2, Bool.false_eq_true, if_false] using this
  unfold putK putKv
  rw [e]
  split
  · exact mp r
  · refine ⟨A, List.Sublist.refl _, ?_⟩
    have := r.append (Reps.one rw')
    simpa using this
/-- d[k] = e, e without lists -/
theorem ss_dset {own vw : List Nat} {fr : Bool} {i : Nat} {p : List Ac} {j a : DE} {kl : List Nat} {ob ix x : Expr} {tp sp : Pos} (F : Fx C Φ k X) (hm : mPth C X.env.scope i p ob = true) (ho : okPth C.sigs own vw p = true) (hi : i ∈ own) (hk : ∀ j ∈ vw, j ∈ kl)
    (ha : SE C Φ X own vw a x) (hj : SE C Φ X own vw j ix) (hio : ioE j = false) :
    SS C X own vw fr true (evS Φ (.upd i p (.dset j a) kl)) (WS X (.Assign [.Subscript ob ix tp] x sp)) := by
  intro Z P σ H env As o env' S e D Wx tk q
  simp only [evS, evU] at e
  obtain ⟨d, e1, k1, k2⟩ := bd_inv e
  obtain ⟨qp, e2, k3, k4⟩ := bd_inv k2
  obtain ⟨dk, e3, k5, k6⟩ := bd_inv k4
  have hs : swapsWith x (some (.Subscript ob ix tp)) sp.line X.env = pure false := by cases x <;> rfl
  have hu := F.un
  refine (ps_dput (by omega) Cy.we Cy.we Cy.we hs).we ?_
  refine ha Z P σ H env As _ _ S k1 _ fun w H1 Aw As1 S1 T1 rw E1 => ?_
  refine se_pathB F hm ho S1 k3 fun H2 As2 u v0 B dt S2 T2 hv0 nu rb hb hq hlt => ?_
  refine hj Z P σ H2 e2 As2 _ _ S2 k5 _ fun vk H3 Ak As3 S3 T3 rk E3 => ?_
  have T3' : TR own false H2 As2 H3 As3 := by rw [hio] at T3; exact T3
  have T23 := T2.trans T3' (io := false) id id
  have rw3 := rw.step S1 T23 (fun z => by cases z)
  have T13 := T1.trans T23 (io := true) (fun _ => rfl) (fun z => by cases z)
  cases rb with
  | @dct t kvs ks ds A0 h1 h2 r1 =>
    have nu3 : Nav H3 v0 qp t := NavV.keep (fun a o h => T3'.keep a o h (fun z => by cases z)) nu
    have h13 : H3 t = some (.dK kvs) := T3'.keep _ _ h1 (fun z => by cases z)
    obtain ⟨dt', dt2, C0, g1, g2, g4, g5, g6, g7, fin⟩ := upd_finG (fr := fr) (io := true) (o := o) (D := D) (T13.tsx S) S3 hi hlt hv0 nu3 hk (fun d' y h => by
      unfold putDD at h
      split at h
      · rfl
      · cases h) k6 q
    cases g2 with
    | @dct _ kvs' ks' ds' _ h1' h2' r1' =>
      rw [h13] at h1'
      simp only [Option.some.injEq, HO.dK.injEq] at h1'
      subst h1'
      subst h2'
      simp only [putDD, Option.bind_eq_some_iff] at g1
      obtain ⟨ky, hky, g1⟩ := g1
      split at g1
      rotate_left
      · cases g1
      rename_i hl
      simp only [Option.some.injEq] at g1
      subst g1
      rw [List.length_map] at hl
      obtain rfl := rw3.pure hl.2
      obtain rfl := key_V rk hky
      obtain ⟨A', sA, rs⟩ := putK_reps (ky := ky) rw3 r1'
      refine ⟨t, _, rfl, DPut.k (k := ky) h13 (line_ltLMX hl.1), fin (.dK (putK kvs ky w)) A' (.dct upd_same putK_keys (rs.keep (fun a o h n => ?_) fun a ha o h => ?_)) (g7.sublist sA) fun a h => .inl (sA.subset h)⟩
      · rw [upd_ne (show a ≠ t from fun z => n ⟨.dK kvs, trivial⟩ (by rw [z, h13] at h; exact (Option.some.inj h).symm))]; exact h
      · rw [upd_ne (show a ≠ t from fun z => g6 (z ▸ sA.subset ha))]; exact h
    | _ => simp [putDD] at g1
  | _ => simp [dctB] at hb
end
end Cy
end
section
set_option Elab.async false
set_option linter.all false
set_option maxRecDepth 100000
set_option maxHeartbeats 4000000
namespace Cy
open PySem L2 PyProof.Rows
variable [ClTab] [Fxd]
theorem getF_set {x : Str} {z d : D} : ∀ {fs : List Str} {vs : List D}, getF x fs vs = some d → getF x fs (setFv x z fs vs) = some z
  | [], _, h => by simp [getF] at h
  | _ :: _, [], h => by simp [getF] at h
  | f :: fs, v :: vs, h => by
    simp only [getF] at h
    by_cases e : f = x
    · simp only [setFv, if_pos e, getF]
    · rw [if_neg e] at h
      simp only [setFv, if_neg e, getF]
      exact getF_set h
theorem setFv_set {x : Str} {z y : D} : ∀ {fs : List Str} {vs : List D}, setFv x z fs (setFv x y fs vs) = setFv x z fs vs
  | [], _ => rfl
  | _ :: _, [] => rfl
  | f :: fs, v :: vs => by
    by_cases e : f = x
    · simp only [setFv, if_pos e]
    · simp only [setFv, if_neg e, setFv_set]
theorem updD_getF : ∀ {fs : List Str} {z d d' : D}, updD (pathF fs) (fun _ => some z) d = some d' → getP (pathF fs) d' = some z
  | [], z, d, d', h => by
    simp only [pathF, List.map_nil, updD, Option.some.injEq] at h
    subst h; rfl
  | x :: fs, z, d, d', h => by
    have h : ((fldD d x).bind fun c => (updD (pathF fs) (fun _ => some z) c).bind fun c' => setF d x c') = some d' := h
    simp only [Option.bind_eq_some_iff] at h
    obtain ⟨c, h1, c', h2, h3⟩ := h
    cases d <;> simp only [setF, Option.some.injEq, reduceCtorEq] at h3
    subst h3
    simp only [fldD] at h1
    show ((fldD (.obj _ _ _) x).bind fun c => getP (pathF fs) c) = some z
    simp only [fldD, getF_set h1, Option.bind_some]
    exact updD_getF h2
theorem updD_cc : ∀ {fs : List Str} {z y d d1 : D}, updD (pathF fs) (fun _ => some y) d = some d1 → updD (pathF fs) (fun _ => some z) d1 = updD (pathF fs) (fun _ => some z) d
  | [], z, y, d, d1, h => rfl
  | x :: fs, z, y, d, d1, h => by
    have h : ((fldD d x).bind fun c => (updD (pathF fs) (fun _ => some y) c).bind fun c' => setF d x c') = some d1 := h
    simp only [Option.bind_eq_some_iff] at h
    obtain ⟨c, h1, c', h2, h3⟩ := h
    cases d <;> simp only [setF, Option.some.injEq, reduceCtorEq] at h3
    subst h3
    simp only [fldD] at h1
    show ((fldD (.obj _ _ _) x).bind fun c => (updD (pathF fs) (fun _ => some z) c).bind fun c' => setF (.obj _ _ _) x c') = ((fldD (.obj _ _ _) x).bind fun c => (updD (pathF fs) (fun _ => some z) c).bind fun c' => setF (.obj _ _ _) x c')
    simp only [fldD, getF_set h1, h1, Option.bind_some, updD_cc (z := z) h2, setF, setFv_set]
theorem updD_ex : ∀ {fs : List Str} {z d dt : D}, getP (pathF fs) d = some dt → ∃ d', updD (pathF fs) (fun _ => some z) d = some d'
  | [], z, d, dt, h => ⟨z, rfl⟩
  | x :: fs, z, d, dt, h => by
    cases d <;> simp only [pathF, List.map_cons, getP, reduceCtorEq, Option.bind_eq_some_iff] at h
    rename_i c0 fs0 vs0
    obtain ⟨c, h1, h2⟩ := h
    obtain ⟨c', h3⟩ := updD_ex (fs := fs) (z := z) h2
    refine ⟨.obj c0 fs0 (setFv x c' fs0 vs0), ?_⟩
    show ((fldD (.obj _ _ _) x).bind fun c => (updD (pathF fs) (fun _ => some z) c).bind fun c' => setF (.obj _ _ _) x c') = _
    rw [h1, Option.bind_some, h3]; rfl
theorem updD_of : ∀ {fs : List Str} {f : D → Option D} {z d dt : D}, getP (pathF fs) d = some dt → f dt = some z → updD (pathF fs) f d = updD (pathF fs) (fun _ => some z) d
  | [], f, z, d, dt, h, hf => by
    simp only [pathF, List.map_nil, getP, Option.some.injEq] at h
    subst h
    exact hf
  | x :: fs, f, z, d, dt, h, hf => by
    cases d <;> simp only [pathF, List.map_cons, getP, reduceCtorEq, Option.bind_eq_some_iff] at h
    obtain ⟨c, h1, h2⟩ := h
    show ((fldD (.obj _ _ _) x).bind fun c => (updD (pathF fs) f c).bind fun c' => setF (.obj _ _ _) x c') = ((fldD (.obj _ _ _) x).bind fun c => (updD (pathF fs) (fun _ => some z) c).bind fun c' => setF (.obj _ _ _) x c')
    rw [h1, Option.bind_some, Option.bind_some, updD_of (fs := fs) h2 hf]
theorem allF_eq : ∀ {p : List Ac}, allF p = true → ∃ fs : List Str, p = fs.map Ac.f ∧ lead p = pathF fs ∧ splitP p = some (fs, none)
  | [], _ => ⟨[], rfl, rfl, rfl⟩
  | .f x :: p, h => by
    obtain ⟨fs, h1, h2, h3⟩ := allF_eq (p := p) h
    exact ⟨x :: fs, by rw [h1]; rfl, by show AcV.f x :: lead p = _; rw [h2]; rfl, by simp only [splitP, h3, Option.map_some]⟩
  | .i _ :: p, h => by simp [allF] at h
section
variable {C : Ct} {Φ : Nat → Fn} {k : Nat} {X : Cx}
theorem nav_ex (F : Fx C Φ k X) {H : Hp} : ∀ {fs : List Str} {v : V} {d dt : D} {A : List Addr}, Rep X.K H v d A → getP (pathF fs) d = some dt → ∃ u B, NavV H v (pathF fs) u ∧ Rep X.K H u dt B
  | [], v, d, dt, A, r, h => by
    simp only [pathF, List.map_nil, getP, Option.some.injEq] at h
    subst h
    exact ⟨v, A, rfl, r⟩
  | x :: fs, v, d, dt, A, r, h => by
    have ep : pathF (x :: fs) = [.f x] ++ pathF fs := rfl
    rw [ep, getP_app, Option.bind_eq_some_iff] at h
    obtain ⟨dm, h1, h2⟩ := h
    obtain ⟨a, Ca, dx, fvs, w, B, rfl, g1, g2, g3, g4, g5⟩ := nav_fld F r h1
    obtain ⟨u, B2, h3, h4⟩ := nav_ex F g4 h2
    exact ⟨u, B2, g5.app h3, h4⟩
theorem ss_apph {own vw : List Nat} {fr : Bool} {i : Nat} {p : List Ac} {a : DE} {kl : List Nat} {ob x : Expr} {ap cp sp : Pos} (F : Fx C Φ k X) (hm : mPth C X.env.scope i p ob = true) (hi : i ∈ own) (hk : ∀ j ∈ vw, j ∈ kl)
    (hl : (ap.endLine == cp.line) = true) (hp : plainX x = true) (ha : SE C Φ X own vw a x) (hf : frE C.sigs a = true) :
    SS C X own vw fr true (evS Φ (.upd i p (.apph a) kl)) (WS X (.Expr (.Call (.Attribute ob "append" ap) [x] [] cp) sp)) := by
  intro Z P σ H env As o env' S e D Wx tk q
  simp only [evS, evU] at e
  split at e
  rotate_left
  · cases e
  rename_i d0 hd0
  split at e
  rotate_left
  · cases e
  rename_i hal
  split at e
  rotate_left
  · cases e
  rename_i xs hg
  split at e
  rotate_left
  · cases e
  rename_i d e1 hR
  split at e
  rotate_left
  · cases e
  rename_i hlen
  obtain ⟨fs, rfl, hlead, hsp⟩ := allF_eq hal
  rw [hlead] at hg hR e
  have hole : HoleOk (fun e => ev Φ a e) i (pathF fs) d0 env (d, e1) := by
    unfold holeR at hR
    split at hR
    · rename_i h
      simp only [Option.some.injEq] at hR
      rw [← hR]
      exact Classical.choose_spec h
    · cases hR
  have pl := (mPth_plain hm).2
  unfold mPth at hm
  rw [hsp] at hm
  dsimp only at hm
  obtain ⟨v0, hv0, r0⟩ := S.rep i d0 hd0
  have hlt : i < C.N.length := by
    have := (List.getElem?_eq_some_iff.mp hd0).1
    rw [S.lenE] at this; exact this
  refine (ps_expr (pe_bm PySem.F.plainAttrs_list PySem.F.slot_list_append PySem.F.type_list_append mt_append Cy.we (pa_cons Cy.we pa_nil (plain_star hp)) (base_of pl) (few_one hp) hl (plain_star hp) rfl)).we ?_
  refine fp_eval F hm hv0 r0 (by rw [List.reverse_reverse]; exact hg) fun u nu => ?_
  rw [List.reverse_reverse] at nu
  obtain ⟨B0, rt, _⟩ := nav_rep r0 nu hg
  cases rt with
  | @lst t ws _ C0' g1 g2 =>
  refine ⟨ty_lst ⟨_, g1⟩, ?_⟩
  obtain ⟨dh, d1, dr, e2, e3, e4, e5⟩ := hole t
  have e3 : e1[i]? = some (some d1) := e3
  have e5 : ev Φ a (env.set i (some dh)) = some (.ok d (e1.set i (some dr))) := e5
  -- the list stands apart
  obtain ⟨dt, dt', A1, Cc, A2, i1, i2, i3, i4, i5⟩ := focus r0 nu e2
  simp only [Option.some.injEq] at i1
  subst i1
  rw [hg] at i4
  simp only [Option.some.injEq] at i4
  subst i4
  cases i3 with
  | @lst _ ws' _ C0 k1 k2 =>
  rw [g1] at k1
  simp only [Option.some.injEq, HO.lst.injEq] at k1
  subst k1
  have nd := S.nod i hi
  rw [i2] at nd
  obtain ⟨m1, m2, m3⟩ := List.nodup_append.mp nd
  obtain ⟨m4, m5, m6⟩ := List.nodup_append.mp m1
  have inC : ∀ b ∈ t :: C0, b ∈ As i := fun b h => by rw [i2]; simp only [List.mem_append]; exact .inl (.inr h)
  have apart : ∀ b, b ∈ A1 ∨ b ∈ A2 → b ∉ t :: C0 := fun b h z => by
    rcases h with h | h
    · exact m6 b h b z rfl
    · exact m3 b (List.mem_append_right _ z) b h rfl
  have rh : Rep X.K H v0 dh (A1 ++ [] ++ A2) := i5 H [] (fun _ _ h _ => h) (fun _ _ _ h => h) (.hol t)
  rw [List.append_nil] at rh
  have sub12 : ∀ b ∈ A1 ++ A2, b ∈ As i := fun b h => by
    rw [i2]; rcases List.mem_append.mp h with h | h <;> simp [h]
  have nd12 : (A1 ++ A2).Nodup := List.nodup_append.mpr ⟨m4, m2, fun b hb c hc => m3 b (List.mem_append_left _ hb) c hc⟩
  have Sh : SR X.K C.N.length own vw Z P σ H (env.set i (some dh)) (fun j => if j = i then A1 ++ A2 else As j) := by
    refine ⟨S.len, by rw [List.length_set]; exact S.lenE, fun j dj h => ?_, fun j h => ?_, fun j h1 h2 b hb => ?_, fun j hj => ?_, fun j hj b hb => ?_, fun j hj l hl' ne b hb hc => ?_, S.zp, S.ph, S.fix⟩
    · by_cases ej : j = i
      · subst ej
        rw [List.getElem?_set_self (by rw [S.lenE]; exact hlt)] at h
        simp only [Option.some.injEq] at h
        subst h
        rw [if_pos rfl]; exact ⟨v0, hv0, rh⟩
      · rw [List.getElem?_set_ne (fun z => ej z.symm)] at h
        rw [if_neg ej]; exact S.rep j dj h
    · by_cases ej : j = i
      · subst ej
        exact absurd (List.getElem?_set_self (by rw [S.lenE]; exact hlt)) (h dh)
      · rw [if_neg ej]
        refine S.non j fun dj z => h dj ?_
        rw [List.getElem?_set_ne (fun z => ej z.symm)]; exact z
    · have ej : j ≠ i := fun z => h1 (z ▸ hi)
      rw [if_neg ej] at hb
      exact S.shr j h1 h2 b hb
    · by_cases ej : j = i
      · rw [if_pos ej]; exact nd12
      · rw [if_neg ej]; exact S.nod j hj
    · by_cases ej : j = i
      · rw [if_pos ej] at hb; exact S.noP i hi b (sub12 b hb)
      · rw [if_neg ej] at hb; exact S.noP j hj b hb
    · by_cases ej : j = i
      · rw [if_pos ej] at hb
        by_cases el : l = i
        · exact ne (ej.trans el.symm)
        · rw [if_neg el] at hc; exact S.dis i hi l hl' (fun z => el z.symm) b (sub12 b hb) hc
      · rw [if_neg ej] at hb
        by_cases el : l = i
        · rw [if_pos el] at hc; exact S.dis j hj i hi ej b hb (sub12 b hc)
        · rw [if_neg el] at hc; exact S.dis j hj l hl' ne b hb hc
  have owH : ∀ b, OwA own (fun j => if j = i then A1 ++ A2 else As j) b → OwA own As b := fun b ⟨j, hj, hb⟩ => by
    try dsimp only at hb
    split at hb
    · exact ⟨i, hi, sub12 b hb⟩
    · exact ⟨j, hj, hb⟩
  have notO : ∀ b ∈ t :: C0, ¬ OwA own (fun j => if j = i then A1 ++ A2 else As j) b := fun b hb ⟨j, hj, hc⟩ => by
    dsimp only at hc
    by_cases ej : j = i
    · rw [if_pos ej] at hc
      exact apart b (List.mem_append.mp hc) hb
    · rw [if_neg ej] at hc
      exact S.dis i hi j hj (fun z => ej z.symm) b (inC b hb) hc
  refine ha Z P σ H (env.set i (some dh)) _ d _ Sh e5 _ fun w H' Aw As' S' T' rw E' => ?_
  have kept : ∀ b ∈ t :: C0, ∀ o, H b = some o → H' b = some o := fun b hb o h => T'.keep b o h fun _ => notO b hb
  have someC : ∀ b ∈ t :: C0, H b ≠ none := fun b hb => S.own_some ⟨i, hi, inC b hb⟩
  have ht' : H' t = some (.lst ws) := kept t (List.mem_cons_self ..) _ g1
  have rC : Reps X.K H' ws xs C0 := k2.keep (fun b o h n => T'.keep b o h fun _ c => by
    obtain ⟨ys, m⟩ := Sh.own_mut c
    rw [h] at m
    exact n ys (Option.some.inj m)) fun b hb o h => kept b (List.mem_cons_of_mem _ hb) o h
  -- the list stands in its place again
  have hdr : (e1.set i (some dr))[i]? = some (some dr) := List.getElem?_set_self (by
    have := S'.lenE
    rw [List.length_set] at this
    rw [this]; exact hlt)
  obtain ⟨v0', hv0', r'⟩ := S'.rep i dr hdr
  rw [hv0] at hv0'
  simp only [Option.some.injEq] at hv0'
  subst hv0'
  have gdr := updD_getF e4
  obtain ⟨u', Bu, nu', ru'⟩ := nav_ex F r' gdr
  cases ru'
  obtain ⟨dun, hun⟩ := updD_ex (z := .lst xs) gdr
  obtain ⟨dt2, dt2', B1, Cd, B2, j1, j2, j3, j4, j5⟩ := focus r' nu' hun
  simp only [Option.some.injEq] at j1
  subst j1
  rw [gdr] at j4
  simp only [Option.some.injEq] at j4
  subst j4
  cases j3
  rw [List.append_nil] at j2
  have rU : Rep X.K H' v0 dun (B1 ++ (t :: C0) ++ B2) := j5 H' (t :: C0) (fun _ _ h _ => h) (fun _ _ _ h => h) (.lst ht' rC)
  have notO' : ∀ b ∈ t :: C0, ¬ OwA own As' b := fun b hb c => by
    rcases T'.ow b c with z | z
    · exact notO b hb z
    · exact someC b hb z
  have subB : ∀ b, b ∈ B1 ∨ b ∈ B2 → b ∈ As' i := fun b h => by rw [j2]; exact List.mem_append.mpr h
  have ndU : (B1 ++ (t :: C0) ++ B2).Nodup := by
    have n0 := S'.nod i hi
    rw [j2] at n0
    obtain ⟨x1, x2, x3⟩ := List.nodup_append.mp n0
    refine List.nodup_append.mpr ⟨List.nodup_append.mpr ⟨x1, m5, fun b hb c hc z => ?_⟩, x2, fun b hb c hc z => ?_⟩
    · subst z; exact notO' b hc ⟨i, hi, subB b (.inl hb)⟩
    · subst z
      rcases List.mem_append.mp hb with hb | hb
      · exact x3 b hb b hc rfl
      · exact notO' b hb ⟨i, hi, subB b (.inr hc)⟩
  have SU : SR X.K C.N.length own vw Z P σ H' (e1.set i (some dun)) (fun j => if j = i then B1 ++ (t :: C0) ++ B2 else As' j) := by
    refine ⟨S'.len, by have := S'.lenE; rw [List.length_set] at this ⊢; exact this, fun j dj h => ?_, fun j h => ?_, fun j h1 h2 b hb => ?_, fun j hj => ?_, fun j hj b hb => ?_, fun j hj l hl' ne b hb hc => ?_, S'.zp, S'.ph, S'.fix⟩
    · by_cases ej : j = i
      · subst ej
        rw [List.getElem?_set_self (by have := S'.lenE; rw [List.length_set] at this; rw [this]; exact hlt)] at h
        simp only [Option.some.injEq] at h
        subst h
        rw [if_pos rfl]; exact ⟨v0, hv0, rU⟩
      · rw [List.getElem?_set_ne (fun z => ej z.symm)] at h
        rw [if_neg ej]
        exact S'.rep j dj (by rw [List.getElem?_set_ne (fun z => ej z.symm)]; exact h)
    · by_cases ej : j = i
      · subst ej
        exact absurd (List.getElem?_set_self (by have := S'.lenE; rw [List.length_set] at this; rw [this]; exact hlt)) (h dun)
      · rw [if_neg ej]
        refine S'.non j fun dj z => h dj ?_
        rw [List.getElem?_set_ne (fun z => ej z.symm)] at z ⊢; exact z
    · have ej : j ≠ i := fun z => h1 (z ▸ hi)
      rw [if_neg ej] at hb
      exact S'.shr j h1 h2 b hb
    · by_cases ej : j = i
      · rw [if_pos ej]; exact ndU
      · rw [if_neg ej]; exact S'.nod j hj
    · by_cases ej : j = i
      · rw [if_pos ej] at hb
        rcases List.mem_append.mp hb with hb | hb
        · rcases List.mem_append.mp hb with hb | hb
          · exact S'.noP i hi b (subB b (.inl hb))
          · exact S.noP i hi b (inC b hb)
        · exact S'.noP i hi b (subB b (.inr hb))
      · rw [if_neg ej] at hb; exact S'.noP j hj b hb
    · have key : ∀ b, b ∈ B1 ++ (t :: C0) ++ B2 → ∀ l ∈ own, l ≠ i → b ∉ As' l := fun b hb l hl' el hc => by
        rcases List.mem_append.mp hb with hb | hb
        · rcases List.mem_append.mp hb with hb | hb
          · exact S'.dis i hi l hl' (fun z => el z.symm) b (subB b (.inl hb)) hc
          · exact notO' b hb ⟨l, hl', hc⟩
        · exact S'.dis i hi l hl' (fun z => el z.symm) b (subB b (.inr hb)) hc
      by_cases ej : j = i
      · rw [if_pos ej] at hb
        by_cases el : l = i
        · exact ne (ej.trans el.symm)
        · rw [if_neg el] at hc; exact key b hb l hl' el hc
      · rw [if_neg ej] at hb
        by_cases el : l = i
        · rw [if_pos el] at hc; exact key b hc j hj ej hb
        · rw [if_neg el] at hc; exact S'.dis j hj l hl' ne b hb hc
  have alH : ∀ b, (∃ l, b ∈ (fun j => if j = i then A1 ++ A2 else As j) l) → ∃ l, b ∈ As l := fun b ⟨l, hb⟩ => by
    try dsimp only at hb
    split at hb
    · exact ⟨i, sub12 b hb⟩
    · exact ⟨l, hb⟩
  have TU : TR own true H As H' (fun j => if j = i then B1 ++ (t :: C0) ++ B2 else As' j) := by
    refine ⟨T'.mono, fun b o h n => T'.keep b o h fun _ c => n rfl (owH b c), fun b ⟨j, hj, hb⟩ => ?_, fun j b hb => ?_⟩
    · try dsimp only at hb
      have back : OwA own As' b → OwA own As b ∨ H b = none := fun c => (T'.ow b c).imp (owH b) id
      by_cases ej : j = i
      · rw [if_pos ej] at hb
        rcases List.mem_append.mp hb with hb | hb
        · rcases List.mem_append.mp hb with hb | hb
          · exact back ⟨i, hi, subB b (.inl hb)⟩
          · exact .inl ⟨i, hi, inC b hb⟩
        · exact back ⟨i, hi, subB b (.inr hb)⟩
      · rw [if_neg ej] at hb; exact back ⟨j, hj, hb⟩
    · try dsimp only at hb
      have back : ∀ l, b ∈ As' l → (∃ i, b ∈ As i) ∨ H b = none := fun l c => (T'.al l b c).imp (alH b) id
      by_cases ej : j = i
      · rw [if_pos ej] at hb
        rcases List.mem_append.mp hb with hb | hb
        · rcases List.mem_append.mp hb with hb | hb
          · exact back i (subB b (.inl hb))
          · exact .inl ⟨i, inC b hb⟩
        · exact back i (subB b (.inr hb))
      · rw [if_neg ej] at hb; exact back j hb
  have hsplit : updE i (pathF fs) (fun tt => match tt with | .lst ys => if ys.length < LMX then some (.lst (ys ++ [d])) else none | _ => none) kl (e1.set i (some dun)) = some (.ok o env') := by
    unfold updE at e ⊢
    rw [e3] at e
    rw [List.getElem?_set_self (by have := S'.lenE; rw [List.length_set] at this; rw [this]; exact hlt)]
    dsimp only at e ⊢
    rw [updD_of (z := .lst (xs ++ [d])) (updD_getF hun) (by dsimp only; rw [if_pos hlen]), updD_cc hun, updD_cc e4]
    simp only [List.set_set]
    exact e
  obtain ⟨xs', ys', ws', C1, q1, q2, q3, q4, q5, q6, q7, fin⟩ := upd_fin (fr := fr) (io := true) (o := o) (D := D) (TU.tsx S) SU hi hlt hv0 nu' hk (fun d' y h => by
    split at h
    · split at h
      · simp only [Option.some.injEq] at h; exact ⟨_, _, rfl, h.symm⟩
      · cases h
    · cases h) hsplit q
  dsimp only at q1
  split at q1
  rotate_left
  · cases q1
  rename_i hz
  simp only [Option.some.injEq, Cy.D.lst.injEq] at q1
  subst q1
  obtain ⟨ndw, nww⟩ := E'.1 hf
  have n2 : ∀ b ∈ Aw, ¬ P b ∧ ¬ OwA own (fun j => if j = i then B1 ++ (t :: C0) ++ B2 else As' j) b ∧ (H b = none ∨ ∃ l, b ∈ As l) := fun b hb => by
    obtain ⟨z1, z2⟩ := nww b hb
    refine ⟨fun c => z1.elim (fun z => S.ph b c z) fun z => by
      obtain ⟨l, hl', y⟩ := owH b z
      exact S.noP l hl' b y c, fun ⟨j, hj, hc⟩ => ?_, z1.imp id fun z => by
      obtain ⟨l, _, y⟩ := owH b z
      exact ⟨l, y⟩⟩
    dsimp only at hc
    by_cases ej : j = i
    · rw [if_pos ej] at hc
      rcases List.mem_append.mp hc with hc | hc
      · rcases List.mem_append.mp hc with hc | hc
        · exact z2 ⟨i, hi, subB b (.inl hc)⟩
        · rcases z1 with z | z
          · exact someC b hc z
          · exact notO b hc z
      · exact z2 ⟨i, hi, subB b (.inr hc)⟩
    · rw [if_neg ej] at hc; exact z2 ⟨j, hj, hc⟩
  refine ⟨t, ws', w, rfl, rfl, q2, ?_, fin (ws' ++ [w]) (C1 ++ Aw) (q3.append (Reps.one rw)) (List.nodup_append.mpr ⟨q7, ndw, fun b hb c hc z => ?_⟩) fun b h => ?_⟩
  · rw [q3.length]; exact line_ltLMX hz
  · subst z; exact (n2 b hc).2.1 ⟨i, hi, q4 b hb⟩
  · rcases List.mem_append.mp h with h | h
    · exact .inl h
    · exact .inr (n2 b h)
end
end Cy
end
section
set_option Elab.async false
set_option linter.all false
set_option maxRecDepth 100000
set_option maxHeartbeats 4000000
namespace Cy
open PySem L2 PyProof.Rows
variable [ClTab] [Fxd]
section
variable {K : PySem.W.Frag} {n : Nat} {own vw : List Nat} {Z P Z1 P1 : Addr → Prop} {σ : L2.St} {H H1 : Hp} {env env1 : En} {As As1 As2 : Asg} {io : Bool}
/-- a name takes what is all its own -/
theorem SR.bindNew (S : SR K n own vw Z P σ H env As) {i : Nat} {v : V} {d : D} {A : List Addr} (r : Rep K H v d A) (nd : A.Nodup) (hA : ∀ a ∈ A, ¬ P a ∧ ¬ OwA own As a) (hi : i < n) (hfx : Fxd.fx i = none) :
    SR K n own vw (fun a => Z a ∨ ∃ j ∈ [i], j ∉ own ∧ j ∉ vw ∧ a ∈ (fun _ : Nat => A) j) (fun a => P a ∨ ∃ j ∈ [i], j ∉ own ∧ j ∉ vw ∧ a ∈ (fun _ : Nat => A) j) (σ.set i (some v)) H (env.set i (some d)) (fun j => if j ∈ [i] then A else As j) := by
  classical
  have hn : ∀ a ∈ A, New own (fun a => if a ∈ A then none else H a) (fun _ => []) As a := fun a ha => ⟨.inl (by simp [ha]), (hA a ha).2⟩
  refine SR.bind (f := true) (s := true) (H0 := fun a => if a ∈ A then none else H a) (As0 := fun _ => []) (B := fun _ => A) S (BR.one r (by rw [S.len]; exact hi) (by rw [S.lenE]; exact hi)) ⟨fun _ => ⟨nd, hn⟩, fun _ a ha => .inl (hn a ha), fun a ha => .inl (by simp [ha])⟩ (fun a h => ?_) (fun a ⟨i, _, z⟩ => nomatch z) (fun a h => ?_) (fun a h => r.mut a h) (fun j hj => ?_) (f_one hfx)
  · by_cases q : a ∈ A
    · simp [q] at h
    · simpa [q] using h
  · have q : a ∉ A := fun z => (hA a z).1 h
    simpa [q] using S.ph a h
  · unfold kOk
    split <;> simp
theorem TSx.bindNew {i : Nat} {A : List Addr} (t : TSx io Z P H As Z1 P1 H1 As1) (hA : ∀ a ∈ A, H a = none ∨ ∃ i, a ∈ As i) :
    TSx io Z P H As (fun a => Z1 a ∨ ∃ j ∈ [i], j ∉ own ∧ j ∉ vw ∧ a ∈ (fun _ : Nat => A) j) (fun a => P1 a ∨ ∃ j ∈ [i], j ∉ own ∧ j ∉ vw ∧ a ∈ (fun _ : Nat => A) j) H1 (fun j => if j ∈ [i] then A else As1 j) :=
  TSx.bind (B := fun _ => A) t (fun _ _ _ h => h) hA
theorem TSx.sub (t : TSx io Z P H As Z1 P1 H1 As1) (h : ∀ j a, a ∈ As2 j → a ∈ As1 j) : TSx io Z P H As Z1 P1 H1 As2 := ⟨t.mono, t.keep, fun j a q => t.al j a (h j a q), t.zz, t.pp⟩
theorem SR.slots {σ' : L2.St} (S : SR K n own vw Z P σ H env As) {j : Nat} (hl : σ'.length = σ.length) (hj : ∀ i, i ≠ j → σ'[i]? = σ[i]?) (he : ∀ d, env[j]? ≠ some (some d)) (hfx : Fxd.fx j = none) : SR K n own vw Z P σ' H env As :=
  ⟨by rw [hl, S.len], S.lenE, fun i d h => by
    have ne : i ≠ j := fun z => he d (z ▸ h)
    rw [hj i ne]; exact S.rep i d h, S.non, S.shr, S.nod, S.noP, S.dis, S.zp, S.ph, fun i v h => by
    have ne : i ≠ j := fun z => by rw [z, hfx] at h; cases h
    rw [hj i ne]; exact S.fix i v h⟩
end
section
variable {C : Ct} {Φ : Nat → Fn} {k : Nat} {X : Cx}
theorem Fx.tr (F : Fx C Φ k X) (pn : List (Addr × Obj)) (xe : Value → Shared → Prop) : Fx C Φ k (X.tr pn xe) :=
  ⟨F.nN, F.nd, F.calm, F.room, fun f x sg h1 h2 h3 => by
    obtain ⟨fa, fd, ps, q⟩ := F.calls f x sg h1 h2 h3
    exact ⟨fa, fd, ps, q.mg, q.kp, q.bi, q.ok⟩, F.bn, F.gl, F.cls, fun f c m sg h1 h2 h3 => by
    obtain ⟨fa, fd, ps, k', hk, q⟩ := F.ms f c m sg h1 h2 h3
    exact ⟨fa, fd, ps, k', hk, q.meth, q.make, q.bi, q.ok⟩, F.fx, F.cax, F.xcl, F.xex, F.xxs, F.kxa, F.kxA⟩
theorem SR.own1 {K : PySem.W.Frag} {n : Nat} {own vw : List Nat} {Z P : Addr → Prop} {σ : L2.St} {H : Hp} {env : En} {As : Asg} {i : Nat} (S : SR K n own vw Z P σ H env As) (h : As i = []) : SR K n (i :: own) vw Z P σ H env As :=
  ⟨S.len, S.lenE, S.rep, S.non, fun j h1 h2 => S.shr j (fun z => h1 (List.mem_cons_of_mem _ z)) h2, fun j hj => by
    rcases List.mem_cons.mp hj with rfl | hj
    · rw [h]; exact List.nodup_nil
    · exact S.nod j hj, fun j hj a ha => by
    rcases List.mem_cons.mp hj with rfl | hj
    · rw [h] at ha; cases ha
    · exact S.noP j hj a ha, fun j hj l hl hne a ha hb => by
    rcases List.mem_cons.mp hj with rfl | hj
    · rw [h] at ha; cases ha
    · rcases List.mem_cons.mp hl with rfl | hl
      · rw [h] at hb; cases hb
      · exact S.dis j hj l hl hne a ha hb, S.zp, S.ph, S.fix⟩
theorem SR.own0 {K : PySem.W.Frag} {n : Nat} {own vw : List Nat} {Z P : Addr → Prop} {σ : L2.St} {H : Hp} {env : En} {As : Asg} {i : Nat} (S : SR K n (i :: own) vw Z P σ H env As) (h : As i = []) : SR K n own vw Z P σ H env As :=
  ⟨S.len, S.lenE, S.rep, S.non, fun j h1 h2 a ha => by
    by_cases z : j = i
    · subst z
      rw [h] at ha; cases ha
    · exact S.shr j (fun y => (List.mem_cons.mp y).elim z h1) h2 a ha, fun j hj => S.nod j (List.mem_cons_of_mem _ hj), fun j hj => S.noP j (List.mem_cons_of_mem _ hj), fun j hj l hl => S.dis j (List.mem_cons_of_mem _ hj) l (List.mem_cons_of_mem _ hl), S.zp, S.ph, S.fix⟩
/-- a name regarded as own for a while -/
theorem ss_blk {own vw : List Nat} {fr io : Bool} {i : Nat} {m : En → Option (Rs Ou)} {W : TS} (hi : i ∉ own) (hfx : Fxd.fx i = none) (hb : SS C X (i :: own) vw fr io m W) : SS C X own vw fr io (fun e => blkR i (m (e.set i none))) W := by
  intro Z P σ H env As o env' S e D Wx tk q
  dsimp only at e
  cases hr : m (env.set i none) with
  | none => rw [hr] at e; cases e
  | some r =>
    rw [hr] at e
    cases r with
    | exn c x e1 => cases e
    | ok o1 e1 =>
      simp only [blkR, Option.some.injEq, Rs.ok.injEq] at e
      obtain ⟨rfl, rfl⟩ := e
      have S0 : SR X.K C.N.length (i :: own) vw Z P σ H (env.set i none) (fun j => if j = i then [] else As j) := (S.drop i).own1 (by simp)
      have back : ∀ {σ' : L2.St} {H' : Hp} {Z' P' : Addr → Prop} {As' : Asg}, SR X.K C.N.length (i :: own) vw Z' P' σ' H' e1 As' → SR X.K C.N.length own vw Z' P' σ' H' (e1.set i none) (fun j => if j = i then [] else As' j) := fun S' => (S'.drop i).own0 (by simp)
      have tb : ∀ {H' : Hp} {Z' P' : Addr → Prop} {As' : Asg}, TSx io Z P H (fun j => if j = i then [] else As j) Z' P' H' As' → TSx io Z P H As Z' P' H' (fun j => if j = i then [] else As' j) := fun T => ⟨T.mono, T.keep, fun j a h => by
        by_cases z : j = i
        · rw [if_pos z] at h; cases h
        · rw [if_neg z] at h
          rcases T.al j a h with ⟨l, hl⟩ | hn
          · by_cases y : l = i
            · simp only [if_pos y] at hl; cases hl
            · simp only [if_neg y] at hl; exact .inl ⟨l, hl⟩
          · exact .inr hn, T.zz, T.pp⟩
      have al0 : ∀ {A : List Addr}, (∀ a ∈ A, H a = none ∨ ∃ j, a ∈ (fun j => if j = i then [] else As j) j) → ∀ a ∈ A, H a = none ∨ ∃ j, a ∈ As j := fun h a ha => by
        rcases h a ha with z | ⟨l, hl⟩
        · exact .inl z
        · by_cases y : l = i
          · simp only [if_pos y] at hl; cases hl
          · simp only [if_neg y] at hl; exact .inr ⟨l, hl⟩
      have ow : ∀ {As' : Asg} {a : Addr}, OwA own (fun j => if j = i then [] else As' j) a → OwA (i :: own) As' a := fun {As' a} ⟨l, hl, z⟩ => by
        by_cases y : l = i
        · simp only [if_pos y] at z; cases z
        · simp only [if_neg y] at z; exact ⟨l, List.mem_cons_of_mem _ hl, z⟩
      refine hb Z P σ H _ _ _ _ S0 hr D Wx tk ?_
      cases o1 with
      | nx => exact fun σ' H' Z' P' As' S' T' => q σ' H' Z' P' _ (back S') (tb T')
      | bk => exact fun σ' H' Z' P' As' S' T' => q σ' H' Z' P' _ (back S') (tb T')
      | ct => exact fun σ' H' Z' P' As' S' T' => q σ' H' Z' P' _ (back S') (tb T')
      | rt d => exact fun v σ' H' Z' P' As' A S' T' r rf => q v σ' H' Z' P' _ A (back S') (tb T') r ⟨fun z => ⟨(rf.1 z).1, fun a ha => ⟨((rf.1 z).2 a ha).1, fun y => ((rf.1 z).2 a ha).2 (ow y)⟩⟩, al0 rf.2⟩
      | xn c x => exact fun cls d σ' H' Z' P' As' A S' T' xr xf => q cls d σ' H' Z' P' _ A (back S') (tb T') xr ⟨xf.1, fun a ha => ⟨(xf.2.1 a ha).1, fun y => (xf.2.1 a ha).2 (ow y)⟩, al0 xf.2.2⟩
/-- raise C(x): C with an __init__ of its own -/
theorem ss_rai1 {own vw : List Nat} {fr kp : Bool} {c : Str} {a : DE} {x : Expr} {p pos pos2 : Pos} (F : Fx C Φ k X) (hc : (c, true) ∈ C.xc) (hg : X.env.scope.names.lookup c = some .globalImplicit) (ho : okN c = true) (hp : plainX x = true)
    (hl : SL C Φ X own vw (.cons a .nil) [x]) (hfr : kp = true → frL C.sigs (.cons a .nil) = true) : SS C X own vw fr (ioL (.cons a .nil)) (evS Φ (.rai c kp (.cons a .nil))) (WS X (.Raise (some (.Call (.Name c p) [x] [] pos)) none pos2)) := by
  intro Z P σ H env As o env' S e D Wx tk q
  simp only [evS] at e
  obtain ⟨ds, e1, h1, h2⟩ := bd_inv e
  have XC := F.xcl c true hc
  obtain ⟨fI, fd, pn, k', hk, T, iC, tI, bi, ok, xf, hno⟩ := XC.own rfl
  refine (ps_raise F.calm tk (pmk_oex T iC tI ok (F.room.mono hk) bi .nil pass0 hg XC.gm Cy.wa (okN_eq ho).1 (plain_star hp) rfl)).we ?_
  refine hl Z P σ H env As _ _ S h1 _ fun vs H1 A As1 S1 T1 r E => ?_
  have h1' := h1
  simp only [evL] at h1'
  obtain ⟨d0, e0, g1, g2⟩ := bd_inv h1'
  obtain ⟨_, g2⟩ := gd_inv g2
  obtain ⟨d1, e2, g3, g4⟩ := bd_inv g2
  simp only [Option.some.injEq, Rs.ok.injEq] at g3 g4
  obtain ⟨rfl, rfl⟩ := g3
  obtain ⟨rfl, rfl⟩ := g4
  simp only [Option.some.injEq, Rs.ok.injEq] at h2
  obtain ⟨rfl, rfl⟩ := h2
  cases r with
  | @cons v _ _ _ A0 B0 rv rn =>
    cases rn
    refine ⟨by simp, fun b hb => ?_⟩
    show spInit _ _ _ _ _ _
    refine ⟨b, v, by simp, upd_same, fun dx hdx hne => ⟨rfl, dx, [(xfld c, v)], upd_same, ?_, ?_, ?_⟩⟩
    · rw [upd_ne hne, upd_same]
    · rw [upd_ne hne] at hdx; exact hdx
    · have hdx1 : H1 dx = none := by rw [upd_ne hne] at hdx; exact hdx
      have e3 : upd (del (upd (upd (upd H1 b (exo b (He.ga X.K c) none)) dx (exd dx [(xfld c, v)])) b (exo b (He.ga X.K c) (some dx))) b) dx (.xd [(xfld c, v)]) = upd H1 dx (.xd [(xfld c, v)]) := by
        funext y
        by_cases y1 : y = dx
        · rw [y1, upd_same, upd_same]
        · rw [upd_ne y1, upd_ne y1]
          by_cases y2 : y = b
          · rw [y2, del_same, hb]
          · rw [del_ne y2, upd_ne y2, upd_ne y1, upd_ne y2]
      show Wx _ _ σ (upd (del _ b) dx _)
      rw [e3]
      have sm : Same H1 (upd H1 dx (.xd [(xfld c, v)])) := fun a o h => by
        rw [upd_ne (ne_of_none h hdx1)]; exact h
      cases kp with
      | false => exact q _ _ σ _ Z P As1 [] (S1.grow sm) ((T1.trans (TR.grow (io := ioL (.cons a .nil)) sm) id id).tsx S) ⟨rfl, fun c0 h0 => F.xex c true hc c0 h0, F.xxs c true hc, rfl, fun dd z => by cases z; exact ⟨_, upd_same⟩⟩ ⟨List.nodup_nil, (fun a h => by cases h), (fun a h => by cases h)⟩
      | true =>
      exact q _ _ σ _ Z P As1 (A0 ++ []) (S1.grow sm) ((T1.trans (TR.grow (io := ioL (.cons a .nil)) sm) id id).tsx S) ⟨rfl, fun c0 h0 => F.xex c true hc c0 h0, F.xxs c true hc, dx, v, rfl, upd_same, by rw [List.append_nil]; exact rv.mono sm⟩
        ⟨(E.1 (hfr rfl)).1, fun a ha => S.newP ((E.1 (hfr rfl)).2 a ha), E.2.2⟩
/-- raise C('m'): C without one -/
theorem ss_rai0 {own vw : List Nat} {fr kp : Bool} {c m : Str} {j : Nat} {p p2 pos pos2 : Pos} (F : Fx C Φ k X) (hc : (c, false) ∈ C.xc) (hg : X.env.scope.names.lookup c = some .globalImplicit) (ho : okN c = true) :
    SS C X own vw fr false (evS Φ (.rai c kp .nil)) (WS X (.Raise (some (.Call (.Name c p) [.Constant (.str m) j p2] [] pos)) none pos2)) := by
  intro Z P σ H env As o env' S e D Wx tk q
  simp only [evS, evL, bd_ok, Option.some.injEq, Rs.ok.injEq] at e
  obtain ⟨rfl, rfl⟩ := e
  have XC := F.xcl c false hc
  obtain ⟨hx, hkp⟩ := XC.non rfl
  refine (ps_raise F.calm tk (pmk_own PySem.F.excBase_ValueError hx XC.gm hkp (raises_own XC.sub XC.typ) hg (okN_eq ho).1)).we ?_
  exact q _ _ σ H Z P As [] S TSx.refl ⟨rfl, fun c0 h0 => F.xex c false hc c0 h0, F.xxs c false hc, rfl, fun dd z => nomatch z⟩ ⟨List.nodup_nil, (fun a h => by cases h), (fun a h => by cases h)⟩
/-- f(..), which may raise -/
theorem we_calx {own vw : List Nat} {f : Nat} {es : DEs} {y : Str} {fr : Bool} {x : Expr} {xs : List Expr} {p pos : Pos} (F : Fx C Φ k X) (hf : f ∈ C.cx) (hy : C.calls[f]? = some y) (hs : C.sigs[f]? = some (none, fr)) (hg : X.env.scope.names.lookup y = some .globalImplicit) (ho : okN y = true)
    (hp : (x :: xs).all plainX = true) (hl : SL C Φ X own vw es (x :: xs)) {Z P : Addr → Prop} {σ : L2.St} {H : Hp} {env e1 : En} {As : Asg} {ds : List D} (S : SR X.K C.N.length own vw Z P σ H env As) (h1 : evL Φ es env = some (.ok ds e1)) {Wx : WX} (tk : Takes X Wx) {Q : VK}
    (q : (∃ d, Φ f ds = some (.ret d []) ∧ ∀ v H' A' As', SR X.K C.N.length own vw Z P σ H' e1 As' → TR own (ioL es) H As H' As' → Rep X.K H' v d A' → EF own Z fr fr H As As' A' → Q v H') ∨
      ∃ c x, Φ f ds = some (.exn c x []) ∧ ∀ cls d H' A' As', SR X.K C.N.length own vw Z P σ H' e1 As' → TR own (ioL es) H As H' As' → XRep X.K H' cls d c x A' → XF own P H As As' A' → Wx cls d σ H') :
    WE X (.Call (.Name y p) (x :: xs) [] pos) σ H Q := by
  obtain ⟨fa, fd, ps, K⟩ := F.cax f y _ hf hy ho hs
  simp only [List.all_cons, Bool.and_eq_true] at hp
  refine (pe_callS (E := L2.WE Wx) K.ok F.room hg K.gm K.kp K.bi (fun σ => passAt tk σ) Cy.wa (okN_eq ho).1 (plain_star hp.1) (plain_any hp.2)).we ?_
  refine hl Z P σ H env As _ _ S h1 _ fun vs H1 A As1 S1 T1 r E => ?_
  show spX X.K fr (Φ f) vs H1 Q (L2.WE Wx σ)
  have nw : ∀ a, H1 a = none → New own H As As1 a := fun a h => ⟨.inl (by
      cases q : H a with
      | none => rfl
      | some o => exact absurd h (T1.mono a (by rw [q]; simp))), fun c => S1.own_some c h⟩
  rcases q with ⟨d, hF, q⟩ | ⟨c, xx, hF, q⟩
  · refine ⟨ds, A, r, .inl ⟨d, hF, fun v H' A' sm rd hfr hal => ?_⟩⟩
    have T2 : TR own (ioL es) H As H' As1 := T1.trans (TR.grow (io := ioL es) sm) id id
    refine q v H' A' As1 (S1.grow sm) T2 rd ⟨fun h => ⟨(hfr h).1, fun a ha => nw a ((hfr h).2 a ha)⟩, fun h a ha => .inl (nw a ((hfr h).2 a ha)), fun a ha => ?_⟩
    rcases hal a ha with z | z
    · exact .inl (T1.back z)
    · exact E.2.2 a z
  · refine ⟨ds, A, r, .inr ⟨c, xx, hF, fun cls d H' A' sm rx nd hn => ?_⟩⟩
    have T2 : TR own (ioL es) H As H' As1 := T1.trans (TR.grow (io := ioL es) sm) id id
    exact q cls d H' A' As1 (S1.grow sm) T2 rx ⟨nd, fun a ha => S.newP (nw a (hn a ha)), fun a ha => .inl (T1.back (hn a ha))⟩
theorem ss_calE {own vw : List Nat} {f : Nat} {es : DEs} {y : Str} {fr fr2 : Bool} {x : Expr} {xs : List Expr} {p pos sp : Pos} (F : Fx C Φ k X) (hf : f ∈ C.cx) (hy : C.calls[f]? = some y) (hs : C.sigs[f]? = some (none, fr)) (hg : X.env.scope.names.lookup y = some .globalImplicit) (ho : okN y = true)
    (hp : (x :: xs).all plainX = true) (hl : SL C Φ X own vw es (x :: xs)) : SS C X own vw fr2 (ioL es) (evS Φ (.calx .ex f es)) (WS X (.Expr (.Call (.Name y p) (x :: xs) [] pos) sp)) := by
  intro Z P σ H env As o env' S e D Wx tk q
  simp only [evS] at e
  obtain ⟨ds, e1, h1, h2⟩ := bd_inv e
  refine (ps_expr Cy.we rfl).we ?_
  show WE X _ σ H _
  refine we_calx F hf hy hs hg ho hp hl S h1 tk ?_
  split at h2
  · rename_i d hF
    simp only [Option.some.injEq, Rs.ok.injEq] at h2
    obtain ⟨rfl, rfl⟩ := h2
    exact .inl ⟨d, hF, fun v H' A' As' S' T' rd E => q σ H' Z P As' S' (T'.tsx S)⟩
  · rename_i c xx hF
    simp only [Option.some.injEq, Rs.ok.injEq] at h2
    obtain ⟨rfl, rfl⟩ := h2
    exact .inr ⟨c, xx, hF, fun cls d H' A' As' S' T' rx E => q cls d σ H' Z P As' A' S' (T'.tsx S) rx E⟩
  · cases h2
theorem ss_calA {own vw : List Nat} {f i : Nat} {es : DEs} {y z : Str} {fr fr2 : Bool} {x : Expr} {xs : List Expr} {p pz pos sp : Pos} (F : Fx C Φ k X) (hf : f ∈ C.cx) (hy : C.calls[f]? = some y) (hs : C.sigs[f]? = some (none, fr)) (hg : X.env.scope.names.lookup y = some .globalImplicit) (ho : okN y = true)
    (hp : (x :: xs).all plainX = true) (hl : SL C Φ X own vw es (x :: xs)) (hn : C.N[i]? = some z) (hz : Loc X.env.scope z) (hfn : X.fn z = true ∨ X.env.scope.names.lookup z = some .local) (hk : kOk own vw fr fr i = true) (hfx : Fxd.fx i = none) :
    SS C X own vw fr2 (ioL es) (evS Φ (.calx (.asg i) f es)) (WS X (.Assign [.Name z pz] (.Call (.Name y p) (x :: xs) [] pos) sp)) := by
  intro Z P σ H env As o env' S e D Wx tk q
  simp only [evS] at e
  obtain ⟨ds, e1, h1, h2⟩ := bd_inv e
  have hil : i < C.N.length := (List.getElem?_eq_some_iff.mp hn).1
  refine (ps_set (i := i) (by rw [F.nN]; exact F.nd) (by rw [F.nN]; exact hn) hz Cy.we rfl hfn).we ?_
  show WE X _ σ H _
  refine we_calx F hf hy hs hg ho hp hl S h1 tk ?_
  split at h2
  · rename_i d hF
    simp only [Option.some.injEq, Rs.ok.injEq] at h2
    obtain ⟨rfl, rfl⟩ := h2
    exact .inl ⟨d, hF, fun v H' A' As' S' T' rd E => asg_fin (ts := [i]) S S' T' E (fun a h => rd.mut a h) (k_one hk) (f_one hfx) (BR.one rd (by rw [S'.len]; exact hil) (by rw [S'.lenE]; exact hil)) q⟩
  · rename_i c xx hF
    simp only [Option.some.injEq, Rs.ok.injEq] at h2
    obtain ⟨rfl, rfl⟩ := h2
    exact .inr ⟨c, xx, hF, fun cls d H' A' As' S' T' rx E => q cls d σ H' Z P As' A' S' (T'.tsx S) rx E⟩
  · cases h2
theorem ss_calT {own vw : List Nat} {f : Nat} {tg : Tg} {es : DEs} {y : Str} {fr fr2 : Bool} {t x : Expr} {xs : List Expr} {p pos sp : Pos} {st : Scope} (F : Fx C Φ k X) (hf : f ∈ C.cx) (hy : C.calls[f]? = some y) (hs : C.sigs[f]? = some (none, fr)) (hg : X.env.scope.names.lookup y = some .globalImplicit) (ho : okN y = true)
    (hp : (x :: xs).all plainX = true) (hl : SL C Φ X own vw es (x :: xs)) (hst : StOk X st) (hm : mT C st tg t = true) (hk : ∀ i ∈ tgs tg, kOk own vw fr fr i = true) (hn : (tgs tg).Nodup) (hi : ∀ i ∈ tgs tg, i < C.N.length)
    (h1 : swapsWithSole [t] (.Call (.Name y p) (x :: xs) [] pos) sp.line X.env = pure false) (h2 : swappedStores [t] (.Call (.Name y p) (x :: xs) [] pos) X.env = pure none) (h3 : (assignEach [t] X.env).map (·.2) = [assign t X.env]) :
    SS C X own vw fr2 (ioL es) (evS Φ (.calx (.tgt tg) f es)) (WS X (.Assign [t] (.Call (.Name y p) (x :: xs) [] pos) sp)) := by
  intro Z P σ H env As o env' S e D Wx tk q
  simp only [evS] at e
  obtain ⟨ds, e1, k1, k2⟩ := bd_inv e
  refine (ps_asg Cy.we (pgT F hst hm) h1 h2 h3).we ?_
  show WE X _ σ H _
  refine we_calx F hf hy hs hg ho hp hl S k1 tk ?_
  split at k2
  · rename_i d hF
    simp only [Option.map_eq_some_iff, Rs.ok.injEq] at k2
    obtain ⟨e2, hb, rfl, rfl⟩ := k2
    exact .inl ⟨d, hF, fun v H' A' As' S' T' rd E => bind_ok rd hb (by rw [S'.len, S'.lenE]) hn (fun i h => by rw [S'.lenE]; exact hi i h) fun σ' B R => asg_fin S S' T' E (fun a h => rd.mut a h) hk (mT_fx F hm) R q⟩
  · rename_i c xx hF
    simp only [Option.some.injEq, Rs.ok.injEq] at k2
    obtain ⟨rfl, rfl⟩ := k2
    exact .inr ⟨c, xx, hF, fun cls d H' A' As' S' T' rx E => q cls d σ H' Z P As' A' S' (T'.tsx S) rx E⟩
  · cases k2
theorem ss_calI {own vw : List Nat} {f i : Nat} {kk : Int} {es : DEs} {y z : Str} {fr fr2 : Bool} {x ix : Expr} {xs : List Expr} {p p2 pz pos sp : Pos} (F : Fx C Φ k X) (hf : f ∈ C.cx) (hy : C.calls[f]? = some y) (hs : C.sigs[f]? = some (none, fr)) (hg : X.env.scope.names.lookup y = some .globalImplicit) (ho : okN y = true)
    (hp : (x :: xs).all plainX = true) (hl : SL C Φ X own vw es (x :: xs)) (hn : C.N[i]? = some z) (hz : Loc X.env.scope z) (hfn : X.fn z = true ∨ X.env.scope.names.lookup z = some .local) (hfx : Fxd.fx i = none) (hpi : plainX ix = true) (hix : SE C Φ X own vw (.c (.int kk)) ix) :
    SS C X own vw fr2 (ioL es) (evS Φ (.calx (.ixk i kk) f es)) (WS X (.Assign [.Name z pz] (.Subscript (.Call (.Name y p) (x :: xs) [] pos) ix p2) sp)) := by
  intro Z P σ H env As o env' S e D Wx tk q
  simp only [evS] at e
  obtain ⟨ds, e1, h1, h2⟩ := bd_inv e
  have hil : i < C.N.length := (List.getElem?_eq_some_iff.mp hn).1
  refine (ps_set (i := i) (by rw [F.nN]; exact F.nd) (by rw [F.nN]; exact hn) hz (pe_ix (ix_D F.un) Cy.we Cy.we (plain_ix hpi)) rfl hfn).we ?_
  show WE X _ σ H _
  refine we_calx F hf hy hs hg ho hp hl S h1 tk ?_
  split at h2
  · rename_i d hF
    rw [Option.bind_eq_some_iff] at h2
    obtain ⟨w, hw, h2⟩ := h2
    split at h2
    rotate_left
    · cases h2
    rename_i hpw
    simp only [Option.some.injEq, Rs.ok.injEq] at h2
    obtain ⟨rfl, rfl⟩ := h2
    refine .inl ⟨d, hF, fun v H' A' As' S' T' rd E => ?_⟩
    refine hix Z P σ H' e1 As' (.int kk) e1 S' (by simp only [ev]) _ fun v2 H2 A2 As2 S2 T2 r2 E2 => ?_
    refine ⟨d, .int kk, A', A2, w, rd.step S' T2 (fun z => by simp [ioE] at z), r2, hw, fun v3 A3 sb r3 => ?_⟩
    have e3 : A3 = [] := r3.pure hpw
    subst e3
    refine asg_fin (f := true) (s := true) (A := []) (ts := [i]) S S2 (T'.trans T2 id (fun z => by simp [ioE] at z)) EF.pure (fun a h => nomatch h) (fun j hj => ?_) (f_one hfx) (BR.one r3 (by rw [S2.len]; exact hil) (by rw [S2.lenE]; exact hil)) q
    unfold kOk
    split <;> simp
  · rename_i c xx hF
    simp only [Option.some.injEq, Rs.ok.injEq] at h2
    obtain ⟨rfl, rfl⟩ := h2
    exact .inr ⟨c, xx, hF, fun cls d H' A' As' S' T' rx E => q cls d σ H' Z P As' A' S' (T'.tsx S) rx E⟩
  · cases h2
/-- try: b, except c: z = None -/
theorem ss_tryN {own vw : List Nat} {fr io : Bool} {b : DSs} {c z : Str} {i jj : Nat} {bs : List Stmt} {np pz pc psx pos pos' : Pos} (F : Fx C Φ k X) (hs : X.stack = X.env :: X.outer) (hfe : X.env.frame = some X.env.locals) (hc : (c, true) ∈ C.xc ∨ (c, false) ∈ C.xc) (hg : X.env.scope.names.lookup c = some .globalImplicit) (ho : okN c = true)
    (hb : ∀ pn xe, PassesOwn (model X.prog X.w) X.A X.env xe → SS C (X.tr pn xe) own vw fr io (evSs Φ b) (WSs (X.tr pn xe) bs))
    (hn : C.N[i]? = some z) (hz : Loc X.env.scope z) (hfn : X.fn z = true ∨ X.env.scope.names.lookup z = some .local) (hfx : Fxd.fx i = none) :
    SS C X own vw fr io (evS Φ (.tryc b c (.non i))) (WS X (.Try bs [.ExceptHandler (some (.Name c np)) none [.Assign [.Name z pz] (.Constant .none jj pc) psx] pos'] [] [] pos)) := by
  intro Z P σ H env As o env' S e D Wx tk q
  simp only [evS] at e
  have hil : i < C.N.length := (List.getElem?_eq_some_iff.mp hn).1
  have hgm : X.mg c = some (.ref (He.ga X.K c)) := hc.elim (fun h => (F.xcl c _ h).gm) fun h => (F.xcl c _ h).gm
  have hxs : c ∈ ClTab.xs := hc.elim (F.xxs c _) (F.xxs c _)
  refine (ps_try_only (c := .ref (He.ga X.K c)) (Wout := Wx) (tb := fun W D σ H => ∀ pn xe, Takes (X.tr pn xe) W → PassesOwn (model X.prog X.w) X.A X.env xe → WSs (X.tr pn xe) bs D σ H) (ts := fun a cls d => tAsg (tC .non) (gName i)) hs hfe ⟨hg, (okN_eq ho).1, .inl hgm⟩ tk
    (fun W pn xe tk2 po => ⟨fun pins s σ H D I h => h pn xe tk2 po pins s I⟩) (fun a oe cls d pn hz2 hf2 => pss_one (ps_set (i := i) (X := X.suite a ((a, oe) :: pn)) (by show X.N.Nodup; rw [F.nN]; exact F.nd) (by show X.N[i]? = _; rw [F.nN]; exact hn) hz pe_non rfl hfn))).we ?_
  intro pn xe tk2 po
  cases hr : evSs Φ b env with
  | none => rw [hr] at e; cases e
  | some r =>
    rw [hr] at e
    cases r with
    | exn c' x' e' => simp at e
    | ok o1 e1 =>
      have go : ∀ (hne : ∀ c' x', o1 ≠ .xn c' x'), o = o1 → env' = e1 → WSs (X.tr pn xe) bs D σ H := fun hne h1 h2 => by
        subst h1 h2
        refine hb pn xe po Z P σ H env As _ _ S hr D _ tk2 ?_
        cases o with
        | xn c' x' => exact absurd rfl (hne c' x')
        | nx => exact q
        | bk => exact q
        | ct => exact q
        | rt d => exact q
      cases o1 with
      | xn c' x' =>
        refine hb pn xe po Z P σ H env As _ _ S hr D _ tk2 ?_
        intro cls d σ' H' Z' P' As' A S' T' xr xf
        have xr2 := xr
        obtain ⟨ecls, ex, _⟩ := xr
        refine ⟨subX c' c, ex c hxs, fun h1 a na => ?_, fun h0 => ?_⟩
        · simp only [h1, if_true, Option.some.injEq, Rs.ok.injEq] at e
          obtain ⟨rfl, rfl⟩ := e
          exact q _ H' _ _ _ (S'.bindNew .non List.nodup_nil (fun a h => nomatch h) hil hfx) (T'.bindNew (own := own) (vw := vw) (A := []) fun a h => nomatch h)
        · simp only [h0, Bool.false_eq_true, if_false, Option.some.injEq, Rs.ok.injEq] at e
          obtain ⟨rfl, rfl⟩ := e
          exact q cls d σ' H' Z' P' As' A S' T' xr2 xf
      | nx => simp only [Option.some.injEq, Rs.ok.injEq] at e; exact go (fun _ _ => nofun) e.1.symm e.2.symm
      | bk => simp only [Option.some.injEq, Rs.ok.injEq] at e; exact go (fun _ _ => nofun) e.1.symm e.2.symm
      | ct => simp only [Option.some.injEq, Rs.ok.injEq] at e; exact go (fun _ _ => nofun) e.1.symm e.2.symm
      | rt d => simp only [Option.some.injEq, Rs.ok.injEq] at e; exact go (fun _ _ => nofun) e.1.symm e.2.symm
/-- try: b, except c as n: z = n.f -/
theorem ss_tryF {own vw : List Nat} {fr io : Bool} {b : DSs} {c z n f : Str} {i j : Nat} {bs : List Stmt} {np pz pa pn0 psx pos pos' : Pos} (F : Fx C Φ k X) (hs : X.stack = X.env :: X.outer) (hfe : X.env.frame = some X.env.locals) (hc : (c, true) ∈ C.xc) (hg : X.env.scope.names.lookup c = some .globalImplicit) (ho : okN c = true)
    (hb : ∀ pn xe, PassesOwn (model X.prog X.w) X.A X.env xe → SS C (X.tr pn xe) own vw fr io (evSs Φ b) (WSs (X.tr pn xe) bs))
    (hn : C.N[i]? = some z) (hz : Loc X.env.scope z) (hfn : X.fn z = true ∨ X.env.scope.names.lookup z = some .local) (hfx : Fxd.fx i = none)
    (hnj : C.N[j]? = some n) (hln : X.env.scope.names.lookup n = some .local) (hoj : okN n = true) (hfj : Fxd.fx j = none) (hij : i ≠ j) (hf : f = xfld c) :
    SS C X own vw fr io (evS Φ (.tryc b c (.fld i j f))) (WS X (.Try bs [.ExceptHandler (some (.Name c np)) (some n) [.Assign [.Name z pz] (.Attribute (.Name n pn0) f pa) psx] pos'] [] [] pos)) := by
  intro Z P σ H env As o env' S e D Wx tk q
  subst hf
  simp only [evS] at e
  have hil : i < C.N.length := (List.getElem?_eq_some_iff.mp hn).1
  have hjl : j < C.N.length := (List.getElem?_eq_some_iff.mp hnj).1
  have XC := F.xcl c true hc
  obtain ⟨fI, fd, pnm, k', hk, T, iC, tI, bi, ok, xf, hno⟩ := XC.own rfl
  have hxs : c ∈ ClTab.xs := F.xxs c _ hc
  refine (ps_try_as (i := j) (c := .ref (He.ga X.K c)) (Wout := Wx) (tb := fun W D σ H => ∀ pn xe, Takes (X.tr pn xe) W → PassesOwn (model X.prog X.w) X.A X.env xe → WSs (X.tr pn xe) bs D σ H) (ts := fun a cls d => tAsg (tXf a cls d (He.ga X.K c) (xfld c) (tVar j)) (gName i)) hs hfe (by rw [F.nN]; exact F.nd) (by rw [F.nN]; exact hnj) hln ⟨hg, (okN_eq ho).1, .inl XC.gm⟩ tk
    (fun W pn xe tk2 po => ⟨fun pins s σ H D I h => h pn xe tk2 po pins s I⟩) (fun a oe cls d pn hz2 hf2 => pss_one (ps_set (i := i) (X := X.suite a ((a, oe) :: pn)) (by show X.N.Nodup; rw [F.nN]; exact F.nd) (by show X.N[i]? = _; rw [F.nN]; exact hn) hz (pe_xf xf hno hz2 hf2 (pe_var (i := j) (by show X.N[j]? = _; rw [F.nN]; exact hnj) (.inl hln) (okN_eq hoj).1 (okN_eq hoj).2)) rfl hfn))).we ?_
  intro pn xe tk2 po
  cases hr : evSs Φ b env with
  | none => rw [hr] at e; cases e
  | some r =>
    rw [hr] at e
    cases r with
    | exn c' x' e' => simp at e
    | ok o1 e1 =>
      have go : ∀ (hne : ∀ c' x', o1 ≠ .xn c' x'), o = o1 → env' = e1 → WSs (X.tr pn xe) bs D σ H := fun hne h1 h2 => by
        subst h1 h2
        refine hb pn xe po Z P σ H env As _ _ S hr D _ tk2 ?_
        cases o with
        | xn c' x' => exact absurd rfl (hne c' x')
        | nx => exact q
        | bk => exact q
        | ct => exact q
        | rt d => exact q
      cases o1 with
      | xn c' x' =>
        refine hb pn xe po Z P σ H env As _ _ S hr D _ tk2 ?_
        intro cls d σ' H' Z' P' As' A S' T' xr xff
        have xr2 := xr
        obtain ⟨ecls, ex, _, xp⟩ := xr
        refine ⟨subX c' c, ex c hxs, fun h1 a na => ?_, fun h0 => ?_⟩
        · simp only [h1, if_true] at e
          cases x' with
          | none => simp at e
          | some w =>
            simp only at e
            split at e
            rotate_left
            · cases e
            rename_i hcc
            obtain ⟨rfl, _⟩ := hcc
            simp only [Option.some.injEq, Rs.ok.injEq] at e
            obtain ⟨rfl, rfl⟩ := e
            obtain ⟨dd, u, rfl, hdd, ru⟩ := xp
            refine ⟨.ref a, ?_, rfl, ecls, dd, _, u, rfl, hdd, ?_, ?_⟩
            · rw [List.getElem?_set_self (by rw [S'.len]; exact hjl)]
            · simp [List.lookup]
            · have S2 := S'.bindNew ru xff.1 xff.2.1 hil hfx
              have S3 := S2.drop j
              refine q _ H' _ _ _ (S3.slots (j := j) (σ' := ((σ'.set j (some (.ref a))).set i (some u)).set j none) (by simp) (fun l hl => ?_) (fun d hd => ?_) hfj) ((T'.bindNew (own := own) (vw := vw) (A := A) xff.2.2).sub fun l a hl => ?_)
              · rw [List.getElem?_set_ne (fun z => hl z.symm)]
                by_cases hli : i = l
                · subst hli
                  rw [List.getElem?_set_self (by rw [List.length_set, S'.len]; exact hil), List.getElem?_set_self (by rw [S'.len]; exact hil)]
                · rw [List.getElem?_set_ne hli, List.getElem?_set_ne hli, List.getElem?_set_ne (fun z => hl z.symm)]
              · rw [List.getElem?_set] at hd
                simp at hd
              · by_cases z : l = j
                · rw [if_pos z] at hl; cases hl
                · rw [if_neg z] at hl; exact hl
        · simp only [h0, Bool.false_eq_true, if_false, Option.some.injEq, Rs.ok.injEq] at e
          obtain ⟨rfl, rfl⟩ := e
          exact q cls d σ' H' Z' P' As' A S' T' xr2 xff
      | nx => simp only [Option.some.injEq, Rs.ok.injEq] at e; exact go (fun _ _ => nofun) e.1.symm e.2.symm
      | bk => simp only [Option.some.injEq, Rs.ok.injEq] at e; exact go (fun _ _ => nofun) e.1.symm e.2.symm
      | ct => simp only [Option.some.injEq, Rs.ok.injEq] at e; exact go (fun _ _ => nofun) e.1.symm e.2.symm
      | rt d => simp only [Option.some.injEq, Rs.ok.injEq] at e; exact go (fun _ _ => nofun) e.1.symm e.2.symm
end
/-- a name of one's own is looked at for a while -/
theorem SR.look {K : PySem.W.Frag} {n : Nat} {own vw : List Nat} {Z P : Addr → Prop} {σ : L2.St} {H : Hp} {env : En} {As : Asg} (S : SR K n own vw Z P σ H env As) (j : Nat) : SR K n (own.filter fun k => !(k == j)) (j :: vw) Z P σ H env As :=
  ⟨S.len, S.lenE, S.rep, S.non, fun i h1 h2 => S.shr i (fun z => h1 (List.mem_filter.mpr ⟨z, by
    simp only [Bool.not_eq_true', beq_eq_false_iff_ne]
    intro e
    exact h2 (by rw [e]; exact List.mem_cons_self ..)⟩)) (fun z => h2 (List.mem_cons_of_mem _ z)),
    fun i hi => S.nod i (List.mem_filter.mp hi).1, fun i hi => S.noP i (List.mem_filter.mp hi).1, fun i hi l hl => S.dis i (List.mem_filter.mp hi).1 l (List.mem_filter.mp hl).1, S.zp, S.ph, S.fix⟩
/-- and is one's own again, with nothing in it -/
theorem SR.unlook {K : PySem.W.Frag} {n : Nat} {own vw : List Nat} {Z P : Addr → Prop} {σ : L2.St} {H : Hp} {env : En} {As : Asg} {j : Nat} (S : SR K n (own.filter fun k => !(k == j)) (j :: vw) Z P σ H env As) (h : As j = []) : SR K n own vw Z P σ H env As :=
  ⟨S.len, S.lenE, S.rep, S.non, fun i h1 h2 a ha => by
    by_cases e : i = j
    · rw [e, h] at ha; cases ha
    · exact S.shr i (fun z => h1 (List.mem_filter.mp z).1) (fun z => (List.mem_cons.mp z).elim e h2) a ha,
    fun i hi => by
    by_cases e : i = j
    · rw [e, h]; exact List.nodup_nil
    · exact S.nod i (List.mem_filter.mpr ⟨hi, by simpa using e⟩), fun i hi a ha => by
    by_cases e : i = j
    · rw [e, h] at ha; cases ha
    · exact S.noP i (List.mem_filter.mpr ⟨hi, by simpa using e⟩) a ha, fun i hi l hl hne a ha hb => by
    by_cases e : i = j
    · rw [e, h] at ha; cases ha
    · by_cases e2 : l = j
      · rw [e2, h] at hb; cases hb
      · exact S.dis i (List.mem_filter.mpr ⟨hi, by simpa using e⟩) l (List.mem_filter.mpr ⟨hl, by simpa using e2⟩) hne a ha hb, S.zp, S.ph, S.fix⟩
/-- x = y, both of one's own; two statements that look at both; then y holds nothing we know -/
theorem ss_alb {own vw : List Nat} {fr io1 io2 io3 : Bool} {i j : Nat} {z y : Str} {ma mb mr : En → Option (Rs Ou)} {pz py sp : Pos} {st1 st2 : Stmt} {sts : List Stmt} (F : Fx C Φ k X) (hn : C.N[i]? = some z) (hz : Loc X.env.scope z) (hfn : X.fn z = true ∨ X.env.scope.names.lookup z = some .local) (hfx : Fxd.fx i = none)
    (hj : C.N[j]? = some y) (hv : Vis X.env.scope y) (ho : okN y = true) (hi : i ∈ own) (hjo : j ∈ own) (hne : i ≠ j)
    (ha : SS C X (own.filter fun k => !(k == j)) (j :: vw) fr io1 ma (WS X st1)) (hb : SS C X (own.filter fun k => !(k == j)) (j :: vw) fr io2 mb (WS X st2)) (hr : SS C X own vw fr io3 mr (WSs X sts)) :
    SS C X own vw fr (false || (io1 || (io2 || io3))) (fun e => match e[j]? with
      | some (some d) => (match ma (e.set i (some d)) with
        | some (.ok .nx e1) => (match mb e1 with
          | some (.ok .nx e2) => mr (e2.set j none)
          | _ => none)
        | _ => none)
      | _ => none) (WSs X (.Assign [.Name z pz] (.Name y py) sp :: st1 :: st2 :: sts)) := by
  intro Z P σ H env As o env' S e D Wx tk q
  dsimp only at e
  split at e
  rotate_left
  · cases e
  rename_i d hd
  split at e
  rotate_left
  · cases e
  rename_i e1 he1
  split at e
  rotate_left
  · cases e
  rename_i e2 he2
  have hil : i < C.N.length := (List.getElem?_eq_some_iff.mp hn).1
  obtain ⟨v0, hv0, r0⟩ := S.rep j d hd
  refine (pss_cons Cy.ws Cy.wss).we ?_
  show WS X _ { D with nx := WSs X (st1 :: st2 :: sts) D } σ H
  refine (ps_set (i := i) (by rw [F.nN]; exact F.nd) (by rw [F.nN]; exact hn) hz (pe_var (i := j) (by rw [F.nN]; exact hj) hv (okN_eq ho).1 (okN_eq ho).2) rfl hfn).we ⟨v0, hv0, ?_⟩
  show WSs X (st1 :: st2 :: sts) D (σ.set i (some v0)) H
  have Sl := S.look j
  have hij : i ∈ own.filter fun k => !(k == j) := List.mem_filter.mpr ⟨hi, by simpa using hne⟩
  have S1 : SR X.K C.N.length (own.filter fun k => !(k == j)) (j :: vw) Z P (σ.set i (some v0)) H (env.set i (some d)) (fun l => if l = i then As j else As l) := by
    refine ⟨by rw [List.length_set]; exact S.len, by rw [List.length_set]; exact S.lenE, fun l dl h => ?_, fun l h => ?_, fun l h1 h2 a ha => ?_, fun l hl => ?_, fun l hl a ha => ?_, fun l hl m hm hlm a ha hb => ?_, S.zp, S.ph, fun l v h => ?_⟩
    · by_cases e : l = i
      · subst e
        rw [List.getElem?_set_self (by rw [S.lenE]; exact hil)] at h
        simp only [Option.some.injEq] at h
        subst h
        exact ⟨v0, List.getElem?_set_self (by rw [S.len]; exact hil), by rw [if_pos rfl]; exact r0⟩
      · rw [List.getElem?_set_ne (fun z => e z.symm)] at h
        obtain ⟨v, a, b⟩ := S.rep l dl h
        exact ⟨v, by rw [List.getElem?_set_ne (fun z => e z.symm)]; exact a, by rw [if_neg e]; exact b⟩
    · by_cases e : l = i
      · exfalso
        refine h d ?_
        rw [e]
        exact List.getElem?_set_self (by rw [S.lenE]; exact hil)
      · rw [if_neg e]
        refine S.non l fun d' z => h d' ?_
        rw [List.getElem?_set_ne (fun z => e z.symm)]; exact z
    · have e : l ≠ i := fun z => h1 (z ▸ hij)
      rw [if_neg e] at ha
      exact Sl.shr l h1 h2 a ha
    · by_cases e : l = i
      · rw [if_pos e]; exact S.nod j hjo
      · rw [if_neg e]; exact Sl.nod l hl
    · by_cases e : l = i
      · rw [if_pos e] at ha; exact S.noP j hjo a ha
      · rw [if_neg e] at ha; exact Sl.noP l hl a ha
    · have nl : ∀ {x}, x ∈ own.filter (fun k => !(k == j)) → x ≠ j := fun hx => by simpa using (List.mem_filter.mp hx).2
      by_cases e : l = i
      · rw [if_pos e] at ha
        by_cases e2 : m = i
        · exact hlm (e.trans e2.symm)
        · rw [if_neg e2] at hb
          exact S.dis j hjo m (List.mem_filter.mp hm).1 (fun z => nl hm z.symm) a ha hb
      · rw [if_neg e] at ha
        by_cases e2 : m = i
        · rw [if_pos e2] at hb
          exact S.dis l (List.mem_filter.mp hl).1 j hjo (nl hl) a ha hb
        · rw [if_neg e2] at hb
          exact Sl.dis l hl m hm hlm a ha hb
    · by_cases e : l = i
      · rw [e, hfx] at h; cases h
      · rw [List.getElem?_set_ne (fun z => e z.symm)]; exact S.fix l v h
  have T1 : TSx false Z P H As Z P H (fun l => if l = i then As j else As l) := by
    have t := TSx.refl (io := false) (Z := Z) (P := P) (H := H) (As := As)
    exact ⟨t.mono, t.keep, fun l a h => by
      by_cases e : l = i
      · rw [if_pos e] at h; exact .inl ⟨j, h⟩
      · rw [if_neg e] at h; exact .inl ⟨l, h⟩, t.zz, t.pp⟩
  refine (pss_cons Cy.ws Cy.wss).we ?_
  show WS X st1 { D with nx := WSs X (st2 :: sts) D } _ H
  refine ha Z P _ H _ _ _ _ S1 he1 _ Wx tk fun σ2 H2 Z2 P2 As2 S2 T2 => ?_
  show WSs X (st2 :: sts) D σ2 H2
  refine (pss_cons Cy.ws Cy.wss).we ?_
  show WS X st2 { D with nx := WSs X sts D } σ2 H2
  refine hb Z2 P2 σ2 H2 e1 As2 _ _ S2 he2 _ Wx tk fun σ3 H3 Z3 P3 As3 S3 T3 => ?_
  show WSs X sts D σ3 H3
  have S4 := (S3.drop j).unlook (by simp)
  have T3' : TSx io2 Z2 P2 H2 As2 Z3 P3 H3 (fun l => if l = j then [] else As3 l) := T3.sub fun l a h => by
    by_cases e : l = j
    · rw [if_pos e] at h; cases h
    · rw [if_neg e] at h; exact h
  refine hr Z3 P3 σ3 H3 _ _ o env' S4 e D Wx tk ?_
  have T12 : TSx (io1 || io2) Z P H As Z3 P3 H3 (fun l => if l = j then [] else As3 l) := (T1.trans T2 (io := io1) (fun z => by cases z) id).trans T3' (fun z => by rw [z]; rfl) (fun z => by rw [z]; simp)
  refine Dn.step (io := false || (io1 || (io2 || io3))) T12 (fun z => ?_) (fun z => ?_) q
  · cases io1 <;> cases io2 <;> simp at z ⊢
  · rw [z]; simp
end Cy
end
section
set_option Elab.async false
set_option linter.all false
set_option autoImplicit false
set_option maxRecDepth 100000
set_option maxHeartbeats 2000000
namespace Cy
open PySem PySem.Spec L2 PyProof.Rows
section
variable {X : Cx} {pins : List (Addr × Obj)} {σ : L2.St} {H : Hp} {s : Shared} {a : Addr} {oe : Obj} {vs : Array Value} {cls : Value} {d : Option Addr}
/-- a pinned error is tracked -/
theorem track_err (I : Inv X ((a, oe) :: pins) σ H s) (hz : Zc cls d oe) (hd : oe.data = .fields vs) (n0 : ∀ o, X.s_0.heap.get? a = some o → a ∉ X.ex → False) (np : ∀ p ∈ X.pn ++ pins, p.1 ≠ a) :
    Inv X pins σ (upd H a (ErrO cls d a)) s := by
  obtain ⟨ha, na, nL, nF, nc⟩ := I.pin (a, oe) (List.mem_append_right _ (List.mem_cons_self ..))
  have up : ∀ c u, H c = some u → upd H a (ErrO cls d a) c = some u := fun c u e => by
    rw [upd_ne fun q => by rw [q, na] at e; cases e]
    exact e
  refine ⟨I.ok, I.os, I.bare, ⟨I.base.keep, I.base.slot, fun b o e n hx => ?_, I.base.there, fun b xs e => up b _ (I.base.tups b xs e), fun b o u e => up b _ (I.base.frzs b o u e), fun b ps e => ?_⟩, I.loc, I.cell, ?_, fun y c e => ?_, fun p hp => ?_, fun b u e => ?_, I.len⟩
  · rw [upd_ne (show b ≠ a from fun q => by subst q; exact n0 o e hx)]
    exact I.base.free b o e n hx
  · obtain ⟨more, q⟩ := I.base.tbls b ps e
    exact ⟨more, up b _ q⟩
  · rw [upd_ne (Ne.symm nL)]
    exact I.free
  · rw [upd_ne fun q => ?_]
    · exact I.freeC y c e
    · obtain ⟨v, o, q1, q2⟩ := I.cell y c e
      rw [q] at q1
      rw [show s.heap.get? a = some oe from ha] at q1
      cases q1
      exact nc v q2
  · obtain ⟨p1, p2, p3⟩ := I.pin p ((List.mem_append.mp hp).elim (List.mem_append_left _) fun h => List.mem_append_right _ (List.mem_cons_of_mem _ h))
    exact ⟨p1, by rw [upd_ne (np p hp)]; exact p2, p3⟩
  · by_cases hb : b = a
    · subst hb
      rw [upd_same] at e
      cases e
      exact ⟨⟨oe, vs, ha, hz, hd⟩, ⟨oe, ha⟩, fun h1 h2 ⟨o, us, q1, q2, q3⟩ k => ⟨o, us, k o q1, q2, q3⟩⟩
    · rw [upd_ne hb] at e
      exact (I.hok b u e).stay (fun _ _ _ q => q) (fun c q => up c _ q) fun c _ q => up c _ q
end
/-- what 'except c as n' wishes, where the suite keeps the error -/
def wKeep (K : PySem.W.Frag) (c : Value) (j : Nat) (ts : Addr → TS) (Wout : WX) (D : Ends) : WX := fun cls d σ H =>
  ∃ b, PySem.W.exmOne K cls c = some b ∧ (b = true → ∀ a, H a = none → ts a { nx := fun σ' H' => H' a = none → D.nx (σ'.set j none) (upd H' a (ErrO cls d a)), rt := fun _ _ => False } (σ.set j (some (.ref a))) H) ∧
  (b = false → Wout cls d σ H)
section
variable {X : Cx} {x n : Str} {c : Value} {j : Nat} {body : List Stmt} {st : Stmt} {np pos pos' : Pos} {tb : WX → TS} {ts : Addr → TS} {Wout : WX}
theorem ps_try_keep (hs : X.stack = X.env :: X.outer) (hf : X.env.frame = some X.env.locals) (hN : X.N.Nodup) (hj : X.N[j]? = some n) (hln : X.env.kindOf n = some .local) (hc : Names X x c) (tk : Takes X Wout)
    (hb : ∀ (W : WX) (pn : List (Addr × Obj)) (xe : Value → Shared → Prop), Takes (X.tr pn xe) W → PassesOwn (model X.prog X.w) X.A X.env xe → PSs (X.tr pn xe) body (tb W))
    (hsu : ∀ (a : Addr) (oe : Obj) (pn : List (Addr × Obj)), PSs (X.suite a ((a, oe) :: pn)) [st] (ts a)) :
    PS X (.Try body [.ExceptHandler (some (.Name x np)) (some n) [st] pos'] [] [] pos) (fun D σ H => tb (wKeep X.K c j ts Wout D) D σ H) := by
  constructor
  intro pins s σ H D I h
  have ok := I.ok
  have hfr : X.A.frames = some (X.env :: X.outer) := by rw [ok.frames, hs]
  apply wpAny_Try_except
  -- the body, with what a caught error leads to as its wish
  refine wpAny_mono ((hb (wKeep X.K c j ts Wout D) (X.pn ++ pins) (fun e s₁ => wpAny (model X.prog X.w) X.A (noteFrame e X.env) (fun _ s₂ => wpAny (model X.prog X.w) X.A (setFlight e none) (fun _ s₃ =>
    wpAny (model X.prog X.w) X.A (handleBy e X.env [.ExceptHandler (some (.Name x np)) (some n) [st] pos']) (L2.SP X pins D) X.xe s₃) X.xe s₂) X.xe s₁) ?_ PassesOwn.looking).run [] s σ H D (I.toTry _) h) ?_ fun _ _ he => he
  rotate_left
  · intro f s1 hsp
    match f, hsp with
    | .next, ⟨σ', H', J', q⟩ => exact wpAny_execs_nil ⟨σ', H', J'.ofTry ok, q⟩
    | .brk, ⟨σ', H', J', q⟩ => exact ⟨σ', H', J'.ofTry ok, q⟩
    | .cont, ⟨σ', H', J', q⟩ => exact ⟨σ', H', J'.ofTry ok, q⟩
    | .ret u, ⟨v, σ', H', J', r, q⟩ => exact ⟨v, σ', H', J'.ofTry ok, r, q⟩
  intro u s' xx
  obtain ⟨a, B, sI, pins', σ', H', cls, d, rfl, J', nb, up, sky, na, os, ag, b, hb1, hyes, hno⟩ := xx
  have J : Inv X pins σ' H' sI := J'.ofTry ok
  have sky' : Sky B (X.env :: X.outer) a (Zc cls d) X.env.locals s'.heap := by rw [← hs]; exact sky
  refine Sky.land Zc.steady hfr hf sky' fun h3 fl3 up3 => ?_
  have J3 : Inv X pins σ' H' { s' with heap := h3 } := J.landed nb fl3.1 (up.trans up3) os ag
  obtain ⟨oe3, vs3, he3, hz3, hd3⟩ := fl3.there
  -- the error's record is none of the frames'
  have nfr : a ∉ frs (X.env :: X.outer) := fun hm => by
    obtain ⟨_, o', e', hnf⟩ := fl3.2.2.1.mem hm
    rw [he3] at e'; cases e'
    exact hnf _ hd3
  have nL : a ≠ X.env.locals := fun q => nfr (List.mem_filterMap.mpr ⟨X.env, List.mem_cons_self, by rw [hf, q]⟩)
  have nF : a ∉ X.fs := fun hm => by
    obtain ⟨e, he, q⟩ := List.mem_filterMap.mp hm
    exact nfr (List.mem_filterMap.mpr ⟨e, List.mem_cons_of_mem _ he, q⟩)
  -- and it is new since the state without it
  have new : ∀ o, sI.heap.get? a ≠ some o := fun o e => by
    have q := nb a o e (by rw [hs]; exact nfr)
    rw [fl3.2.1] at q; cases q
  have n0 : ∀ o, X.s_0.heap.get? a = some o → a ∉ X.ex → False := fun o e hx => by
    obtain ⟨o', q⟩ := J.base.there a o e hx
    exact new o' q
  have npin : ∀ p ∈ X.pn ++ pins, p.1 ≠ a := fun p hp e => new p.2 (by rw [← e]; exact (J.pin p hp).1)
  have S3 := J3.suite he3 hd3 na nL nF
  refine wpAny_handleBy_cons (codeAny_handlers_test ?_) (by intro q; cases q)
  have LT : PySem.W.Looks (model X.prog X.w) h3 (typeOf (.ref a)) cls := fun A Q E s k q => wpAny_typeOf_ref (k _ _ he3) (by rw [hz3.1]; exact q)
  have LM := PySem.W.exm_one (M := model X.prog X.w) (J3.kIn) LT hb1
  have test : ∀ {Q : Value → Shared → Prop} {E : Value → Shared → Prop}, Q c { s' with heap := h3 } → wpAny (model X.prog X.w) (X.A.mark (some (.ref a))) (eval (.Name x np) X.env) Q E { s' with heap := h3 } := fun {Q E} q => by
    obtain ⟨hg, hdbg, hm | ⟨hm, hv, hnn⟩⟩ := hc
    · exact ld_glob (X := X.suite a ((a, oe3) :: (X.pn ++ pins))) S3 hg hm q hdbg
    · exact ld_blt (X := X.suite a ((a, oe3) :: (X.pn ++ pins))) S3 hg hm hv q hnn hdbg
  refine test (LM.here ?_)
  cases b with
  | false =>
    -- it goes on its way
    refine wpAny_handleBy_nil ?_
    obtain ⟨k1, k2, k3, oe, vs, T, oT, ts', he, hz, hd, h1, hr⟩ := id fl3
    unfold PySem.passOn
    refine wpAny_bind (wpAny_field he hd h1 ?_)
    rw [if_neg (show ¬ ((Value.ref T == Value.none) = true) from by simp)]
    have fin : wpAny (model X.prog X.w) X.A (setFlight (.ref a) X.env.frame) (fun _ s4 => wpAny (model X.prog X.w) X.A (throw (.ref a) : Sem Flow) (L2.SP X pins D) X.xe s4) X.xe { s' with heap := h3 } := by
      rw [hf]
      refine HandSPX.setFlight_upZ fl3 fun h4 hh4 up4 => wpAny_throw (tk _ _ ?_)
      exact ⟨a, B, sI, pins, σ', H', cls, d, rfl, J, nb, (up.trans up3).trans up4, .inr (.inr (by rw [hs]; exact hh4)), na, os, ag, hno rfl⟩
    first
      | exact wpAny_bind (wpAny_pure (wpAny_bind fin))
      | exact wpAny_bind fin
  | true =>
    refine codeAny_handlers_suite_as ?_
    refine HandSPX.lands_againZ fl3 fun h4 fl4 up4 => ?_
    have J4 : Inv X pins σ' H' { s' with heap := h4 } := J.landed nb fl4.1 ((up.trans up3).trans up4) os ag
    obtain ⟨oe4, vs4, he4, hz4, hd4⟩ := fl4.there
    refine store_ok (X := X.suite a ((a, oe4) :: (X.pn ++ pins))) (v := .ref a) (J4.suite he4 hd4 na nL nF) hN hj (.inl hln) rfl (fun s5 S5 => ?_) (.inr hln)
    refine wpAny_mono ((hsu a oe4 (X.pn ++ pins)).run [] s5 _ H' _ S5 (hyes rfl a na)) ?_ fun _ _ q => False.elim q
    intro f s6 hsp
    match f, hsp with
    | .next, ⟨σ6, H6, S6, q6⟩ =>
      have K6 : Inv X ((a, oe4) :: pins) σ6 H6 s6 := ⟨ok, S6.os, S6.bare, S6.base, S6.loc, S6.cell, S6.free, S6.freeC, fun p hp => S6.pin p (by
        rw [List.append_nil]
        rcases List.mem_append.mp hp with hp | hp
        · exact List.mem_cons_of_mem _ (List.mem_append_left _ hp)
        · rcases List.mem_cons.mp hp with e | hp
          · rw [e]; exact List.mem_cons_self ..
          · exact List.mem_cons_of_mem _ (List.mem_append_right _ hp)), S6.hok, S6.len⟩
      have n6 : H6 a = none := (K6.pin (a, oe4) (List.mem_append_right _ (List.mem_cons_self ..))).2.1
      exact gone_ok K6 hN hj hln fun s7 J7 => ⟨_, _, track_err J7 hz4 hd4 n0 npin, q6 n6⟩
    | .brk, ⟨σ6, H6, S6, q6⟩ => exact q6.elim
    | .cont, ⟨σ6, H6, S6, q6⟩ => exact q6.elim
    | .ret u, ⟨v6, σ6, H6, S6, r6, q6⟩ => exact q6.elim
end
end Cy
end
section
set_option Elab.async false
set_option linter.all false
set_option maxRecDepth 100000
set_option maxHeartbeats 4000000
namespace Cy
open PySem L2 PyProof.Rows
variable [ClTab] [Fxd]
section
variable {C : Ct} {Φ : Nat → Fn} {k : Nat} {X : Cx}
theorem ss_tryK {own vw : List Nat} {fr io : Bool} {b : DSs} {c z n : Str} {i j : Nat} {bs : List Stmt} {np pz pn0 psx pos pos' : Pos} (F : Fx C Φ k X) (hkx : C.kx = true) (hs : X.stack = X.env :: X.outer) (hfe : X.env.frame = some X.env.locals) (hc : (c, true) ∈ C.xc ∨ (c, false) ∈ C.xc)
    (hg : X.env.scope.names.lookup c = some .globalImplicit) (ho : okN c = true)
    (hb : ∀ pn xe, PassesOwn (model X.prog X.w) X.A X.env xe → SS C (X.tr pn xe) own vw fr io (evSs Φ b) (WSs (X.tr pn xe) bs))
    (hn : C.N[i]? = some z) (hz : Loc X.env.scope z) (hfn : X.fn z = true ∨ X.env.scope.names.lookup z = some .local) (hfx : Fxd.fx i = none)
    (hnj : C.N[j]? = some n) (hln : X.env.scope.names.lookup n = some .local) (hoj : okN n = true) (hfj : Fxd.fx j = none) (hij : i ≠ j) :
    SS C X own vw fr io (evS Φ (.tryc b c (.kp i j))) (WS X (.Try bs [.ExceptHandler (some (.Name c np)) (some n) [.Assign [.Name z pz] (.Name n pn0) psx] pos'] [] [] pos)) := by
  intro Z P σ H env As o env' S e D Wx tk q
  simp only [evS] at e
  have hil : i < C.N.length := (List.getElem?_eq_some_iff.mp hn).1
  have hjl : j < C.N.length := (List.getElem?_eq_some_iff.mp hnj).1
  have hgm : X.mg c = some (.ref (He.ga X.K c)) := hc.elim (fun h => (F.xcl c _ h).gm) fun h => (F.xcl c _ h).gm
  have hxs : c ∈ ClTab.xs := hc.elim (F.xxs c _) (F.xxs c _)
  refine (ps_try_keep (j := j) (c := .ref (He.ga X.K c)) (Wout := Wx) (tb := fun W D σ H => ∀ pn xe, Takes (X.tr pn xe) W → PassesOwn (model X.prog X.w) X.A X.env xe → WSs (X.tr pn xe) bs D σ H) (ts := fun a => tAsg (tVar j) (gName i)) hs hfe (by rw [F.nN]; exact F.nd) (by rw [F.nN]; exact hnj) hln ⟨hg, (okN_eq ho).1, .inl hgm⟩ tk
    (fun W pn xe tk2 po => ⟨fun pins s σ H D I h => h pn xe tk2 po pins s I⟩) (fun a oe pn => pss_one (ps_set (i := i) (X := X.suite a ((a, oe) :: pn)) (by show X.N.Nodup; rw [F.nN]; exact F.nd) (by show X.N[i]? = _; rw [F.nN]; exact hn) hz (pe_var (i := j) (by show X.N[j]? = _; rw [F.nN]; exact hnj) (.inl hln) (okN_eq hoj).1 (okN_eq hoj).2) rfl hfn))).we ?_
  intro pn xe tk2 po
  cases hr : evSs Φ b env with
  | none => rw [hr] at e; cases e
  | some r =>
    rw [hr] at e
    cases r with
    | exn c' x' e' => simp at e
    | ok o1 e1 =>
      have go : ∀ (hne : ∀ c' x', o1 ≠ .xn c' x'), o = o1 → env' = e1 → WSs (X.tr pn xe) bs D σ H := fun hne h1 h2 => by
        subst h1 h2
        refine hb pn xe po Z P σ H env As _ _ S hr D _ tk2 ?_
        cases o with
        | xn c' x' => exact absurd rfl (hne c' x')
        | nx => exact q
        | bk => exact q
        | ct => exact q
        | rt d => exact q
      cases o1 with
      | xn c' x' =>
        refine hb pn xe po Z P σ H env As _ _ S hr D _ tk2 ?_
        intro cls d σ' H' Z' P' As' A S' T' xr xff
        have xr2 := xr
        obtain ⟨ecls, ex, hcx, xp⟩ := xr
        refine ⟨subX c' c, ex c hxs, fun h1 a na => ?_, fun h0 => ?_⟩
        · simp only [h1, if_true, Option.some.injEq, Rs.ok.injEq] at e
          obtain ⟨rfl, rfl⟩ := e
          refine ⟨.ref a, ?_, fun na2 => ?_⟩
          · rw [List.getElem?_set_self (by rw [S'.len]; exact hjl)]
          · subst ecls
            have sm : Same H' (upd H' a (ErrO (.ref (He.ga X.K c')) d a)) := same_new na2
            have rv : Rep X.K (upd H' a (ErrO (.ref (He.ga X.K c')) d a)) (.ref a) (.err c' x'.toList) A := by
              cases x' with
              | none =>
                obtain ⟨rfl, xd⟩ := xp
                exact .er0 upd_same (F.kxa hkx) hcx fun dd e => by
                  obtain ⟨fs, q⟩ := xd dd e
                  exact ⟨fs, sm _ _ q⟩
              | some w =>
                obtain ⟨dd, u, rfl, hdd, ru⟩ := xp
                exact .er1 upd_same (F.kxa hkx) hcx (sm _ _ hdd) (ru.mono sm)
            have S2 := (S'.grow sm).bindNew rv xff.1 xff.2.1 hil hfx
            have S3 := S2.drop j
            have T2 : TSx io Z P H As Z' P' (upd H' a (ErrO (.ref (He.ga X.K c')) d a)) As' := ⟨fun b h => by
              have h2 := T'.mono b h
              cases q2 : H' b with
              | none => exact absurd q2 h2
              | some o2 => rw [sm b o2 q2]; simp, fun b o h c => sm _ _ (T'.keep b o h c), T'.al, T'.zz, T'.pp⟩
            refine q _ _ _ _ _ (S3.slots (j := j) (σ' := ((σ'.set j (some (.ref a))).set i (some (.ref a))).set j none) (by simp) (fun l hl => ?_) (fun d hd => ?_) hfj) ((T2.bindNew (own := own) (vw := vw) (A := A) xff.2.2).sub fun l a hl => ?_)
            · rw [List.getElem?_set_ne (fun z => hl z.symm)]
              by_cases hli : i = l
              · subst hli
                rw [List.getElem?_set_self (by rw [List.length_set, S'.len]; exact hil), List.getElem?_set_self (by rw [S'.len]; exact hil)]
              · rw [List.getElem?_set_ne hli, List.getElem?_set_ne hli, List.getElem?_set_ne (fun z => hl z.symm)]
            · rw [List.getElem?_set] at hd
              simp at hd
            · by_cases z : l = j
              · rw [if_pos z] at hl; cases hl
              · rw [if_neg z] at hl; exact hl
        · simp only [h0, Bool.false_eq_true, if_false, Option.some.injEq, Rs.ok.injEq] at e
          obtain ⟨rfl, rfl⟩ := e
          exact q cls d σ' H' Z' P' As' A S' T' xr2 xff
      | nx => simp only [Option.some.injEq, Rs.ok.injEq] at e; exact go (fun _ _ => nofun) e.1.symm e.2.symm
      | bk => simp only [Option.some.injEq, Rs.ok.injEq] at e; exact go (fun _ _ => nofun) e.1.symm e.2.symm
      | ct => simp only [Option.some.injEq, Rs.ok.injEq] at e; exact go (fun _ _ => nofun) e.1.symm e.2.symm
      | rt d => simp only [Option.some.injEq, Rs.ok.injEq] at e; exact go (fun _ _ => nofun) e.1.symm e.2.symm
end
end Cy
end
section
set_option Elab.async false
set_option linter.all false
set_option maxRecDepth 100000
set_option maxHeartbeats 4000000
namespace Cy
open PySem L2 PyProof.Rows
variable [ClTab] [Fxd]
def noComp : Expr → Bool
  | .ListComp _ _ _ _ | .SetComp _ _ _ _ | .DictComp _ _ _ _ _ => false
  | _ => true
def isTupX : Expr → Bool
  | .Tuple _ _ _ => true
  | _ => false
def asAsg : Stmt → Option (Expr × Expr × Pos)
  | .Assign [t] x sp => some (t, x, sp)
  | _ => none
def asPar : Stmt → Option (Str × Str × Expr × Expr × Pos × Pos)
  | .Assign [.Tuple [.Name x px, .Name y py] _ _] (.Tuple [a, b] _ _) _ => some (x, y, a, b, px, py)
  | _ => none
def asExpr : Stmt → Option (Expr × Pos)
  | .Expr x sp => some (x, sp)
  | _ => none
def asMeth1 : Expr → Option (Expr × Str × Expr)
  | .Call (.Attribute o x ap) [e] [] cp => if ap.endLine == cp.line then some (o, x, e) else none
  | _ => none
def asMeth0 : Expr → Option (Expr × Str)
  | .Call (.Attribute o x ap) [] [] cp => if ap.endLine == cp.line then some (o, x) else none
  | _ => none
def asSub : Expr → Option (Expr × Expr)
  | .Subscript o i _ => some (o, i)
  | _ => none
def asAug : Stmt → Option (Expr × Operator × Expr)
  | .AugAssign t o x _ => some (t, o, x)
  | _ => none
def asIf : Stmt → Option (Expr × List Stmt × List Stmt)
  | .If c a b _ => some (c, a, b)
  | _ => none
def asFor : Stmt → Option (Expr × Expr × List Stmt)
  | .For t x b [] _ => some (t, x, b)
  | _ => none
def asWhl : Stmt → Option (Expr × List Stmt)
  | .While c b [] _ => some (c, b)
  | _ => none
def asRet : Stmt → Option Expr
  | .Return (some x) _ => some x
  | _ => none
def isRetN : Stmt → Bool
  | .Return none _ => true
  | _ => false
def isBrk : Stmt → Bool
  | .Break _ => true
  | _ => false
def isCnt : Stmt → Bool
  | .Continue _ => true
  | _ => false
def isPas : Stmt → Bool
  | .Pass _ => true
  | .Expr (.Constant (.str _) _ _) _ => true
  | _ => false
def isComp : DE → Bool
  | .comp _ _ _ _ _ => true
  | _ => false
/-- a comprehension stored in a name of its own line -/
def lcOk (sc : Scope) (a : DE) (t x : Expr) : Bool := match t, x with
  | .Name y py, .ListComp _ _ cs p => isComp a && isLoc sc y && (py.line == p.line) && !(cs.names.any fun (n, k) => n == y && (k == .local || k == .cell))
  | _, _ => false
/-- a comprehension that is made first, then stored -/
def lcNo (sc : Scope) (t x : Expr) : Bool := match t, x with
  | .Name y py, .ListComp _ _ cs p => !(isLoc sc y && (py.line == p.line) && !(cs.names.any fun (n, k) => n == y && (k == .local || k == .cell)))
  | _, _ => false
def parOk (sc : Scope) (x y : Str) (px py : Pos) (a b : Expr) : Bool :=
  isLoc sc x && isLoc sc y && (px.line == px.line) && (py.line == px.line) && !(x == y) && (([x, y] : List Str).eraseDups.length == 2) && !([a, b].all (foldedForSure 8)) && !([a, b].all (constantsAlone 8)) && !(([a, b] : List Expr).any fun | .Starred .. => true | _ => false)
def isAddSub : BO → Bool
  | .add | .sub => true
  | _ => false
def asRaise : Stmt → Option (Str × List Expr)
  | .Raise (some (.Call (.Name x _) args [] _)) none _ => some (x, args)
  | _ => none
def asTry : Stmt → Option (List Stmt × Str × Option Str × Stmt)
  | .Try body [.ExceptHandler (some (.Name x _)) on [s0] _] [] [] _ => some (body, x, on, s0)
  | _ => none
def isStrC : Expr → Bool
  | .Constant (.str _) _ _ => true
  | _ => false
def isNonC : Expr → Bool
  | .Constant .none _ _ => true
  | _ => false
def mCalx (C : Ct) (sc : Scope) (f : Nat) (es : DEs) (x : Expr) : Bool := match asCall x with
  | some (y, vs) => C.cx.contains f && (match C.calls[f]? with | some z => strEq y z | none => false) && gloB sc y && okN y && mL C sc es vs
  | none => false
def mTo (C : Ct) (sc : Scope) (i : Nat) (t : Expr) : Bool := match asName t with
  | some y => nameAt C i y && locB sc y && !C.fx.contains i
  | none => false
mutual
def ioS : DS → Bool
  | .asg _ a | .aug _ _ a | .ex a | .ret a => ioE a
  | .par _ _ a b => ioE a || ioE b
  | .upd _ _ _ _ | .upx _ _ _ _ | .fap _ _ _ _ _ | .fst _ _ _ _ _ _ => true
  | .ifs c a b => ioE c || ioSs a || ioSs b
  | .for _ it b => ioI it || ioSs b
  | .whl c b => ioE c || ioSs b
  | .retN | .brk | .cnt | .pas => false
  | .rai _ _ es => ioL es
  | .calx _ _ es => ioL es
  | .tryc b _ _ => ioSs b
def ioSs : DSs → Bool
  | .nil => false
  | .blk _ ss => ioSs ss
  | .alb _ _ a b ss => false || (ioS a || (ioS b || ioSs ss))
  | .cons s ss => ioS s || ioSs ss
end
/-- a name takes what another one holds -/
def mAl (C : Ct) (sc : Scope) (i j : Nat) (st : Stmt) : Bool := match asAsg st with
  | some (t, x, _) => mTo C sc i t && (match asName x with | some y => nameAt C j y && visB sc y && okN y | none => false)
  | none => false
mutual
def mS (C : Ct) (sc : Scope) : DS → Stmt → Bool
  | .asg tg a, st => (match asAsg st with | some (t, x, _) => mT C sc tg t && mE C sc a x && ((noComp x && !(isTupX t && isTupX x)) || lcOk sc a t x || lcNo sc t x) | none => false)
  | .par i j a b, st => (match asPar st with | some (x, y, xa, xb, px, py) => nameAt C i x && nameAt C j y && mE C sc a xa && mE C sc b xb && parOk sc x y px py xa xb && !C.fx.contains i && !C.fx.contains j | none => false)
  | .upd i p o _, st => (match o with
    | .app a => (match asExpr st with | some (e, _) => (match asMeth1 e with | some (ob, m, x) => strEq m "append" && mPth C sc i p ob && mE C sc a x | none => false) | none => false)
    | .apph a => (match asExpr st with | some (e, _) => (match asMeth1 e with | some (ob, m, x) => strEq m "append" && mPth C sc i p ob && mE C sc a x | none => false) | none => false)
    | .ext a => (match asExpr st with | some (e, _) => (match asMeth1 e with | some (ob, m, x) => strEq m "extend" && mPth C sc i p ob && mE C sc a x | none => false) | none => false)
    | .ins j a => (match asExpr st with | some (e, _) => (match asMeth e with | some (ob, m, [x, y]) => strEq m "insert" && mPth C sc i [] ob && mE C sc j x && mE C sc a y && p.isEmpty | _ => false) | none => false)
    | .clr => (match asExpr st with | some (e, _) => (match asMeth0 e with | some (ob, m) => strEq m "clear" && mPth C sc i p ob | none => false) | none => false)
    | .rvs => (match asExpr st with | some (e, _) => (match asMeth0 e with | some (ob, m) => strEq m "reverse" && mPth C sc i p ob | none => false) | none => false)
    | .set j a => (match asAsg st with | some (t, x, _) => (match asSub t with | some (ob, ix) => mPth C sc i p ob && mE C sc j ix && mE C sc a x | none => false) | none => false)
    | .aug op j a => (match asAug st with | some (t, op', x) => (match asSub t with | some (ob, ix) => (op' == opOf op) && mPth C sc i p ob && mE C sc j ix && mE C sc a x | none => false) | none => false)
    | .dset j a => (match asAsg st with | some (t, x, _) => (match asSub t with | some (ob, ix) => mPth C sc i p ob && mE C sc j ix && mE C sc a x | none => false) | none => false)
    | .fset f a => (match asAsg st with | some (t, x, _) => (match asFld t with | some (ob, y) => strEq y f && inB f C.ats && mPth C sc i p ob && mE C sc a x | none => false) | none => false)
    | _ => false)
  | .aug i o a, st => (match asAug st with | some (t, op, x) => (op == opOf o) && (match asName t with | some y => nameAt C i y && locB sc y && !C.fx.contains i | none => false) && mE C sc a x | none => false)
  | .ex a, st => (match asExpr st with | some (x, _) => noComp x && mE C sc a x | none => false)
  | .ifs c a b, st => (match asIf st with | some (x, xs, ys) => mE C sc c x && mSs C sc a xs && mSs C sc b ys | none => false)
  | .for tg it b, st => (match asFor st with | some (t, x, bs) => mT C sc tg t && mI C sc it t x && plainX x && mSs C sc b bs | none => false)
  | .whl c b, st => (match asWhl st with | some (x, bs) => mE C sc c x && mSs C sc b bs | none => false)
  | .ret a, st => (match asRet st with | some x => mE C sc a x | none => false)
  | .retN, st => isRetN st
  | .brk, st => isBrk st
  | .cnt, st => isCnt st
  | .pas, st => isPas st
  | .upx i ks c _, st => (match asExpr st with | some (e, _) => (match asMeth1 e with | some (ob, m, x) => strEq m "append" && mKs C sc i ks.reverse ob && mCx c x | none => false) | none => false)
  | .fap i k j c _, st => (match asFor st with | some (t, it, [b]) => (match asName t, asExpr b with | some y, some (e, _) => (match asMeth1 e with | some (ob, m, x) => (match asName ob with | some y2 => strEq m "append" && strEq y2 y && nameAt C j y && locB sc y && visB sc y && okN y && !C.fx.contains j && mKs C sc i [.c (.int k)] it && mCx c x | none => false) | none => false) | _, _ => false) | _ => false)
  | .fst x i j l b _, st => (match asFor st with | some (t, it, [bs]) => (match asTup t, asCall it, asAsg bs with | some _, some (z, [a, eb]), some (tt, xx, _) => (match asSub tt with | some (ob, ix) => (match asName a, asName ob, asName ix, asName xx with | some nl, some nx, some ni, some nj => mT C sc (.t [.n i, .n j]) t && strEq z "zip" && gloOk C sc z && nameAt C l nl && visB sc nl && okN nl && mE C sc b eb && nameAt C x nx && visB sc nx && okN nx && nameAt C i ni && visB sc ni && okN ni && nameAt C j nj && visB sc nj && okN nj | _, _, _, _ => false) | none => false) | _, _, _ => false) | _ => false)
  | .rai c _ es, st => (match asRaise st with
    | some (x, args) => strEq x c && gloB sc x && okN x && (match es, args with
      | .nil, [a] => hasX C c false && isStrC a
      | .cons a .nil, [b] => hasX C c true && mL C sc (.cons a .nil) [b]
      | _, _ => false)
    | none => false)
  | .calx .ex f es, st => (match asExpr st with | some (x, _) => mCalx C sc f es x | none => false)
  | .calx (.asg i) f es, st => (match asAsg st with | some (t, x, _) => mTo C sc i t && mCalx C sc f es x | none => false)
  | .calx (.tgt tg) f es, st => (match asAsg st with | some (t, x, _) => mT C sc tg t && mCalx C sc f es x && noComp x && !(isTupX t && isTupX x) | none => false)
  | .calx (.ixk i k) f es, st => (match asAsg st with | some (t, x, _) => mTo C sc i t && (match asSub x with | some (o, ix) => mCalx C sc f es o && mE C sc (.c (.int k)) ix | none => false) | none => false)
  | .tryc b c h, st => (match asTry st with
    | some (body, x, on, s0) => strEq x c && gloB sc x && okN x && mSs C sc b body && (match asAsg s0 with
      | some (t, e, _) => (match h, on with
        | .non i, none => mTo C sc i t && isNonC e && (hasX C c true || hasX C c false)
        | .fld i j f, some n => mTo C sc i t && (match asFld e with
          | some (o, g) => (match asName o with | some n2 => strEq n2 n && strEq g f | none => false)
          | none => false) && nameAt C j n && isLoc sc n && okN n && !C.fx.contains j && !(i == j) && strEq f (xfld c) && hasX C c true
        | .kp i j, some n => mTo C sc i t && ((match asName e with | some n2 => strEq n2 n | none => false) && (nameAt C j n && (isLoc sc n && (okN n && (!C.fx.contains j && (!(i == j) && (C.kx && (hasX C c true || hasX C c false))))))))
        | _, _ => false)
      | none => false)
    | none => false)
def mSs (C : Ct) (sc : Scope) : DSs → List Stmt → Bool
  | .nil, [] => true
  | .blk i ss, sts => !C.fx.contains i && mSs C sc ss sts
  | .cons s ss, st :: sts => mS C sc s st && mSs C sc ss sts
  | .alb i j a b ss, st0 :: st1 :: st2 :: sts => mAl C sc i j st0 && mS C sc a st1 && mS C sc b st2 && mSs C sc ss sts
  | _, _ => false
end
mutual
def okS (sg : List (Option Nat × Bool)) (own vw : List Nat) (fr : Bool) : DS → Bool
  | .asg tg a => okE sg own vw a && (tgs tg).all (kOk own vw (frE sg a) (shE sg (own ++ vw) a)) && decide (tgs tg).Nodup
  | .par i j a b => okE sg own vw a && okE sg own vw b && !ioE b && kOk own vw (frE sg a) (frE sg a || shE sg (own ++ vw) a) i && kOk own vw (frE sg b) (frE sg b || shE sg (own ++ vw) b) j && !(i == j)
  | .upd i p o kl => own.contains i && okPth sg own vw p && vw.all (fun j => kl.contains j) && (match o with
    | .app a => okE sg own vw a && frE sg a && (p.isEmpty || !ioE a)
    | .apph a => okE sg own vw a && frE sg a
    | .ext a => okE sg own vw a && frE sg a && (p.isEmpty || !ioE a)
    | .ins j a => okE sg own vw j && okE sg own vw a && p.isEmpty
    | .clr => true
    | .rvs => true
    | .set j a => okE sg own vw j && okE sg own vw a && frE sg a && !ioE j
    | .dset j a => okE sg own vw j && okE sg own vw a && !ioE j
    | .fset _ a => okE sg own vw a && frE sg a
    | .aug op j a => okE sg own vw j && okE sg own vw a && !ioE j && !ioE a && isAddSub op
    | _ => false)
  | .aug _ o a => okE sg own vw a && isAddSub o
  | .ex a => okE sg own vw a
  | .ifs c a b => okE sg own vw c && okSs sg own vw fr a && okSs sg own vw fr b
  | .for tg it b => okI sg own vw it && okSs sg own vw fr b && decide (tgs tg).Nodup && (tgs tg).all (fun i => !own.contains i) && ((frI sg it || shI sg (own ++ vw) it) || (!ioSs b && (tgs tg).all (fun i => vw.contains i)))
  | .whl c b => okE sg own vw c && okSs sg own vw fr b
  | .ret a => okE sg own vw a && (!fr || frE sg a)
  | .retN | .brk | .cnt | .pas => true
  | .upx i _ c kl => own.contains i && vw.all (fun j => kl.contains j) && cOkD c
  | .fap i _ j c kl => own.contains i && !own.contains j && !(i == j) && vw.all (fun j => kl.contains j) && cOkD c && pureD c
  | .fst x i j l b kl => own.contains x && own.contains l && !own.contains i && !own.contains j && !(i == j) && !(x == i) && !(x == j) && !(x == l) && okE sg own vw b && frE sg b && !ioE b && vw.all (fun j => kl.contains j)
  | .rai _ k es => okL sg own vw es && (!k || frL sg es)
  | .calx m f es => okL sg own vw es && (match sg[f]? with
    | some (io, fr) => io.isNone && (match m with | .asg i => kOk own vw fr fr i | .tgt tg => (tgs tg).all (kOk own vw fr fr) && decide (tgs tg).Nodup | _ => true)
    | none => false)
  | .tryc b _ _ => okSs sg own vw fr b
def okSs (sg : List (Option Nat × Bool)) (own vw : List Nat) (fr : Bool) : DSs → Bool
  | .nil => true
  | .blk i ss => !own.contains i && okSs sg (i :: own) vw fr ss
  | .cons s ss => okS sg own vw fr s && okSs sg own vw fr ss
  | .alb i j a b ss => own.contains i && own.contains j && !(i == j) && okS sg (own.filter fun k => !(k == j)) (j :: vw) fr a && okS sg (own.filter fun k => !(k == j)) (j :: vw) fr b && okSs sg own vw fr ss
end

theorem asAsg_eq {st : Stmt} {t x : Expr} {sp : Pos} (h : asAsg st = some (t, x, sp)) : st = .Assign [t] x sp := by
  unfold asAsg at h
  split at h
  · simp only [Option.some.injEq, Prod.mk.injEq] at h
    obtain ⟨rfl, rfl, rfl⟩ := h; rfl
  · cases h
theorem asPar_eq {st : Stmt} {x y : Str} {a b : Expr} {px py : Pos} (h : asPar st = some (x, y, a, b, px, py)) : ∃ kt pt k2 pt2 sp, st = .Assign [.Tuple [.Name x px, .Name y py] kt pt] (.Tuple [a, b] k2 pt2) sp := by
  unfold asPar at h
  split at h
  · simp only [Option.some.injEq, Prod.mk.injEq] at h
    obtain ⟨rfl, rfl, rfl, rfl, rfl, rfl⟩ := h; exact ⟨_, _, _, _, _, rfl⟩
  · cases h
theorem asExpr_eq {st : Stmt} {x : Expr} {sp : Pos} (h : asExpr st = some (x, sp)) : st = .Expr x sp := by
  unfold asExpr at h
  split at h
  · simp only [Option.some.injEq, Prod.mk.injEq] at h
    obtain ⟨rfl, rfl⟩ := h; rfl
  · cases h
theorem asMeth1_eq {e o x : Expr} {m : Str} (h : asMeth1 e = some (o, m, x)) : ∃ ap cp, e = .Call (.Attribute o m ap) [x] [] cp ∧ (ap.endLine == cp.line) = true := by
  unfold asMeth1 at h
  split at h
  · split at h
    · rename_i hl
      simp only [Option.some.injEq, Prod.mk.injEq] at h
      obtain ⟨rfl, rfl, rfl⟩ := h; exact ⟨_, _, rfl, hl⟩
    · cases h
  · cases h
theorem asMeth0_eq {e o : Expr} {m : Str} (h : asMeth0 e = some (o, m)) : ∃ ap cp, e = .Call (.Attribute o m ap) [] [] cp ∧ (ap.endLine == cp.line) = true := by
  unfold asMeth0 at h
  split at h
  · split at h
    · rename_i hl
      simp only [Option.some.injEq, Prod.mk.injEq] at h
      obtain ⟨rfl, rfl⟩ := h; exact ⟨_, _, rfl, hl⟩
    · cases h
  · cases h
theorem asSub_eq {e o i : Expr} (h : asSub e = some (o, i)) : ∃ p, e = .Subscript o i p := by
  unfold asSub at h
  split at h
  · simp only [Option.some.injEq, Prod.mk.injEq] at h
    obtain ⟨rfl, rfl⟩ := h; exact ⟨_, rfl⟩
  · cases h
theorem asAug_eq {st : Stmt} {t x : Expr} {o : Operator} (h : asAug st = some (t, o, x)) : ∃ sp, st = .AugAssign t o x sp := by
  unfold asAug at h
  split at h
  · simp only [Option.some.injEq, Prod.mk.injEq] at h
    obtain ⟨rfl, rfl, rfl⟩ := h; exact ⟨_, rfl⟩
  · cases h
theorem asIf_eq {st : Stmt} {c : Expr} {a b : List Stmt} (h : asIf st = some (c, a, b)) : ∃ sp, st = .If c a b sp := by
  unfold asIf at h
  split at h
  · simp only [Option.some.injEq, Prod.mk.injEq] at h
    obtain ⟨rfl, rfl, rfl⟩ := h; exact ⟨_, rfl⟩
  · cases h
theorem asFor_eq {st : Stmt} {t x : Expr} {b : List Stmt} (h : asFor st = some (t, x, b)) : ∃ sp, st = .For t x b [] sp := by
  unfold asFor at h
  split at h
  · simp only [Option.some.injEq, Prod.mk.injEq] at h
    obtain ⟨rfl, rfl, rfl⟩ := h; exact ⟨_, rfl⟩
  · cases h
theorem asWhl_eq {st : Stmt} {x : Expr} {b : List Stmt} (h : asWhl st = some (x, b)) : ∃ sp, st = .While x b [] sp := by
  unfold asWhl at h
  split at h
  · simp only [Option.some.injEq, Prod.mk.injEq] at h
    obtain ⟨rfl, rfl⟩ := h; exact ⟨_, rfl⟩
  · cases h
theorem asRet_eq {st : Stmt} {x : Expr} (h : asRet st = some x) : ∃ sp, st = .Return (some x) sp := by
  unfold asRet at h
  split at h
  · simp only [Option.some.injEq] at h
    subst h; exact ⟨_, rfl⟩
  · cases h
theorem swaps_no {x : Expr} {t : Option Expr} {l : Nat} {env : PySem.Env} (h : noComp x = true) : swapsWith x t l env = pure false := by
  cases x <;> first | rfl | (simp [noComp] at h; done)
theorem stores_no {t x : Expr} {env : PySem.Env} (h : (isTupX t && isTupX x) = false) (ht : isTupX t = true ∨ ∃ y p, t = .Name y p) : swappedStores [t] x env = pure none := by
  rcases ht with ht | ⟨y, p, rfl⟩
  · cases t <;> simp only [isTupX, reduceCtorEq] at ht h
    cases x <;> first | rfl | (simp [isTupX] at h; done)
  · rfl
theorem swaps_lcNo {t x : Expr} {l : Nat} {env : PySem.Env} (hk : env.scope.kind = .function) (h : lcNo env.scope t x = true) : swapsWithSole [t] x l env = pure false ∧ swappedStores [t] x env = pure none ∧ (assignEach [t] env).map (·.2) = [assign t env] := by
  unfold lcNo at h
  split at h
  · rename_i y py elx gens cs p
    refine ⟨?_, rfl, rfl⟩
    have hb : env.blockKind = .function := by unfold Env.blockKind; rw [hk]; rfl
    have e1 : (env.kindOf y == some NameKind.local) = isLoc env.scope y := by
      unfold isLoc Env.kindOf
      cases env.scope.names.lookup y with
      | none => rfl
      | some k => cases k <;> rfl
    unfold swapsWithSole swapsWith
    simp only [hb, e1, Expr.pos]
    simp only [Bool.not_eq_true'] at h
    show (pure (true && _ && _ && _) : Sem Bool) = pure false
    rw [Bool.true_and]
    rw [h]
  · cases h
theorem isLoc_eq {sc : Scope} {x : Str} (h : isLoc sc x = true) : sc.names.lookup x = some .local := by
  unfold isLoc at h
  split at h
  · assumption
  · cases h
theorem mT_lt {C : Ct} {sc : Scope} : ∀ {tg : Tg} {t : Expr}, mT C sc tg t = true → (∀ i ∈ tgs tg, i < C.N.length) ∧ (isTupX t = true ∨ ∃ y p, t = .Name y p)
  | .n i, t, h => by
    simp only [mT] at h
    split at h
    · rename_i x hx; obtain ⟨p, rfl⟩ := asName_eq hx
      simp only [Bool.and_eq_true] at h
      refine ⟨fun j hj => ?_, .inr ⟨_, _, rfl⟩⟩
      have : j = i := by simpa [tgs] using hj
      subst this
      exact (List.getElem?_eq_some_iff.mp (nameAt_eq h.1.1)).1
    · cases h
  | .t ts, t, h => by
    simp only [mT] at h
    split at h
    · rename_i es hx; obtain ⟨k, p, rfl⟩ := asTup_eq hx
      simp only [Bool.and_eq_true] at h
      exact ⟨fun j hj => mTs_lt h.1 j (by simpa [tgs] using hj), .inl rfl⟩
    · cases h
where mTs_lt {C : Ct} {sc : Scope} : ∀ {ts : List Tg} {es : List Expr}, mTs C sc ts es = true → ∀ i ∈ tgsL ts, i < C.N.length
  | [], [], _ => fun i h => by simp [tgsL] at h
  | [], _ :: _, h => by simp [mTs] at h
  | _ :: _, [], h => by simp [mTs] at h
  | t :: ts, e :: es, h => fun i hi => by
    simp only [mTs, Bool.and_eq_true] at h
    simp only [tgsL, List.mem_append] at hi
    rcases hi with hi | hi
    · exact (mT_lt h.1.1).1 i hi
    · exact mTs_lt h.2 i hi
theorem stores_par {x y : Str} {a b : Expr} {px py pt pt2 : Pos} {kt k2 : Nat} {env : PySem.Env} (hk : env.scope.kind = .function) (h : parOk env.scope x y px py a b = true) (pa : plainX a = true) (pb : plainX b = true) :
    swappedStores [.Tuple [.Name x px, .Name y py] kt pt] (.Tuple [a, b] k2 pt2) env = pure (some [x, y]) := by
  simp only [parOk, Bool.and_eq_true, Bool.not_eq_true'] at h
  obtain ⟨⟨⟨⟨⟨⟨⟨⟨h1, h2⟩, h3⟩, h4⟩, h5⟩, h6⟩, h7⟩, h8⟩, h9⟩ := h
  have kx : env.kindOf x = some .local := isLoc_eq h1
  have ky : env.kindOf y = some .local := isLoc_eq h2
  have hb : env.blockKind = .function := by unfold Env.blockKind; rw [hk]; rfl
  have h6 : ([x, y] : List Str).eraseDups.length = 2 := by simpa using h6
  have e1 : (Expr.Name x px).pos = px := rfl
  have h4' : (py.line == px.line) = true := h4
  have d1 : (NameKind.local == NameKind.local) = true := by decide
  unfold swappedStores
  simp only [List.length_cons, List.length_nil, hb, h7, h8, List.head?_cons, Option.map_some, Option.getD_some, List.filterMap_cons, List.filterMap_nil, kx, ky, e1]
  have c1 : (some NameKind.local == some NameKind.local && px.line == px.line) = true := by rw [h3]; decide
  have c2 : (some NameKind.local == some NameKind.local && py.line == px.line) = true := by rw [h4]; decide
  rw [if_pos c1, if_pos c2]
  dsimp only
  rw [h6, if_neg (by decide), if_neg (fun hc => ?_), if_neg (by simp), if_neg (by decide), if_neg (by decide)]
  simp only [List.any_cons, List.any_nil, Bool.or_false] at hc
  rcases Bool.or_eq_true_iff.mp hc with z | z
  · cases a <;> first | exact Bool.noConfusion z | (simp [plainX] at pa; done)
  · cases b <;> first | exact Bool.noConfusion z | (simp [plainX] at pb; done)
section
variable {C : Ct} {Φ : Nat → Fn} {k : Nat} {X : Cx}
/-- what a def's body needs about itself -/
structure Bd (X : Cx) : Prop where
  po : PassesOwn (model X.prog X.w) X.A X.env X.xe
  fn : ∀ x, X.fn x = true
  kd : X.env.scope.kind = .function
  sk : X.stack = X.env :: X.outer
  ef : X.env.frame = some X.env.locals
theorem asRaise_eq {st : Stmt} {x : Str} {args : List Expr} (h : asRaise st = some (x, args)) : ∃ p pos pos2, st = .Raise (some (.Call (.Name x p) args [] pos)) none pos2 := by
  unfold asRaise at h
  split at h
  · simp only [Option.some.injEq, Prod.mk.injEq] at h
    obtain ⟨rfl, rfl⟩ := h
    exact ⟨_, _, _, rfl⟩
  · cases h
theorem asTry_eq {st s0 : Stmt} {x : Str} {body : List Stmt} {on : Option Str} (h : asTry st = some (body, x, on, s0)) : ∃ np pos' pos, st = .Try body [.ExceptHandler (some (.Name x np)) on [s0] pos'] [] [] pos := by
  unfold asTry at h
  split at h
  · simp only [Option.some.injEq, Prod.mk.injEq] at h
    obtain ⟨rfl, rfl, rfl, rfl⟩ := h
    exact ⟨_, _, _, rfl⟩
  · cases h
theorem isStrC_eq {e : Expr} (h : isStrC e = true) : ∃ m j p, e = .Constant (.str m) j p := by
  unfold isStrC at h
  split at h
  · exact ⟨_, _, _, rfl⟩
  · cases h
theorem isNonC_eq {e : Expr} (h : isNonC e = true) : ∃ j p, e = .Constant .none j p := by
  unfold isNonC at h
  split at h
  · exact ⟨_, _, rfl⟩
  · cases h
theorem Bd.tr (B : Bd X) {pn : List (Addr × Obj)} {xe : Value → Shared → Prop} (po : PassesOwn (model X.prog X.w) X.A X.env xe) : Bd (X.tr pn xe) := ⟨po, B.fn, B.kd, B.sk, B.ef⟩
theorem mTo_eq {C : Ct} {X : Cx} {i : Nat} {t : Expr} (B : Bd X) (h : mTo C X.env.scope i t = true) : ∃ z pz, t = .Name z pz ∧ C.N[i]? = some z ∧ Loc X.env.scope z ∧ (X.fn z = true ∨ X.env.scope.names.lookup z = some .local) ∧ C.fx.contains i = false := by
  unfold mTo at h
  split at h
  · rename_i y hy
    obtain ⟨p, rfl⟩ := asName_eq hy
    simp only [Bool.and_eq_true, Bool.not_eq_true'] at h
    exact ⟨y, p, rfl, nameAt_eq h.1.1, locB_eq h.1.2, .inl (B.fn _), h.2⟩
  · cases h
theorem mCalx_eq {C : Ct} {sc : Scope} {f : Nat} {es : DEs} {x : Expr} (h : mCalx C sc f es x = true) : ∃ y v vs p q, x = .Call (.Name y p) (v :: vs) [] q ∧ f ∈ C.cx ∧ C.calls[f]? = some y ∧ sc.names.lookup y = some .globalImplicit ∧ okN y = true ∧ mL C sc es (v :: vs) = true := by
  unfold mCalx at h
  split at h
  · rename_i y vs hc
    obtain ⟨v, ws, p, q, rfl, rfl⟩ := asCall_eq hc
    simp only [Bool.and_eq_true] at h
    obtain ⟨⟨⟨⟨h1, h2⟩, h3⟩, h4⟩, h5⟩ := h
    refine ⟨y, v, ws, p, q, rfl, by simpa using h1, ?_, gloB_eq h3, h4, h5⟩
    split at h2
    · rename_i z hz
      rw [hz, strEq_eq h2]
    · cases h2
  · cases h
theorem okCalx_eq {sg : List (Option Nat × Bool)} {f : Nat} {g : Bool → Bool} (h : (match sg[f]? with | some (io, fr) => io.isNone && g fr | none => false) = true) : ∃ fr, sg[f]? = some (none, fr) ∧ g fr = true := by
  split at h
  · rename_i io fr hs
    simp only [Bool.and_eq_true] at h
    cases io with
    | none => exact ⟨fr, hs, h.2⟩
    | some j => simp at h
  · cases h
theorem Bd.st (B : Bd X) : StOk X X.env.scope := fun x h => ⟨locB_eq h, .inl (B.fn x)⟩
mutual
theorem soundS : ∀ (s : DS) {own vw : List Nat} {fr : Bool} {X : Cx} {st : Stmt}, Fx C Φ k X → Bd X → mS C X.env.scope s st = true → okS C.sigs own vw fr s = true → SS C X own vw fr (ioS s) (evS Φ s) (WS X st)
  | .asg tg a, own, vw, fr, X, st, F, B, h, o => by
    simp only [mS] at h
    split at h
    rotate_left
    · cases h
    rename_i t x sp hs
    obtain rfl := asAsg_eq hs
    simp only [Bool.and_eq_true] at h
    obtain ⟨⟨h1, h2⟩, h3⟩ := h
    simp only [okS, Bool.and_eq_true, decide_eq_true_eq, List.all_eq_true] at o
    obtain ⟨⟨o1, o2⟩, o3⟩ := o
    obtain ⟨l1, l2⟩ := mT_lt h1
    by_cases hn : (noComp x && !(isTupX t && isTupX x)) = true
    · simp only [Bool.and_eq_true, Bool.not_eq_true'] at hn
      refine ss_asg F B.st h1 (soundE a F h2 o1).1 o2 o3 l1 (swaps_no hn.1) (stores_no hn.2 l2) ?_
      rcases l2 with l2 | ⟨y, p, rfl⟩
      · cases t <;> first | rfl | (simp [isTupX] at l2; done)
      · rfl
    by_cases hno : lcNo X.env.scope t x = true
    · obtain ⟨w1, w2, w3⟩ := swaps_lcNo (l := sp.line) B.kd hno
      exact ss_asg F B.st h1 (soundE a F h2 o1).1 o2 o3 l1 w1 w2 w3
    · have h3 : lcOk X.env.scope a t x = true := by
        rcases Bool.or_eq_true_iff.mp h3 with z | z
        · rcases Bool.or_eq_true_iff.mp z with z | z
          · exact absurd z hn
          · exact z
        · exact absurd z hno
      unfold lcOk at h3
      split at h3
      rotate_left
      · cases h3
      rename_i y py elx gens cs p
      simp only [Bool.and_eq_true, Bool.not_eq_true'] at h3
      obtain ⟨⟨⟨g1, g2⟩, g3⟩, g4⟩ := h3
      cases a <;> simp only [isComp, Bool.false_eq_true] at g1
      rename_i elt tg2 it ifs os
      cases tg with
      | t ts => simp [mT, asTup] at h1; 
      | n j =>
        simp only [mT, asName, Bool.and_eq_true, Bool.not_eq_true'] at h1
        simp only [mE] at h2
        split at h2
        rotate_left
        · cases h2
        rename_i xe t2 i2 fs s2 e; obtain ⟨p2, e2⟩ := asComp_eq e
        simp only [Expr.ListComp.injEq] at e2
        obtain ⟨rfl, rfl, rfl, rfl⟩ := e2
        simp only [Bool.and_eq_true, decide_eq_true_eq] at h2
        obtain ⟨⟨⟨⟨⟨⟨⟨⟨k1, k0⟩, k2⟩, k3⟩, k4⟩, k5⟩, k6⟩, k7⟩, k8⟩ := h2
        have hox : ∀ j ∈ os, Fxd.fx j = none := fun j hj => F.fxn (by have := List.all_eq_true.mp k0 j hj; simpa using this)
        simp only [okE, Bool.and_eq_true, decide_eq_true_eq] at o1
        obtain ⟨⟨⟨⟨⟨m1, m2⟩, m3⟩, m4⟩, m5⟩, m6⟩ := o1
        refine ss_setLc F hox k1 k2 (fun j hj => ?_) m6 k8 (by simpa using m2) (by simpa using m3) (soundI it F k3 m1) (fun X' hX => ?_) (fun X' hX => ?_) (F.fxn h1.2) (nameAt_eq h1.1.1) (isLoc_eq g2) B.kd g3 g4 (o2 j (by simp [tgs]))
        · have := List.all_eq_true.mp k7 j hj
          simpa using this
        · exact sts_of (soundL ifs (F.blk hX).1 (by rw [hX.scope]; exact k4) m5) k5
        · exact (soundE elt (F.blk hX).1 (by rw [hX.scope]; exact k6) m4).1
  | .par i j a b, own, vw, fr, X, st, F, B, h, o => by
    simp only [mS] at h
    split at h
    rotate_left
    · cases h
    rename_i x y xa xb px py hs
    obtain ⟨kt, pt, k2, pt2, sp, rfl⟩ := asPar_eq hs
    simp only [Bool.and_eq_true, Bool.not_eq_true'] at h
    obtain ⟨⟨⟨⟨⟨⟨h1, h2⟩, h3⟩, h4⟩, h5⟩, hfi⟩, hfj⟩ := h
    simp only [okS, Bool.and_eq_true, Bool.not_eq_true'] at o
    obtain ⟨⟨⟨⟨⟨o1, o2⟩, o3⟩, o4⟩, o5⟩, o6⟩ := o
    have hl := h5
    simp only [parOk, Bool.and_eq_true] at hl
    exact ss_par F (nameAt_eq h1) (nameAt_eq h2) (by simpa using o6) (isLoc_eq hl.1.1.1.1.1.1.1.1) (isLoc_eq hl.1.1.1.1.1.1.1.2) (soundE a F h3 o1).1 (soundE b F h4 o2).1 (mE_plain h3).1 (mE_plain h4).1 (stores_par B.kd h5 (mE_plain h3).1 (mE_plain h4).1) o4 o5 o3 (F.fxn hfi) (F.fxn hfj)
  | .upd i p (.app a) kl, own, vw, fr, X, st, F, B, h, o => by
    simp only [mS] at h
    split at h
    rotate_left
    · cases h
    rename_i e sp hs
    obtain rfl := asExpr_eq hs
    split at h
    rotate_left
    · cases h
    rename_i ob m x hm
    obtain ⟨ap, cp, rfl, hl⟩ := asMeth1_eq hm
    simp only [Bool.and_eq_true] at h
    obtain rfl := strEq_eq h.1.1
    simp only [okS, Bool.and_eq_true, List.all_eq_true, List.contains_eq_mem, decide_eq_true_eq] at o
    obtain ⟨⟨⟨o1, o2⟩, o3⟩, ⟨o4, o5⟩, o6⟩ := o
    exact ss_app F h.1.2 o2 o1 o3 hl (mE_plain h.2).1 (soundE a F h.2 o4).1 o5 (by simpa using o6)
  | .upd i p (.apph a) kl, own, vw, fr, X, st, F, B, h, o => by
    simp only [mS] at h
    split at h
    rotate_left
    · cases h
    rename_i e sp hs
    obtain rfl := asExpr_eq hs
    split at h
    rotate_left
    · cases h
    rename_i ob m x hm
    obtain ⟨ap, cp, rfl, hl⟩ := asMeth1_eq hm
    simp only [Bool.and_eq_true] at h
    obtain rfl := strEq_eq h.1.1
    simp only [okS, Bool.and_eq_true, List.all_eq_true, List.contains_eq_mem, decide_eq_true_eq] at o
    obtain ⟨⟨⟨o1, o2⟩, o3⟩, o4, o5⟩ := o
    exact ss_apph F h.1.2 o1 o3 hl (mE_plain h.2).1 (soundE a F h.2 o4).1 o5
  | .upd i p (.ext a) kl, own, vw, fr, X, st, F, B, h, o => by
    simp only [mS] at h
    split at h
    rotate_left
    · cases h
    rename_i e sp hs
    obtain rfl := asExpr_eq hs
    split at h
    rotate_left
    · cases h
    rename_i ob m x hm
    obtain ⟨ap, cp, rfl, hl⟩ := asMeth1_eq hm
    simp only [Bool.and_eq_true] at h
    obtain rfl := strEq_eq h.1.1
    simp only [okS, Bool.and_eq_true, List.all_eq_true, List.contains_eq_mem, decide_eq_true_eq] at o
    obtain ⟨⟨⟨o1, o2⟩, o3⟩, ⟨o4, o5⟩, o6⟩ := o
    exact ss_ext F h.1.2 o2 o1 o3 hl (mE_plain h.2).1 (soundE a F h.2 o4).1 o5 (by simpa using o6)
  | .upd i p .clr kl, own, vw, fr, X, st, F, B, h, o => by
    simp only [mS] at h
    split at h
    rotate_left
    · cases h
    rename_i e sp hs
    obtain rfl := asExpr_eq hs
    split at h
    rotate_left
    · cases h
    rename_i ob m hm
    obtain ⟨ap, cp, rfl, hl⟩ := asMeth0_eq hm
    simp only [Bool.and_eq_true] at h
    obtain rfl := strEq_eq h.1
    simp only [okS, Bool.and_eq_true, List.all_eq_true, List.contains_eq_mem, decide_eq_true_eq] at o
    obtain ⟨⟨⟨o1, o2⟩, o3⟩, _⟩ := o
    exact ss_clr F h.2 o2 o1 o3 hl
  | .upd i p (.set j a) kl, own, vw, fr, X, st, F, B, h, o => by
    simp only [mS] at h
    split at h
    rotate_left
    · cases h
    rename_i t x sp hs
    obtain rfl := asAsg_eq hs
    split at h
    rotate_left
    · cases h
    rename_i ob ix hm
    obtain ⟨tp, rfl⟩ := asSub_eq hm
    simp only [Bool.and_eq_true] at h
    simp only [okS, Bool.and_eq_true, List.all_eq_true, List.contains_eq_mem, decide_eq_true_eq, Bool.not_eq_true'] at o
    obtain ⟨⟨⟨o1, o2⟩, o3⟩, ⟨⟨o4, o5⟩, o6⟩, o7⟩ := o
    have pl := (mE_plain h.1.2).1
    refine ss_sub F h.1.1 o2 o1 o3 pl (soundE a F h.2 o5).1 (soundE j F h.1.2 o4).1 o6 o7 (fun v => ?_) ?_ ?_
    · cases ix <;> first | rfl | (simp [plainX] at pl; done)
    · cases x <;> rfl
    · cases x <;> rfl
  | .upd i p (.aug op j a) kl, own, vw, fr, X, st, F, B, h, o => by
    simp only [mS] at h
    split at h
    rotate_left
    · cases h
    rename_i t op' x hs
    obtain ⟨sp, rfl⟩ := asAug_eq hs
    split at h
    rotate_left
    · cases h
    rename_i ob ix hm
    obtain ⟨tp, rfl⟩ := asSub_eq hm
    simp only [Bool.and_eq_true] at h
    obtain ⟨⟨⟨h1, h2⟩, h3⟩, h4⟩ := h
    obtain rfl := op_eq h1
    simp only [okS, Bool.and_eq_true, List.all_eq_true, List.contains_eq_mem, decide_eq_true_eq, Bool.not_eq_true'] at o
    obtain ⟨⟨⟨o1, o2⟩, o3⟩, ⟨⟨⟨o4, o5⟩, o6⟩, o7⟩, o8⟩ := o
    have pl := (mE_plain h3).1
    refine ss_subaug F h2 o2 o1 o3 pl (soundE a F h4 o5).1 (soundE j F h3 o4).1 o6 o7 (by cases op <;> simp [isAddSub] at o8 <;> simp) (fun ov iv new => ?_)
    cases ix <;> first | rfl | (simp [plainX] at pl; done)
  | .upd i p .rvs kl, own, vw, fr, X, st, F, B, h, o => by
    simp only [mS] at h
    split at h
    rotate_left
    · cases h
    rename_i e sp hs
    obtain rfl := asExpr_eq hs
    split at h
    rotate_left
    · cases h
    rename_i ob m hm
    obtain ⟨ap, cp, rfl, hl⟩ := asMeth0_eq hm
    simp only [Bool.and_eq_true] at h
    obtain rfl := strEq_eq h.1
    simp only [okS, Bool.and_eq_true, List.all_eq_true, List.contains_eq_mem, decide_eq_true_eq] at o
    obtain ⟨⟨⟨o1, o2⟩, o3⟩, _⟩ := o
    exact ss_rvs F h.2 o2 o1 o3 hl
  | .upd i p (.ins j a) kl, own, vw, fr, X, st, F, B, h, o => by
    simp only [mS] at h
    split at h
    rotate_left
    · cases h
    rename_i e sp hs
    obtain rfl := asExpr_eq hs
    split at h
    rotate_left
    · cases h
    rename_i ob m x y hm
    obtain ⟨ap, cp, rfl, hl⟩ := asMeth_eq hm
    simp only [Bool.and_eq_true, List.isEmpty_iff] at h
    obtain ⟨⟨⟨⟨h1, h2⟩, h3⟩, h4⟩, h5⟩ := h
    subst h5
    obtain rfl := strEq_eq h1
    simp only [okS, Bool.and_eq_true, List.all_eq_true, List.contains_eq_mem, decide_eq_true_eq] at o
    obtain ⟨⟨⟨o1, o2⟩, o3⟩, ⟨o4, o5⟩, o6⟩ := o
    exact ss_ins F h2 o1 o3 hl (mE_plain h3).1 (mE_plain h4).1 (soundE j F h3 o4).1 (soundE a F h4 o5).1
  | .upd i p (.fset f a) kl, own, vw, fr, X, st, F, B, h, o => by
    simp only [mS] at h
    split at h
    rotate_left
    · cases h
    rename_i t x sp hs
    obtain rfl := asAsg_eq hs
    split at h
    rotate_left
    · cases h
    rename_i ob y hm
    obtain ⟨tp, rfl⟩ := asFld_eq hm
    simp only [Bool.and_eq_true] at h
    obtain ⟨⟨⟨h1, h2⟩, h3⟩, h4⟩ := h
    obtain rfl := strEq_eq h1
    simp only [okS, Bool.and_eq_true, List.all_eq_true, List.contains_eq_mem, decide_eq_true_eq] at o
    obtain ⟨⟨⟨o1, o2⟩, o3⟩, o4, o5⟩ := o
    exact ss_fset F h3 o2 o1 o3 h2 (soundE a F h4 o4).1 o5
  | .upd i p (.dset j a) kl, own, vw, fr, X, st, F, B, h, o => by
    simp only [mS] at h
    split at h
    rotate_left
    · cases h
    rename_i t x sp hs
    obtain rfl := asAsg_eq hs
    split at h
    rotate_left
    · cases h
    rename_i ob ix hm
    obtain ⟨tp, rfl⟩ := asSub_eq hm
    simp only [Bool.and_eq_true] at h
    simp only [okS, Bool.and_eq_true, List.all_eq_true, List.contains_eq_mem, decide_eq_true_eq, Bool.not_eq_true'] at o
    obtain ⟨⟨⟨o1, o2⟩, o3⟩, ⟨o4, o5⟩, o6⟩ := o
    exact ss_dset F h.1.1 o2 o1 o3 (soundE a F h.2 o5).1 (soundE j F h.1.2 o4).1 o6
  | .upd i p (.faug _ _ _) kl, own, vw, fr, X, st, F, B, h, o => by simp [mS] at h
  | .upx i ks c kl, own, vw, fr, X, st, F, B, h, o => by
    simp only [mS] at h
    split at h
    rotate_left
    · cases h
    rename_i e sp hs
    obtain rfl := asExpr_eq hs
    split at h
    rotate_left
    · cases h
    rename_i ob m x hm
    obtain ⟨ap, cp, rfl, hl⟩ := asMeth1_eq hm
    simp only [Bool.and_eq_true] at h
    obtain ⟨⟨h1, h2⟩, h3⟩ := h
    have := strEq_eq h1
    subst this
    simp only [okS, Bool.and_eq_true, List.all_eq_true, List.contains_eq_mem, decide_eq_true_eq] at o
    exact ss_upx F h2 h3 o.2 o.1.1 o.1.2 hl
  | .fap i kk j c kl, own, vw, fr, X, st, F, B, h, o => by
    simp only [mS] at h
    split at h
    rotate_left
    · cases h
    rename_i t it b hs
    obtain ⟨fp, rfl⟩ := asFor_eq hs
    split at h
    rotate_left
    · cases h
    rename_i y e sp hy he
    obtain ⟨py, rfl⟩ := asName_eq hy
    obtain rfl := asExpr_eq he
    split at h
    rotate_left
    · cases h
    rename_i ob m x hm
    obtain ⟨ap, cp, rfl, hl⟩ := asMeth1_eq hm
    split at h
    rotate_left
    · cases h
    rename_i y2 hy2
    obtain ⟨py2, rfl⟩ := asName_eq hy2
    simp only [Bool.and_eq_true, Bool.not_eq_true'] at h
    obtain ⟨⟨⟨⟨⟨⟨⟨⟨h1, h2⟩, h3⟩, h4⟩, h5⟩, h6⟩, h7⟩, h8⟩, h9⟩ := h
    have e1 := strEq_eq h1
    have e2 := strEq_eq h2
    subst e1; subst e2
    simp only [okS, Bool.and_eq_true, List.all_eq_true, List.contains_eq_mem, decide_eq_true_eq, Bool.not_eq_true', decide_eq_false_iff_not, beq_eq_false_iff_ne] at o
    obtain ⟨⟨⟨⟨⟨o1, o2⟩, o3⟩, o4⟩, o5⟩, o6⟩ := o
    exact ss_fap F B.po h8 h9 o5 o6 (nameAt_eq h3) (locB_eq h4) (.inl (B.fn _)) (visB_eq h5) h6 (F.fxn h7) o3 o2 o1 o4 hl
  | .fst x i j l b kl, own, vw, fr, X, st, F, B, h, o => by
    simp only [mS] at h
    split at h
    rotate_left
    · cases h
    rename_i t it bs hs
    obtain ⟨fp, rfl⟩ := asFor_eq hs
    split at h
    rotate_left
    · cases h
    rename_i tes z a eb tt xx sp htup hcall hasg
    obtain ⟨kt, pt, rfl⟩ := asTup_eq htup
    obtain ⟨v, wss, p, q, hvs, rfl⟩ := asCall_eq hcall
    obtain rfl := asAsg_eq hasg
    simp only [List.cons.injEq] at hvs
    obtain ⟨rfl, rfl⟩ := hvs
    split at h
    rotate_left
    · cases h
    rename_i ob ix hsub
    obtain ⟨tp, rfl⟩ := asSub_eq hsub
    split at h
    rotate_left
    · cases h
    rename_i nl nx ni nj ha ho hi hj
    obtain ⟨p1, rfl⟩ := asName_eq ha
    obtain ⟨p2, rfl⟩ := asName_eq ho
    obtain ⟨p3, rfl⟩ := asName_eq hi
    obtain ⟨p4, rfl⟩ := asName_eq hj
    simp only [Bool.and_eq_true] at h
    obtain ⟨⟨⟨⟨⟨⟨⟨⟨⟨⟨⟨⟨⟨⟨⟨h1, h2⟩, h3⟩, h4⟩, h5⟩, h6⟩, h7⟩, h8⟩, h9⟩, h10⟩, h11⟩, h12⟩, h13⟩, h14⟩, h15⟩, h16⟩ := h
    have e1 := strEq_eq h2
    subst e1
    simp only [okS, Bool.and_eq_true, List.all_eq_true, List.contains_eq_mem, decide_eq_true_eq, Bool.not_eq_true', decide_eq_false_iff_not, beq_eq_false_iff_ne] at o
    obtain ⟨⟨⟨⟨⟨⟨⟨⟨⟨⟨⟨o1, o2⟩, o3⟩, o4⟩, o5⟩, o6⟩, o7⟩, o8⟩, o9⟩, o10⟩, o11⟩, o12⟩ := o
    exact ss_fst F B.po B.st h1 ⟨_, _, _, rfl⟩ h3 (mE_plain h7).1 (soundE b F h7 o9).1 o10 o11 (nameAt_eq h8) (visB_eq h9) h10 (nameAt_eq h11) (visB_eq h12) h13 (nameAt_eq h14) (visB_eq h15) h16 (nameAt_eq h4) (visB_eq h5) h6 (mT_fx F h1 i (by simp [tgs, tgsL])) (mT_fx F h1 j (by simp [tgs, tgsL])) o5 o6 o7 o8 o3 o4 o1 o2 o12
  | .aug i op a, own, vw, fr, X, st, F, B, h, o => by
    simp only [mS] at h
    split at h
    rotate_left
    · cases h
    rename_i t op' x hs
    obtain ⟨sp, rfl⟩ := asAug_eq hs
    simp only [Bool.and_eq_true] at h
    obtain ⟨⟨h1, h2⟩, h3⟩ := h
    obtain rfl := op_eq h1
    split at h2
    rotate_left
    · cases h2
    rename_i y hy
    obtain ⟨p, rfl⟩ := asName_eq hy
    simp only [Bool.and_eq_true, Bool.not_eq_true'] at h2
    simp only [okS, Bool.and_eq_true] at o
    exact ss_aug F (nameAt_eq h2.1.1) (B.st y h2.1.2).1 (B.st y h2.1.2).2 (soundE a F h3 o.1).1 (by have := o.2; cases op <;> simp [isAddSub] at this <;> simp) (F.fxn h2.2)
  | .ex a, own, vw, fr, X, st, F, B, h, o => by
    simp only [mS] at h
    split at h
    rotate_left
    · cases h
    rename_i x sp hs
    obtain rfl := asExpr_eq hs
    simp only [Bool.and_eq_true] at h
    exact ss_ex (soundE a F h.2 (by simpa only [okS] using o)).1 (swaps_no h.1)
  | .ifs c a b, own, vw, fr, X, st, F, B, h, o => by
    simp only [mS] at h
    split at h
    rotate_left
    · cases h
    rename_i x xs ys hs
    obtain ⟨sp, rfl⟩ := asIf_eq hs
    simp only [Bool.and_eq_true] at h
    simp only [okS, Bool.and_eq_true] at o
    exact ss_if (soundE c F h.1.1 o.1.1).2 (soundSs a F B h.1.2 o.1.2) (soundSs b F B h.2 o.2)
  | .for tg it b, own, vw, fr, X, st, F, B, h, o => by
    simp only [mS] at h
    split at h
    rotate_left
    · cases h
    rename_i t x bs hs
    obtain ⟨sp, rfl⟩ := asFor_eq hs
    simp only [Bool.and_eq_true] at h
    obtain ⟨⟨⟨h1, h2⟩, h3⟩, h4⟩ := h
    simp only [okS, Bool.and_eq_true, decide_eq_true_eq] at o
    obtain ⟨⟨⟨⟨o1, o2⟩, o3⟩, o4⟩, o5⟩ := o
    refine ss_for (fz := frI C.sigs it || shI C.sigs (own ++ vw) it) F B.po B.st h1 o3 (mT_lt h1).1 (fun i hi => ?_) h3 (soundI it F h2 o1) (soundSs b F B h4 o2) (fun z => by simpa using z) fun z => ?_
    · have := List.all_eq_true.mp o4 i hi
      simpa using this
    · rw [z] at o5
      simp only [Bool.false_or, Bool.and_eq_true, Bool.not_eq_true'] at o5
      refine ⟨o5.1, fun i hi => ?_⟩
      have := List.all_eq_true.mp o5.2 i hi
      simpa using this
  | .whl c b, own, vw, fr, X, st, F, B, h, o => by
    simp only [mS] at h
    split at h
    rotate_left
    · cases h
    rename_i x bs hs
    obtain ⟨sp, rfl⟩ := asWhl_eq hs
    simp only [Bool.and_eq_true] at h
    simp only [okS, Bool.and_eq_true] at o
    exact ss_whl B.po (soundE c F h.1 o.1).2 (soundSs b F B h.2 o.2)
  | .ret a, own, vw, fr, X, st, F, B, h, o => by
    simp only [mS] at h
    split at h
    rotate_left
    · cases h
    rename_i x hs
    obtain ⟨sp, rfl⟩ := asRet_eq hs
    simp only [okS, Bool.and_eq_true] at o
    exact ss_ret (soundE a F h o.1).1 (fun z => by have := o.2; rw [z] at this; simpa using this)
  | .retN, own, vw, fr, X, st, F, B, h, o => by
    simp only [mS] at h
    unfold isRetN at h
    split at h
    · exact ss_retN
    · cases h
  | .brk, own, vw, fr, X, st, F, B, h, o => by
    simp only [mS] at h
    unfold isBrk at h
    split at h
    · exact ss_brk
    · cases h
  | .cnt, own, vw, fr, X, st, F, B, h, o => by
    simp only [mS] at h
    unfold isCnt at h
    split at h
    · exact ss_cnt
    · cases h
  | .pas, own, vw, fr, X, st, F, B, h, o => by
    simp only [mS] at h
    unfold isPas at h
    split at h
    · exact ss_pas ps_pass
    · exact ss_pas ps_doc
    · cases h
  | .rai c kp es, own, vw, fr, X, st, F, B, h, o => by
    simp only [mS] at h
    split at h
    rotate_left
    · cases h
    rename_i x args hs
    obtain ⟨p, pos, pos2, rfl⟩ := asRaise_eq hs
    simp only [Bool.and_eq_true] at h
    obtain ⟨⟨⟨h1, h2⟩, h3⟩, h4⟩ := h
    have := strEq_eq h1
    subst this
    simp only [okS, Bool.and_eq_true] at o
    split at h4
    · simp only [Bool.and_eq_true] at h4
      obtain ⟨m, j, p2, rfl⟩ := isStrC_eq h4.2
      exact ss_rai0 F (hasX_eq h4.1) (gloB_eq h2) h3
    · simp only [Bool.and_eq_true] at h4
      have pl := mL_plain h4.2
      exact ss_rai1 F (hasX_eq h4.1) (gloB_eq h2) h3 (by simpa using pl) ((soundL _ F h4.2 o.1).sl pl) (fun z => by have := o.2; rw [z] at this; simpa using this)
    · cases h4
  | .calx .ex f es, own, vw, fr, X, st, F, B, h, o => by
    simp only [mS] at h
    split at h
    rotate_left
    · cases h
    rename_i x sp hs
    obtain rfl := asExpr_eq hs
    obtain ⟨y, v, vs, p, q, rfl, k1, k2, k3, k4, k5⟩ := mCalx_eq h
    simp only [okS, Bool.and_eq_true] at o
    obtain ⟨fr, hsg, _⟩ := okCalx_eq (g := fun _ => true) o.2
    exact ss_calE F k1 k2 hsg k3 k4 (mL_plain k5) ((soundL es F k5 o.1).sl (mL_plain k5))
  | .calx (.asg i) f es, own, vw, fr, X, st, F, B, h, o => by
    simp only [mS] at h
    split at h
    rotate_left
    · cases h
    rename_i t x sp hs
    obtain rfl := asAsg_eq hs
    simp only [Bool.and_eq_true] at h
    obtain ⟨z, pz, rfl, n1, n2, n3, n4⟩ := mTo_eq B h.1
    obtain ⟨y, v, vs, p, q, rfl, k1, k2, k3, k4, k5⟩ := mCalx_eq h.2
    simp only [okS, Bool.and_eq_true] at o
    obtain ⟨fr, hsg, hk⟩ := okCalx_eq (g := fun fr => kOk own vw fr fr i) o.2
    exact ss_calA F k1 k2 hsg k3 k4 (mL_plain k5) ((soundL es F k5 o.1).sl (mL_plain k5)) n1 n2 n3 hk (F.fxn n4)
  | .calx (.tgt tg) f es, own, vw, fr, X, st, F, B, h, o => by
    simp only [mS] at h
    split at h
    rotate_left
    · cases h
    rename_i t x sp hs
    obtain rfl := asAsg_eq hs
    simp only [Bool.and_eq_true, Bool.not_eq_true'] at h
    obtain ⟨⟨⟨h1, h2⟩, h3⟩, h4⟩ := h
    obtain ⟨l1, l2⟩ := mT_lt h1
    obtain ⟨y, v, vs, p, q, rfl, k1, k2, k3, k4, k5⟩ := mCalx_eq h2
    simp only [okS, Bool.and_eq_true] at o
    obtain ⟨fr, hsg, hk⟩ := okCalx_eq (g := fun fr => (tgs tg).all (kOk own vw fr fr) && decide (tgs tg).Nodup) o.2
    simp only [Bool.and_eq_true, decide_eq_true_eq, List.all_eq_true] at hk
    have w1 : swapsWithSole [t] (.Call (.Name y p) (v :: vs) [] q) sp.line X.env = pure false := swaps_no (t := some t) (l := sp.line) (env := X.env) h3
    refine ss_calT F k1 k2 hsg k3 k4 (mL_plain k5) ((soundL es F k5 o.1).sl (mL_plain k5)) B.st h1 hk.1 hk.2 l1 w1 (stores_no h4 l2) ?_
    rcases l2 with l2 | ⟨y, p, rfl⟩
    · cases t <;> first | rfl | (simp [isTupX] at l2; done)
    · rfl
  | .calx (.ixk i kk) f es, own, vw, fr, X, st, F, B, h, o => by
    simp only [mS] at h
    split at h
    rotate_left
    · cases h
    rename_i t x sp hs
    obtain rfl := asAsg_eq hs
    simp only [Bool.and_eq_true] at h
    obtain ⟨h1, h2⟩ := h
    split at h2
    rotate_left
    · cases h2
    rename_i ob ix hm
    obtain ⟨tp, rfl⟩ := asSub_eq hm
    simp only [Bool.and_eq_true] at h2
    obtain ⟨z, pz, rfl, n1, n2, n3, n4⟩ := mTo_eq B h1
    obtain ⟨y, v, vs, p, q, rfl, k1, k2, k3, k4, k5⟩ := mCalx_eq h2.1
    simp only [okS, Bool.and_eq_true] at o
    obtain ⟨fr, hsg, _⟩ := okCalx_eq (g := fun _ => true) o.2
    exact ss_calI F k1 k2 hsg k3 k4 (mL_plain k5) ((soundL es F k5 o.1).sl (mL_plain k5)) n1 n2 n3 (F.fxn n4) (mE_plain h2.2).1 (soundE (.c (.int kk)) F h2.2 rfl).1
  | .tryc b c hd, own, vw, fr, X, st, F, B, h, o => by
    simp only [mS] at h
    split at h
    rotate_left
    · cases h
    rename_i body x on s0 hs
    obtain ⟨np, pos', pos, rfl⟩ := asTry_eq hs
    simp only [Bool.and_eq_true] at h
    obtain ⟨⟨⟨⟨h1, h2⟩, h3⟩, h4⟩, h5⟩ := h
    have := strEq_eq h1
    subst this
    simp only [okS] at o
    have hb : ∀ pn xe, PassesOwn (model X.prog X.w) X.A X.env xe → SS C (X.tr pn xe) own vw fr (ioSs b) (evSs Φ b) (WSs (X.tr pn xe) body) := fun pn xe po => soundSs b (F.tr pn xe) (B.tr po) h4 o
    split at h5
    rotate_left
    · cases h5
    rename_i t e sp has
    obtain rfl := asAsg_eq has
    split at h5
    · simp only [Bool.and_eq_true] at h5
      obtain ⟨⟨g1, g2⟩, g3⟩ := h5
      obtain ⟨z, pz, rfl, n1, n2, n3, n4⟩ := mTo_eq B g1
      obtain ⟨jj, pc, rfl⟩ := isNonC_eq g2
      exact ss_tryN F B.sk B.ef ((Bool.or_eq_true_iff.mp g3).imp hasX_eq hasX_eq) (gloB_eq h2) h3 hb n1 n2 n3 (F.fxn n4)
    · simp only [Bool.and_eq_true, Bool.not_eq_true', beq_eq_false_iff_ne] at h5
      obtain ⟨⟨⟨⟨⟨⟨⟨⟨g1, g2⟩, g3⟩, g4⟩, g5⟩, g6⟩, g7⟩, g8⟩, g9⟩ := h5
      obtain ⟨z, pz, rfl, n1, n2, n3, n4⟩ := mTo_eq B g1
      split at g2
      rotate_left
      · cases g2
      rename_i ob g hfl
      obtain ⟨pa, rfl⟩ := asFld_eq hfl
      split at g2
      rotate_left
      · cases g2
      rename_i n2' hnm
      obtain ⟨pn0, rfl⟩ := asName_eq hnm
      simp only [Bool.and_eq_true] at g2
      have e1 := strEq_eq g2.1
      have e2 := strEq_eq g2.2
      subst e1; subst e2
      exact ss_tryF F B.sk B.ef (hasX_eq g9) (gloB_eq h2) h3 hb n1 n2 n3 (F.fxn n4) (nameAt_eq g3) (isLoc_eq g4) g5 (F.fxn g6) g7 (strEq_eq g8)
    · simp only [Bool.and_eq_true, Bool.not_eq_true', beq_eq_false_iff_ne] at h5
      obtain ⟨g1, g2, g3, g4, g5, g6, g7, g8, g9⟩ := h5
      obtain ⟨z, pz, rfl, n1, n2, n3, n4⟩ := mTo_eq B g1
      split at g2
      rotate_left
      · cases g2
      rename_i n2' hnm
      obtain ⟨pn0, rfl⟩ := asName_eq hnm
      have := strEq_eq g2
      subst this
      exact ss_tryK F g8 B.sk B.ef ((Bool.or_eq_true_iff.mp g9).imp hasX_eq hasX_eq) (gloB_eq h2) h3 hb n1 n2 n3 (F.fxn n4) (nameAt_eq g3) (isLoc_eq g4) g5 (F.fxn g6) g7
    · cases h5
theorem soundSs : ∀ (ss : DSs) {own vw : List Nat} {fr : Bool} {X : Cx} {sts : List Stmt}, Fx C Φ k X → Bd X → mSs C X.env.scope ss sts = true → okSs C.sigs own vw fr ss = true → SS C X own vw fr (ioSs ss) (evSs Φ ss) (WSs X sts)
  | .blk i ss, own, vw, fr, X, sts, F, B, h, o => by
    have h : (!C.fx.contains i && mSs C X.env.scope ss sts) = true := by
      cases sts <;> simpa only [mSs] using h
    simp only [Bool.and_eq_true, Bool.not_eq_true'] at h
    simp only [okSs, Bool.and_eq_true, Bool.not_eq_true', List.contains_eq_mem, decide_eq_false_iff_not] at o
    exact ss_blk o.1 (F.fxn h.1) (soundSs ss F B h.2 o.2)
  | .alb i j a b ss, own, vw, fr, X, [], F, B, h, o => by simp [mSs] at h
  | .alb i j a b ss, own, vw, fr, X, [_], F, B, h, o => by simp [mSs] at h
  | .alb i j a b ss, own, vw, fr, X, [_, _], F, B, h, o => by simp [mSs] at h
  | .alb i j a b ss, own, vw, fr, X, st0 :: st1 :: st2 :: sts, F, B, h, o => by
    simp only [mSs, Bool.and_eq_true] at h
    obtain ⟨⟨⟨h0, h1⟩, h2⟩, h3⟩ := h
    simp only [okSs, Bool.and_eq_true, Bool.not_eq_true', List.contains_eq_mem, decide_eq_true_eq, beq_eq_false_iff_ne] at o
    obtain ⟨⟨⟨⟨⟨o1, o2⟩, o3⟩, o4⟩, o5⟩, o6⟩ := o
    unfold mAl at h0
    split at h0
    rotate_left
    · cases h0
    rename_i t x sp hs
    obtain rfl := asAsg_eq hs
    simp only [Bool.and_eq_true] at h0
    obtain ⟨g1, g2⟩ := h0
    split at g2
    rotate_left
    · cases g2
    rename_i y hy
    obtain ⟨py, rfl⟩ := asName_eq hy
    simp only [Bool.and_eq_true] at g2
    obtain ⟨z, pz, rfl, n1, n2, n3, n4⟩ := mTo_eq B g1
    exact ss_alb F n1 n2 n3 (F.fxn n4) (nameAt_eq g2.1.1) (visB_eq g2.1.2) g2.2 o1 o2 o3 (soundS a F B h1 o4) (soundS b F B h2 o5) (soundSs ss F B h3 o6)
  | .nil, own, vw, fr, X, [], F, B, h, o => WSs.of_nil
  | .nil, own, vw, fr, X, _ :: _, F, B, h, o => by simp [mSs] at h
  | .cons s ss, own, vw, fr, X, [], F, B, h, o => by simp [mSs] at h
  | .cons s ss, own, vw, fr, X, st :: sts, F, B, h, o => by
    simp only [mSs, Bool.and_eq_true] at h
    simp only [okSs, Bool.and_eq_true] at o
    exact ss_cons (soundS s F B h.1 o.1) (soundSs ss F B h.2 o.2)
end
end
end Cy
end
section
set_option Elab.async false
set_option linter.all false
set_option autoImplicit false
set_option maxRecDepth 100000
namespace Cy
open PySem
/-- a def of np parameters -/
noncomputable def runP (Φ : Nat → Fn) (np : Nat) (f : Df) : Fn := fun ds => if ds.length = np then run Φ f ds else none
/-- meanings by number -/
def ph (l : List Fn) : Nat → Fn := fun i => l.getD i (fun _ => none)
section
variable {c : En → Option (Rs D)} {body : En → Option (Rs Ou)}
end

section
variable {bt : D → En → Option En} {body : En → Option (Rs Ou)}
theorem forL_nx {x : D} {xs : List D} {e e1 e2 : En} (h : bt x e = some e1) (hb : body e1 = some (.ok .nx e2)) : forL bt body (x :: xs) e = forL bt body xs e2 := by
  simp only [forL, h, hb]
end
/-- numbers one by one -/
theorem rangeL_get {n : Nat} {i : Nat} (hi : i < ((rangeL 0 (n : Int)).map D.int).length) : ((rangeL 0 (n : Int)).map D.int)[i] = .int (i : Int) := by
  simp [rangeL]
theorem rangeL_length (n : Nat) : ((rangeL 0 (n : Int)).map D.int).length = n := by simp [rangeL]
/-- a comprehension without tests -/
theorem compL_map {bt : D → Option En} {tst : En → Option (Rs Bool)} {elt : En → Option (Rs D)} {f : D → D} : ∀ {xs : List D}, (∀ x ∈ xs, ∃ e, bt x = some e ∧ (∃ e1, tst e = some (.ok true e1) ∧ ∃ e2, elt e1 = some (.ok (f x) e2))) → xs.length ≤ LMX → compL bt tst elt xs = some (xs.map f)
  | [], _, _ => rfl
  | x :: xs, h, hl => by
    obtain ⟨e, h1, e1, h2, e2, h3⟩ := h x (List.mem_cons_self ..)
    have ih := compL_map (f := f) (fun y hy => h y (List.mem_cons_of_mem _ hy)) (Nat.le_of_succ_le hl)
    simp only [compL, h1, h2, h3, ih, Option.bind_some, List.length_map]
    rw [if_pos (Nat.lt_of_succ_le (by simpa using hl))]; rfl
set_option exponentiation.threshold 100 in
theorem lt_BIG {n k : Nat} (h : n < 2 ^ k) (hk : k ≤ 1000000) : n < BIG := Nat.lt_of_lt_of_le h (Nat.pow_le_pow_right (by decide) hk)
theorem lt_DVB {n k : Nat} (h : n < 2 ^ k) (hk : k ≤ 8000) : n < DVB := Nat.lt_of_lt_of_le h (Nat.pow_le_pow_right (by decide) hk)
noncomputable def wl (Φ : Nat → Fn) (c : DE) (b : DSs) (e : En) : Option (Rs Ou) := wh (fun e1 => ev Φ c e1) (fun e1 => evSs Φ b e1) e
noncomputable def fr (Φ : Nat → Fn) (tg : Tg) (b : DSs) (xs : List D) (e : En) : Option (Rs Ou) := forL (fun x e2 => bindT tg x e2) (fun e2 => evSs Φ b e2) xs e
def cp (Φ : Nat → Fn) (elt : DE) (tg : Tg) (ifs : DEs) (os : List Nat) (xs : List D) (e1 : En) : Option (List D) := compL (fun x => bindT tg x (wipeE os e1)) (fun e2 => evTs Φ ifs e2) (fun e2 => ev Φ elt e2) xs
def cl (r : Option Fr) (e : En) : Option (Rs D) := match r with
  | some (.ret d []) => some (.ok d e)
  | _ => none
def gd {α : Type} (c : Bool) (r : Option α) : Option α := if c = true then none else r
def om {α β : Type} (o : Option α) (f : α → β) : Option β := o.map f
def gv (v : Option (Option D)) (e : En) : Option (Rs D) := match v with | some (some d) => some (.ok d e) | _ => none
def gm (v : Option (Option D)) (e : En) : Option (Rs D) := gv v e
def fnl (io : List Nat) (r : Option (Rs Ou)) : Option Fr := match r with
  | some (.ok (.rt d) e) => (iosOf io e).map (Fr.ret d)
  | some (.ok .nx e) => (iosOf io e).map (Fr.ret .non)
  | some (.ok (.xn c x) e) => (iosOf io e).map (Fr.exn c x)
  | _ => none
def fApp (d t : D) : Option D := match t with | .lst xs => if xs.length < LMX then some (.lst (xs ++ [d])) else none | _ => none
def fExt (d t : D) : Option D := match t, d with | .lst xs, .lst ys => if xs.length + ys.length ≤ LMX then some (.lst (xs ++ ys)) else none | _, _ => none
def fSet (k d t : D) : Option D := setD t k d
def fAug (b : BO) (k d t : D) : Option D := (ixD t k).bind fun x => (binD b x d).bind fun y => setD t k y
def fClr (t : D) : Option D := match t with | .lst _ => some (.lst []) | _ => none
def xSet (i : Nat) (e : En) (z : Option D) : Option (Rs Ou) := z.map fun z => .ok .nx (e.set i (some z))
def xUpd (i : Nat) (kl : List Nat) (e : En) (z : Option D) : Option (Rs Ou) := z.map fun d' => .ok .nx (kil kl (e.set i (some d')))
section
variable (Φ : Nat → Fn)

def xPur  (r : Option (Rs D)) : Option (Rs D) := bd r fun d e1 => if pureD d = true then some (.ok d e1) else none
def xBin (Φ : Nat → Fn) (o : BO) (b : DE) (r : Option (Rs D)) : Option (Rs D) := bd r fun x e1 => if (ioE b && !pureD x) = true then none else bd (ev Φ b e1) fun y e2 => lf (binD o x y) e2
def xBin2 (o : BO) (x : D) (r : Option (Rs D)) : Option (Rs D) := bd r fun y e2 => lf (binD o x y) e2
def xNeg  (r : Option (Rs D)) : Option (Rs D) := bd r fun x e1 => match x with | .int i => some (.ok (.int (-i)) e1) | _ => none
def xCmp (Φ : Nat → Fn) (o : CO) (b : DE) (r : Option (Rs D)) : Option (Rs D) := bd r fun x e1 => if (ioE b && !pureD x) = true then none else bd (ev Φ b e1) fun y e2 => lf ((cmpD o x y).map D.bl) e2
def xCmp2 (o : CO) (x : D) (r : Option (Rs D)) : Option (Rs D) := bd r fun y e2 => lf ((cmpD o x y).map D.bl) e2
def xChn (Φ : Nat → Fn) (o o' : CO) (b c : DE) (r : Option (Rs D)) : Option (Rs D) := bd r fun x e1 => if ((ioE b || ioE c) && !pureD x) = true then none else bd (ev Φ b e1) fun y e2 =>
      (match cmpD o x y with
      | some true => if (ioE c && !pureD y) = true then none else bd (ev Φ c e2) fun z e3 => lf ((cmpD o' y z).map D.bl) e3
      | some false => some (.ok (.bl false) e2)
      | none => none)
def xChn2 (Φ : Nat → Fn) (o o' : CO) (x : D) (c : DE) (r : Option (Rs D)) : Option (Rs D) := bd r fun y e2 =>
      (match cmpD o x y with
      | some true => if (ioE c && !pureD y) = true then none else bd (ev Φ c e2) fun z e3 => lf ((cmpD o' y z).map D.bl) e3
      | some false => some (.ok (.bl false) e2)
      | none => none)
def xNot  (r : Option (Rs D)) : Option (Rs D) := bd r fun x e1 => match x with | .bl b => some (.ok (.bl (!b)) e1) | _ => none
def xTup  (r : Option (Rs (List D))) : Option (Rs D) := bd r fun ds e1 => if ds.length ≤ LMX then some (.ok (.tup ds) e1) else none
def xLst  (r : Option (Rs (List D))) : Option (Rs D) := bd r fun ds e1 => if ds.length ≤ LMX then some (.ok (.lst ds) e1) else none
def xIx (Φ : Nat → Fn) (i : DE) (r : Option (Rs D)) : Option (Rs D) := bd r fun x e1 => if (ioE i && !pureD x) = true then none else bd (ev Φ i e1) fun y e2 => lf (ixD x y) e2
def xIx2 (x : D) (r : Option (Rs D)) : Option (Rs D) := bd r fun y e2 => lf (ixD x y) e2
def xSl (Φ : Nat → Fn) (lo hi : DO) (r : Option (Rs D)) : Option (Rs D) := bd r fun x e1 => if ((ioP lo || ioP hi) && !pureD x) = true then none else bd (evP Φ lo e1) fun l e2 => bd (evP Φ hi e2) fun h e3 => lf (slD x l h) e3
def xTl4 (x : D) (l h : Option Int) (r : Option (Rs D)) : Option (Rs D) := bd r fun s e4 => (match s with | .int i => lf (slD3 x l h i) e4 | _ => none)
def xTl3 (Φ : Nat → Fn) (x : D) (l : Option Int) (st : DE) (r : Option (Rs (Option Int))) : Option (Rs D) := bd r fun h e3 => xTl4 x l h (ev Φ st e3)
def xTl2 (Φ : Nat → Fn) (x : D) (hi : DO) (st : DE) (r : Option (Rs (Option Int))) : Option (Rs D) := bd r fun l e2 => xTl3 Φ x l st (evP Φ hi e2)
def xTl (Φ : Nat → Fn) (lo hi : DO) (st : DE) (r : Option (Rs D)) : Option (Rs D) := bd r fun x e1 => if ((ioP lo || (ioP hi || ioE st)) && !pureD x) = true then none else xTl2 Φ x hi st (evP Φ lo e1)
theorem EV3 (Φ : Nat → Fn) :
    (∀ (a : DE) (lo hi : DO) (st : DE) (e : En), ev Φ (.sl3 a lo hi st) e = xTl Φ lo hi st (ev Φ a e)) ∧
    (∀ (lo hi : DO) (st : DE) (x : D) (e1 : En), xTl Φ lo hi st (some (.ok x e1)) = if ((ioP lo || (ioP hi || ioE st)) && !pureD x) = true then none else xTl2 Φ x hi st (evP Φ lo e1)) ∧
    (∀ (x : D) (hi : DO) (st : DE) (l : Option Int) (e1 : En), xTl2 Φ x hi st (some (.ok l e1)) = xTl3 Φ x l st (evP Φ hi e1)) ∧
    (∀ (x : D) (l : Option Int) (st : DE) (h : Option Int) (e1 : En), xTl3 Φ x l st (some (.ok h e1)) = xTl4 x l h (ev Φ st e1)) := by
  refine ⟨?_, ?_, ?_, ?_⟩ <;> intros <;> first | rfl | simp only [ev, xTl, xTl2, xTl3, xTl4]
theorem EV4 : ∀ (x : D) (l h : Option Int) (i : Int) (e1 : En), xTl4 x l h (some (.ok (.int i) e1)) = lf (slD3 x l h i) e1 := fun _ _ _ _ _ => rfl
def xSp3 (x : D) (l : Option Int) (r : Option (Rs (Option Int))) : Option (Rs D) := bd r fun h e3 => lf (slDp x l h) e3
def xSp2 (Φ : Nat → Fn) (x : D) (hi : DO) (r : Option (Rs (Option Int))) : Option (Rs D) := bd r fun l e2 => xSp3 x l (evP Φ hi e2)
def xSp (Φ : Nat → Fn) (lo hi : DO) (r : Option (Rs D)) : Option (Rs D) := bd r fun x e1 => if ((ioP lo || ioP hi) && !pureD x) = true then none else xSp2 Φ x hi (evP Φ lo e1)
theorem EV5 (Φ : Nat → Fn) :
    (∀ (a : DE) (lo hi : DO) (e : En), ev Φ (.slp a lo hi) e = xSp Φ lo hi (ev Φ a e)) ∧
    (∀ (lo hi : DO) (x : D) (e1 : En), xSp Φ lo hi (some (.ok x e1)) = if ((ioP lo || ioP hi) && !pureD x) = true then none else xSp2 Φ x hi (evP Φ lo e1)) ∧
    (∀ (x : D) (hi : DO) (l : Option Int) (e1 : En), xSp2 Φ x hi (some (.ok l e1)) = xSp3 x l (evP Φ hi e1)) := by
  refine ⟨?_, ?_, ?_⟩ <;> intros <;> first | rfl | simp only [ev, xSp, xSp2, xSp3]
theorem EV6 : ∀ (x : D) (l h : Option Int) (e1 : En), xSp3 x l (some (.ok h e1)) = lf (slDp x l h) e1 := fun _ _ _ _ => rfl
def xSl2 (Φ : Nat → Fn) (x : D) (hi : DO) (r : Option (Rs (Option Int))) : Option (Rs D) := bd r fun l e2 => bd (evP Φ hi e2) fun h e3 => lf (slD x l h) e3
def xSl3 (x : D) (l : Option Int) (r : Option (Rs (Option Int))) : Option (Rs D) := bd r fun h e3 => lf (slD x l h) e3
def xCall (Φ : Nat → Fn) (f : Nat) (r : Option (Rs (List D))) : Option (Rs D) := bd r fun ds e1 => (match Φ f ds with | some (.ret d []) => some (.ok d e1) | _ => none)
def xBi (b : Bi) (r : Option (Rs (List D))) : Option (Rs D) := bd r fun ds e1 => lf (biD b ds) e1
def xMt (Φ : Nat → Fn) (m : Mt) (es : DEs) (r : Option (Rs D)) : Option (Rs D) := bd r fun x e1 => if (ioL es && !pureD x) = true then none else bd (evL Φ es e1) fun ds e2 => lf (mtD m x ds) e2
def xMt2 (m : Mt) (x : D) (r : Option (Rs (List D))) : Option (Rs D) := bd r fun ds e2 => lf (mtD m x ds) e2
def xComp (Φ : Nat → Fn) (elt : DE) (tg : Tg) (ifs : DEs) (os : List Nat) (r : Option (Rs (List D))) : Option (Rs D) := bd r fun xs e1 => lf ((cp Φ elt tg ifs os xs e1).map D.lst) e1
def xCons (Φ : Nat → Fn) (es : DEs) (r : Option (Rs D)) : Option (Rs (List D)) := bd r fun d e1 => if (ioL es && !pureD d) = true then none else bd (evL Φ es e1) fun ds e2 => some (.ok (d :: ds) e2)
def xCons2 (d : D) (r : Option (Rs (List D))) : Option (Rs (List D)) := bd r fun ds e2 => some (.ok (d :: ds) e2)
def xOne  (r : Option (Rs D)) : Option (Rs D) := bd r fun x e1 => match x with | .bl b => some (.ok (.bl b) e1) | _ => none
def xAnd (Φ : Nat → Fn) (es : DEs) (r : Option (Rs D)) : Option (Rs D) := bd r fun x e1 => match x with | .bl true => evAnd Φ es e1 | .bl false => some (.ok (.bl false) e1) | _ => none
def xOr (Φ : Nat → Fn) (es : DEs) (r : Option (Rs D)) : Option (Rs D) := bd r fun x e1 => match x with | .bl false => evOr Φ es e1 | .bl true => some (.ok (.bl true) e1) | _ => none
def xSo  (r : Option (Rs D)) : Option (Rs (Option Int)) := bd r fun x e1 => match x with | .int i => some (.ok (some i) e1) | _ => none
def xVal  (r : Option (Rs D)) : Option (Rs (List D)) := bd r fun x e1 => lf (itemsD x) e1
def xRng  (r : Option (Rs (List D))) : Option (Rs (List D)) := bd r fun ds e1 => lf ((rngD ds).map fun ns => ns.map D.int) e1
def xRrg  (r : Option (Rs (List D))) : Option (Rs (List D)) := bd r fun ds e1 => (match ds with
      | [.int _] => lf ((rngD ds).map fun ns => (ns.map D.int).reverse) e1
      | [.int _, .int _] => lf ((rngD ds).map fun ns => (ns.map D.int).reverse) e1
      | _ => none)
def xEnu  (r : Option (Rs D)) : Option (Rs (List D)) := bd r fun x e1 => match x with | .lst xs => some (.ok (enumL 0 xs) e1) | .tup xs => some (.ok (enumL 0 xs) e1) | _ => none
def xZip  (r : Option (Rs (List D))) : Option (Rs (List D)) := bd r fun ds e1 => match ds with | [.lst xs, .lst ys] => some (.ok (zipL xs ys) e1) | [.frz xs, .lst ys] => some (.ok (zipL xs ys) e1) | [.tup xs, .tup ys] => some (.ok (zipL xs ys) e1) | _ => none
def xRev  (r : Option (Rs D)) : Option (Rs (List D)) := bd r fun x e1 => match x with | .lst xs => some (.ok xs.reverse e1) | _ => none
def xAc (Φ : Nat → Fn) (p : List Ac) (r : Option (Rs D)) : Option (Rs (List AcV)) := bd r fun d e1 => bd (evAc Φ p e1) fun q e2 => some (.ok (AcV.i d :: q) e2)
def xAc2 (d : D) (r : Option (Rs (List AcV))) : Option (Rs (List AcV)) := bd r fun q e2 => some (.ok (AcV.i d :: q) e2)
def xAsg (tg : Tg) (r : Option (Rs D)) : Option (Rs Ou) := bd r fun d e1 => (bindT tg d e1).map fun e2 => .ok .nx e2
def xPar (Φ : Nat → Fn) (i j : Nat) (b : DE) (r : Option (Rs D)) : Option (Rs Ou) := bd r fun x e1 => if (ioE b && !pureD x) = true then none else bd (ev Φ b e1) fun y e2 => some (.ok .nx ((e2.set i (some x)).set j (some y)))
def xPar2 (i j : Nat) (x : D) (r : Option (Rs D)) : Option (Rs Ou) := bd r fun y e2 => some (.ok .nx ((e2.set i (some x)).set j (some y)))
def xAug (i : Nat) (o : BO) (x : D) (r : Option (Rs D)) : Option (Rs Ou) := bd r fun y e1 => if pureD x = true then (binD o x y).map fun z => .ok .nx (e1.set i (some z)) else none
def xEx  (r : Option (Rs D)) : Option (Rs Ou) := bd r fun _ e1 => some (.ok .nx e1)
noncomputable def xIf (Φ : Nat → Fn) (a b : DSs) (r : Option (Rs D)) : Option (Rs Ou) := bd r fun x e1 => match x with | .bl true => evSs Φ a e1 | .bl false => evSs Φ b e1 | _ => none
noncomputable def xFor (Φ : Nat → Fn) (tg : Tg) (b : DSs) (r : Option (Rs (List D))) : Option (Rs Ou) := bd r fun xs e1 => fr Φ tg b xs e1
def xRet  (r : Option (Rs D)) : Option (Rs Ou) := bd r fun d e1 => some (.ok (.rt d) e1)
def uApp (Φ : Nat → Fn) (i : Nat) (a : DE) (kl : List Nat) (r : Option (Rs (List AcV))) : Option (Rs Ou) := bd r fun q e1 => bd (ev Φ a e1) fun d e2 => updE i q (fApp d) kl e2
def uApp2 (i : Nat) (q : List AcV) (kl : List Nat) (r : Option (Rs D)) : Option (Rs Ou) := bd r fun d e2 => updE i q (fApp d) kl e2
def uExt (Φ : Nat → Fn) (i : Nat) (a : DE) (kl : List Nat) (r : Option (Rs (List AcV))) : Option (Rs Ou) := bd r fun q e1 => bd (ev Φ a e1) fun d e2 => updE i q (fExt d) kl e2
def uExt2 (i : Nat) (q : List AcV) (kl : List Nat) (r : Option (Rs D)) : Option (Rs Ou) := bd r fun d e2 => updE i q (fExt d) kl e2
def uSet (Φ : Nat → Fn) (i : Nat) (p : List Ac) (j : DE) (kl : List Nat) (r : Option (Rs D)) : Option (Rs Ou) := bd r fun d e1 => bd (rcv Φ i p e1) fun q e2 => bd (ev Φ j e2) fun k e3 => updE i q (fSet k d) kl e3
def uSet2 (Φ : Nat → Fn) (i : Nat) (j : DE) (d : D) (kl : List Nat) (r : Option (Rs (List AcV))) : Option (Rs Ou) := bd r fun q e2 => bd (ev Φ j e2) fun k e3 => updE i q (fSet k d) kl e3
def uSet3 (i : Nat) (q : List AcV) (d : D) (kl : List Nat) (r : Option (Rs D)) : Option (Rs Ou) := bd r fun k e3 => updE i q (fSet k d) kl e3
def uAug (Φ : Nat → Fn) (i : Nat) (b : BO) (j a : DE) (kl : List Nat) (r : Option (Rs (List AcV))) : Option (Rs Ou) := bd r fun q e1 => bd (ev Φ j e1) fun k e2 => if (!chkI i q k e2) = true then none else bd (ev Φ a e2) fun d e3 => updE i q (fAug b k d) kl e3
def uAug2 (Φ : Nat → Fn) (i : Nat) (q : List AcV) (b : BO) (a : DE) (kl : List Nat) (r : Option (Rs D)) : Option (Rs Ou) := bd r fun k e2 => if (!chkI i q k e2) = true then none else bd (ev Φ a e2) fun d e3 => updE i q (fAug b k d) kl e3
def uAug3 (i : Nat) (q : List AcV) (b : BO) (k : D) (kl : List Nat) (r : Option (Rs D)) : Option (Rs Ou) := bd r fun d e3 => updE i q (fAug b k d) kl e3
def uClr (i : Nat) (kl : List Nat) (r : Option (Rs (List AcV))) : Option (Rs Ou) := bd r fun q e1 => updE i q fClr kl e1
def xTs (Φ : Nat → Fn) (es : DEs) (r : Option (Rs D)) : Option (Rs Bool) := bd r fun x e1 => match x with | .bl true => evTs Φ es e1 | .bl false => some (.ok false e1) | _ => none
def xChn3 (Φ : Nat → Fn) (o' : CO) (y : D) (c : DE) (e2 : En) (t : Option Bool) : Option (Rs D) := match t with
      | some true => if (ioE c && !pureD y) = true then none else bd (ev Φ c e2) fun z e3 => lf ((cmpD o' y z).map D.bl) e3
      | some false => some (.ok (.bl false) e2)
      | none => none
noncomputable def sq (Φ : Nat → Fn) (ss : DSs) (r : Option (Rs Ou)) : Option (Rs Ou) := match r with
  | some (.ok .nx e1) => evSs Φ ss e1
  | r => r
def xRcv (Φ : Nat → Fn) (i : Nat) (p : List Ac) (e : En) (v : Option (Option D)) : Option (Rs (List AcV)) := match v with
  | some (some d0) => if preOk p d0 = true then bd (evAc Φ p e) fun q e1 => if chkP i q e1 then some (.ok q e1) else none else none
  | _ => none
def xRcv2 (i : Nat) (r : Option (Rs (List AcV))) : Option (Rs (List AcV)) := bd r fun q e1 => if chkP i q e1 then some (.ok q e1) else none
def xUp (i : Nat) (q : List AcV) (f : D → Option D) (kl : List Nat) (e : En) (v : Option (Option D)) : Option (Rs Ou) := match v with
  | some (some d) => (updD q f d).map fun d' => .ok .nx (kil kl (e.set i (some d')))
  | _ => none
def gAug (Φ : Nat → Fn) (i : Nat) (o : BO) (a : DE) (e : En) (v : Option (Option D)) : Option (Rs Ou) := match v with
      | some (some x) => bd (ev Φ a e) fun y e1 => if pureD x = true then (binD o x y).map fun z => .ok .nx (e1.set i (some z)) else none
      | _ => none
end

theorem RC (Φ : Nat → Fn) :
    (∀ (o : BO) (b : DE) (x : D) (e1 : En), xBin Φ o b (some (.ok x e1)) = gd (ioE b && !pureD x) (xBin2 o x (ev Φ b e1))) ∧
    (∀ (o : CO) (b : DE) (x : D) (e1 : En), xCmp Φ o b (some (.ok x e1)) = gd (ioE b && !pureD x) (xCmp2 o x (ev Φ b e1))) ∧
    (∀ (o o' : CO) (b c : DE) (x : D) (e1 : En), xChn Φ o o' b c (some (.ok x e1)) = gd ((ioE b || ioE c) && !pureD x) (xChn2 Φ o o' x c (ev Φ b e1))) ∧
    (∀ (o o' : CO) (x : D) (c : DE) (y : D) (e1 : En), xChn2 Φ o o' x c (some (.ok y e1)) = xChn3 Φ o' y c e1 (cmpD o x y)) ∧
    (∀ (i : DE) (x : D) (e1 : En), xIx Φ i (some (.ok x e1)) = gd (ioE i && !pureD x) (xIx2 x (ev Φ i e1))) ∧
    (∀ (lo hi : DO) (x : D) (e1 : En), xSl Φ lo hi (some (.ok x e1)) = gd ((ioP lo || ioP hi) && !pureD x) (xSl2 Φ x hi (evP Φ lo e1))) ∧
    (∀ (x : D) (hi : DO) (l : Option Int) (e1 : En), xSl2 Φ x hi (some (.ok l e1)) = xSl3 x l (evP Φ hi e1)) ∧
    (∀ (f : Nat) (ds : List D) (e1 : En), xCall Φ f (some (.ok ds e1)) = cl (Φ f ds) e1) ∧
    (∀ (m : Mt) (es : DEs) (x : D) (e1 : En), xMt Φ m es (some (.ok x e1)) = gd (ioL es && !pureD x) (xMt2 m x (evL Φ es e1))) ∧
    (∀ (elt : DE) (tg : Tg) (ifs : DEs) (os : List Nat) (xs : List D) (e1 : En), xComp Φ elt tg ifs os (some (.ok xs e1)) = lf (om (cp Φ elt tg ifs os xs e1) D.lst) e1) ∧
    (∀ (es : DEs) (d : D) (e1 : En), xCons Φ es (some (.ok d e1)) = gd (ioL es && !pureD d) (xCons2 d (evL Φ es e1))) ∧
    (∀ (es : DEs) (e1 : En), xAnd Φ es (some (.ok (.bl true) e1)) = evAnd Φ es e1) ∧
    (∀ (es : DEs) (e1 : En), xAnd Φ es (some (.ok (.bl false) e1)) = some (.ok (.bl false) e1)) ∧
    (∀ (es : DEs) (e1 : En), xOr Φ es (some (.ok (.bl false) e1)) = evOr Φ es e1) ∧
    (∀ (es : DEs) (e1 : En), xOr Φ es (some (.ok (.bl true) e1)) = some (.ok (.bl true) e1)) ∧
    (∀ (p : List Ac) (d : D) (e1 : En), xAc Φ p (some (.ok d e1)) = xAc2 d (evAc Φ p e1)) ∧
    (∀ (i j : Nat) (b : DE) (x : D) (e1 : En), xPar Φ i j b (some (.ok x e1)) = gd (ioE b && !pureD x) (xPar2 i j x (ev Φ b e1))) ∧
    (∀ (a b : DSs) (e1 : En), xIf Φ a b (some (.ok (.bl true) e1)) = evSs Φ a e1) ∧
    (∀ (a b : DSs) (e1 : En), xIf Φ a b (some (.ok (.bl false) e1)) = evSs Φ b e1) ∧
    (∀ (tg : Tg) (b : DSs) (xs : List D) (e1 : En), xFor Φ tg b (some (.ok xs e1)) = fr Φ tg b xs e1) ∧
    (∀ (i : Nat) (a : DE) (kl : List Nat) (q : List AcV) (e1 : En), uApp Φ i a kl (some (.ok q e1)) = uApp2 i q kl (ev Φ a e1)) ∧
    (∀ (i : Nat) (a : DE) (kl : List Nat) (q : List AcV) (e1 : En), uExt Φ i a kl (some (.ok q e1)) = uExt2 i q kl (ev Φ a e1)) ∧
    (∀ (i : Nat) (p : List Ac) (j : DE) (kl : List Nat) (d : D) (e1 : En), uSet Φ i p j kl (some (.ok d e1)) = uSet2 Φ i j d kl (rcv Φ i p e1)) ∧
    (∀ (i : Nat) (j : DE) (d : D) (kl : List Nat) (q : List AcV) (e1 : En), uSet2 Φ i j d kl (some (.ok q e1)) = uSet3 i q d kl (ev Φ j e1)) ∧
    (∀ (i : Nat) (b : BO) (j a : DE) (kl : List Nat) (q : List AcV) (e1 : En), uAug Φ i b j a kl (some (.ok q e1)) = uAug2 Φ i q b a kl (ev Φ j e1)) ∧
    (∀ (i : Nat) (q : List AcV) (b : BO) (a : DE) (kl : List Nat) (k : D) (e1 : En), uAug2 Φ i q b a kl (some (.ok k e1)) = gd (!chkI i q k e1) (uAug3 i q b k kl (ev Φ a e1))) ∧
    (∀ (es : DEs) (e1 : En), xTs Φ es (some (.ok (.bl true) e1)) = evTs Φ es e1) ∧
    (∀ (es : DEs) (e1 : En), xTs Φ es (some (.ok (.bl false) e1)) = some (.ok false e1)) ∧
    (∀ (o' : CO) (y : D) (c : DE) (e2 : En), xChn3 Φ o' y c e2 (some true) = gd (ioE c && !pureD y) (xCmp2 o' y (ev Φ c e2))) ∧
    (∀ (o' : CO) (y : D) (c : DE) (e2 : En), xChn3 Φ o' y c e2 (some false) = some (.ok (.bl false) e2)) ∧
    (∀ (ss : DSs) (e : En), sq Φ ss (some (.ok .nx e)) = evSs Φ ss e) ∧
    (∀ (ss : DSs) (d : D) (e : En), sq Φ ss (some (.ok (.rt d) e)) = some (.ok (.rt d) e)) ∧
    (∀ (ss : DSs) (e : En), sq Φ ss (some (.ok .bk e)) = some (.ok .bk e)) ∧
    (∀ (ss : DSs) (e : En), sq Φ ss (some (.ok .ct e)) = some (.ok .ct e)) ∧
    (∀ (i : Nat) (e : En) (d : D), xRcv Φ i [] e (some (some d)) = xRcv2 i (evAc Φ [] e)) ∧
    (∀ (i : Nat) (a : DE) (p : List Ac) (e : En) (d : D), xRcv Φ i (.i a :: p) e (some (some d)) = xRcv2 i (evAc Φ (.i a :: p) e)) ∧
    (∀ (i : Nat) (o : BO) (a : DE) (e : En) (x : D), gAug Φ i o a e (some (some x)) = xAug i o x (ev Φ a e)) := by
  refine ⟨?_, ?_, ?_, ?_, ?_, ?_, ?_, ?_, ?_, ?_, ?_, ?_, ?_, ?_, ?_, ?_, ?_, ?_, ?_, ?_, ?_, ?_, ?_, ?_, ?_, ?_, ?_, ?_, ?_, ?_, ?_, ?_, ?_, ?_, ?_, ?_, ?_⟩ <;> intros <;> first | rfl | (simp only [xPur, xTup, xLst, xAug, xRcv2, bd_ok, gd, xSet]; split <;> simp_all) | (simp only [xChn2, xChn3, bd_ok]) | (simp only [xRrg, bd_ok, om, lf]; rfl) | (simp [xRrg, bd_ok, om, lf]; rfl)
theorem RD :
    (∀ (d : D) (e1 : En), xPur (some (.ok d e1)) = gd (!pureD d) (some (.ok d e1))) ∧
    (∀ (o : BO) (x : D) (y : D) (e1 : En), xBin2 o x (some (.ok y e1)) = lf (binD o x y) e1) ∧
    (∀ (i : Int) (e1 : En), xNeg (some (.ok (.int i) e1)) = some (.ok (.int (-i)) e1)) ∧
    (∀ (o : CO) (x : D) (y : D) (e1 : En), xCmp2 o x (some (.ok y e1)) = lf (om (cmpD o x y) D.bl) e1) ∧
    (∀ (b : Bool) (e1 : En), xNot (some (.ok (.bl b) e1)) = some (.ok (.bl (!b)) e1)) ∧
    (∀ (ds : List D) (e1 : En), xTup (some (.ok ds e1)) = gd (!decide (ds.length ≤ 1000000)) (some (.ok (.tup ds) e1))) ∧
    (∀ (ds : List D) (e1 : En), xLst (some (.ok ds e1)) = gd (!decide (ds.length ≤ 1000000)) (some (.ok (.lst ds) e1))) ∧
    (∀ (x : D) (y : D) (e1 : En), xIx2 x (some (.ok y e1)) = lf (ixD x y) e1) ∧
    (∀ (x : D) (l : Option Int) (h : Option Int) (e1 : En), xSl3 x l (some (.ok h e1)) = lf (slD x l h) e1) ∧
    (∀ (b : Bi) (ds : List D) (e1 : En), xBi b (some (.ok ds e1)) = lf (biD b ds) e1) ∧
    (∀ (m : Mt) (x : D) (ds : List D) (e1 : En), xMt2 m x (some (.ok ds e1)) = lf (mtD m x ds) e1) ∧
    (∀ (d : D) (ds : List D) (e1 : En), xCons2 d (some (.ok ds e1)) = some (.ok (d :: ds) e1)) ∧
    (∀ (b : Bool) (e1 : En), xOne (some (.ok (.bl b) e1)) = some (.ok (.bl b) e1)) ∧
    (∀ (i : Int) (e1 : En), xSo (some (.ok (.int i) e1)) = some (.ok (some i) e1)) ∧
    (∀ (x : D) (e1 : En), xVal (some (.ok x e1)) = lf (itemsD x) e1) ∧
    (∀ (ds : List D) (e1 : En), xRng (some (.ok ds e1)) = lf (om (rngD ds) (List.map D.int)) e1) ∧
    (∀ (i : Int) (e1 : En), xRrg (some (.ok [.int i] e1)) = lf (om (om (rngD [.int i]) (List.map D.int)) List.reverse) e1) ∧
    (∀ (i j : Int) (e1 : En), xRrg (some (.ok [.int i, .int j] e1)) = lf (om (om (rngD [.int i, .int j]) (List.map D.int)) List.reverse) e1) ∧
    (∀ (xs : List D) (e1 : En), xEnu (some (.ok (.lst xs) e1)) = some (.ok (enumL 0 xs) e1)) ∧
    (∀ (xs : List D) (e1 : En), xEnu (some (.ok (.tup xs) e1)) = some (.ok (enumL 0 xs) e1)) ∧
    (∀ (xs ys : List D) (e1 : En), xZip (some (.ok [.lst xs, .lst ys] e1)) = some (.ok (zipL xs ys) e1)) ∧
    (∀ (xs : List D) (e1 : En), xRev (some (.ok (.lst xs) e1)) = some (.ok xs.reverse e1)) ∧
    (∀ (d : D) (q : List AcV) (e1 : En), xAc2 d (some (.ok q e1)) = some (.ok (AcV.i d :: q) e1)) ∧
    (∀ (tg : Tg) (d : D) (e1 : En), xAsg tg (some (.ok d e1)) = om (bindT tg d e1) (Rs.ok .nx)) ∧
    (∀ (i j : Nat) (x : D) (y : D) (e1 : En), xPar2 i j x (some (.ok y e1)) = some (.ok .nx ((e1.set i (some x)).set j (some y)))) ∧
    (∀ (i : Nat) (o : BO) (x : D) (y : D) (e1 : En), xAug i o x (some (.ok y e1)) = gd (!pureD x) (xSet i e1 (binD o x y))) ∧
    (∀ (d : D) (e1 : En), xEx (some (.ok d e1)) = some (.ok .nx e1)) ∧
    (∀ (d : D) (e1 : En), xRet (some (.ok d e1)) = some (.ok (.rt d) e1)) ∧
    (∀ (i : Nat) (q : List AcV) (kl : List Nat) (d : D) (e1 : En), uApp2 i q kl (some (.ok d e1)) = updE i q (fApp d) kl e1) ∧
    (∀ (i : Nat) (q : List AcV) (kl : List Nat) (d : D) (e1 : En), uExt2 i q kl (some (.ok d e1)) = updE i q (fExt d) kl e1) ∧
    (∀ (i : Nat) (q : List AcV) (d : D) (kl : List Nat) (k : D) (e1 : En), uSet3 i q d kl (some (.ok k e1)) = updE i q (fSet k d) kl e1) ∧
    (∀ (i : Nat) (q : List AcV) (b : BO) (k : D) (kl : List Nat) (d : D) (e1 : En), uAug3 i q b k kl (some (.ok d e1)) = updE i q (fAug b k d) kl e1) ∧
    (∀ (i : Nat) (kl : List Nat) (q : List AcV) (e1 : En), uClr i kl (some (.ok q e1)) = updE i q fClr kl e1) ∧
    (∀ (i : Nat) (q : List AcV) (e1 : En), xRcv2 i (some (.ok q e1)) = gd (!chkP i q e1) (some (.ok q e1))) ∧
    (∀ (i : Nat) (q : List AcV) (f : D → Option D) (kl : List Nat) (e : En) (d : D), xUp i q f kl e (some (some d)) = xUpd i kl e (updD q f d)) ∧
    (∀ (i : Nat) (kl : List Nat) (e : En) (d : D), xUpd i kl e (some d) = some (.ok .nx (kil kl (e.set i (some d))))) ∧
    (∀ (i : Nat) (e : En) (d : D), xSet i e (some d) = some (.ok .nx (e.set i (some d)))) ∧
    (∀ (d : D) (e : En), cl (some (.ret d [])) e = some (.ok d e)) ∧
    (∀ (c : Str) (x : Option D) (e : En), cl (some (.exn c x [])) e = none) ∧
    (∀ (d : D) (e : En), gv (some (some d)) e = some (.ok d e)) ∧
    (∀ (α : Type) (r : Option α), gd false r = r) ∧
    (∀ (α β : Type) (a : α) (f : α → β), om (some a) f = some (f a)) ∧
    (∀ (α : Type) (a : α) (e : En), lf (some a) e = some (.ok a e)) ∧
    (∀ (d : D) (e : En), fnl [] (some (.ok (.rt d) e)) = some (.ret d [])) ∧
    (∀ (e : En), fnl [] (some (.ok .nx e)) = some (.ret .non [])) := by
  refine ⟨?_, ?_, ?_, ?_, ?_, ?_, ?_, ?_, ?_, ?_, ?_, ?_, ?_, ?_, ?_, ?_, ?_, ?_, ?_, ?_, ?_, ?_, ?_, ?_, ?_, ?_, ?_, ?_, ?_, ?_, ?_, ?_, ?_, ?_, ?_, ?_, ?_, ?_, ?_, ?_, ?_, ?_, ?_, ?_, ?_⟩ <;> intros <;> first | rfl | (simp only [xPur, xTup, xLst, xAug, xRcv2, bd_ok, gd, xSet]; split <;> simp_all) | (simp only [xChn2, xChn3, bd_ok]) | (simp only [xRrg, bd_ok, om, lf]; rfl) | (simp [xRrg, bd_ok, om, lf]; rfl)
theorem EV (Φ : Nat → Fn) :
    (∀ (i : Nat) (e : En), ev Φ (.v i) e = gv e[i]? e) ∧
    (∀ (i : Nat) (e : En), ev Φ (.mv i) e = gv e[i]? (e.set i none)) ∧
    (∀ (a : DE) (e : En), ev Φ (.pur a) e = xPur (ev Φ a e)) ∧
    (∀ (d : D) (e : En), ev Φ (.c d) e = some (.ok d e)) ∧
    (∀ (x : Str) (d : D) (e : En), ev Φ (.g x d) e = some (.ok d e)) ∧
    (∀ (o : BO) (a b : DE) (e : En), ev Φ (.bin o a b) e = xBin Φ o b (ev Φ a e)) ∧
    (∀ (a : DE) (e : En), ev Φ (.neg a) e = xNeg (ev Φ a e)) ∧
    (∀ (o : CO) (a b : DE) (e : En), ev Φ (.cmp o a b) e = xCmp Φ o b (ev Φ a e)) ∧
    (∀ (o o' : CO) (a b c : DE) (e : En), ev Φ (.chn o o' a b c) e = xChn Φ o o' b c (ev Φ a e)) ∧
    (∀ (es : DEs) (e : En), ev Φ (.and es) e = evAnd Φ es e) ∧
    (∀ (es : DEs) (e : En), ev Φ (.or es) e = evOr Φ es e) ∧
    (∀ (a : DE) (e : En), ev Φ (.not a) e = xNot (ev Φ a e)) ∧
    (∀ (es : DEs) (e : En), ev Φ (.tup es) e = xTup (evL Φ es e)) ∧
    (∀ (es : DEs) (e : En), ev Φ (.lst es) e = xLst (evL Φ es e)) ∧
    (∀ (a i : DE) (e : En), ev Φ (.ix a i) e = xIx Φ i (ev Φ a e)) ∧
    (∀ (a : DE) (lo hi : DO) (e : En), ev Φ (.sl a lo hi) e = xSl Φ lo hi (ev Φ a e)) ∧
    (∀ (f : Nat) (es : DEs) (e : En), ev Φ (.call f es) e = xCall Φ f (evL Φ es e)) ∧
    (∀ (b : Bi) (es : DEs) (e : En), ev Φ (.bi b es) e = xBi b (evL Φ es e)) ∧
    (∀ (m : Mt) (a : DE) (es : DEs) (e : En), ev Φ (.mt m a es) e = xMt Φ m es (ev Φ a e)) ∧
    (∀ (elt : DE) (tg : Tg) (it : DI) (ifs : DEs) (os : List Nat) (e : En), ev Φ (.comp elt tg it ifs os) e = xComp Φ elt tg ifs os (evI Φ it e)) ∧
    (∀ (e : En), evL Φ .nil e = some (.ok [] e)) ∧
    (∀ (a : DE) (es : DEs) (e : En), evL Φ (.cons a es) e = xCons Φ es (ev Φ a e)) ∧
    (∀ (a : DE) (e : En), evAnd Φ (.cons a .nil) e = xOne (ev Φ a e)) ∧
    (∀ (a b : DE) (es : DEs) (e : En), evAnd Φ (.cons a (.cons b es)) e = xAnd Φ (.cons b es) (ev Φ a e)) ∧
    (∀ (a : DE) (e : En), evOr Φ (.cons a .nil) e = xOne (ev Φ a e)) ∧
    (∀ (a b : DE) (es : DEs) (e : En), evOr Φ (.cons a (.cons b es)) e = xOr Φ (.cons b es) (ev Φ a e)) ∧
    (∀ (e : En), evTs Φ .nil e = some (.ok true e)) ∧
    (∀ (a : DE) (es : DEs) (e : En), evTs Φ (.cons a es) e = xTs Φ es (ev Φ a e)) ∧
    (∀ (e : En), evP Φ .no e = some (.ok none e)) ∧
    (∀ (a : DE) (e : En), evP Φ (.so a) e = xSo (ev Φ a e)) ∧
    (∀ (a : DE) (e : En), evI Φ (.val a) e = xVal (ev Φ a e)) ∧
    (∀ (es : DEs) (e : En), evI Φ (.rng es) e = xRng (evL Φ es e)) ∧
    (∀ (es : DEs) (e : En), evI Φ (.rrg es) e = xRrg (evL Φ es e)) ∧
    (∀ (a : DE) (e : En), evI Φ (.enu a) e = xEnu (ev Φ a e)) ∧
    (∀ (es : DEs) (e : En), evI Φ (.zip es) e = xZip (evL Φ es e)) ∧
    (∀ (a : DE) (e : En), evI Φ (.rev a) e = xRev (ev Φ a e)) ∧
    (∀ (e : En), evAc Φ [] e = some (.ok [] e)) ∧
    (∀ (a : DE) (p : List Ac) (e : En), evAc Φ (.i a :: p) e = xAc Φ p (ev Φ a e)) := by
  refine ⟨?_, ?_, ?_, ?_, ?_, ?_, ?_, ?_, ?_, ?_, ?_, ?_, ?_, ?_, ?_, ?_, ?_, ?_, ?_, ?_, ?_, ?_, ?_, ?_, ?_, ?_, ?_, ?_, ?_, ?_, ?_, ?_, ?_, ?_, ?_, ?_, ?_, ?_⟩ <;> intros <;> first | rfl | (simp only [ev, evL, evAnd, evOr, evTs, evP, evI, xOne, xAnd, xOr, xTs, xZip, xRrg, xEnu, xRev]; first | done | rfl | (congr 1))
theorem ES (Φ : Nat → Fn) :
    (∀ (tg : Tg) (a : DE) (e : En), evS Φ (.asg tg a) e = xAsg tg (ev Φ a e)) ∧
    (∀ (i j : Nat) (a b : DE) (e : En), evS Φ (.par i j a b) e = xPar Φ i j b (ev Φ a e)) ∧
    (∀ (i : Nat) (p : List Ac) (a : DE) (kl : List Nat) (e : En), evS Φ (.upd i p (.app a) kl) e = uApp Φ i a kl (rcv Φ i p e)) ∧
    (∀ (i : Nat) (p : List Ac) (a : DE) (kl : List Nat) (e : En), evS Φ (.upd i p (.ext a) kl) e = uExt Φ i a kl (rcv Φ i p e)) ∧
    (∀ (i : Nat) (p : List Ac) (j a : DE) (kl : List Nat) (e : En), evS Φ (.upd i p (.set j a) kl) e = uSet Φ i p j kl (ev Φ a e)) ∧
    (∀ (i : Nat) (p : List Ac) (b : BO) (j a : DE) (kl : List Nat) (e : En), evS Φ (.upd i p (.aug b j a) kl) e = uAug Φ i b j a kl (rcv Φ i p e)) ∧
    (∀ (i : Nat) (p : List Ac) (kl : List Nat) (e : En), evS Φ (.upd i p .clr kl) e = uClr i kl (rcv Φ i p e)) ∧
    (∀ (i : Nat) (p : List Ac) (e : En), rcv Φ i p e = xRcv Φ i p e e[i]?) ∧
    (∀ (i : Nat) (o : BO) (a : DE) (e : En), evS Φ (.aug i o a) e = gAug Φ i o a e e[i]?) ∧
    (∀ (a : DE) (e : En), evS Φ (.ex a) e = xEx (ev Φ a e)) ∧
    (∀ (c : DE) (a b : DSs) (e : En), evS Φ (.ifs c a b) e = xIf Φ a b (ev Φ c e)) ∧
    (∀ (tg : Tg) (it : DI) (b : DSs) (e : En), evS Φ (.for tg it b) e = xFor Φ tg b (evI Φ it e)) ∧
    (∀ (c : DE) (b : DSs) (e : En), evS Φ (.whl c b) e = wl Φ c b e) ∧
    (∀ (a : DE) (e : En), evS Φ (.ret a) e = xRet (ev Φ a e)) ∧
    (∀ (e : En), evS Φ .retN e = some (.ok (.rt .non) e)) ∧
    (∀ (e : En), evS Φ .brk e = some (.ok .bk e)) ∧
    (∀ (e : En), evS Φ .cnt e = some (.ok .ct e)) ∧
    (∀ (e : En), evS Φ .pas e = some (.ok .nx e)) ∧
    (∀ (e : En), evSs Φ .nil e = some (.ok .nx e)) ∧
    (∀ (s : DS) (ss : DSs) (e : En), evSs Φ (.cons s ss) e = sq Φ ss (evS Φ s e)) := by
  refine ⟨?_, ?_, ?_, ?_, ?_, ?_, ?_, ?_, ?_, ?_, ?_, ?_, ?_, ?_, ?_, ?_, ?_, ?_, ?_, ?_⟩ <;> intros <;> first | rfl | (simp only [evS, evSs, evU, gAug, xIf, uApp, uExt, uSet, uAug, uClr]; first | done | rfl | (congr 1))
theorem RU : ∀ (i : Nat) (q : List AcV) (f : D → Option D) (kl : List Nat) (e : En), updE i q f kl e = xUp i q f kl e e[i]? := fun _ _ _ _ _ => rfl
theorem fr_nx {Φ : Nat → Fn} {tg : Tg} {b : DSs} {x : D} {xs : List D} {e e1 e2 : En} (h : bindT tg x e = some e1) (hb : evSs Φ b e1 = some (.ok .nx e2)) : fr Φ tg b (x :: xs) e = fr Φ tg b xs e2 := forL_nx h hb
theorem cp_map {Φ : Nat → Fn} {elt : DE} {tg : Tg} {os : List Nat} {xs : List D} {e1 : En} {f : D → D} (h : ∀ x ∈ xs, ∃ e, bindT tg x (wipeE os e1) = some e ∧ ∃ e2, ev Φ elt e = some (.ok (f x) e2)) (hl : xs.length ≤ LMX) : cp Φ elt tg .nil os xs e1 = some (xs.map f) :=
  compL_map (fun x hx => let ⟨e, a, e2, b⟩ := h x hx; ⟨e, a, e, rfl, e2, b⟩) hl
theorem runP_eq {Φ : Nat → Fn} {np : Nat} {n : Nat} {io : List Nat} {b : DSs} {ds : List D} (h : ds.length = np) : runP Φ np ⟨n, io, b⟩ ds = fnl io (evSs Φ b (ds.map some ++ List.replicate (n - ds.length) none)) := by
  unfold runP
  rw [if_pos h]; rfl
/-- ==, told apart -/
theorem EQ : (eqD .non .non = true) ∧ (∀ a b, eqD (.bl a) (.bl b) = (a == b)) ∧ (∀ a j, eqD (.bl a) (.int j) = (b2i a == j)) ∧ (∀ i b, eqD (.int i) (.bl b) = (i == b2i b)) ∧ (∀ i j, eqD (.int i) (.int j) = (i == j)) ∧ (∀ x y, eqD (.str x) (.str y) = (x == y)) ∧
    (∀ xs ys, eqD (.tup xs) (.tup ys) = eqDs xs ys) ∧ (∀ xs ys, eqD (.lst xs) (.lst ys) = eqDs xs ys) ∧ (eqDs [] [] = true) ∧ (∀ x xs y ys, eqDs (x :: xs) (y :: ys) = (eqD x y && eqDs xs ys)) ∧ (∀ x xs, eqDs (x :: xs) [] = false) ∧ (∀ y ys, eqDs [] (y :: ys) = false) ∧
    (∀ i, eqD .non (.int i) = false) ∧ (∀ i, eqD (.int i) .non = false) := by
  refine ⟨?_, ?_, ?_, ?_, ?_, ?_, ?_, ?_, ?_, ?_, ?_, ?_, ?_, ?_⟩ <;> intros <;> simp only [eqD, eqDs]
theorem SHP : (∀ n, shp n .non = true) ∧ (∀ n b, shp n (.bl b) = true) ∧ (∀ n i, shp n (.int i) = true) ∧ (∀ n x, shp n (.str x) = strOkB x) ∧ (∀ n xs, shp (n + 1) (.tup xs) = shps n xs) ∧ (∀ n xs, shp (n + 1) (.lst xs) = shps n xs) ∧ (∀ n, shps n [] = true) ∧ (∀ n x xs, shps n (x :: xs) = (shp n x && shps n xs)) ∧
    (∀ xs, shp 60 (.tup xs) = shps 59 xs) ∧ (∀ xs, shp 60 (.lst xs) = shps 59 xs) ∧ (∀ xs, shp 59 (.tup xs) = shps 58 xs) ∧ (∀ xs, shp 59 (.lst xs) = shps 58 xs) ∧ (∀ xs, shp 58 (.tup xs) = shps 57 xs) ∧ (∀ xs, shp 58 (.lst xs) = shps 57 xs) := by
  refine ⟨?_, ?_, ?_, ?_, ?_, ?_, ?_, ?_, ?_, ?_, ?_, ?_, ?_, ?_⟩ <;> intros <;> first | rfl | simp only [shp, shps]
theorem PU : (pureD .non = true) ∧ (∀ b, pureD (.bl b) = true) ∧ (∀ i, pureD (.int i) = true) ∧ (∀ x, pureD (.str x) = true) ∧ (∀ x, pureD (.scr x) = true) ∧ (∀ xs, pureD (.tup xs) = pureDs xs) ∧ (∀ xs, pureD (.lst xs) = false) ∧ (pureDs [] = true) ∧ (∀ x xs, pureDs (x :: xs) = (pureD x && pureDs xs)) := by
  refine ⟨?_, ?_, ?_, ?_, ?_, ?_, ?_, ?_, ?_⟩ <;> intros <;> first | rfl | simp only [pureD, pureDs]
mutual
theorem eqD_refl : ∀ (n : Nat) (d : D), shp n d = true → eqD d d = true
  | _, .non, _ => by simp [EQ]
  | _, .bl b, _ => by simp [EQ]
  | _, .int i, _ => by simp [EQ]
  | _, .str x, _ => by simp [EQ]
  | 0, .tup xs, h => by simp [shp] at h
  | 0, .lst xs, h => by simp [shp] at h
  | n + 1, .tup xs, h => by
    simp only [EQ]
    exact eqDs_refl n xs (by simpa [SHP] using h)
  | n + 1, .lst xs, h => by
    simp only [EQ]
    exact eqDs_refl n xs (by simpa [SHP] using h)
  | n, .scr _, h => by cases n <;> simp [shp] at h
  | n, .dct _ _, h => by cases n <;> simp [shp] at h
  | n, .obj _ _ _, h => by cases n <;> simp [shp] at h
theorem eqDs_refl : ∀ (n : Nat) (ds : List D), shps n ds = true → eqDs ds ds = true
  | _, [], _ => by simp [EQ]
  | n, d :: ds, h => by
    simp only [SHP, Bool.and_eq_true] at h
    simp only [EQ, eqD_refl n d h.1, eqDs_refl n ds h.2, Bool.and_self]
end
end Cy
end
section
set_option Elab.async false
set_option linter.all false
set_option maxRecDepth 100000
set_option maxHeartbeats 4000000
namespace Cy
open PySem L2 PyProof.Rows
variable [ClTab]
theorem reps_split {K : PySem.W.Frag} {H : Hp} : ∀ {ds : List D} {vs : List V} {A : List Addr}, Reps K H vs ds A → ∃ As : Asg, (∀ i d, ds[i]? = some d → ∃ v, vs[i]? = some v ∧ Rep K H v d (As i)) ∧ (∀ i a, a ∈ As i → a ∈ A) ∧ ∀ i, ds.length ≤ i → As i = []
  | _, _, _, .nil => ⟨fun _ => [], fun i d h => by simp at h, fun i a h => (by cases h), fun _ _ => rfl⟩
  | _, _, _, .cons (v := v) (A := A0) (B := B0) r t => by
    obtain ⟨As, h1, h2, h3⟩ := reps_split t
    refine ⟨fun i => match i with | 0 => A0 | i + 1 => As i, fun i d h => ?_, fun i a h => ?_, fun i h => ?_⟩
    · cases i with
      | zero =>
        simp at h; subst h
        exact ⟨v, rfl, r⟩
      | succ i =>
        obtain ⟨w, a, b⟩ := h1 i d (by simpa using h)
        exact ⟨w, by simpa using a, b⟩
    · cases i with
      | zero => exact List.mem_append_left _ h
      | succ i => exact List.mem_append_right _ (h2 i a h)
    · cases i with
      | zero => simp at h
      | succ i => exact h3 i (by simpa using h)
/-- what all defs of a row stand on -/
structure Gx (P : Program) (w : World) (K : PySem.W.Frag) (mg : Str → Option Value) (base : Heap) (C : Ct) (Φ : Nat → Fn) (k : Nat) : Prop where
  calls : ∀ f x s, C.calls[f]? = some x → okN x = true → C.sigs[f]? = some s → ∃ fa fd ps, mg x = some (.ref fa) ∧ PySem.W.keepIn K (.ref fa) = true ∧ Binds K fd ps [] ∧ FnOk P w K mg base CX0 k fa fd ps (spD K s (Φ f))
  bn : ∀ x ∈ C.bn, mg x = none
  gl : ∀ p ∈ C.gl, ∃ u v, mg p.1 = some u ∧ RelV v u ∧ ScV v p.2
  cls : ∀ c Ca, ClTab.is c Ca → Cls K Ca ∧ ∀ f, inB f C.ats = true → NoAttr K Ca f
  ms : ∀ (f : Nat) (c m : Str) (s : Option Nat × Bool), C.ms[f]? = some (c, m) → m ≠ "" → C.sigs[f]? = some s → ∃ fa fd ps k', k' + 1 ≤ k ∧ (m ≠ "__init__" → ∀ Ca, ClTab.is c Ca → Meth K Ca m fa) ∧
    (m = "__init__" → ∃ Ca, ClTab.is c Ca ∧ Mk K Ca fa ∧ mg c = some (.ref Ca)) ∧ Binds K fd ps [] ∧ FnOk P w K mg base CX0 k' fa fd ps (spD K s (Φ f))
  cax : ∀ f x s, f ∈ C.cx → C.calls[f]? = some x → okN x = true → C.sigs[f]? = some s → ∃ fa fd ps, CallX P w K mg base k x s.2 (Φ f) fa fd ps
  xcl : ∀ c b, (c, b) ∈ C.xc → XCl P w K mg base k c b
  xex : ∀ c b, (c, b) ∈ C.xc → ∀ c0 ∈ ClTab.xs, PySem.W.exmOne K (.ref (He.ga K c)) (.ref (He.ga K c0)) = some (subX c c0)
  xxs : ∀ c b, (c, b) ∈ C.xc → c ∈ ClTab.xs
  kxa : C.kx = true → ClTab.kx = true
  kxA : ClTab.kx = true → KxA K
section
variable {P : Program} {w : World} {K : PySem.W.Frag} {mg : Str → Option Value} {base : Heap} {C : Ct} {Φ : Nat → Fn} {k : Nat}
theorem Gx.fx [Fxd] (G : Gx P w K mg base C Φ k) (hfx : ∀ i v, Fxd.fx i = some v → C.fx.contains i = true) {qual : Str} {scope : Scope} {f : Addr} {cd : Value} {A : Around} {outer : List PySem.Env} {s : Shared} {H : Hp} {E : XK} (hn : C.N.Nodup) (hr : Room k (A.deeper (envOfC qual scope s.heap.objs.size f cd))) :
    Fx C Φ k (cxOf CX0 P w K mg base C.N qual scope f cd A outer s H E).nox :=
  ⟨rfl, hn, rfl, hr, fun f x sg h1 h2 h3 => let ⟨fa, fd, ps, a, b, c, d⟩ := G.calls f x sg h1 h2 h3; ⟨fa, fd, ps, a, b, c, d⟩, G.bn, G.gl, G.cls, fun f c m sg h1 h2 h3 => let ⟨fa, fd, ps, k', hk, a, b, c', d⟩ := G.ms f c m sg h1 h2 h3; ⟨fa, fd, ps, k', hk, a, b, c', d⟩, hfx, G.cax, G.xcl, G.xex, G.xxs, G.kxa, G.kxA⟩
theorem bd_cx {qual : Str} {scope : Scope} {f : Addr} {cd : Value} {A : Around} {outer : List PySem.Env} {s : Shared} {H : Hp} {E : XK} (hk : scope.kind = .function) : Bd (cxOf CX0 P w K mg base C.N qual scope f cd A outer s H E).nox :=
  ⟨PassesOwn.never, fun _ => rfl, hk, rfl, rfl⟩
theorem start_get {N : List Str} {vs : List V} {i : Nat} {v : V} (h : vs[i]? = some v) : (L2.start N vs)[i]? = some (some v) := by
  have hi := (List.getElem?_eq_some_iff.mp h).1
  unfold L2.start
  rw [List.getElem?_append_left (by simpa using hi), List.getElem?_map, h]; rfl
theorem env_get {n : Nat} {ds : List D} {i : Nat} {d : D} (h : (ds.map some ++ List.replicate (n - ds.length) none : En)[i]? = some (some d)) : ds[i]? = some d := by
  by_cases hi : i < ds.length
  · rw [List.getElem?_append_left (by simpa using hi), List.getElem?_map] at h
    cases e : ds[i]? with
    | none => rw [e] at h; cases h
    | some a => rw [e] at h; simpa using h
  · rw [List.getElem?_append_right (by simpa using hi), List.getElem?_replicate] at h
    split at h <;> cases h
/-- a def that changes nothing handed in -/
theorem fn_ok {x qual : Str} {params : Arguments} {body : List Stmt} {scope : Scope} {fa : Addr} {fd : FuncData} {ps : List Str} {f : Df} {np : Nat} {own vw : List Nat} {fr : Bool} (G : Gx P w K mg base C Φ k)
    (F : FunD K x qual params body scope [] [] fa fd) (S : FnScope C.N ps scope) (hp : ps.length = np) (hn : f.n = C.N.length) (hio : f.io = []) (hm : mSs C scope f.body body = true) (ho : okSs C.sigs own vw fr f.body = true) (how : own.all (fun i => decide (np ≤ i)) = true) :
    FnOk P w K mg base CX0 (k + 1) fa fd ps (spD K (none, fr) (runP Φ np f)) := by
  letI : Fxd := ⟨fun _ => none⟩
  show FnOk P w K mg base CX0 (k + 1) fa fd ps (spP K fr (runP Φ np f))
  have hle : np ≤ C.N.length := by
    have := congrArg List.length S.pre
    rw [List.length_take] at this
    omega
  refine F.ok S (fun vs H Q E ⟨ds, A, d, r, e, _⟩ => ?_) fun cdv Ar outer s H vs Q E hr ⟨ds, A, d, r, e, q⟩ => ⟨WSs (cxOf CX0 P w K mg base C.N qual scope fa cdv Ar outer s H E).nox body, PSs.nox Cy.wss, ?_⟩
  · unfold runP at e
    split at e
    · rename_i hl; rw [r.length, hl, hp]
    · cases e
  unfold runP at e
  split at e
  rotate_left
  · cases e
  rename_i hl
  have hlv : vs.length = np := by rw [r.length, hl]
  have Fxx := G.fx (fun i v h => by cases h) (qual := qual) (scope := scope) (f := fa) (cd := cdv) (outer := outer) (H := H) (E := E) S.nd hr
  obtain ⟨As, s1, s2, s3⟩ := reps_split r
  have mA : ∀ a ∈ A, MutH H a := fun a h => r.mut a h
  have hown : ∀ i ∈ own, As i = [] := fun i hi => s3 i (by
    have := List.all_eq_true.mp how i hi
    rw [hl]; simpa using this)
  have SR0 : SR K C.N.length own vw (fun a => a ∈ A) (fun a => H a ≠ none) (L2.start C.N vs) H (ds.map some ++ List.replicate (f.n - ds.length) none) As := by
    refine ⟨?_, ?_, fun i d h => ?_, fun i h => ?_, fun i _ _ a ha => s2 i a ha, fun i hi => (by rw [hown i hi]; exact List.nodup_nil), fun i hi a ha => (by rw [hown i hi] at ha; cases ha), fun i hi j _ _ a ha => (by rw [hown i hi] at ha; cases ha), fun a h => ?_, fun a h => h, fun i v h => by cases h⟩
    · unfold L2.start
      rw [List.length_append, List.length_map, List.length_replicate]; omega
    · rw [List.length_append, List.length_map, List.length_replicate, hn]; omega
    · obtain ⟨v, a, b⟩ := s1 i d (env_get h)
      exact ⟨v, start_get a, b⟩
    · by_cases hi : i < ds.length
      · exfalso
        refine h ds[i] ?_
        rw [List.getElem?_append_left (by simpa using hi), List.getElem?_map, List.getElem?_eq_getElem hi]; rfl
      · exact s3 i (by omega)
    · obtain ⟨xs, m⟩ := mA a h
      show H a ≠ none
      rw [m]; simp
  have same : ∀ {Z' P' : Addr → Prop} {H' : Hp} {As' : Asg} {io : Bool}, TSx io (fun a => a ∈ A) (fun a => H a ≠ none) H As Z' P' H' As' → Same H H' := fun T a o h => T.keep a o h (.inl (by show H a ≠ none; rw [h]; simp))
  have ss := soundSs (k := k) f.body Fxx (bd_cx (P := P) (w := w) (K := K) (mg := mg) (base := base) (C := C) S.kind) hm ho
  unfold run at e
  split at e
  · rename_i d0 e0 he
    rw [hio] at e
    simp only [iosOf, Option.map_some, Option.some.injEq, Fr.ret.injEq, and_true] at e
    subst e
    refine ss _ _ _ H _ As _ _ SR0 he _ (fun _ _ _ _ => False) takes0 fun v σ' H' Z' P' As' A' S' T' r' rf => q v H' A' (same T') r' (fun z => ⟨(rf.1 z).1, fun a ha => ?_⟩) fun a ha => ?_
    · have := ((rf.1 z).2 a ha).1
      exact Classical.byContradiction fun c => this c
    · rcases rf.2 a ha with z | ⟨i, z⟩
      · exact .inl z
      · exact .inr (s2 i a z)
  · rename_i e0 he
    rw [hio] at e
    simp only [iosOf, Option.map_some, Option.some.injEq, Fr.ret.injEq, and_true] at e
    subst e
    exact ss _ _ _ H _ As _ _ SR0 he _ (fun _ _ _ _ => False) takes0 fun σ' H' Z' P' As' S' T' => q .non H' [] (same T') .non (fun _ => ⟨List.nodup_nil, fun a h => nomatch h⟩) fun a h => nomatch h
  · rw [hio] at e
    simp only [iosOf, Option.map_some, Option.some.injEq, reduceCtorEq] at e
  · cases e
end
/-- a law's end -/
theorem walk_ofEB {l : PySem.W.OpenLaw} {n k : Nat} {q : Program} {loose : List Str} {XP : (Str → Option Value) → Heap → Prop} {YP : World → Heap → Prop} {d : DefRec} {x : Str} {F : Fn} {fr : Bool}
    (hn : l.most = some n) (hn2 : n ≤ sizeLine) (hdf : d.params.defaults = []) (hr : Room k callerA)
    (G : ∀ (w : World) (mg : Str → Option Value) (fa : Addr) (h : Heap), YP w h → h.Ns mainGlobals mg → mg d.name = some (.ref fa) →
      ∃ (I : ClTab) (K : PySem.W.Frag) (fd : FuncData), K.In h ∧ (∀ (s : Shared) (u : Value), BindsTo s fd ⟨[u], []⟩ [(x, u)]) ∧
        ∀ base : Heap, K.In base → base.Ns mainGlobals mg → FnOk l.prog w K mg base CX0 k fa fd [x] (@spD I K (none, fr) F))
    (hF : ∀ ns : List Int, ns.length ≤ n → (∀ z ∈ ns, bitsI z ≤ 1048576) → F [.scr ns] = some (.ret (.bl true) [])) :
    PySem.W.WalkO q loose XP YP l.row.toRowW d [] (fun f vs => PySem.call f vs) := by
  haveI fx0 : Fxd := ⟨fun _ => none⟩
  refine Att.attach_callB hn hdf fun w s₀ s₁ mg mb fa o pm cd doc a vs ns G' Y ho hd hcd hmg hobj hints hlen hbits hg => ?_
  obtain ⟨I, K, fd, KX, hb, hFn⟩ := G w mg fa _ Y G'.T.g hmg
  refine law_call KX G'.T.g G'.T.b G'.T.builtins G'.T.nolimit hg hobj hints (Nat.le_trans hlen hn2) hr hFn hb (fun H hO hS => ?_) fun H e s' => fun z => z
  show spP K fr F [V.ref _] H _ (fun _ _ _ => False)
  refine ⟨[.scr ns], [], .bl true, Reps.one (.scr (SqF.of hO hS)), hF ns hlen (fun z hz => by rw [← bits_eq]; exact hbits z hz), fun v H' A' _ r _ _ => ?_⟩
  cases r; rfl
end Cy
end
section
set_option Elab.async false
set_option linter.all false
set_option maxRecDepth 100000
set_option maxHeartbeats 4000000
namespace Cy
open PySem L2 PyProof.Rows
variable [ClTab]
section
variable {P : Program} {w : World} {K : PySem.W.Frag} {mg : Str → Option Value} {base : Heap} {kx kb : Bool}
theorem XCl.mono {k j : Nat} {c : Str} {b : Bool} (h : XCl P w K mg base k c b) (hk : k ≤ j) : XCl P w K mg base j c b :=
  ⟨h.gm, h.sub, h.typ, fun z => let ⟨fI, fd, p, k', a, r⟩ := h.own z; ⟨fI, fd, p, k', by omega, r⟩, h.non⟩
theorem Gx.nil {N : List Str} {gl : List (Str × D)} {bn ats : List Str} {fx : List Nat} {xc : List (Str × Bool)} {k : Nat} (h1 : ∀ x ∈ bn, mg x = none) (h2 : ∀ p ∈ gl, ∃ u v, mg p.1 = some u ∧ RelV v u ∧ ScV v p.2) (h3 : ∀ c Ca, ClTab.is c Ca → Cls K Ca ∧ ∀ f, inB f ats = true → NoAttr K Ca f)
    (h4 : ∀ c b, (c, b) ∈ xc → XCl P w K mg base k c b) (h5 : ∀ c b, (c, b) ∈ xc → ∀ c0 ∈ ClTab.xs, PySem.W.exmOne K (.ref (He.ga K c)) (.ref (He.ga K c0)) = some (subX c c0)) (h6 : ∀ c b, (c, b) ∈ xc → c ∈ ClTab.xs) (h7 : kx = true → ClTab.kx = true) (h8 : ClTab.kx = true → KxA K) : Gx P w K mg base ⟨N, [], [], gl, bn, ats, [], fx, xc, [], kx⟩ (ph []) k :=
  ⟨fun f x s h => by simp at h, h1, h2, h3, (fun f c m s h => by simp at h), (fun f x s h => nomatch h), h4, h5, h6, h7, h8⟩
theorem Gx.names {N N' : List Str} {cs : List Str} {sg : List (Option Nat × Bool)} {gl : List (Str × D)} {bn ats : List Str} {ms : List (Str × Str)} {fx fx' : List Nat} {xc : List (Str × Bool)} {cx : List Nat} {Φ : Nat → Fn} {k : Nat} (G : Gx P w K mg base ⟨N, cs, sg, gl, bn, ats, ms, fx, xc, cx, kx⟩ Φ k) : Gx P w K mg base ⟨N', cs, sg, gl, bn, ats, ms, fx', xc, cx, kx⟩ Φ k := ⟨G.calls, G.bn, G.gl, G.cls, G.ms, G.cax, G.xcl, G.xex, G.xxs, G.kxa, G.kxA⟩
theorem ph_last {l : List Fn} {F : Fn} : ph (l ++ [F]) l.length = F := by
  unfold ph
  rw [List.getD_eq_getElem?_getD, List.getElem?_append_right (Nat.le_refl _), Nat.sub_self]; rfl
theorem ph_old {l : List Fn} {F : Fn} {f : Nat} (hf : f < l.length) : ph (l ++ [F]) f = ph l f := by
  unfold ph
  rw [List.getD_eq_getElem?_getD, List.getD_eq_getElem?_getD, List.getElem?_append_left hf]
/-- a def or a method more -/
theorem Gx.snocG {N : List Str} {cs : List Str} {sg : List (Option Nat × Bool)} {gl : List (Str × D)} {bn ats : List Str} {ms : List (Str × Str)} {fx : List Nat} {xc : List (Str × Bool)} {cx cx' : List Nat} {l : List Fn} {k : Nat} (G : Gx P w K mg base ⟨N, cs, sg, gl, bn, ats, ms, fx, xc, cx, kx⟩ (ph l) k) (h1 : cs.length = l.length) (h2 : sg.length = l.length) (h3 : ms.length = l.length)
    {x c m : Str} {fa : Addr} {fd : FuncData} {ps : List Str} {s : Option Nat × Bool} {F : Fn} (hm : okN x = true → mg x = some (.ref fa)) (kp : PySem.W.keepIn K (.ref fa) = true) (bi : Binds K fd ps [])
    (hme : m ≠ "" → m ≠ "__init__" → ∀ Ca, ClTab.is c Ca → Meth K Ca m fa) (hmk : m = "__init__" → ∃ Ca, ClTab.is c Ca ∧ Mk K Ca fa ∧ mg c = some (.ref Ca)) (ok : FnOk P w K mg base CX0 (k + 1) fa fd ps (spD K s F))
    (h0 : ∀ f ∈ cx, f < l.length) (hx : ∀ f ∈ cx', f ∈ cx ∨ (f = l.length ∧ FnOk P w K mg base (L2.CX P w) (k + 1) fa fd ps (spX K s.2 F))) :
    Gx P w K mg base ⟨N, cs ++ [x], sg ++ [s], gl, bn, ats, ms ++ [(c, m)], fx, xc, cx', kx⟩ (ph (l ++ [F])) (k + 2) := by
  refine ⟨fun f y sy h4 hy h5 => ?_, G.bn, G.gl, G.cls, fun f c' m' sy h4 hy h5 => ?_, fun f y sy hf h4 hy h5 => ?_, fun c b h => (G.xcl c b h).mono (by omega), G.xex, G.xxs, G.kxa, G.kxA⟩
  rotate_left 2
  · dsimp only at h4 h5
    rcases hx f hf with hf | ⟨rfl, okx⟩
    · have hlt := h0 f hf
      rw [List.getElem?_append_left (by omega)] at h4 h5
      obtain ⟨fa', fd', ps', q⟩ := G.cax f y sy hf h4 hy h5
      refine ⟨fa', fd', ps', q.gm, q.kp, q.bi, ?_⟩
      rw [ph_old hlt]
      exact q.ok.mono (by omega)
    · rw [List.getElem?_append_right (by omega), h1, Nat.sub_self] at h4
      rw [List.getElem?_append_right (by omega), h2, Nat.sub_self] at h5
      simp only [List.getElem?_cons_zero, Option.some.injEq] at h4 h5
      subst h4 h5
      refine ⟨fa, fd, ps, hm hy, kp, bi, ?_⟩
      rw [ph_last]
      exact okx.mono (by omega)
  · dsimp only at h4 h5
    by_cases hf : f < l.length
    · rw [List.getElem?_append_left (by omega)] at h4 h5
      obtain ⟨fa', fd', ps', a, b, c, d⟩ := G.calls f y sy h4 hy h5
      refine ⟨fa', fd', ps', a, b, c, ?_⟩
      rw [ph_old hf]
      exact d.mono (by omega)
    · have hf2 : f = l.length := by
        have := (List.getElem?_eq_some_iff.mp h4).1
        rw [List.length_append, List.length_singleton] at this
        omega
      subst hf2
      rw [List.getElem?_append_right (by omega), h1, Nat.sub_self] at h4
      rw [List.getElem?_append_right (by omega), h2, Nat.sub_self] at h5
      simp only [List.getElem?_cons_zero, Option.some.injEq] at h4 h5
      subst h4 h5
      refine ⟨fa, fd, ps, hm hy, kp, bi, ?_⟩
      rw [ph_last]
      exact ok.mono (by omega)
  · dsimp only at h4 h5
    by_cases hf : f < l.length
    · rw [List.getElem?_append_left (by omega)] at h4 h5
      obtain ⟨fa', fd', ps', k', hk, a, b, c, d⟩ := G.ms f c' m' sy h4 hy h5
      refine ⟨fa', fd', ps', k', by omega, a, b, c, ?_⟩
      rw [ph_old hf]
      exact d
    · have hf2 : f = l.length := by
        have := (List.getElem?_eq_some_iff.mp h4).1
        rw [List.length_append, List.length_singleton] at this
        omega
      subst hf2
      rw [List.getElem?_append_right (by omega), h3, Nat.sub_self] at h4
      rw [List.getElem?_append_right (by omega), h2, Nat.sub_self] at h5
      simp only [List.getElem?_cons_zero, Option.some.injEq, Prod.mk.injEq] at h4 h5
      obtain ⟨rfl, rfl⟩ := h4
      subst h5
      refine ⟨fa, fd, ps, k + 1, by omega, hme hy, hmk, bi, ?_⟩
      rw [ph_last]
      exact ok
theorem Gx.snoc {N : List Str} {cs : List Str} {sg : List (Option Nat × Bool)} {gl : List (Str × D)} {bn ats : List Str} {ms : List (Str × Str)} {fx : List Nat} {xc : List (Str × Bool)} {cx : List Nat} {l : List Fn} {k : Nat} (G : Gx P w K mg base ⟨N, cs, sg, gl, bn, ats, ms, fx, xc, cx, kx⟩ (ph l) k) (h1 : cs.length = l.length) (h2 : sg.length = l.length) (h3 : ms.length = l.length)
    {x : Str} {fa : Addr} {fd : FuncData} {ps : List Str} {s : Option Nat × Bool} {F : Fn} (hm : mg x = some (.ref fa)) (kp : PySem.W.keepIn K (.ref fa) = true) (bi : Binds K fd ps []) (ok : FnOk P w K mg base CX0 (k + 1) fa fd ps (spD K s F)) (h0 : ∀ f ∈ cx, f < l.length) :
    Gx P w K mg base ⟨N, cs ++ [x], sg ++ [s], gl, bn, ats, ms ++ [(("" : Str), ("" : Str))], fx, xc, cx, kx⟩ (ph (l ++ [F])) (k + 2) :=
  G.snocG h1 h2 h3 (fun _ => hm) kp bi (fun h => absurd rfl h) (fun h => absurd h (by decide)) ok h0 (fun f h => .inl h)
end
/-- the classes of a row -/
def clT (K : PySem.W.Frag) (ns xs : List Str) (kx : Bool := false) : ClTab := ⟨fun c Ca => c ∈ ns ∧ Ca = He.ga K c, xs, kx⟩
section
variable {P : Program} {w : World} {K : PySem.W.Frag} {mg : Str → Option Value} {base : Heap} {cn xn : List Str}
end
end Cy
end
section
set_option Elab.async false
set_option linter.all false
set_option maxRecDepth 100000
set_option maxHeartbeats 4000000
namespace Cy
open PySem L2 PyProof.Rows
variable [ClTab]
end Cy
end
section
set_option Elab.async false
set_option linter.all false
set_option maxRecDepth 100000
set_option maxHeartbeats 4000000
namespace Cy
open PySem
def df_law_cell_at : Df := ⟨2, [], (.cons (.ifs (.cmp .lt (.v 1) (.bi .len (.cons (.v 0) .nil))) (.cons (.ret (.pur (.ix (.v 0) (.v 1)))) .nil) .nil) (.cons (.ret (.c (.int 0))) .nil))⟩
def df_law_number (c_law_cell_at : Nat) : Df := ⟨8, [], (.cons (.asg (.n 2) (.call c_law_cell_at (.cons (.v 0) (.cons (.c (.int 0)) .nil)))) (.cons (.asg (.n 3) (.bin .add (.bin .mod (.v 2) (.c (.int 2147483629))) (.bin .mul (.c (.int 7919)) (.v 1)))) (.cons (.asg (.n 4) (.bin .add (.bin .mul (.c (.int 69621)) (.v 1)) (.c (.int 5)))) (.cons (.asg (.n 5) (.c (.int 0))) (.cons (.for (.n 6) (.rng (.cons (.c (.int 30)) .nil)) (.cons (.asg (.n 3) (.bin .mod (.bin .add (.bin .add (.bin .mul (.v 3) (.c (.int 48271))) (.c (.int 11))) (.bin .mul (.v 6) (.v 1))) (.c (.int 2147483647)))) (.cons (.asg (.n 4) (.bin .mod (.bin .add (.bin .mul (.v 4) (.c (.int 16807))) (.v 3)) (.c (.int 2147483629)))) (.cons (.asg (.n 5) (.bin .add (.bin .mul (.v 5) (.c (.int 2147483629))) (.bin .mod (.bin .add (.bin .mul (.v 4) (.v 4)) (.v 3)) (.c (.int 2147483587))))) .nil)))) (.cons (.ifs (.cmp .eq (.bin .mod (.bin .fdiv (.v 2) (.c (.int 720))) (.c (.int 2))) (.c (.int 1))) (.cons (.ret (.pur (.v 5))) .nil) .nil) (.cons (.asg (.n 7) (.bi .abs (.cons (.call c_law_cell_at (.cons (.v 0) (.cons (.v 1) .nil))) .nil))) (.cons (.ret (.bin .add (.v 7) (.bin .shl (.v 5) (.mt .bitlen (.v 7) .nil)))) .nil))))))))⟩
def df_law_amount : Df := ⟨2, [], (.cons (.asg (.n 1) (.bin .mod (.v 0) (.c (.int 8)))) (.cons (.asg (.n 0) (.bin .fdiv (.v 0) (.c (.int 8)))) (.cons (.ifs (.cmp .eq (.v 1) (.c (.int 0))) (.cons (.ret (.tup (.cons (.c (.int 0)) (.cons (.pur (.v 0)) .nil)))) .nil) .nil) (.cons (.ifs (.cmp .lt (.v 1) (.c (.int 6))) (.cons (.ret (.tup (.cons (.bin .mod (.v 0) (.c (.int 10))) (.cons (.bin .fdiv (.v 0) (.c (.int 10))) .nil)))) .nil) .nil) (.cons (.ifs (.cmp .eq (.v 1) (.c (.int 6))) (.cons (.ret (.tup (.cons (.bin .mod (.v 0) (.c (.int 100))) (.cons (.bin .fdiv (.v 0) (.c (.int 100))) .nil)))) .nil) .nil) (.cons (.ret (.tup (.cons (.bin .mod (.v 0) (.bin .pow (.c (.int 10)) (.c (.int 30)))) (.cons (.bin .fdiv (.v 0) (.bin .pow (.c (.int 10)) (.c (.int 30)))) .nil)))) .nil))))))⟩
def df_law_yard (c_law_cell_at : Nat) (c_law_number : Nat) (c_law_amount : Nat) : Df := ⟨10, [], (.cons (.asg (.n 1) (.bi .abs (.cons (.call c_law_cell_at (.cons (.v 0) (.cons (.c (.int 0)) .nil))) .nil))) (.cons (.asg (.n 2) (.bin .add (.c (.int 1)) (.bin .mod (.v 1) (.c (.int 8))))) (.cons (.asg (.n 3) (.lst .nil)) (.cons (.for (.n 4) (.rng (.cons (.bin .add (.c (.int 1)) (.bin .mod (.bin .fdiv (.v 1) (.c (.int 8))) (.c (.int 5)))) .nil)) (.cons (.asg (.n 5) (.call c_law_number (.cons (.v 0) (.cons (.bin .add (.c (.int 1)) (.v 4)) .nil)))) (.cons (.asg (.n 6) (.c .non)) (.cons (.ifs (.cmp .gt (.v 4) (.c (.int 0))) (.cons (.asg (.n 6) (.bin .mod (.v 5) (.v 4))) (.cons (.asg (.n 5) (.bin .fdiv (.v 5) (.v 4))) .nil)) .nil) (.cons (.asg (.n 7) (.lst .nil)) (.cons (.for (.n 8) (.rng (.cons (.v 2) .nil)) (.cons (.asg (.t [(.n 9), (.n 5)]) (.call c_law_amount (.cons (.v 5) .nil))) (.cons (.upd 7 [] (.app (.pur (.v 9))) []) .nil))) (.cons (.upd 3 [] (.app (.tup (.cons (.pur (.v 6)) (.cons (.bi .tuple (.cons (.mv 7) .nil)) .nil)))) []) .nil))))))) (.cons (.ret (.tup (.cons (.pur (.v 2)) (.cons (.bi .tuple (.cons (.mv 3) .nil)) .nil)))) .nil)))))⟩
def df_is_whole : Df := ⟨3, [], (.cons (.ret (.and (.cons (.bi (.isi .int) (.cons (.v 0) .nil)) (.cons (.not (.bi (.isi .bool) (.cons (.v 0) .nil))) (.cons (.chn .le .lt (.v 1) (.v 0) (.v 2)) .nil))))) .nil)⟩
def df_is_line (c_is_whole : Nat) : Df := ⟨6, [], (.cons (.ifs (.or (.cons (.not (.bi (.isi .tuple) (.cons (.v 0) .nil))) (.cons (.cmp .ne (.bi .len (.cons (.v 0) .nil)) (.c (.int 2))) .nil))) (.cons (.ret (.c (.bl false))) .nil) .nil) (.cons (.asg (.t [(.n 3), (.n 4)]) (.v 0)) (.cons (.ifs (.and (.cons (.cmp .eq (.v 1) (.c (.int 0))) (.cons (.cmp .notN (.v 3) (.c .non)) .nil))) (.cons (.ret (.c (.bl false))) .nil) .nil) (.cons (.ifs (.and (.cons (.cmp .gt (.v 1) (.c (.int 0))) (.cons (.not (.call c_is_whole (.cons (.v 3) (.cons (.c (.int 0)) (.cons (.v 1) .nil))))) .nil))) (.cons (.ret (.c (.bl false))) .nil) .nil) (.cons (.ifs (.or (.cons (.not (.bi (.isi .tuple) (.cons (.v 4) .nil))) (.cons (.cmp .ne (.bi .len (.cons (.v 4) .nil)) (.v 2)) .nil))) (.cons (.ret (.c (.bl false))) .nil) .nil) (.cons (.ret (.bi .all (.cons (.comp (.call c_is_whole (.cons (.v 5) (.cons (.c (.int 0)) (.cons (.g "BEYOND" (.int 1000000000000000000000000000000)) .nil)))) (.n 5) (.val (.v 4)) .nil [5]) .nil))) .nil))))))⟩
def df_is_yard (c_is_whole : Nat) (c_is_line : Nat) : Df := ⟨5, [], (.cons (.ifs (.or (.cons (.not (.bi (.isi .tuple) (.cons (.v 0) .nil))) (.cons (.cmp .ne (.bi .len (.cons (.v 0) .nil)) (.c (.int 2))) .nil))) (.cons (.ret (.c (.bl false))) .nil) .nil) (.cons (.asg (.t [(.n 1), (.n 2)]) (.v 0)) (.cons (.ifs (.not (.call c_is_whole (.cons (.v 1) (.cons (.c (.int 1)) (.cons (.bin .add (.g "MOST_TURNS" (.int 8)) (.c (.int 1))) .nil))))) (.cons (.ret (.c (.bl false))) .nil) .nil) (.cons (.ifs (.or (.cons (.not (.bi (.isi .tuple) (.cons (.v 2) .nil))) (.cons (.not (.chn .le .le (.c (.int 1)) (.bi .len (.cons (.v 2) .nil)) (.g "MOST_LINES" (.int 5)))) .nil))) (.cons (.ret (.c (.bl false))) .nil) .nil) (.cons (.ret (.bi .all (.cons (.comp (.call c_is_line (.cons (.v 4) (.cons (.v 3) (.cons (.v 1) .nil)))) (.t [(.n 3), (.n 4)]) (.enu (.v 2)) .nil [3, 4]) .nil))) .nil)))))⟩
theorem nAdd (a b : Nat) : binD .add (.int (a : Int)) (.int (b : Int)) = some (.int ((a + b : Nat) : Int)) := rfl
theorem nMul (a b : Nat) (ha : a < BIG) (hb : b < BIG) : binD .mul (.int (a : Int)) (.int (b : Int)) = some (.int ((a * b : Nat) : Int)) := by
  simp [binD, ha, hb]
theorem nMod (a b : Nat) (hb : 0 < b) : binD .mod (.int (a : Int)) (.int (b : Int)) = some (.int ((a % b : Nat) : Int)) := by
  simp [binD, hb]
theorem nDiv (a b : Nat) (hb : 0 < b) (h2 : b < DVB) : binD .fdiv (.int (a : Int)) (.int (b : Int)) = some (.int ((a / b : Nat) : Int)) := by
  simp [binD, hb, h2]
theorem bigN {a : Nat} (h : a < 2 ^ 250) : a < BIG := lt_BIG h (by decide)
theorem dvbN {a : Nat} (h : a < 2 ^ 250) : a < DVB := lt_DVB h (by decide)
theorem fr_inv {Φ : Nat → Fn} {tg : Tg} {b : DSs} : ∀ {xs : List D} {e : En} (P : Nat → En → Prop) (h0 : P 0 e) (hs : ∀ i e (hi : i < xs.length), P i e → ∃ e1 e2, bindT tg xs[i] e = some e1 ∧ evSs Φ b e1 = some (.ok .nx e2) ∧ P (i + 1) e2), ∃ e', fr Φ tg b xs e = some (.ok .nx e') ∧ P xs.length e'
  | [], e, P, h0, _ => ⟨e, rfl, h0⟩
  | x :: xs, e, P, h0, hs => by
    obtain ⟨e1, e2, h1, h2, h3⟩ := hs 0 e (by simp) h0
    obtain ⟨e', h4, h5⟩ := fr_inv (xs := xs) (e := e2) (fun i => P (i + 1)) h3 (fun i e hi p => hs (i + 1) e (by simpa using hi) p)
    exact ⟨e', by rw [fr_nx (x := x) (show bindT tg x e = some e1 from h1) h2]; exact h4, h5⟩
theorem s_cell (Φ : Nat → Fn) (ns : List Int) (k : Nat) : runP Φ 2 df_law_cell_at [.scr ns, .int (k : Int)] = some (.ret (.int (ns.getD k 0)) []) := by
  by_cases h : k < ns.length
  · have h1 : ((k : Int) < (ns.length : Int)) := by omega
    simp [df_law_cell_at, runP_eq, EV, ES, RC, RD, ioE, ioL, cmpD, biD, ixD, ixP, PU, h, h1]
  · have h1 : ¬ ((k : Int) < (ns.length : Int)) := by omega
    simp [df_law_cell_at, runP_eq, EV, ES, RC, RD, ioE, ioL, cmpD, biD, ixD, ixP, PU, h, h1]
def CellS (F : Fn) : Prop := ∀ (ns : List Int) (k : Nat), F [.scr ns, .int (k : Int)] = some (.ret (.int (ns.getD k 0)) [])
def NumS (F : Fn) (ns : List Int) : Prop := ∀ k : Nat, k ≤ 1000 → ∃ n : Nat, F [.scr ns, .int (k : Int)] = some (.ret (.int n) [])
theorem s_number {Φ : Nat → Fn} {c : Nat} (hc : CellS (Φ c)) (ns : List Int) (hb : ∀ z ∈ ns, bitsI z ≤ 1048576) : NumS (runP Φ 2 (df_law_number c)) ns := by
  intro k hk
  have kB : k < BIG := bigN (by omega)
  have h0 : Φ c [.scr ns, .int 0] = some (.ret (.int (ns.getD 0 0)) []) := hc ns 0
  have h1 := hc ns k
  generalize ns.getD 0 0 = hd at h0
  have m0 : ∃ r : Nat, r < 2147483629 ∧ hd % 2147483629 = r := ⟨(hd % 2147483629).toNat, by omega, by omega⟩
  obtain ⟨r, hr, er⟩ := m0
  have a1 : binD .mod (.int hd) (.int 2147483629) = some (.int (r : Int)) := by simp [binD, er]
  have a2 : binD .mul (.int 7919) (.int (k : Int)) = some (.int ((7919 * k : Nat) : Int)) := nMul 7919 k (bigN (by omega)) kB
  have a3 := nAdd r (7919 * k)
  have a4 : binD .mul (.int 69621) (.int (k : Int)) = some (.int ((69621 * k : Nat) : Int)) := nMul 69621 k (bigN (by omega)) kB
  have a5 : binD .add (.int ((69621 * k : Nat) : Int)) (.int 5) = some (.int ((69621 * k + 5 : Nat) : Int)) := nAdd (69621 * k) 5
  have lp := fr_inv (Φ := Φ) (tg := .n 6) (b := (.cons (.asg (.n 3) (.bin .mod (.bin .add (.bin .add (.bin .mul (.v 3) (.c (.int 48271))) (.c (.int 11))) (.bin .mul (.v 6) (.v 1))) (.c (.int 2147483647)))) (.cons (.asg (.n 4) (.bin .mod (.bin .add (.bin .mul (.v 4) (.c (.int 16807))) (.v 3)) (.c (.int 2147483629)))) (.cons (.asg (.n 5) (.bin .add (.bin .mul (.v 5) (.c (.int 2147483629))) (.bin .mod (.bin .add (.bin .mul (.v 4) (.v 4)) (.v 3)) (.c (.int 2147483587))))) .nil))))
    (xs := (rangeL 0 (30 : Nat)).map D.int) (e := [some (.scr ns), some (.int (k : Int)), some (.int hd), some (.int ((r + 7919 * k : Nat) : Int)), some (.int ((69621 * k + 5 : Nat) : Int)), some (.int ((0 : Nat) : Int)), none, none])
    (fun i e => ∃ (one other total : Nat) (x6 : Option D), e = [some (.scr ns), some (.int (k : Int)), some (.int hd), some (.int (one : Int)), some (.int (other : Int)), some (.int (total : Int)), x6, none] ∧ one < 2 ^ 40 ∧ other < 2 ^ 40 ∧ total + 1 ≤ 2147483629 ^ i)
    ⟨_, _, _, _, rfl, by omega, by omega, by decide⟩ (fun i e hi ⟨one, other, total, x6, he, b1, b2, b3⟩ => by
      rw [rangeL_length] at hi
      rw [rangeL_get, he]
      have tB : total < BIG := lt_BIG (k := 31 * 30) (Nat.lt_of_lt_of_le (Nat.lt_of_succ_le b3) (by
        refine Nat.le_trans (Nat.pow_le_pow_right (by decide) (Nat.le_of_lt hi)) ?_
        rw [Nat.pow_mul]
        exact Nat.pow_le_pow_left (by decide) 30)) (by decide)
      have c1 : binD .mul (.int (one : Int)) (.int 48271) = some (.int ((one * 48271 : Nat) : Int)) := nMul one 48271 (bigN (by omega)) (bigN (by omega))
      have c2 : binD .add (.int ((one * 48271 : Nat) : Int)) (.int 11) = some (.int ((one * 48271 + 11 : Nat) : Int)) := nAdd _ 11
      have c3 := nMul i k (bigN (by omega)) kB
      have c4 := nAdd (one * 48271 + 11) (i * k)
      have c5 : binD .mod (.int ((one * 48271 + 11 + i * k : Nat) : Int)) (.int 2147483647) = some (.int (((one * 48271 + 11 + i * k) % 2147483647 : Nat) : Int)) := nMod _ 2147483647 (by decide)
      have l1 : (one * 48271 + 11 + i * k) % 2147483647 < 2147483647 := Nat.mod_lt _ (by decide)
      generalize (one * 48271 + 11 + i * k) % 2147483647 = o1 at c5 l1
      have c6 : binD .mul (.int (other : Int)) (.int 16807) = some (.int ((other * 16807 : Nat) : Int)) := nMul other 16807 (bigN (by omega)) (bigN (by omega))
      have c7 := nAdd (other * 16807) o1
      have c8 : binD .mod (.int ((other * 16807 + o1 : Nat) : Int)) (.int 2147483629) = some (.int (((other * 16807 + o1) % 2147483629 : Nat) : Int)) := nMod _ 2147483629 (by decide)
      have l2 : (other * 16807 + o1) % 2147483629 < 2147483629 := Nat.mod_lt _ (by decide)
      generalize (other * 16807 + o1) % 2147483629 = o2 at c8 l2
      have c9 : binD .mul (.int (total : Int)) (.int 2147483629) = some (.int ((total * 2147483629 : Nat) : Int)) := nMul total 2147483629 tB (bigN (by omega))
      have d1 := nMul o2 o2 (bigN (by omega)) (bigN (by omega))
      have d2 := nAdd (o2 * o2) o1
      have d3 : binD .mod (.int ((o2 * o2 + o1 : Nat) : Int)) (.int 2147483587) = some (.int (((o2 * o2 + o1) % 2147483587 : Nat) : Int)) := nMod _ 2147483587 (by decide)
      have l3 : (o2 * o2 + o1) % 2147483587 < 2147483587 := Nat.mod_lt _ (by decide)
      generalize (o2 * o2 + o1) % 2147483587 = o3 at d3 l3
      have d4 := nAdd (total * 2147483629) o3
      refine ⟨_, [some (.scr ns), some (.int (k : Int)), some (.int hd), some (.int (o1 : Int)), some (.int (o2 : Int)), some (.int ((total * 2147483629 + o3 : Nat) : Int)), some (.int (i : Int)), none], rfl, ?_, o1, o2, total * 2147483629 + o3, _, rfl, by omega, by omega, ?_⟩
      · simp only [EV, ES, RC, RD, List.set_cons_zero, List.set_cons_succ, List.getElem?_cons_zero, List.getElem?_cons_succ, ioE, Bool.or_false, Bool.false_and, bindT, c1, c2, c3, c4, c5, c6, c7, c8, c9, d1, d2, d3, d4]
      · rw [Nat.pow_succ]
        have : (total + 1) * 2147483629 ≤ 2147483629 ^ i * 2147483629 := Nat.mul_le_mul_right _ b3
        omega)
  obtain ⟨e', l1, one, other, total, x6, rfl, b1, b2, b3⟩ := lp
  rw [rangeL_length] at b3
  have tB : total < BIG := lt_BIG (k := 31 * 30) (Nat.lt_of_lt_of_le (Nat.lt_of_succ_le b3) (by
    rw [Nat.pow_mul]
    exact Nat.pow_le_pow_left (by decide) 30)) (by decide)
  have d720 : 720 < DVB := dvbN (by omega)
  have bl : bitsI ((ns.getD k 0).natAbs : Int) ≤ 1048576 := by
    have : bitsI ((ns.getD k 0).natAbs : Int) = bitsI (ns.getD k 0) := by
      unfold bitsI
      simp
    rw [this]
    by_cases h : k < ns.length
    · rw [List.getD_eq_getElem?_getD, List.getElem?_eq_getElem h]
      exact hb _ (List.getElem_mem h)
    · rw [List.getD_eq_getElem?_getD, List.getElem?_eq_none (by omega)]
      decide
  generalize ns.getD k 0 = cell at h1 bl
  have sh : binD .shl (.int (total : Int)) (.int (bitsI (cell.natAbs : Int) : Int)) = some (.int ((total * 2 ^ bitsI (cell.natAbs : Int) : Nat) : Int)) := by
    have : ((bitsI (cell.natAbs : Int) : Nat) : Int) ≤ 2000000 := by omega
    simp [binD, this, tB]
  have ad := nAdd cell.natAbs (total * 2 ^ bitsI (cell.natAbs : Int))
  have hr30 : rngD [.int 30] = some (rangeL 0 (30 : Nat)) := rfl
  have f1 : binD .fdiv (.int hd) (.int 720) = some (.int (hd / 720)) := by simp [binD, d720]
  have f2 : binD .mod (.int (hd / 720)) (.int 2) = some (.int (hd / 720 % 2)) := by simp [binD]
  have l1' : fr Φ (.n 6) _ ((rangeL 0 (30 : Nat)).map D.int) [some (.scr ns), some (.int (k : Int)), some (.int hd), some (.int ((r + 7919 * k : Nat) : Int)), some (.int ((69621 * k + 5 : Nat) : Int)), some (.int 0), none, none] = _ := l1
  have en : ∀ (b : Bool), (hd / 720 % 2 == 1) = b → ∃ n : Nat, runP Φ 2 (df_law_number c) [.scr ns, .int (k : Int)] = some (.ret (.int n) []) := fun b hb => by
    refine ⟨if b then total else cell.natAbs + total * 2 ^ bitsI (cell.natAbs : Int), ?_⟩
    simp only [↓l1', df_law_number, runP_eq, List.length_cons, List.length_nil, Nat.zero_add, Nat.reduceAdd, List.map_cons, List.map_nil, List.cons_append, List.nil_append, Nat.reduceSub, List.replicate_succ, List.replicate_zero, EV, ES, RC, RD, List.getElem?_cons_zero, List.getElem?_cons_succ, List.set_cons_zero, List.set_cons_succ,
      ioE, ioL, Bool.or_false, Bool.false_or, Bool.false_and, bindT, h0, a1, a2, a3, a4, a5, hr30, f1, f2, cmpD, SHP, EQ, Bool.and_self, if_true, hb]
    cases b
    · simp only [EV, ES, RC, RD, List.getElem?_cons_zero, List.getElem?_cons_succ, List.set_cons_zero, List.set_cons_succ, ioE, ioL, Bool.or_false, Bool.false_or, Bool.false_and, bindT, h1, biD, mtD, PU, sh, ad, Bool.not_true, if_false, Bool.false_eq_true]
    · simp only [EV, ES, RC, RD, List.getElem?_cons_zero, List.getElem?_cons_succ, PU, Bool.not_true, if_true]
  exact en _ rfl
def AmtS (F : Fn) : Prop := ∀ n : Nat, ∃ a m : Nat, F [.int (n : Int)] = some (.ret (.tup [.int (a : Int), .int (m : Int)]) []) ∧ a < 10 ^ 30
theorem s_amount (Φ : Nat → Fn) : AmtS (runP Φ 1 df_law_amount) := by
  intro n
  have e1 : binD .mod (.int (n : Int)) (.int 8) = some (.int ((n % 8 : Nat) : Int)) := nMod n 8 (by decide)
  have e2 : binD .fdiv (.int (n : Int)) (.int 8) = some (.int ((n / 8 : Nat) : Int)) := nDiv n 8 (by decide) (dvbN (by decide))
  have l1 : n % 8 < 8 := Nat.mod_lt _ (by decide)
  generalize n / 8 = u at e2
  generalize n % 8 = w at e1 l1
  have f1 : binD .mod (.int (u : Int)) (.int 10) = some (.int ((u % 10 : Nat) : Int)) := nMod u 10 (by decide)
  have f2 : binD .fdiv (.int (u : Int)) (.int 10) = some (.int ((u / 10 : Nat) : Int)) := nDiv u 10 (by decide) (dvbN (by decide))
  have f3 : binD .mod (.int (u : Int)) (.int 100) = some (.int ((u % 100 : Nat) : Int)) := nMod u 100 (by decide)
  have f4 : binD .fdiv (.int (u : Int)) (.int 100) = some (.int ((u / 100 : Nat) : Int)) := nDiv u 100 (by decide) (dvbN (by decide))
  have p30 : binD .pow (.int 10) (.int 30) = some (.int ((10 ^ 30 : Nat) : Int)) := by simp [binD]
  have f5 : binD .mod (.int (u : Int)) (.int ((10 ^ 30 : Nat) : Int)) = some (.int ((u % 10 ^ 30 : Nat) : Int)) := nMod u (10 ^ 30) (by decide)
  have f6 : binD .fdiv (.int (u : Int)) (.int ((10 ^ 30 : Nat) : Int)) = some (.int ((u / 10 ^ 30 : Nat) : Int)) := nDiv u (10 ^ 30) (by decide) (dvbN (by decide))
  have g1 : u % 10 < 10 ^ 30 := by omega
  have g2 : u % 100 < 10 ^ 30 := by omega
  have g3 : u % 10 ^ 30 < 10 ^ 30 := Nat.mod_lt _ (by decide)
  generalize ((10 ^ 30 : Nat) : Int) = T30 at p30 f5 f6
  generalize u % 10 ^ 30 = r1 at *
  generalize u / 10 ^ 30 = r2 at *
  refine ⟨if w = 0 then 0 else if w < 6 then u % 10 else if w = 6 then u % 100 else r1, if w = 0 then u else if w < 6 then u / 10 else if w = 6 then u / 100 else r2, ?_, by split <;> (try split) <;> (try split) <;> first | assumption | decide⟩
  have cs : w = 0 ∨ (w ≠ 0 ∧ w < 6) ∨ w = 6 ∨ w = 7 := by omega
  rcases cs with rfl | ⟨z1, z2⟩ | rfl | rfl
  · simp [df_law_amount, runP_eq, EV, ES, RC, RD, ioE, ioL, bindT, e1, e2, cmpD, SHP, EQ, PU]
  · have z3 : ((w : Int) == 0) = false := by simp; omega
    have z4 : (w : Int) < 6 := by omega
    simp [df_law_amount, runP_eq, EV, ES, RC, RD, ioE, ioL, bindT, e1, e2, cmpD, SHP, EQ, PU, z1, z2, z3, z4, f1, f2]
  · simp [df_law_amount, runP_eq, EV, ES, RC, RD, ioE, ioL, bindT, e1, e2, cmpD, SHP, EQ, PU, f3, f4]
  · simp [df_law_amount, runP_eq, EV, ES, RC, RD, ioE, ioL, bindT, e1, e2, cmpD, SHP, EQ, PU, p30, f5, f6]
def aboD : Option Nat → D
  | none => .non
  | some a => .int (a : Int)
def natD (bs : List Nat) : List D := bs.map fun (b : Nat) => D.int (b : Int)
def lineD (l : Option Nat × List Nat) : D := .tup [aboD l.1, .tup (natD l.2)]
structure Yd where
  T : Nat
  ls : List (Option Nat × List Nat)
def Yd.d (Y : Yd) : D := .tup [.int (Y.T : Int), .tup (Y.ls.map lineD)]
structure LnOk (T i : Nat) (l : Option Nat × List Nat) : Prop where
  len : l.2.length = T
  bnd : ∀ b ∈ l.2, b < 10 ^ 30
  root : i = 0 → l.1 = none
  up : 0 < i → ∃ j, l.1 = some j ∧ j < i
structure Yd.Ok (Y : Yd) : Prop where
  t1 : 1 ≤ Y.T
  t8 : Y.T ≤ 8
  l1 : 1 ≤ Y.ls.length
  l5 : Y.ls.length ≤ 5
  ln : ∀ i l, Y.ls[i]? = some l → LnOk Y.T i l
theorem natD_len (bs : List Nat) : (natD bs).length = bs.length := by simp [natD]
theorem pure_natD (bs : List Nat) : pureDs (natD bs) = true := by
  rw [pureDs_all]; simp [natD, PU]
theorem pure_lineD (l : Option Nat × List Nat) : pureD (lineD l) = true := by
  obtain ⟨a, bs⟩ := l
  cases a <;> simp [lineD, aboD, PU, pure_natD]
theorem pure_lines (ls : List (Option Nat × List Nat)) : pureDs (ls.map lineD) = true := by
  rw [pureDs_all]; simp [pure_lineD]
theorem Yd.pure (Y : Yd) : pureD Y.d = true := by simp [Yd.d, PU, pure_lines]
theorem shp_natD (n : Nat) (bs : List Nat) : shps n (natD bs) = true := by
  rw [shps_all]; simp [natD, SHP]
theorem shp_lineD (l : Option Nat × List Nat) : shp 58 (lineD l) = true := by
  obtain ⟨a, bs⟩ := l
  cases a <;> simp [lineD, aboD, SHP, shp_natD]
theorem Yd.shp (Y : Yd) : Cy.shp 60 Y.d = true := by
  have h : shps 58 (Y.ls.map lineD) = true := by rw [shps_all]; simp [shp_lineD]
  simp [Yd.d, SHP, h]
def YardS (F : Fn) (ns : List Int) : Prop := ∃ Y : Yd, F [.scr ns] = some (.ret Y.d []) ∧ Y.Ok
theorem s_yard {Φ : Nat → Fn} {c n a : Nat} (ns : List Int) (hc : CellS (Φ c)) (hn : NumS (Φ n) ns) (ha : AmtS (Φ a)) : YardS (runP Φ 1 (df_law_yard c n a)) ns := by
  have h0 : Φ c [.scr ns, .int 0] = some (.ret (.int (ns.getD 0 0)) []) := hc ns 0
  generalize ns.getD 0 0 = hd at h0
  have e1 : binD .mod (.int (hd.natAbs : Int)) (.int 8) = some (.int ((hd.natAbs % 8 : Nat) : Int)) := nMod _ 8 (by decide)
  have l1 : hd.natAbs % 8 < 8 := Nat.mod_lt _ (by decide)
  have e2 : binD .fdiv (.int (hd.natAbs : Int)) (.int 8) = some (.int ((hd.natAbs / 8 : Nat) : Int)) := nDiv _ 8 (by decide) (dvbN (by decide))
  have e3 : binD .mod (.int ((hd.natAbs / 8 : Nat) : Int)) (.int 5) = some (.int ((hd.natAbs / 8 % 5 : Nat) : Int)) := nMod _ 5 (by decide)
  have l2 : hd.natAbs / 8 % 5 < 5 := Nat.mod_lt _ (by decide)
  generalize hd.natAbs / 8 % 5 = q5 at e3 l2
  generalize hd.natAbs / 8 = q at e2 e3
  generalize hd.natAbs % 8 = T at e1 l1
  have e4 : binD .add (.int 1) (.int (T : Int)) = some (.int ((1 + T : Nat) : Int)) := nAdd 1 T
  have e5 : binD .add (.int 1) (.int (q5 : Int)) = some (.int ((1 + q5 : Nat) : Int)) := nAdd 1 q5
  have t1 : 1 ≤ 1 + T := by omega
  have t8 : 1 + T ≤ 8 := by omega
  have l15 : 1 ≤ 1 + q5 ∧ 1 + q5 ≤ 5 := by omega
  generalize 1 + T = TT at *
  generalize 1 + q5 = LL at *
  have hrg : ∀ m : Nat, m < 100 → rngD [.int (m : Int)] = some (rangeL 0 (m : Int)) := fun m hm => by
    have : m < 4000000 := by omega
    simp [rngD, this]
  -- the bounds of a line
  have inner : ∀ (k num : Nat) (ls : List D) (ab : D) (x8 x9 : Option D), ∃ (bs : List Nat) (num2 : Nat) (x8' x9' : Option D), bs.length = TT ∧ (∀ b ∈ bs, b < 10 ^ 30) ∧
      fr Φ (.n 8) (.cons (.asg (.t [(.n 9), (.n 5)]) (.call a (.cons (.v 5) .nil))) (.cons (.upd 7 [] (.app (.pur (.v 9))) []) .nil)) ((rangeL 0 ((TT : Nat) : Int)).map D.int)
        [some (.scr ns), some (.int (hd.natAbs : Int)), some (.int ((TT : Nat) : Int)), some (.lst ls), some (.int (k : Int)), some (.int (num : Int)), some ab, some (.lst []), x8, x9] =
      some (.ok .nx [some (.scr ns), some (.int (hd.natAbs : Int)), some (.int ((TT : Nat) : Int)), some (.lst ls), some (.int (k : Int)), some (.int (num2 : Int)), some ab, some (.lst (natD bs)), x8', x9']) := by
    intro k num ls ab x8 x9
    obtain ⟨e', h1, bs, num2, x8', x9', he, hl, hb⟩ := fr_inv (Φ := Φ) (tg := .n 8) (b := (.cons (.asg (.t [(.n 9), (.n 5)]) (.call a (.cons (.v 5) .nil))) (.cons (.upd 7 [] (.app (.pur (.v 9))) []) .nil))) (xs := (rangeL 0 ((TT : Nat) : Int)).map D.int)
      (e := [some (.scr ns), some (.int (hd.natAbs : Int)), some (.int ((TT : Nat) : Int)), some (.lst ls), some (.int (k : Int)), some (.int (num : Int)), some ab, some (.lst []), x8, x9])
      (fun i e => ∃ (bs : List Nat) (num2 : Nat) (x8' x9' : Option D), e = [some (.scr ns), some (.int (hd.natAbs : Int)), some (.int ((TT : Nat) : Int)), some (.lst ls), some (.int (k : Int)), some (.int (num2 : Int)), some ab, some (.lst (natD bs)), x8', x9'] ∧ bs.length = i ∧ ∀ b ∈ bs, b < 10 ^ 30)
      ⟨[], num, x8, x9, rfl, rfl, fun b h => nomatch h⟩ (fun i e hi ⟨bs, num2, x8', x9', he, hl, hb⟩ => by
        rw [rangeL_length] at hi
        rw [rangeL_get, he]
        obtain ⟨am, m, h2, h3⟩ := ha num2
        have hz : bs.length < 1000000 := by omega
        refine ⟨_, [some (.scr ns), some (.int (hd.natAbs : Int)), some (.int ((TT : Nat) : Int)), some (.lst ls), some (.int (k : Int)), some (.int (m : Int)), some ab, some (.lst (natD (bs ++ [am]))), some (.int (i : Int)), some (.int (am : Int))], rfl, ?_, bs ++ [am], m, _, _, rfl, by simp [hl], fun b h => ?_⟩
        · simp [EV, ES, RC, RD, RU, ioL, bindT, bindTs, h2, PU, chkP, getP, updD, fApp, natD_len, hz, kil, natD]
        · rcases List.mem_append.mp h with h | h
          · exact hb b h
          · rw [List.mem_singleton.mp h]; exact h3)
    rw [rangeL_length] at hl
    exact ⟨bs, num2, x8', x9', hl, hb, he ▸ h1⟩
  obtain ⟨e', lp, ls, x4, x5, x6, x7, x8, x9, he, hl, hok⟩ := fr_inv (Φ := Φ) (tg := .n 4) (b := (.cons (.asg (.n 5) (.call n (.cons (.v 0) (.cons (.bin .add (.c (.int 1)) (.v 4)) .nil)))) (.cons (.asg (.n 6) (.c .non)) (.cons (.ifs (.cmp .gt (.v 4) (.c (.int 0))) (.cons (.asg (.n 6) (.bin .mod (.v 5) (.v 4))) (.cons (.asg (.n 5) (.bin .fdiv (.v 5) (.v 4))) .nil)) .nil) (.cons (.asg (.n 7) (.lst .nil)) (.cons (.for (.n 8) (.rng (.cons (.v 2) .nil)) (.cons (.asg (.t [(.n 9), (.n 5)]) (.call a (.cons (.v 5) .nil))) (.cons (.upd 7 [] (.app (.pur (.v 9))) []) .nil))) (.cons (.upd 3 [] (.app (.tup (.cons (.pur (.v 6)) (.cons (.bi .tuple (.cons (.mv 7) .nil)) .nil)))) []) .nil)))))))
    (xs := (rangeL 0 ((LL : Nat) : Int)).map D.int) (e := [some (.scr ns), some (.int (hd.natAbs : Int)), some (.int ((TT : Nat) : Int)), some (.lst []), none, none, none, none, none, none])
    (fun i e => ∃ (ls : List (Option Nat × List Nat)) (x4 x5 x6 x7 x8 x9 : Option D), e = [some (.scr ns), some (.int (hd.natAbs : Int)), some (.int ((TT : Nat) : Int)), some (.lst (ls.map lineD)), x4, x5, x6, x7, x8, x9] ∧ ls.length = i ∧ ∀ j l, ls[j]? = some l → LnOk TT j l)
    ⟨[], none, none, none, none, none, none, rfl, rfl, fun j l h => by simp at h⟩ (fun i e hi ⟨ls, x4, x5, x6, x7, x8, x9, he, hl, hok⟩ => by
      rw [rangeL_length] at hi
      rw [rangeL_get, he]
      obtain ⟨num, hnum⟩ := hn (1 + i) (by omega)
      have a1 : binD .add (.int 1) (.int (i : Int)) = some (.int ((1 + i : Nat) : Int)) := nAdd 1 i
      generalize 1 + i = ki at hnum a1
      have hz : ls.length < 1000000 := by omega
      have ht := hrg TT (by omega)
      have app : ∀ (l : Option Nat × List Nat), LnOk TT i l → ∀ j l', (ls ++ [l])[j]? = some l' → LnOk TT j l' := fun l hok1 j l' h => by
        by_cases hj : j < ls.length
        · rw [List.getElem?_append_left hj] at h
          exact hok j l' h
        · rw [List.getElem?_append_right (by omega)] at h
          have : j - ls.length = 0 := by
            by_cases z : j - ls.length = 0
            · exact z
            · rw [List.getElem?_eq_none (by simp; omega)] at h; cases h
          rw [this] at h
          simp at h
          subst h
          have : j = i := by omega
          subst this; exact hok1
      by_cases h0 : i = 0
      · obtain ⟨bs, num2, x8', x9', b1, b2, b3⟩ := inner i num (ls.map lineD) .non x8 x9
        have hi0 : ¬ 0 < i := by omega
        refine ⟨_, [some (.scr ns), some (.int (hd.natAbs : Int)), some (.int ((TT : Nat) : Int)), some (.lst ((ls ++ [(none, bs)]).map lineD)), some (.int (i : Int)), some (.int (num2 : Int)), some .non, none, x8', x9'], rfl, ?_, ls ++ [(none, bs)], _, _, _, _, _, _, rfl, by simp [hl], app (none, bs) ⟨b1, b2, fun _ => rfl, fun z => by omega⟩⟩
        simp [↓b3, EV, ES, RC, RD, RU, ioE, ioL, bindT, a1, hnum, ht, cmpD, biD, PU, chkP, getP, updD, fApp, hz, kil, lineD, aboD, natD_len, pure_natD, hi0]
      · have hi0 : 0 < i := by omega
        have m1 := nMod num i (by omega)
        have m2 := nDiv num i (by omega) (dvbN (by omega))
        have ml : num % i < i := Nat.mod_lt _ (by omega)
        generalize num % i = ab1 at m1 ml
        obtain ⟨bs, num2, x8', x9', b1, b2, b3⟩ := inner i (num / i) (ls.map lineD) (.int (ab1 : Int)) x8 x9
        generalize num / i = num1 at m2 b3
        refine ⟨_, [some (.scr ns), some (.int (hd.natAbs : Int)), some (.int ((TT : Nat) : Int)), some (.lst ((ls ++ [(some ab1, bs)]).map lineD)), some (.int (i : Int)), some (.int (num2 : Int)), some (.int (ab1 : Int)), none, x8', x9'], rfl, ?_, ls ++ [(some ab1, bs)], _, _, _, _, _, _, rfl, by simp [hl], app (some ab1, bs) ⟨b1, b2, fun z => absurd z h0, fun _ => ⟨ab1, rfl, ml⟩⟩⟩
        simp [↓b3, EV, ES, RC, RD, RU, ioE, ioL, bindT, a1, hnum, ht, cmpD, biD, PU, chkP, getP, updD, fApp, hz, kil, lineD, aboD, natD_len, pure_natD, hi0, m1, m2])
  rw [rangeL_length] at hl
  have hL := hrg LL (by omega)
  refine ⟨⟨TT, ls⟩, ?_, t1, t8, by rw [hl]; exact l15.1, by rw [hl]; exact l15.2, hok⟩
  rw [he] at lp
  simp [↓lp, df_law_yard, runP_eq, EV, ES, RC, RD, ioE, ioL, bindT, h0, e1, e2, e3, e4, e5, hL, PU, biD, Yd.d]
end Cy
end
section
set_option Elab.async false
set_option linter.all false
set_option maxRecDepth 100000
set_option maxHeartbeats 4000000
namespace Cy
open PySem
theorem all_true {α : Type} (xs : List α) : biD .all [.lst (xs.map fun _ => .bl true)] = some (.bl true) := by
  have h : ∀ ys : List α, blsOf (ys.map fun _ => D.bl true) = some (ys.map fun _ => true) := fun ys => by
    induction ys with
    | nil => rfl
    | cons y ys ih => simp only [List.map_cons, blsOf, ih, Option.map_some]
  have g : ∀ ys : List α, (ys.map fun _ => true).all id = true := fun ys => by simp
  simp only [biD, h, Option.map_some, g]
theorem cp_true {Φ : Nat → Fn} {elt : DE} {tg : Tg} {os : List Nat} {xs : List D} {e1 : En} (h : ∀ x ∈ xs, ∃ e, bindT tg x (wipeE os e1) = some e ∧ ∃ e2, ev Φ elt e = some (.ok (.bl true) e2)) (hl : xs.length ≤ LMX) : cp Φ elt tg .nil os xs e1 = some (xs.map fun _ => .bl true) :=
  cp_map (f := fun _ => .bl true) h hl
def WholeS (F : Fn) : Prop := ∀ x lo hi : Int, lo ≤ x → x < hi → F [.int x, .int lo, .int hi] = some (.ret (.bl true) [])
theorem s_is_whole (Φ : Nat → Fn) : WholeS (runP Φ 3 df_is_whole) := by
  intro x lo hi h1 h2
  simp [df_is_whole, runP_eq, EV, ES, RC, RD, ioE, ioL, biD, isiD, cmpD, h1, h2, PU]
def LineS (F : Fn) : Prop := ∀ (T i : Nat) (l : Option Nat × List Nat), T ≤ 8 → LnOk T i l → F [lineD l, .int (i : Int), .int (T : Int)] = some (.ret (.bl true) [])
theorem s_is_line {Φ : Nat → Fn} {w : Nat} (hw : WholeS (Φ w)) : LineS (runP Φ 3 (df_is_line w)) := by
  intro T i l hT ok
  obtain ⟨a, bs⟩ := l
  have hbl : bs.length = T := ok.len
  have hb := ok.bnd
  dsimp only at hb
  have comp : ∀ (x3 : Option D), cp Φ (.call w (.cons (.v 5) (.cons (.c (.int 0)) (.cons (.g "BEYOND" (.int 1000000000000000000000000000000)) .nil)))) (.n 5) .nil [5] (natD bs)
      [some (lineD (a, bs)), some (.int (i : Int)), some (.int (T : Int)), x3, some (.tup (natD bs)), none] = some ((natD bs).map fun _ => .bl true) := fun x3 => by
    refine cp_true (fun x hx => ?_) (by rw [natD_len, hbl]; show _ ≤ 1000000; omega)
    obtain ⟨b, hb1, rfl⟩ := List.mem_map.mp hx
    have hlt := hb b hb1
    have := hw (b : Int) 0 1000000000000000000000000000000 (by omega) (by omega)
    refine ⟨_, rfl, [some (lineD (a, bs)), some (.int (i : Int)), some (.int (T : Int)), x3, some (.tup (natD bs)), some (.int (b : Int))], ?_⟩
    simp [wipeE, EV, RC, RD, ioL, ioE, PU, this]
  have at' := all_true (natD bs)
  simp only [biD] at at'
  cases a with
  | none =>
    have i0 : i = 0 := by
      rcases Nat.eq_zero_or_pos i with z | z
      · exact z
      · obtain ⟨j, hj, _⟩ := ok.up z; cases hj
    subst i0
    have c0 := comp (some .non)
    simp [lineD, aboD] at c0
    simp [↓c0, df_is_line, runP_eq, EV, ES, RC, RD, ioE, ioL, biD, isiD, cmpD, SHP, EQ, PU, lineD, aboD, bindT, bindTs, isNonD, natD_len, hbl, itemsD, at']
  | some a =>
    have ip : 0 < i := by
      rcases Nat.eq_zero_or_pos i with z | z
      · have := ok.root z; cases this
      · exact z
    obtain ⟨j, hj, hji⟩ := ok.up ip
    simp only [Option.some.injEq] at hj
    subst hj
    have c0 := comp (some (.int (a : Int)))
    have wh := hw (a : Int) 0 (i : Int) (by omega) (by omega)
    have i1 : ((i : Int) == 0) = false := by simp; omega
    simp [lineD, aboD] at c0
    simp [↓c0, df_is_line, runP_eq, EV, ES, RC, RD, ioE, ioL, biD, isiD, cmpD, SHP, EQ, PU, lineD, aboD, bindT, bindTs, isNonD, natD_len, hbl, itemsD, i1, ip, wh, at']
def YardIs (F : Fn) : Prop := ∀ Y : Yd, Y.Ok → F [Y.d] = some (.ret (.bl true) [])
theorem enumL_mem : ∀ (n : Nat) (xs : List D) (x : D), x ∈ enumL n xs → ∃ i d, xs[i]? = some d ∧ x = .tup [.int ((n + i : Nat) : Int), d]
  | _, [], _, h => by simp [enumL] at h
  | n, y :: ys, x, h => by
    simp only [enumL, List.mem_cons] at h
    rcases h with rfl | h
    · exact ⟨0, y, rfl, rfl⟩
    · obtain ⟨i, d, h1, rfl⟩ := enumL_mem (n + 1) ys x h
      exact ⟨i + 1, d, by simpa using h1, by congr 4; omega⟩
theorem enumL_length : ∀ (n : Nat) (xs : List D), (enumL n xs).length = xs.length
  | _, [] => rfl
  | n, x :: xs => by simp [enumL, enumL_length (n + 1) xs]
theorem s_is_yard {Φ : Nat → Fn} {w l : Nat} (hw : WholeS (Φ w)) (hl : LineS (Φ l)) : YardIs (runP Φ 1 (df_is_yard w l)) := by
  intro Y ok
  obtain ⟨T, ls⟩ := Y
  have t1 := ok.t1
  have t8 := ok.t8
  have l1 := ok.l1
  have l5 := ok.l5
  dsimp only at t1 t8 l1 l5
  have w1 := hw (T : Int) 1 9 (by omega) (by omega)
  have c0 : cp Φ (.call l (.cons (.v 4) (.cons (.v 3) (.cons (.v 1) .nil)))) (.t [(.n 3), (.n 4)]) .nil [3, 4] (enumL 0 (ls.map lineD)) [some (.tup [.int (T : Int), .tup (ls.map lineD)]), some (.int (T : Int)), some (.tup (ls.map lineD)), none, none] = some ((enumL 0 (ls.map lineD)).map fun _ => .bl true) := by
    refine cp_true (fun x hx => ?_) (by rw [enumL_length, List.length_map]; show _ ≤ 1000000; omega)
    obtain ⟨i, d, h1, rfl⟩ := enumL_mem _ _ _ hx
    rw [List.getElem?_map] at h1
    cases q : ls[i]? with
    | none => rw [q] at h1; cases h1
    | some ln =>
      rw [q] at h1
      simp only [Option.map_some, Option.some.injEq] at h1
      subst h1
      have lk := ok.ln i ln q
      have := hl T i ln t8 lk
      refine ⟨_, rfl, [some (.tup [.int (T : Int), .tup (ls.map lineD)]), some (.int (T : Int)), some (.tup (ls.map lineD)), some (.int (i : Int)), some (lineD ln)], ?_⟩
      simp [wipeE, EV, RC, RD, ioL, ioE, PU, pure_lineD, this]
  have z1 : (1 : Int) ≤ (ls.length : Int) := by omega
  have z2 : (ls.length : Int) ≤ 5 := by omega
  have at' := all_true (enumL 0 (ls.map lineD))
  simp only [biD] at at'
  simp [↓c0, df_is_yard, runP_eq, EV, ES, RC, RD, ioE, ioL, biD, isiD, cmpD, SHP, EQ, PU, Yd.d, bindT, bindTs, w1, binD, z1, z2, at', l1, l5]
end Cy
end
section
set_option Elab.async false
set_option linter.all false
set_option maxRecDepth 100000
set_option maxHeartbeats 4000000
namespace Cy
open PySem
structure Gd where
  line : Nat
  first : Nat
  last : Nat
  want : Nat
  most : Nat
def Gd.d (g : Gd) : D := .tup [.int (g.line : Int), .int (g.first : Int), .int (g.last : Int), .int (g.want : Int), .int (g.most : Int)]
structure Gd.Ok (Y : Yd) (g : Gd) : Prop where
  ln : g.line < Y.ls.length
  fl : g.first ≤ g.last
  lt : g.last < Y.T
  w1 : 1 ≤ g.want
  w2 : g.want < 10 ^ 30
  m1 : 1 ≤ g.most
  m2 : g.most < 10 ^ 30
theorem Gd.pure (g : Gd) : pureD g.d = true := by simp [Gd.d, PU]
theorem Gd.shp (g : Gd) : Cy.shp 59 g.d = true := by simp [Gd.d, SHP]
theorem cp_filter2 {α : Type} {Φ : Nat → Fn} {elt : DE} {tg : Tg} {ifs : DEs} {os : List Nat} {e1 : En} (g h : α → D) (p : α → Bool) : ∀ (ls : List α), (∀ a ∈ ls, ∃ e, bindT tg (g a) (wipeE os e1) = some e ∧ ∃ e2, evTs Φ ifs e = some (.ok (p a) e2) ∧ (p a = true → ∃ e3, ev Φ elt e2 = some (.ok (h a) e3))) → ls.length ≤ 1000000 →
    cp Φ elt tg ifs os (ls.map g) e1 = some ((ls.filter p).map h)
  | [], _, _ => rfl
  | a :: ls, hs, hl => by
    obtain ⟨e, h1, e2, h2, h3⟩ := hs a (List.mem_cons_self ..)
    have ih := cp_filter2 (Φ := Φ) (elt := elt) (tg := tg) (ifs := ifs) (os := os) (e1 := e1) g h p ls (fun b hb => hs b (List.mem_cons_of_mem _ hb)) (Nat.le_of_succ_le hl)
    unfold cp at ih ⊢
    cases q : p a with
    | false =>
      rw [q] at h2
      simp only [List.map_cons, compL, h1, h2, ih, List.filter_cons, q]; rfl
    | true =>
      rw [q] at h2
      obtain ⟨e3, h3⟩ := h3 q
      simp only [List.map_cons, compL, h1, h2, h3, ih, Option.bind_some, List.filter_cons, q, if_true, List.length_map]
      rw [if_pos]
      have := List.length_filter_le p ls
      simp only [List.length_cons] at hl
      show _ < 1000000
      omega
theorem cp_map2 {α : Type} {Φ : Nat → Fn} {elt : DE} {tg : Tg} {os : List Nat} {e1 : En} (g h : α → D) (ls : List α) (hs : ∀ a ∈ ls, ∃ e, bindT tg (g a) (wipeE os e1) = some e ∧ ∃ e2, ev Φ elt e = some (.ok (h a) e2)) (hl : ls.length ≤ 1000000) : cp Φ elt tg .nil os (ls.map g) e1 = some (ls.map h) := by
  have z := cp_filter2 (Φ := Φ) (elt := elt) (tg := tg) (ifs := .nil) (os := os) (e1 := e1) g h (fun _ => true) ls (fun a ha => let ⟨e, h1, e2, h2⟩ := hs a ha; ⟨e, h1, e, rfl, fun _ => ⟨e2, h2⟩⟩) hl
  rwa [List.filter_eq_self.mpr (fun _ _ => rfl)] at z
end Cy
end
section
set_option Elab.async false
set_option linter.all false
set_option maxRecDepth 100000
set_option maxHeartbeats 4000000
namespace Cy
open PySem
def bnd (Y : Yd) (l t : Nat) : Nat := ((Y.ls.getD l (none, [])).2).getD t 0
end Cy
end
section
set_option Elab.async false
set_option linter.all false
set_option maxRecDepth 100000
set_option maxHeartbeats 4000000
namespace Cy
open PySem
end Cy
end
section
set_option Elab.async false
set_option linter.all false
set_option maxRecDepth 100000
set_option maxHeartbeats 4000000
namespace Cy
open PySem
def abv (Y : Yd) (l : Nat) : Option Nat := (Y.ls.getD l (none, [])).1
def upF (Y : Yd) : Nat → Option Nat → List Nat
  | 0, _ => []
  | _ + 1, none => []
  | n + 1, some l => l :: upF Y n (abv Y l)
def upO (Y : Yd) : Option Nat → List Nat
  | none => []
  | some l => upF Y (l + 1) (some l)
def upY (Y : Yd) (l : Nat) : List Nat := upO Y (some l)
/-- a line and all beneath it -/
def beneath (Y : Yd) (l : Nat) : List Nat := (List.range Y.ls.length).filter fun m => decide (l ∈ upY Y m)
end Cy
end
section
set_option Elab.async false
set_option linter.all false
set_option maxRecDepth 100000
set_option maxHeartbeats 4000000
namespace Cy
open PySem
def put (g : Nat → Int) (t : Nat) (x : Int) : Nat → Int := fun u => if u = t then x else g u
end Cy
end
section
set_option Elab.async false
set_option linter.all false
set_option maxRecDepth 100000
set_option maxHeartbeats 4000000
namespace Cy
open PySem
end Cy
end
section
set_option Elab.async false
set_option linter.all false
set_option maxRecDepth 100000
set_option maxHeartbeats 4000000
namespace Cy
open PySem
end Cy
end
section
set_option Elab.async false
set_option linter.all false
set_option maxRecDepth 100000
set_option maxHeartbeats 4000000
namespace Cy
open PySem
def tF (k : Nat) (p : Gd × (Nat → Int)) (t : Nat) : Option D :=
  if p.2 t < 0 then some (.tup [.str "below", .int (k : Int), .int (t : Int)])
  else if 0 < p.2 t ∧ ¬ (p.1.first ≤ t ∧ t ≤ p.1.last) then some (.tup [.str "away", .int (k : Int), .int (t : Int)])
  else if (p.1.most : Int) < p.2 t then some (.tup [.str "most", .int (k : Int), .int (t : Int)]) else none
end Cy
end
section
set_option Elab.async false
set_option linter.all false
set_option maxRecDepth 100000
set_option maxHeartbeats 4000000
namespace Cy
open PySem
/-- four sets: one within both, one over both -/
structure Q4 (p a b q : Nat) : Prop where
  pa : p ≤ a
  pb : p ≤ b
  aq : a ≤ q
  bq : b ≤ q
  su : p + q ≤ a + b
theorem Q4.min {p a b q : Nat} (h : Q4 p a b q) (c : Nat) : Q4 (min c p) (min c a) (min c b) (min c q) := by
  obtain ⟨h1, h2, h3, h4, h5⟩ := h
  refine ⟨?_, ?_, ?_, ?_, ?_⟩ <;> omega
theorem Q4.add {p a b q p' a' b' q' : Nat} (h : Q4 p a b q) (k : Q4 p' a' b' q') : Q4 (p + p') (a + a') (b + b') (q + q') := by
  obtain ⟨h1, h2, h3, h4, h5⟩ := h
  obtain ⟨k1, k2, k3, k4, k5⟩ := k
  refine ⟨?_, ?_, ?_, ?_, ?_⟩ <;> omega
theorem Q4.zero : Q4 0 0 0 0 := ⟨Nat.le_refl _, Nat.le_refl _, Nat.le_refl _, Nat.le_refl _, Nat.le_refl _⟩
end Cy
end
section
set_option Elab.async false
set_option linter.all false
set_option maxRecDepth 100000
set_option maxHeartbeats 4000000
namespace Cy
open PySem
structure LnSh (T i : Nat) (l : Option Nat × List Nat) : Prop where
  len : l.2.length = T
  root : i = 0 → l.1 = none
  up : 0 < i → ∃ j, l.1 = some j ∧ j < i
structure Yd.Sh (Y : Yd) : Prop where
  t1 : 1 ≤ Y.T
  t8 : Y.T ≤ 8
  l1 : 1 ≤ Y.ls.length
  l5 : Y.ls.length ≤ 5
  ln : ∀ i l, Y.ls[i]? = some l → LnSh Y.T i l
structure Gd.Sh (Y : Yd) (g : Gd) : Prop where
  ln : g.line < Y.ls.length
  fl : g.first ≤ g.last
  lt : g.last < Y.T
theorem Yd.Ok.sh {Y : Yd} (ok : Y.Ok) : Y.Sh := ⟨ok.t1, ok.t8, ok.l1, ok.l5, fun i l h => ⟨(ok.ln i l h).len, (ok.ln i l h).root, (ok.ln i l h).up⟩⟩
theorem Gd.Ok.sh {Y : Yd} {g : Gd} (ok : g.Ok Y) : g.Sh Y := ⟨ok.ln, ok.fl, ok.lt⟩
end Cy
end
section
set_option Elab.async false
set_option linter.all false
set_option maxRecDepth 100000
set_option maxHeartbeats 4000000
namespace Cy
open PySem
def sp : PySem.Str := Str.ofString " "
def nl : PySem.Str := Str.ofString "\n"
def Y0 : Yd := ⟨1, [(none, [0])]⟩
theorem Y0_ok : Y0.Ok := by
  refine ⟨by decide, by decide, by decide, by decide, fun i l h => ?_⟩
  cases i with
  | zero =>
    cases h
    exact ⟨rfl, fun b hb => by simp at hb; subst hb; decide, fun _ => rfl, fun z => absurd z (Nat.lt_irrefl _)⟩
  | succ i => simp [Y0] at h
end Cy
end
section
set_option Elab.async false
set_option linter.all false
set_option maxRecDepth 100000
set_option maxHeartbeats 4000000
namespace Cy
open PySem
theorem pre1 (s c : Nat) (r : List Nat) : TL.pre [s] (c :: r) = decide (c = s) := by
  unfold TL.pre
  show (List.take 1 (c :: r) == [s]) = _
  by_cases e : c = s <;> simp [e]
theorem spl_bd (s : Nat) : ∀ (l acc : List Nat), ∀ p ∈ TL.spl [s] 0 acc l, p.length ≤ acc.length + l.length ∧ ∀ c ∈ p, c ∈ acc ∨ c ∈ l
  | [], acc, p, h => by
    rw [TL.spl_nil, List.mem_singleton] at h
    subst h
    exact ⟨by simp, fun c hc => .inl hc⟩
  | c :: r, acc, p, h => by
    by_cases e : c = s
    · rw [TL.spl_hit (by rw [pre1]; simp [e])] at h
      rcases List.mem_cons.mp h with rfl | h
      · exact ⟨by simp, fun c hc => .inl hc⟩
      · obtain ⟨a, b⟩ := spl_bd s r [] p h
        exact ⟨by simp at a ⊢; omega, fun c hc => (b c hc).elim (fun z => nomatch z) fun z => .inr (List.mem_cons_of_mem _ z)⟩
    · rw [TL.spl_miss (by rw [pre1]; simp [e])] at h
      obtain ⟨a, b⟩ := spl_bd s r (acc ++ [c]) p h
      refine ⟨by simp at a ⊢; omega, fun c hc => ?_⟩
      rcases b c hc with z | z
      · rcases List.mem_append.mp z with z | z
        · exact .inl z
        · rw [List.mem_singleton.mp z]; exact .inr (List.mem_cons_self ..)
      · exact .inr (List.mem_cons_of_mem _ z)
theorem spl_hd (s : Nat) : ∀ (l acc : List Nat), ∃ r, TL.spl [s] 0 acc l = (acc ++ l.takeWhile (fun c => decide (c ≠ s))) :: r
  | [], acc => ⟨[], by rw [TL.spl_nil]; simp⟩
  | c :: r, acc => by
    by_cases e : c = s
    · rw [TL.spl_hit (by rw [pre1]; simp [e])]
      exact ⟨TL.spl [s] 0 [] r, by simp [List.takeWhile, e]⟩
    · rw [TL.spl_miss (by rw [pre1]; simp [e])]
      obtain ⟨z, h⟩ := spl_hd s r (acc ++ [c])
      exact ⟨z, by rw [h]; simp [List.takeWhile, e]⟩
theorem spl_ct (s : Nat) : ∀ (l acc : List Nat), (TL.spl [s] 0 acc l).length ≤ l.length + 1
  | [], acc => by rw [TL.spl_nil]; simp
  | c :: r, acc => by
    by_cases e : c = s
    · rw [TL.spl_hit (by rw [pre1]; simp [e])]
      have := spl_ct s r []
      simp only [List.length_cons] at this ⊢
      show (TL.spl [s] 0 [] r).length + 1 ≤ _
      omega
    · rw [TL.spl_miss (by rw [pre1]; simp [e])]
      have := spl_ct s r (acc ++ [c])
      simp only [List.length_cons] at this ⊢
      omega
structure Sep (y : PySem.Str) (s : Nat) : Prop where
  e : TL.tl y = [s]
  k : y.cps.all (· < 256) = true
section
variable {y : PySem.Str} {s : Nat}
theorem Sep.spl (h : Sep y s) (x : PySem.Str) : (Txt.split x y).map TL.tl = TL.spl [s] 0 [] (TL.tl x) := by
  have := TL.split_spl x y (by rw [h.e]; simp) (TL.kind_ok h.k)
  rw [this, h.e]
theorem Sep.len (h : Sep y s) : y.length = 1 := by rw [TL.len_tl, h.e]; rfl
theorem Sep.ct (h : Sep y s) (x : PySem.Str) : (Txt.split x y).length ≤ x.length + 1 := by
  have := congrArg List.length (h.spl x)
  rw [List.length_map] at this
  rw [this, TL.len_tl]
  exact spl_ct s _ _
theorem Sep.bd (h : Sep y s) {x p : PySem.Str} (hp : p ∈ Txt.split x y) : p.length ≤ x.length ∧ ∀ c ∈ TL.tl p, c ∈ TL.tl x := by
  have h1 : TL.tl p ∈ TL.spl [s] 0 [] (TL.tl x) := by
    rw [← h.spl x]
    exact List.mem_map_of_mem hp
  obtain ⟨a, b⟩ := spl_bd s _ _ _ h1
  rw [TL.len_tl, TL.len_tl]
  exact ⟨by simpa using a, fun c hc => (b c hc).elim (fun z => nomatch z) id⟩
theorem Sep.hd (h : Sep y s) (x : PySem.Str) : ∃ w r, Txt.split x y = w :: r ∧ TL.tl w = (TL.tl x).takeWhile (fun c => decide (c ≠ s)) := by
  obtain ⟨r, e⟩ := spl_hd s (TL.tl x) []
  rw [← h.spl x] at e
  cases q : Txt.split x y with
  | nil => rw [q] at e; cases e
  | cons w r' =>
    rw [q] at e
    simp only [List.map_cons, List.cons.injEq] at e
    exact ⟨w, r', rfl, by rw [e.1]; rfl⟩
end
def figs : PySem.Str := Str.ofString "0123456789"
def c1 (c : Nat) : PySem.Str := ⟨#[c]⟩
def s0 : PySem.Str := Str.ofString "0"
def digB (c : Nat) : Bool := decide (c ∈ figs.cps.toList)
def isNumB (w : PySem.Str) : Bool := decide (1 ≤ w.length ∧ w.length ≤ 30) && !(decide (c1 (w.cps.getD 0 0) = s0) && decide (w ≠ s0)) && (TL.tl w).all digB
theorem bls_map {α : Type} (p : α → Bool) (l : List α) : blsOf (l.map fun a => D.bl (p a)) = some (l.map p) := by
  induction l with
  | nil => rfl
  | cons a l ih => simp only [List.map_cons, blsOf, ih, Option.map_some]
theorem all_map {α : Type} (p : α → Bool) (l : List α) : biD .all [.lst (l.map fun a => D.bl (p a))] = some (.bl (l.all p)) := by
  simp only [biD, bls_map, Option.map_some]
  congr 2
  induction l with
  | nil => rfl
  | cons a l ih => simp [ih]
end Cy
end
section
set_option Elab.async false
set_option linter.all false
set_option maxRecDepth 100000
set_option maxHeartbeats 4000000
namespace Cy
open PySem
def sLine : PySem.Str := Str.ofString "line"
def sYard : PySem.Str := Str.ofString "yard"
def sGuest : PySem.Str := Str.ofString "guest"
def sDash : PySem.Str := Str.ofString "-"
def sE : PySem.Str := Str.ofString ""
/-- the numbers of a row of words, a stroke taken as 0 -/
def numsW (w0 : PySem.Str) (r : List PySem.Str) : List PySem.Str := if w0 = sLine ∧ r.take 1 = [sDash] then r.drop 1 ++ [s0] else r
def kindW (w0 : PySem.Str) (r : List PySem.Str) : PySem.Str :=
  if (numsW w0 r).all isNumB = true then (if (w0 = sYard ∧ (numsW w0 r).length = 1 ∨ w0 = sGuest ∧ (numsW w0 r).length = 5) ∨ w0 = sLine ∧ 1 < (numsW w0 r).length then w0 else sE) else sE
def kindL : List PySem.Str → PySem.Str
  | [] => sE
  | w0 :: r => kindW w0 r
def kindP (x : PySem.Str) : PySem.Str := kindL (Txt.split x sp)
end Cy
end
section

set_option Elab.async false
set_option linter.all false
set_option maxRecDepth 100000
set_option maxHeartbeats 4000000
namespace Cy
open PySem
theorem kind_ok (x : PySem.Str) : kindP x = sE ∨ kindP x = sYard ∨ kindP x = sLine ∨ kindP x = sGuest := by
  unfold kindP
  cases Txt.split x sp with
  | nil => exact .inl rfl
  | cons w0 r =>
    show kindW w0 r = sE ∨ kindW w0 r = sYard ∨ kindW w0 r = sLine ∨ kindW w0 r = sGuest
    unfold kindW
    split
    · split
      · rename_i h
        rcases h with (h | h) | h
        · exact .inr (.inl h.1)
        · exact .inr (.inr (.inr h.1))
        · exact .inr (.inr (.inl h.1))
      · exact .inl rfl
    · exact .inl rfl
theorem eq_n (n k : Nat) : cmpD .eq (.int (n : Int)) (.int (k : Int)) = some (decide (n = k)) := by
  simp only [cmpD, SHP, Bool.and_self, if_true, eqD]
  by_cases e : n = k
  · simp [e]
  · simp [e]; omega
end Cy
end
section
set_option Elab.async false
set_option linter.all false
set_option maxRecDepth 100000
set_option maxHeartbeats 4000000
namespace Cy
open PySem
theorem cp_enum {Φ : Nat → Fn} {elt : DE} {os : List Nat} {e1 : En} {tg : Tg} {α : Type} (g : α → D) (h : Nat → α → D) : ∀ (ls : List α) (k : Nat), (∀ i a, ls[i]? = some a → ∃ e, bindT tg (.tup [.int ((k + i : Nat) : Int), g a]) (wipeE os e1) = some e ∧ ∃ e2, ev Φ elt e = some (.ok (h (k + i) a) e2)) → ls.length ≤ 1000000 →
    ∃ zs : List D, zs = (ls.zipIdx k).map (fun p => h p.2 p.1) ∧ cp Φ elt tg .nil os (enumL k (ls.map g)) e1 = some zs := by
  intro ls k hs hl
  refine ⟨_, rfl, ?_⟩
  have e : enumL k (ls.map g) = (ls.zipIdx k).map fun p => D.tup [.int (p.2 : Int), g p.1] := by
    clear hs hl
    induction ls generalizing k with
    | nil => rfl
    | cons a ls ih => simp only [List.map_cons, enumL, List.zipIdx_cons, ih]
  rw [e]
  refine cp_map2 (Φ := Φ) (elt := elt) (tg := tg) (os := os) (fun p : α × Nat => D.tup [.int (p.2 : Int), g p.1]) (fun p => h p.2 p.1) (ls.zipIdx k) (fun p hp => ?_) (by rw [List.length_zipIdx]; exact hl)
  obtain ⟨a, j⟩ := p
  rw [List.mk_mem_zipIdx_iff_le_and_getElem?_sub] at hp
  have := hs (j - k) a hp.2
  rw [show k + (j - k) = j by omega] at this
  exact this
end Cy
end
section
set_option Elab.async false
set_option linter.all false
set_option maxRecDepth 100000
set_option maxHeartbeats 4000000
namespace Cy
open PySem
end Cy
end
section
set_option Elab.async false
set_option linter.all false
set_option maxRecDepth 100000
set_option maxHeartbeats 4000000
namespace Cy
open PySem
end Cy
end
section
set_option Elab.async false
set_option linter.all false
set_option maxRecDepth 100000
set_option maxHeartbeats 4000000
namespace Cy
open PySem
theorem ixP_nat8 {n r : Nat} (h : r < n) : ixP n (r : Int) = some r := by
  unfold ixP
  simp
  omega
end Cy
end
section
set_option Elab.async false
set_option linter.all false
set_option maxRecDepth 100000
set_option maxHeartbeats 4000000
namespace Cy
open PySem
theorem cut_to8 {α : Type} (xs : List α) (i : Nat) (h : i ≤ xs.length) : cutD xs none (some (i : Int)) = xs.take i := by
  have e : sIxD xs.length xs.length (some (i : Int)) = i := by
    unfold sIxD
    simp only
    rw [if_neg (by omega), Int.toNat_natCast]; omega
  unfold cutD
  rw [e]
  show ((xs.drop 0).take (i - 0)) = _
  rw [List.drop_zero, Nat.sub_zero]
end Cy
end
section
set_option Elab.async false
set_option linter.all false
set_option maxRecDepth 100000
set_option maxHeartbeats 4000000
namespace Cy
open PySem
theorem cut_take {α : Type} (xs : List α) (i : Nat) : cutD xs none (some (i : Int)) = xs.take i := by
  by_cases h : i ≤ xs.length
  · exact cut_to8 xs i h
  · have e : sIxD xs.length xs.length (some (i : Int)) = xs.length := by
      unfold sIxD
      simp only
      rw [if_neg (by omega), Int.toNat_natCast]; omega
    unfold cutD
    rw [e]
    show ((xs.drop 0).take (xs.length - 0)) = _
    rw [List.drop_zero, Nat.sub_zero, List.take_length, List.take_of_length_le (by omega)]
end Cy
end
section
set_option Elab.async false
set_option linter.all false
set_option maxRecDepth 100000
set_option maxHeartbeats 4000000
namespace Cy
open PySem
def df_law_told (c_read : Nat) : Df := ⟨6, [], (.cons (.asg (.n 1) (.c .non)) (.cons (.asg (.n 2) (.c .non)) (.cons (.tryc (.cons (.calx (.asg 1) c_read (.cons (.v 0) .nil)) .nil) "YardError" (.kp 2 3)) (.cons (.ifs (.cmp .isN (.v 2) (.c .non)) (.cons (.ret (.mv 1)) .nil) .nil) (.cons (.asg (.n 4) (.lst (.cons (.bi (.isx ["NoText"]) (.cons (.v 2) .nil)) (.cons (.bi (.isx ["NoYard"]) (.cons (.v 2) .nil)) (.cons (.bi (.isx ["NoGuest"]) (.cons (.v 2) .nil)) .nil))))) (.cons (.asg (.n 5) (.or (.cons (.bi (.isx ["NoNumber", "NoRoom", "NoRow", "NoTime"]) (.cons (.v 2) .nil)) (.cons (.not (.bi (.isx ["ValueError"]) (.cons (.v 2) .nil))) .nil)))) (.cons (.ifs (.or (.cons (.v 5) (.cons (.cmp .ne (.mt .count (.v 4) (.cons (.c (.bl true)) .nil)) (.c (.int 1))) .nil))) (.cons (.ret (.tup (.cons (.c (.str "other")) .nil))) .nil) .nil) (.cons (.ifs (.ix (.v 4) (.c (.int 0))) (.cons (.ret (.tup (.cons (.c (.str "text")) (.cons (.pur (.fld (.v 2) "row")) .nil)))) .nil) .nil) (.cons (.ret (.ix (.lst (.cons (.tup (.cons (.c (.str "yard")) .nil)) (.cons (.tup (.cons (.c (.str "guest")) .nil)) .nil))) (.bi .int (.cons (.ix (.v 4) (.c (.int 2))) .nil)))) .nil)))))))))⟩
end Cy
end
section
set_option Elab.async false
set_option linter.all false
set_option maxRecDepth 100000
set_option maxHeartbeats 4000000
namespace K01
open PySem Cy
def df_law_with_line : Df := ⟨3, [], (.cons (.ret (.tup (.cons (.ix (.v 0) (.c (.int 0))) (.cons (.bin .cat (.bin .cat (.sl (.ix (.v 0) (.c (.int 1))) .no (.so (.v 1))) (.tup (.cons (.v 2) .nil))) (.sl (.ix (.v 0) (.c (.int 1))) (.so (.bin .add (.v 1) (.c (.int 1)))) .no)) .nil)))) .nil)⟩
def df_law_odd_bounds : Df := ⟨4, [], (.cons (.ifs (.cmp .eq (.v 1) (.c (.int 0))) (.cons (.ret (.bi .list (.cons (.v 0) .nil))) .nil) .nil) (.cons (.ifs (.cmp .eq (.v 1) (.c (.int 1))) (.cons (.ret (.sl (.v 0) .no (.so (.neg (.c (.int 1)))))) .nil) .nil) (.cons (.ifs (.cmp .eq (.v 1) (.c (.int 2))) (.cons (.ret (.bin .cat (.v 0) (.tup (.cons (.c (.int 0)) .nil)))) .nil) .nil) (.cons (.asg (.n 3) (.ix (.lst (.cons (.neg (.c (.int 1))) (.cons (.bin .pow (.c (.int 10)) (.c (.int 30))) (.cons (.c (.bl true)) (.cons (.c .non) (.cons (.c (.str "0")) (.cons (.lst (.cons (.c (.int 0)) .nil)) (.cons .dct0 (.cons (.tup (.cons (.c (.int 0)) .nil)) (.cons (.neg (.bin .pow (.c (.int 10)) (.c (.int 30)))) .nil)))))))))) (.bin .sub (.v 1) (.c (.int 3))))) (.cons (.ret (.bin .cat (.bin .cat (.sl (.v 0) .no (.so (.v 2))) (.tup (.cons (.v 3) .nil))) (.sl (.v 0) (.so (.bin .add (.v 2) (.c (.int 1)))) .no))) .nil)))))⟩
def df_law_odd_line : Df := ⟨6, [], (.cons (.asg (.t [(.n 3), (.n 4)]) (.ix (.ix (.v 0) (.c (.int 1))) (.v 1))) (.cons (.ifs (.cmp .lt (.v 2) (.c (.int 6))) (.cons (.asg (.n 5) (.ix (.lst (.cons (.v 1) (.cons (.neg (.c (.int 1))) (.cons (.c (.bl false)) (.cons (.c (.str "0")) (.cons (.bin .add (.v 1) (.c (.int 1))) (.cons (.tup (.cons (.c (.int 0)) .nil)) .nil))))))) (.v 2))) (.cons (.ifs (.cmp .eq (.v 1) (.c (.int 0))) (.cons (.asg (.n 5) (.ix (.lst (.cons (.c (.int 0)) (.cons (.c (.int 1)) (.cons (.c (.bl false)) (.cons (.c (.str "")) (.cons (.tup .nil) (.cons (.neg (.c (.int 1))) .nil))))))) (.v 2))) .nil) .nil) (.cons (.ret (.tup (.cons (.v 5) (.cons (.v 4) .nil)))) .nil))) .nil) (.cons (.ret (.ix (.lst (.cons (.lst (.cons (.v 3) (.cons (.v 4) .nil))) (.cons (.tup (.cons (.v 3) (.cons (.v 4) (.cons (.c (.int 0)) .nil)))) (.cons (.tup (.cons (.v 3) .nil)) (.cons (.c .non) .nil))))) (.bin .sub (.v 2) (.c (.int 6))))) .nil)))⟩
def df_law_spoilt (c_law_with_line : Nat) (c_law_odd_bounds : Nat) (c_law_odd_line : Nat) : Df := ⟨5, [], (.cons (.asg (.n 2) (.bin .mod (.v 1) (.c (.int 28)))) (.cons (.asg (.n 1) (.bin .fdiv (.v 1) (.c (.int 28)))) (.cons (.asg (.n 3) (.bin .mod (.v 1) (.bi .len (.cons (.ix (.v 0) (.c (.int 1))) .nil)))) (.cons (.asg (.n 4) (.bin .mod (.bin .fdiv (.v 1) (.c (.int 5))) (.ix (.v 0) (.c (.int 0))))) (.cons (.ifs (.cmp .lt (.v 2) (.c (.int 12))) (.cons (.ret (.call c_law_with_line (.cons (.v 0) (.cons (.v 3) (.cons (.tup (.cons (.ix (.ix (.ix (.v 0) (.c (.int 1))) (.v 3)) (.c (.int 0))) (.cons (.call c_law_odd_bounds (.cons (.ix (.ix (.ix (.v 0) (.c (.int 1))) (.v 3)) (.c (.int 1))) (.cons (.v 2) (.cons (.v 4) .nil)))) .nil))) .nil))))) .nil) .nil) (.cons (.ifs (.cmp .lt (.v 2) (.c (.int 22))) (.cons (.ret (.call c_law_with_line (.cons (.v 0) (.cons (.v 3) (.cons (.call c_law_odd_line (.cons (.v 0) (.cons (.v 3) (.cons (.bin .sub (.v 2) (.c (.int 12))) .nil)))) .nil))))) .nil) .nil) (.cons (.ifs (.cmp .eq (.v 2) (.c (.int 22))) (.cons (.ret (.tup (.cons (.bin .add (.ix (.v 0) (.c (.int 0))) (.c (.int 1))) (.cons (.ix (.v 0) (.c (.int 1))) .nil)))) .nil) .nil) (.cons (.ifs (.cmp .eq (.v 2) (.c (.int 23))) (.cons (.ret (.tup (.cons (.ix (.lst (.cons (.c (.int 0)) (.cons (.c (.int 9)) (.cons (.c (.bl true)) (.cons (.c .non) (.cons (.c (.str "1")) (.cons (.neg (.c (.int 1))) (.cons (.tup (.cons (.c (.int 1)) .nil)) .nil)))))))) (.bin .mod (.bin .fdiv (.v 1) (.c (.int 40))) (.c (.int 7)))) (.cons (.ix (.v 0) (.c (.int 1))) .nil)))) .nil) .nil) (.cons (.ifs (.cmp .eq (.v 2) (.c (.int 24))) (.cons (.ret (.tup (.cons (.ix (.v 0) (.c (.int 0))) (.cons (.bi .list (.cons (.ix (.v 0) (.c (.int 1))) .nil)) .nil)))) .nil) .nil) (.cons (.ifs (.cmp .eq (.v 2) (.c (.int 25))) (.cons (.ret (.tup (.cons (.ix (.v 0) (.c (.int 0))) (.cons (.tup .nil) .nil)))) .nil) .nil) (.cons (.ifs (.cmp .eq (.v 2) (.c (.int 26))) (.cons (.ret (.tup (.cons (.ix (.v 0) (.c (.int 0))) (.cons (.sl (.bin .cat (.ix (.v 0) (.c (.int 1))) (.bin .rep (.tup (.cons (.tup (.cons (.c (.int 0)) (.cons (.ix (.ix (.ix (.v 0) (.c (.int 1))) (.c (.int 0))) (.c (.int 1))) .nil))) .nil)) (.c (.int 5)))) .no (.so (.c (.int 6)))) .nil)))) .nil) .nil) (.cons (.ret (.ix (.lst (.cons (.bi .list (.cons (.v 0) .nil)) (.cons (.bin .cat (.v 0) (.tup (.cons (.c (.int 0)) .nil))) (.cons (.sl (.v 0) .no (.so (.c (.int 1)))) (.cons (.tup (.cons (.ix (.v 0) (.c (.int 1))) (.cons (.ix (.v 0) (.c (.int 0))) .nil))) .nil))))) (.bin .mod (.bin .fdiv (.v 1) (.c (.int 40))) (.c (.int 4))))) .nil))))))))))))⟩
def df_law_told (c_is_yard : Nat) : Df := ⟨3, [], (.cons (.asg (.n 2) (.call c_is_yard (.cons (.v 0) .nil))) (.cons (.ret (.and (.cons (.bi (.isi .bool) (.cons (.v 2) .nil)) (.cons (.cmp .eq (.v 2) (.v 1)) .nil)))) .nil))⟩
def df_law (c_law_yard : Nat) (c_law_spoilt : Nat) (c_law_number : Nat) (c_law_told : Nat) : Df := ⟨4, [], (.cons (.asg (.n 1) (.call c_law_yard (.cons (.v 0) .nil))) (.cons (.asg (.n 2) (.call c_law_spoilt (.cons (.v 1) (.cons (.call c_law_number (.cons (.v 0) (.cons (.c (.int 14)) .nil))) .nil)))) (.cons (.ifs (.or (.cons (.not (.call c_law_told (.cons (.v 1) (.cons (.c (.bl true)) .nil)))) (.cons (.not (.call c_law_told (.cons (.v 2) (.cons (.c (.bl false)) .nil)))) (.cons (.not (.call c_law_told (.cons (.v 1) (.cons (.c (.bl true)) .nil)))) .nil)))) (.cons (.ret (.c (.bl false))) .nil) .nil) (.cons (.for (.n 3) (.val (.lst (.cons (.c .non) (.cons (.c (.bl true)) (.cons (.c (.int 1)) (.cons (.c (.str "yard")) (.cons (.lst .nil) (.cons .dct0 (.cons (.tup .nil) (.cons (.tup (.cons (.c (.int 1)) .nil)) (.cons (.lst (.cons (.c (.int 1)) (.cons (.tup (.cons (.tup (.cons (.c .non) (.cons (.tup (.cons (.c (.int 0)) .nil)) .nil))) .nil)) .nil))) .nil))))))))))) (.cons (.ifs (.not (.call c_law_told (.cons (.v 3) (.cons (.c (.bl false)) .nil)))) (.cons (.ret (.c (.bl false))) .nil) .nil) .nil)) (.cons (.ret (.and (.cons (.cmp .eq (.v 2) (.call c_law_spoilt (.cons (.v 1) (.cons (.call c_law_number (.cons (.v 0) (.cons (.c (.int 14)) .nil))) .nil)))) (.cons (.call c_law_told (.cons (.tup (.cons (.c (.int 1)) (.cons (.tup (.cons (.tup (.cons (.c .non) (.cons (.tup (.cons (.c (.int 0)) .nil)) .nil))) .nil)) .nil))) (.cons (.c (.bl true)) .nil))) .nil)))) .nil)))))⟩
noncomputable def f0 : Fn := runP (ph []) 3 (df_is_whole)
noncomputable def f1 : Fn := runP (ph [f0]) 3 (df_is_line 0)
noncomputable def f2 : Fn := runP (ph [f0, f1]) 1 (df_is_yard 0 1)
noncomputable def f3 : Fn := runP (ph [f0, f1, f2]) 2 (df_law_cell_at)
noncomputable def f4 : Fn := runP (ph [f0, f1, f2, f3]) 2 (df_law_number 3)
noncomputable def f5 : Fn := runP (ph [f0, f1, f2, f3, f4]) 1 (df_law_amount)
noncomputable def f6 : Fn := runP (ph [f0, f1, f2, f3, f4, f5]) 1 (df_law_yard 3 4 5)
noncomputable def f7 : Fn := runP (ph [f0, f1, f2, f3, f4, f5, f6]) 3 (df_law_with_line)
noncomputable def f8 : Fn := runP (ph [f0, f1, f2, f3, f4, f5, f6, f7]) 3 (df_law_odd_bounds)
noncomputable def f9 : Fn := runP (ph [f0, f1, f2, f3, f4, f5, f6, f7, f8]) 3 (df_law_odd_line)
noncomputable def f10 : Fn := runP (ph [f0, f1, f2, f3, f4, f5, f6, f7, f8, f9]) 2 (df_law_spoilt 7 8 9)
noncomputable def f11 : Fn := runP (ph [f0, f1, f2, f3, f4, f5, f6, f7, f8, f9, f10]) 2 (df_law_told 2)
noncomputable def f12 : Fn := runP (ph [f0, f1, f2, f3, f4, f5, f6, f7, f8, f9, f10, f11]) 1 (df_law 6 10 4 11)
end K01
end
section
set_option Elab.async false
set_option linter.all false
set_option maxRecDepth 100000
set_option maxHeartbeats 4000000
namespace Cy
open PySem
/-- data whose type can be asked -/
def tyA : D → Bool
  | .non | .bl _ | .int _ | .str _ | .tup _ | .lst _ | .dct _ _ => true
  | _ => false
def whA (x : D) (lo hi : Int) : Bool := match x with
  | .int i => decide (lo ≤ i ∧ i < hi)
  | _ => false
def WholeA (F : Fn) : Prop := ∀ x, tyA x = true → ∀ lo hi : Int, F [x, .int lo, .int hi] = some (.ret (.bl (whA x lo hi)) [])
theorem a_whole (Φ : Nat → Fn) : WholeA (runP Φ 3 df_is_whole) := by
  intro x h lo hi
  cases x <;> simp only [tyA, Bool.false_eq_true] at h
  all_goals first
    | (rename_i i; by_cases h1 : lo ≤ i <;> by_cases h2 : i < hi <;> simp [whA, df_is_whole, runP_eq, EV, ES, RC, RD, ioE, ioL, biD, isiD, cmpD, h1, h2, PU]; done)
    | (simp [whA, df_is_whole, runP_eq, EV, ES, RC, RD, ioE, ioL, biD, isiD, cmpD, PU]; done)
def isTup : D → Bool
  | .tup _ => true
  | _ => false
theorem isi_tup {x : D} (h : tyA x = true) : biD (.isi .tuple) [x] = some (.bl (isTup x)) := by
  cases x <;> simp [tyA] at h <;> rfl
/-- the items of a tuple -/
def its : D → List D
  | .tup xs => xs
  | _ => []
def itm (n : Nat) (d : D) : D := (its d).getD n .non
def upA (i : Nat) (a : D) : Bool := if i = 0 then isNonD a else whA a 0 (i : Int)
def bndA (T : Nat) (b : D) : Bool := isTup b && decide ((its b).length = T) && (its b).all fun x => whA x 0 1000000000000000000000000000000
def lineA (T i : Nat) (d : D) : Bool := isTup d && decide ((its d).length = 2) && upA i (itm 0 d) && bndA T (itm 1 d)
/-- a thing that may be asked whether it is a line -/
def okLA (d : D) : Bool := tyA d && (its d).all fun x => tyA x && (its x).all tyA
theorem tup_eq {d : D} (h : isTup d = true) : d = .tup (its d) := by cases d <;> simp [isTup] at h <;> rfl
def LineA (F : Fn) : Prop := ∀ (T i : Nat) (d : D), okLA d = true → (its (itm 1 d)).length ≤ 1000000 → F [d, .int (i : Int), .int (T : Int)] = some (.ret (.bl (lineA T i d)) [])
theorem a_line {Φ : Nat → Fn} {w : Nat} (hw : WholeA (Φ w)) : LineA (runP Φ 3 (df_is_line w)) := by
  intro T i d ok hl
  simp only [okLA, Bool.and_eq_true] at ok
  obtain ⟨ok1, ok2⟩ := ok
  have isl := isi_tup ok1
  by_cases ht : isTup d = true
  · by_cases h2 : (its d).length = 2
    · obtain ⟨a, b, hab⟩ : ∃ a b, its d = [a, b] := by
        match hx : its d, h2 with
        | [a, b], _ => exact ⟨a, b, rfl⟩
      have hd := tup_eq ht
      rw [hab] at hd
      subst hd
      rw [show its (D.tup [a, b]) = [a, b] from rfl] at ok2
      simp only [List.all_cons, List.all_nil, Bool.and_eq_true, Bool.and_true] at ok2
      obtain ⟨⟨ta, _⟩, tb, tbs⟩ := ok2
      have hl : (its b).length ≤ 1000000 := hl
      have iL : lineA T i (.tup [a, b]) = (upA i a && bndA T b) := by
        show (true && decide (2 = 2) && upA i a && bndA T b) = _
        rfl
      rw [iL]
      have isb := isi_tup tb
      have lnl : biD .len [.tup [a, b]] = some (.int 2) := rfl
      have isl : biD (.isi .tuple) [.tup [a, b]] = some (.bl true) := rfl
      have n22 : cmpD .ne (.int 2) (.int 2) = some false := rfl
      have q0 : cmpD .eq (.int (i : Int)) (.int 0) = some (decide (i = 0)) := eq_n i 0
      have gt : cmpD .gt (.int (i : Int)) (.int 0) = some (!decide (i = 0)) := by
        simp only [cmpD]
        by_cases z : i = 0
        · subst z; rfl
        · rw [decide_eq_false z, decide_eq_true (by omega)]; rfl
      have nn : cmpD .notN a .non = some (!isNonD a) := by cases a <;> rfl
      have wa := hw a ta 0 (i : Int)
      have bt : bindT (.t [(.n 3), (.n 4)]) (.tup [a, b]) [some (.tup [a, b]), some (.int (i : Int)), some (.int (T : Int)), none, none, none] = some [some (.tup [a, b]), some (.int (i : Int)), some (.int (T : Int)), some a, some b, none] := rfl
      have eu : upA i a = if i = 0 then isNonD a else whA a 0 (i : Int) := rfl
      have eu2 : upA i a = ((!decide (i = 0) || isNonD a) && (decide (i = 0) || whA a 0 (i : Int))) := by
        rw [eu]
        by_cases z : i = 0 <;> simp [z]
      rw [eu2]
      by_cases hb : isTup b = true
      · have hb2 := tup_eq hb
        have ln : biD .len [b] = some (.int ((its b).length : Int)) := by rw [hb2]; simp [biD, its]
        have nel : cmpD .ne (.int ((its b).length : Int)) (.int (T : Int)) = some (!decide ((its b).length = T)) := by
          simp only [cmpD, SHP, Bool.and_self, if_true, eqD]
          by_cases e : (its b).length = T
          · simp [e]
          · simp [e]; omega
        have it : itemsD b = some (its b) := by rw [hb2]; rfl
        have comp : ∀ x3 : Option D, cp Φ (.call w (.cons (.v 5) (.cons (.c (.int 0)) (.cons (.g "BEYOND" (.int 1000000000000000000000000000000)) .nil)))) (.n 5) .nil [5] (its b) [some (.tup [a, b]), some (.int (i : Int)), some (.int (T : Int)), x3, some b, none] = some ((its b).map fun x => .bl (whA x 0 1000000000000000000000000000000)) := fun x3 => by
          have key := cp_map2 (Φ := Φ) (elt := (.call w (.cons (.v 5) (.cons (.c (.int 0)) (.cons (.g "BEYOND" (.int 1000000000000000000000000000000)) .nil))))) (tg := (.n 5)) (os := [5]) (e1 := [some (.tup [a, b]), some (.int (i : Int)), some (.int (T : Int)), x3, some b, none]) (fun x : D => x) (fun x => .bl (whA x 0 1000000000000000000000000000000)) (its b) (fun x hx => by
            have := hw x (by rw [List.all_eq_true] at tbs; exact tbs x hx) 0 1000000000000000000000000000000
            refine ⟨_, rfl, [some (.tup [a, b]), some (.int (i : Int)), some (.int (T : Int)), x3, some b, some x], ?_⟩
            simp [wipeE, EV, RC, RD, ioL, ioE, PU, this]) hl
          rw [List.map_id'] at key
          exact key
        have c0 := comp (some a)
        clear comp
        have at' := all_map (fun x => whA x 0 1000000000000000000000000000000) (its b)
        have eb : bndA T b = (decide ((its b).length = T) && (its b).all fun x => whA x 0 1000000000000000000000000000000) := by
          unfold bndA; rw [hb]; rfl
        rw [eb]
        rw [hb] at isb
        clear hb2 eb hw ok1 hab h2 ht
        generalize ((its b).all fun x => whA x 0 1000000000000000000000000000000) = b3 at *
        generalize decide ((its b).length = T) = b2 at *
        generalize ((its b).map fun x => D.bl (whA x 0 1000000000000000000000000000000)) = bld at *
        generalize ((its b).length : Int) = bl at *
        generalize its b = nd at *
        generalize decide (i = 0) = b1 at *
        generalize isNonD a = b4 at *
        generalize whA a 0 (i : Int) = b5 at *
        generalize (i : Int) = ii at *
        generalize (T : Int) = Ti at *
        generalize hld : D.tup [a, b] = ld at *
        cases b1 <;> cases b2 <;> cases b4 <;> cases b5 <;> simp [↓c0, bt, df_is_line, runP_eq, EV, ES, RC, RD, ioE, ioL, ioI, PU, isl, lnl, n22, q0, nn, gt, wa, isb, ln, nel, it, at']
      · have hb : isTup b = false := by simpa using hb
        have eb : bndA T b = false := by unfold bndA; rw [hb]; rfl
        rw [eb]
        rw [hb] at isb
        clear hw ok1 hab h2 ht
        generalize decide (i = 0) = b1 at *
        generalize isNonD a = b4 at *
        generalize whA a 0 (i : Int) = b5 at *
        generalize (i : Int) = ii at *
        generalize (T : Int) = Ti at *
        generalize hld : D.tup [a, b] = ld at *
        cases b1 <;> cases b4 <;> cases b5 <;> simp [bt, df_is_line, runP_eq, EV, ES, RC, RD, ioE, ioL, ioI, PU, isl, lnl, n22, q0, nn, gt, wa, isb]
    · have hd := tup_eq ht
      have ln : biD .len [d] = some (.int ((its d).length : Int)) := by rw [hd]; simp [biD, its]
      have ne : cmpD .ne (.int ((its d).length : Int)) (.int 2) = some true := by
        simp only [cmpD, SHP, Bool.and_self, if_true, eqD]
        have : ((its d).length : Int) ≠ 2 := by omega
        simp [this]
      have iL : lineA T i d = false := by unfold lineA; simp [h2]
      rw [iL]
      rw [ht] at isl
      clear hd
      generalize ((its d).length : Int) = ll at *
      generalize (i : Int) = ii at *
      generalize (T : Int) = Ti at *
      simp [df_is_line, runP_eq, EV, ES, RC, RD, ioE, ioL, ioI, PU, isl, ln, ne]
  · have ht : isTup d = false := by simpa using ht
    have iL : lineA T i d = false := by unfold lineA; rw [ht]; rfl
    rw [iL]
    rw [ht] at isl
    generalize (i : Int) = ii at *
    generalize (T : Int) = Ti at *
    simp [df_is_line, runP_eq, EV, ES, RC, RD, ioE, ioL, ioI, PU, isl]
def tmA (d : D) : Nat := match itm 0 d with
  | .int t => t.toNat
  | _ => 0
def yardA (d : D) : Bool := isTup d && decide ((its d).length = 2) && whA (itm 0 d) 1 9 && (isTup (itm 1 d) && (decide (1 ≤ (its (itm 1 d)).length) && decide ((its (itm 1 d)).length ≤ 5)) && ((its (itm 1 d)).zipIdx 0).all fun p => lineA (tmA d) p.2 p.1)
structure OkYA (d : D) : Prop where
  t : tyA d = true
  i : ∀ x ∈ its d, tyA x = true
  l : ∀ x ∈ its (itm 1 d), okLA x = true ∧ (its (itm 1 x)).length ≤ 1000000
def YardA (F : Fn) : Prop := ∀ d : D, OkYA d → F [d] = some (.ret (.bl (yardA d)) [])
theorem a_yard {Φ : Nat → Fn} {w l : Nat} (hw : WholeA (Φ w)) (hl : LineA (Φ l)) : YardA (runP Φ 1 (df_is_yard w l)) := by
  intro d ⟨ok1, ok2, ok3⟩
  have isl := isi_tup ok1
  by_cases ht : isTup d = true
  · by_cases h2 : (its d).length = 2
    · obtain ⟨a, b, hab⟩ : ∃ a b, its d = [a, b] := by
        match hx : its d, h2 with
        | [a, b], _ => exact ⟨a, b, rfl⟩
      have hd := tup_eq ht
      rw [hab] at hd
      subst hd
      have ta := ok2 a (by rw [hab]; simp)
      have tb := ok2 b (by rw [hab]; simp)
      have ok3 : ∀ x ∈ its b, okLA x = true ∧ (its (itm 1 x)).length ≤ 1000000 := ok3
      have isb := isi_tup tb
      have lnl : biD .len [.tup [a, b]] = some (.int 2) := rfl
      have isl : biD (.isi .tuple) [.tup [a, b]] = some (.bl true) := rfl
      have n22 : cmpD .ne (.int 2) (.int 2) = some false := rfl
      have ad : binD .add (.int 8) (.int 1) = some (.int 9) := rfl
      have wa := hw a ta 1 9
      have bt : bindT (.t [(.n 1), (.n 2)]) (.tup [a, b]) [some (.tup [a, b]), none, none, none, none] = some [some (.tup [a, b]), some a, some b, none, none] := rfl
      have eY : yardA (.tup [a, b]) = (whA a 1 9 && (isTup b && (decide (1 ≤ (its b).length) && decide ((its b).length ≤ 5)) && ((its b).zipIdx 0).all fun p => lineA (tmA (.tup [a, b])) p.2 p.1)) := by
        show (true && decide (2 = 2) && whA a 1 9 && (isTup b && (decide (1 ≤ (its b).length) && decide ((its b).length ≤ 5)) && ((its b).zipIdx 0).all fun p => lineA (tmA (.tup [a, b])) p.2 p.1)) = _
        simp
      rw [eY]
      by_cases ha : whA a 1 9 = true
      · rw [ha] at wa ⊢
        obtain ⟨T, rfl⟩ : ∃ T : Nat, a = .int (T : Int) := by
          cases a with
          | int t =>
            simp only [whA, decide_eq_true_eq] at ha
            exact ⟨t.toNat, by rw [Int.toNat_of_nonneg (by omega)]⟩
          | _ => simp [whA] at ha
        have eT : tmA (.tup [.int (T : Int), b]) = T := by
          show (T : Int).toNat = T
          simp
        rw [eT]
        by_cases hb : isTup b = true
        · rw [hb] at isb
          rw [hb]
          obtain ⟨xs, hb2⟩ : ∃ xs, b = .tup xs := ⟨its b, tup_eq hb⟩
          clear hb
          subst hb2
          have ok3 : ∀ x ∈ xs, okLA x = true ∧ (its (itm 1 x)).length ≤ 1000000 := ok3
          rw [show its (D.tup xs) = xs from rfl]
          have ln : biD .len [.tup xs] = some (.int (xs.length : Int)) := by simp [biD]
          have le1 : cmpD .le (.int 1) (.int (xs.length : Int)) = some (decide (1 ≤ xs.length)) := by
            simp only [cmpD]
            by_cases e : 1 ≤ xs.length
            · rw [decide_eq_true e, decide_eq_true (by omega)]
            · rw [decide_eq_false e, decide_eq_false (by omega)]
          have le5 : cmpD .le (.int (xs.length : Int)) (.int 5) = some (decide (xs.length ≤ 5)) := by
            simp only [cmpD]
            by_cases e : xs.length ≤ 5
            · rw [decide_eq_true e, decide_eq_true (by omega)]
            · rw [decide_eq_false e, decide_eq_false (by omega)]
          have it : itemsD (.tup xs) = some xs := rfl
          by_cases h5 : xs.length ≤ 5
          · obtain ⟨zs, hzs, c0⟩ := cp_enum (Φ := Φ) (tg := .t [(.n 3), (.n 4)]) (elt := .call l (.cons (.v 4) (.cons (.v 3) (.cons (.v 1) .nil)))) (os := [3, 4]) (e1 := [some (.tup [.int (T : Int), .tup xs]), some (.int (T : Int)), some (.tup xs), none, none]) (fun x : D => x) (fun i x => D.bl (lineA T i x)) xs 0 (fun i x hi => by
              have hx := ok3 x (List.mem_of_getElem? hi)
              have := hl T (0 + i) x hx.1 hx.2
              refine ⟨_, rfl, [some (.tup [.int (T : Int), .tup xs]), some (.int (T : Int)), some (.tup xs), some (.int ((0 + i : Nat) : Int)), some x], ?_⟩
              generalize ((0 + i : Nat) : Int) = ii at *
              simp [wipeE, EV, RC, RD, ioL, ioE, PU, this]) (by omega)
            have al := all_map (fun p : D × Nat => lineA T p.2 p.1) (xs.zipIdx 0)
            rw [← hzs] at al
            rw [List.map_id'] at c0
            clear hzs hw hl ok1 ok2 ok3 hab h2 ht eY
            generalize ((xs.zipIdx 0).all fun p => lineA T p.2 p.1) = b4 at *
            generalize decide (1 ≤ xs.length) = b2 at *
            generalize decide (xs.length ≤ 5) = b3 at *
            generalize (xs.length : Int) = ll at *
            generalize (T : Int) = Ti at *
            generalize hld : D.tup [.int Ti, .tup xs] = ld at *
            cases b2 <;> cases b3 <;> simp [↓c0, df_is_yard, runP_eq, EV, ES, RC, RD, ioE, ioL, ioI, PU, bt, wa, ad, it, isl, isb, lnl, n22, ln, le1, le5, al]
          · rw [decide_eq_false h5] at le5 ⊢
            clear hw hl ok1 ok2 ok3 hab h2 ht eY
            generalize decide (1 ≤ xs.length) = b2 at *
            generalize (xs.length : Int) = ll at *
            generalize (T : Int) = Ti at *
            generalize hld : D.tup [.int Ti, .tup xs] = ld at *
            cases b2 <;> simp [df_is_yard, runP_eq, EV, ES, RC, RD, ioE, ioL, ioI, PU, bt, wa, ad, it, isl, isb, lnl, n22, ln, le1, le5]
        · have hb : isTup b = false := by simpa using hb
          rw [hb] at isb ⊢
          clear hw hl ok1 ok2 ok3 hab h2 ht eY
          generalize (T : Int) = Ti at *
          generalize hld : D.tup [.int Ti, b] = ld at *
          simp [df_is_yard, runP_eq, EV, ES, RC, RD, ioE, ioL, ioI, PU, bt, wa, ad, isl, isb, lnl, n22]
      · have ha : whA a 1 9 = false := by simpa using ha
        rw [ha] at wa ⊢
        clear hw hl ok1 ok2 ok3 hab h2 ht eY
        generalize hld : D.tup [a, b] = ld at *
        simp [df_is_yard, runP_eq, EV, ES, RC, RD, ioE, ioL, ioI, PU, bt, wa, ad, isl, lnl, n22]
    · have hd := tup_eq ht
      have ln : biD .len [d] = some (.int ((its d).length : Int)) := by rw [hd]; simp [biD, its]
      have ne : cmpD .ne (.int ((its d).length : Int)) (.int 2) = some true := by
        simp only [cmpD, SHP, Bool.and_self, if_true, eqD]
        have : ((its d).length : Int) ≠ 2 := by omega
        simp [this]
      have iL : yardA d = false := by unfold yardA; simp [h2]
      rw [iL]
      rw [ht] at isl
      clear hd
      generalize ((its d).length : Int) = ll at *
      simp [df_is_yard, runP_eq, EV, ES, RC, RD, ioE, ioL, ioI, PU, isl, ln, ne]
  · have ht : isTup d = false := by simpa using ht
    have iL : yardA d = false := by unfold yardA; rw [ht]; rfl
    rw [iL]
    rw [ht] at isl
    simp [df_is_yard, runP_eq, EV, ES, RC, RD, ioE, ioL, ioI, PU, isl]
end Cy
end
section
set_option Elab.async false
set_option linter.all false
set_option maxRecDepth 100000
set_option maxHeartbeats 4000000
namespace K01
open PySem Cy
theorem eqz_leaf : ∀ (n : Nat) {x : D}, eqL x x = true → eqz n x x = true
  | 0, x, h => h
  | n + 1, x, h => by cases x <;> first | exact h | (simp [eqL] at h; done)
theorem eqzs_self (f : D → D → Bool) : ∀ xs : List D, (∀ x ∈ xs, f x x = true) → eqzs f xs xs = true
  | [], _ => rfl
  | x :: xs, h => by
    show (f x x && eqzs f xs xs) = true
    rw [h x List.mem_cons_self, eqzs_self f xs fun y hy => h y (List.mem_cons_of_mem _ hy)]; rfl
theorem eqz_tup (n : Nat) {xs : List D} (h : ∀ x ∈ xs, eqz n x x = true) : eqz (n + 1) (.tup xs) (.tup xs) = true := eqzs_self _ xs h
theorem eqz_lst (n : Nat) {xs : List D} (h : ∀ x ∈ xs, eqz n x x = true) : eqz (n + 1) (.lst xs) (.lst xs) = true := eqzs_self _ xs h
theorem eqz_dct (n : Nat) : eqz (n + 1) (.dct [] []) (.dct [] []) = true := rfl
theorem eqz_int (n : Nat) (i : Int) : eqz n (.int i) (.int i) = true := eqz_leaf n (by simp [eqL])
theorem eqz_nat (n : Nat) (bs : List Nat) : ∀ x ∈ natD bs, eqz n x x = true := fun x hx => by
  obtain ⟨b, _, rfl⟩ := List.mem_map.mp hx
  exact eqz_int n _
theorem eqz_abo (n : Nat) (a : Option Nat) : eqz n (aboD a) (aboD a) = true := by
  cases a with
  | none => exact eqz_leaf n rfl
  | some j => exact eqz_int n _
theorem eqz_line (n : Nat) (l : Option Nat × List Nat) : eqz (n + 2) (lineD l) (lineD l) = true := by
  refine eqz_tup (n + 1) fun x hx => ?_
  simp only [List.mem_cons, List.not_mem_nil, or_false] at hx
  rcases hx with rfl | rfl
  · exact eqz_abo _ _
  · exact eqz_tup n (eqz_nat n l.2)
theorem cmp_self {d : D} (h : shp 60 d = true ∨ eqzT d d = true) : cmpD .eq d d = some true := by
  simp only [cmpD]
  by_cases hs : shp 60 d = true
  · simp [hs, eqD_refl 60 _ hs]
  · rcases h with h | h
    · exact absurd h hs
    · simp [hs, h]
theorem cmp_tup {xs : List D} (h : ∀ x ∈ xs, eqz 58 x x = true) : cmpD .eq (.tup xs) (.tup xs) = some true := cmp_self (.inr (eqzs_self _ xs h))
theorem ty_nat (bs : List Nat) : (natD bs).all tyA = true := by
  rw [List.all_eq_true]
  intro x hx
  obtain ⟨b, _, rfl⟩ := List.mem_map.mp hx
  rfl
theorem ty_abo (a : Option Nat) : tyA (aboD a) = true := by cases a <;> rfl
def tyB2 (b : D) : Bool := tyA b && (its b).all tyA
theorem ok_tup2 {a b : D} (ha : tyA a = true) (ha2 : (its a).all tyA = true) (hb : tyB2 b = true) : okLA (.tup [a, b]) = true := by
  unfold tyB2 at hb
  simp only [Bool.and_eq_true] at hb
  show (true && (([a, b] : List D).all fun x => tyA x && (its x).all tyA)) = true
  simp [ha, ha2, hb.1, hb.2]
theorem ok_line (l : Option Nat × List Nat) : okLA (lineD l) = true := by
  refine ok_tup2 (ty_abo _) (by cases l.1 <;> rfl) ?_
  unfold tyB2
  show (true && (natD l.2).all tyA) = true
  rw [ty_nat]; rfl
/-- a line's bounds that are none -/
structure OddB (T : Nat) (o : D) : Prop where
  ty : tyB2 o = true
  no : bndA T o = false
  len : (its o).length ≤ 1000
  me : eqz 56 o o = true
/-- a line that is none -/
structure OddL (T k : Nat) (l : D) : Prop where
  ok : okLA l = true
  no : lineA T k l = false
  len : (its (itm 1 l)).length ≤ 1000
  me : eqz 57 l l = true
/-- no yard -/
structure OddY (d : D) : Prop where
  ok : OkYA d
  no : yardA d = false
  me : cmpD .eq d d = some true
theorem line_tup (T k : Nat) (a b : D) : lineA T k (.tup [a, b]) = (upA k a && bndA T b) := by
  show (true && decide (2 = 2) && upA k a && bndA T b) = _
  rfl
theorem yard_tup (a b : D) : yardA (.tup [a, b]) = (whA a 1 9 && (isTup b && (decide (1 ≤ (its b).length) && decide ((its b).length ≤ 5)) && ((its b).zipIdx 0).all fun p => lineA (tmA (.tup [a, b])) p.2 p.1)) := by
  show (true && decide (2 = 2) && whA a 1 9 && (isTup b && (decide (1 ≤ (its b).length) && decide ((its b).length ≤ 5)) && ((its b).zipIdx 0).all fun p => lineA (tmA (.tup [a, b])) p.2 p.1)) = _
  simp
theorem bnd_tup (T : Nat) (bs : List D) : bndA T (.tup bs) = (decide (bs.length = T) && bs.all fun x => whA x 0 1000000000000000000000000000000) := by
  show (true && decide (bs.length = T) && bs.all fun x => whA x 0 1000000000000000000000000000000) = _
  rw [Bool.true_and]
theorem oddL_of {T k : Nat} {a o : D} (ha : tyA a = true) (ha2 : (its a).all tyA = true) (ha3 : eqz 56 a a = true) (h : OddB T o) : OddL T k (.tup [a, o]) := by
  refine ⟨ok_tup2 ha ha2 h.ty, by rw [line_tup, h.no, Bool.and_false], h.len, eqz_tup 56 fun x hx => ?_⟩
  simp only [List.mem_cons, List.not_mem_nil, or_false] at hx
  rcases hx with rfl | rfl
  · exact ha3
  · exact h.me
theorem oddL_up {T k : Nat} {a : D} (bs : List Nat) (hb : bs.length ≤ 1000) (ha : tyA a = true) (ha2 : (its a).all tyA = true) (ha3 : eqz 56 a a = true) (h : upA k a = false) : OddL T k (.tup [a, .tup (natD bs)]) := by
  refine ⟨ok_tup2 ha ha2 (by unfold tyB2; show (true && (natD bs).all tyA) = true; rw [ty_nat]; rfl), by rw [line_tup, h, Bool.false_and], by show (natD bs).length ≤ 1000; rw [natD_len]; exact hb, eqz_tup 56 fun x hx => ?_⟩
  simp only [List.mem_cons, List.not_mem_nil, or_false] at hx
  rcases hx with rfl | rfl
  · exact ha3
  · exact eqz_tup 55 (eqz_nat 55 bs)
/-- a yard with another line at k -/
def putL (Y : Yd) (k : Nat) (l : D) : D := .tup [.int (Y.T : Int), .tup ((Y.ls.take k).map lineD ++ [l] ++ (Y.ls.drop (k + 1)).map lineD)]
theorem mid8 {α : Type} (a b : List α) (x : α) : (a ++ [x] ++ b)[a.length]? = some x := by
  rw [List.append_assoc, List.getElem?_append_right (Nat.le_refl _), Nat.sub_self]; rfl
theorem ok_lines {Y : Yd} (ok : Y.Ok) : ∀ l ∈ Y.ls, l.2.length ≤ 1000 := fun l hl => by
  obtain ⟨i, hi⟩ := List.mem_iff_getElem?.mp hl
  have := (ok.ln i l hi).len
  have := ok.t8
  omega
theorem odd_put {Y : Yd} (ok : Y.Ok) {k : Nat} (hk : k < Y.ls.length) {l : D} (h : OddL Y.T k l) : OddY (putL Y k l) := by
  have hl := ok_lines ok
  have mem : ∀ x ∈ (Y.ls.take k).map lineD ++ [l] ++ (Y.ls.drop (k + 1)).map lineD, x = l ∨ ∃ z ∈ Y.ls, x = lineD z := fun x hx => by
    simp only [List.mem_append, List.mem_singleton, List.mem_map] at hx
    rcases hx with (⟨z, hz, rfl⟩ | rfl) | ⟨z, hz, rfl⟩
    · exact .inr ⟨z, List.mem_of_mem_take hz, rfl⟩
    · exact .inl rfl
    · exact .inr ⟨z, List.mem_of_mem_drop hz, rfl⟩
  refine ⟨⟨rfl, fun x hx => ?_, fun x hx => ?_⟩, ?_, cmp_tup fun x hx => ?_⟩
  · have hx : x ∈ ([.int (Y.T : Int), .tup ((Y.ls.take k).map lineD ++ [l] ++ (Y.ls.drop (k + 1)).map lineD)] : List D) := hx
    simp only [List.mem_cons, List.not_mem_nil, or_false] at hx
    rcases hx with rfl | rfl <;> rfl
  · rcases mem x hx with rfl | ⟨z, hz, rfl⟩
    · exact ⟨h.ok, by have := h.len; omega⟩
    · refine ⟨ok_line z, ?_⟩
      show (natD z.2).length ≤ 1000000
      rw [natD_len]; have := hl z hz; omega
  · unfold putL
    rw [yard_tup]
    have e : tmA (.tup [.int (Y.T : Int), .tup ((Y.ls.take k).map lineD ++ [l] ++ (Y.ls.drop (k + 1)).map lineD)]) = Y.T := by
      show (Y.T : Int).toNat = Y.T
      simp
    rw [e]
    have : ((its (.tup ((Y.ls.take k).map lineD ++ [l] ++ (Y.ls.drop (k + 1)).map lineD))).zipIdx 0).all (fun p => lineA Y.T p.2 p.1) = false := by
      rw [List.all_eq_false]
      refine ⟨(l, k), ?_, by rw [h.no]; simp⟩
      rw [List.mk_mem_zipIdx_iff_getElem?]
      show ((Y.ls.take k).map lineD ++ [l] ++ (Y.ls.drop (k + 1)).map lineD)[k]? = some l
      have := mid8 ((Y.ls.take k).map lineD) ((Y.ls.drop (k + 1)).map lineD) l
      rwa [List.length_map, List.length_take, Nat.min_eq_left (by omega)] at this
    rw [this]; simp
  · simp only [List.mem_cons, List.not_mem_nil, or_false] at hx
    rcases hx with rfl | rfl
    · exact eqz_int _ _
    · refine eqz_tup 57 fun x hx => ?_
      rcases mem x hx with rfl | ⟨z, hz, rfl⟩
      · exact h.me
      · exact eqz_line 55 z
theorem sl_tup2 (xs : List D) (i : Nat) : slD (.tup xs) none (some (i : Int)) = some (.tup (xs.take i)) := by
  simp only [slD]; rw [cut_take]
theorem cut_from0 (xs : List D) (i : Nat) (h : i ≤ xs.length) : slD (.tup xs) (some (i : Int)) none = some (.tup (xs.drop i)) := by
  have e : sIxD xs.length 0 (some (i : Int)) = i := by
    unfold sIxD
    simp only
    rw [if_neg (by omega), Int.toNat_natCast]; omega
  simp only [slD]
  unfold cutD
  rw [e]
  show some (D.tup ((xs.drop i).take (xs.length - i))) = _
  rw [List.take_of_length_le (by rw [List.length_drop] <;> omega)]
theorem catT (a b : List D) (h : a.length + b.length ≤ 1000000) : binD .cat (.tup a) (.tup b) = some (.tup (a ++ b)) := by
  simp only [binD]
  rw [if_pos h]
theorem s_with (Φ : Nat → Fn) {Y : Yd} (ok : Y.Ok) {k : Nat} (hk : k < Y.ls.length) (l : D) : runP Φ 3 df_law_with_line [Y.d, .int (k : Int), l] = some (.ret (putL Y k l) []) := by
  have l5 := ok.l5
  have i0 : ixD Y.d (.int 0) = some (.int (Y.T : Int)) := rfl
  have i1 : ixD Y.d (.int 1) = some (.tup (Y.ls.map lineD)) := rfl
  have s1 := sl_tup2 (Y.ls.map lineD) k
  have s2 := cut_from0 (Y.ls.map lineD) (k + 1) (by rw [List.length_map]; omega)
  rw [← List.map_take] at s1
  rw [← List.map_drop] at s2
  have ad : binD .add (.int (k : Int)) (.int 1) = some (.int ((k + 1 : Nat) : Int)) := by simp only [binD]; push_cast; rfl
  have c1 := catT ((Y.ls.take k).map lineD) [l] (by simp; omega)
  have c2 := catT ((Y.ls.take k).map lineD ++ [l]) ((Y.ls.drop (k + 1)).map lineD) (by simp; omega)
  unfold putL
  have pY := Y.pure
  have pl : pureD (.tup (Y.ls.map lineD)) = true := by simpa [Yd.d, PU] using pY
  generalize (Y.ls.take k).map lineD ++ [l] ++ (Y.ls.drop (k + 1)).map lineD = w3 at *
  generalize (Y.ls.take k).map lineD ++ [l] = w2 at *
  generalize (Y.ls.take k).map lineD = w1 at *
  generalize (Y.ls.drop (k + 1)).map lineD = w0 at *
  generalize Y.ls.map lineD = ld at *
  generalize (Y.T : Int) = Ti at *
  generalize Y.d = yd at *
  generalize ((k + 1 : Nat) : Int) = k1 at *
  generalize (k : Int) = ki at *
  simp [df_law_with_line, runP_eq, EV, EV3, EV4, EV5, EV6, ES, RC, RD, ioE, ioL, ioI, ioP, bindT, PU, i0, i1, s1, s2, ad, c1, c2, pl]
def ODD : List D := [.int (-1), .int 1000000000000000000000000000000, .bl true, .non, .str (Str.ofString "0"), .lst [.int 0], .dct [] [], .tup [.int 0], .int (-1000000000000000000000000000000)]
theorem odd_ok : ∀ x ∈ ODD, tyA x = true ∧ whA x 0 1000000000000000000000000000000 = false ∧ eqz 55 x x = true := fun x hx => by
  simp only [ODD, List.mem_cons, List.not_mem_nil, or_false] at hx
  rcases hx with rfl | rfl | rfl | rfl | rfl | rfl | rfl | rfl | rfl
  · exact ⟨rfl, by decide, eqz_int _ _⟩
  · exact ⟨rfl, by decide, eqz_int _ _⟩
  · exact ⟨rfl, by decide, eqz_leaf _ rfl⟩
  · exact ⟨rfl, by decide, eqz_leaf _ rfl⟩
  · exact ⟨rfl, rfl, eqz_leaf _ (by simp [eqL])⟩
  · exact ⟨rfl, rfl, eqz_lst 54 fun x hx => by rw [List.mem_singleton.mp hx]; exact eqz_int _ _⟩
  · exact ⟨rfl, rfl, eqz_dct 54⟩
  · exact ⟨rfl, rfl, eqz_tup 54 fun x hx => by rw [List.mem_singleton.mp hx]; exact eqz_int _ _⟩
  · exact ⟨rfl, by decide, eqz_int _ _⟩
theorem s_oddB (Φ : Nat → Fn) (bs : List Nat) (T w t : Nat) (hb : bs.length = T) (hT1 : 1 ≤ T) (hT : T ≤ 8) (hw : w < 12) (ht : t < T) : ∃ o, runP Φ 3 df_law_odd_bounds [.tup (natD bs), .int (w : Int), .int (t : Int)] = some (.ret o []) ∧ OddB T o := by
  have q0 : cmpD .eq (.int (w : Int)) (.int 0) = some (decide (w = 0)) := eq_n w 0
  have q1 : cmpD .eq (.int (w : Int)) (.int 1) = some (decide (w = 1)) := eq_n w 1
  have q2 : cmpD .eq (.int (w : Int)) (.int 2) = some (decide (w = 2)) := eq_n w 2
  have nl := natD_len bs
  have pn := pure_natD bs
  have pt : pureD (.tup (natD bs)) = true := by simp [PU, pn]
  have tn : tyB2 (.lst (natD bs)) = true := by rfl
  by_cases c0 : w = 0
  · rw [decide_eq_true c0] at q0
    refine ⟨.lst (natD bs), ?_, ⟨rfl, rfl, by show ([] : List D).length ≤ 1000; simp, eqz_lst 55 (eqz_nat 55 bs)⟩⟩
    have bl : biD .list [.tup (natD bs)] = some (.lst (natD bs)) := rfl
    clear q1 q2
    generalize natD bs = nd at *
    generalize (w : Int) = wi at *
    generalize (t : Int) = ti at *
    simp [df_law_odd_bounds, runP_eq, EV, ES, RC, RD, ioE, ioL, PU, q0, bl, pt, pn]
  rw [decide_eq_false c0] at q0
  by_cases c1 : w = 1
  · rw [decide_eq_true c1] at q1
    have sl : slD (.tup (natD bs)) none (some (-1)) = some (.tup (natD (bs.take (T - 1)))) := by
      have e : sIxD (natD bs).length (natD bs).length (some (-1)) = T - 1 := by
        unfold sIxD
        rw [nl]
        simp only
        rw [if_pos (by decide)]
        omega
      simp only [slD]
      unfold cutD
      rw [e]
      have e0 : sIxD (natD bs).length 0 none = 0 := rfl
      rw [e0]
      show some (D.tup (((natD bs).drop 0).take (T - 1 - 0))) = _
      rw [List.drop_zero, Nat.sub_zero]
      unfold natD
      rw [List.map_take]
    refine ⟨.tup (natD (bs.take (T - 1))), ?_, ⟨?_, ?_, ?_, eqz_tup 55 (eqz_nat 55 _)⟩⟩
    · have ng : (D.int (-1)) = .int (-1) := rfl
      clear q2
      generalize natD (bs.take (T - 1)) = nd1 at *
      generalize natD bs = nd at *
      generalize (w : Int) = wi at *
      generalize (t : Int) = ti at *
      simp [df_law_odd_bounds, runP_eq, EV, EV3, EV4, EV5, EV6, ES, RC, RD, ioE, ioL, ioP, PU, q0, q1, sl, pt, pn]
    · unfold tyB2; show (true && (natD _).all tyA) = true; rw [ty_nat]; rfl
    · rw [bnd_tup, natD_len, List.length_take]
      have : decide (min (T - 1) bs.length = T) = false := decide_eq_false (by omega)
      rw [this]; rfl
    · show (natD _).length ≤ 1000
      rw [natD_len, List.length_take]; omega
  rw [decide_eq_false c1] at q1
  by_cases c2 : w = 2
  · rw [decide_eq_true c2] at q2
    have ct := catT (natD bs) [.int 0] (by rw [nl]; simp; omega)
    have e0 : natD bs ++ [D.int 0] = natD (bs ++ [0]) := by simp [natD]
    rw [e0] at ct
    refine ⟨.tup (natD (bs ++ [0])), ?_, ⟨?_, ?_, ?_, eqz_tup 55 (eqz_nat 55 _)⟩⟩
    · generalize natD (bs ++ [0]) = nd1 at *
      generalize natD bs = nd at *
      generalize (w : Int) = wi at *
      generalize (t : Int) = ti at *
      simp [df_law_odd_bounds, runP_eq, EV, EV3, EV4, EV5, EV6, ES, RC, RD, ioE, ioL, ioP, PU, q0, q1, q2, ct, pt, pn]
    · unfold tyB2; show (true && (natD _).all tyA) = true; rw [ty_nat]; rfl
    · rw [bnd_tup, natD_len, List.length_append]
      have : decide (bs.length + [0].length = T) = false := decide_eq_false (by simp; omega)
      rw [this]; rfl
    · show (natD _).length ≤ 1000
      rw [natD_len, List.length_append]; simp; omega
  rw [decide_eq_false c2] at q2
  have sb : binD .sub (.int (w : Int)) (.int 3) = some (.int ((w - 3 : Nat) : Int)) := by
    simp only [binD]; rw [Int.natCast_sub (by omega)]; rfl
  obtain ⟨x, hx⟩ : ∃ x, ODD[w - 3]? = some x := ⟨_, List.getElem?_eq_getElem (by show w - 3 < 9; omega)⟩
  have ho := odd_ok x (List.mem_of_getElem? hx)
  have ix : ixD (.lst ODD) (.int ((w - 3 : Nat) : Int)) = some x := by
    simp only [ixD]
    rw [ixP_nat8 (by show w - 3 < 9; omega)]
    simp [hx]
  have s1 := sl_tup2 (natD bs) t
  have s2 := cut_from0 (natD bs) (t + 1) (by rw [nl]; omega)
  have t1 : (natD bs).take t = natD (bs.take t) := by unfold natD; rw [List.map_take]
  have t2 : (natD bs).drop (t + 1) = natD (bs.drop (t + 1)) := by unfold natD; rw [List.map_drop]
  rw [t1] at s1
  rw [t2] at s2
  have ad : binD .add (.int (t : Int)) (.int 1) = some (.int ((t + 1 : Nat) : Int)) := by simp only [binD]; push_cast; rfl
  have l1 : (natD (bs.take t)).length = t := by rw [natD_len, List.length_take]; omega
  have l2 : (natD (bs.drop (t + 1))).length = T - (t + 1) := by rw [natD_len, List.length_drop]; omega
  have k1 := catT (natD (bs.take t)) [x] (by rw [l1]; simp; omega)
  have k2 := catT (natD (bs.take t) ++ [x]) (natD (bs.drop (t + 1))) (by rw [List.length_append, l1, l2]; simp; omega)
  have mem : ∀ z ∈ natD (bs.take t) ++ [x] ++ natD (bs.drop (t + 1)), z = x ∨ ∃ b : Nat, z = .int (b : Int) := fun z hz => by
    simp only [List.mem_append, List.mem_singleton, natD, List.mem_map] at hz
    rcases hz with (⟨b, _, rfl⟩ | rfl) | ⟨b, _, rfl⟩
    · exact .inr ⟨b, rfl⟩
    · exact .inl rfl
    · exact .inr ⟨b, rfl⟩
  refine ⟨.tup (natD (bs.take t) ++ [x] ++ natD (bs.drop (t + 1))), ?_, ⟨?_, ?_, ?_, eqz_tup 55 fun z hz => ?_⟩⟩
  · have p30 : binD .pow (.int 10) (.int 30) = some (.int 1000000000000000000000000000000) := rfl
    clear mem ho l1 l2 t1 t2 tn
    unfold ODD at ix
    generalize natD (bs.take t) ++ [x] ++ natD (bs.drop (t + 1)) = w3 at *
    generalize natD (bs.take t) ++ [x] = w2 at *
    generalize natD (bs.take t) = w1 at *
    generalize natD (bs.drop (t + 1)) = w0 at *
    generalize natD bs = nd at *
    generalize ((w - 3 : Nat) : Int) = wj at *
    generalize (w : Int) = wi at *
    generalize ((t + 1 : Nat) : Int) = t1i at *
    generalize (t : Int) = ti at *
    have dc : ∀ e : En, ev Φ .dct0 e = some (.ok (.dct [] []) e) := fun _ => by rw [ev]
    simp [df_law_odd_bounds, runP_eq, EV, EV3, EV4, EV5, EV6, ES, RC, RD, ioE, ioL, ioP, bindT, PU, q0, q1, q2, sb, p30, dc, ix, s1, s2, ad, k1, k2, pt, pn]
  · unfold tyB2
    show (true && (natD (bs.take t) ++ [x] ++ natD (bs.drop (t + 1))).all tyA) = true
    rw [Bool.true_and, List.all_eq_true]
    intro z hz
    rcases mem z hz with rfl | ⟨b, rfl⟩
    · exact ho.1
    · rfl
  · rw [bnd_tup]
    have : ((natD (bs.take t) ++ [x] ++ natD (bs.drop (t + 1))).all fun x => whA x 0 1000000000000000000000000000000) = false := by
      rw [List.all_eq_false]
      exact ⟨x, by simp, by rw [ho.2.1]; simp⟩
    rw [this, Bool.and_false]
  · show (natD (bs.take t) ++ [x] ++ natD (bs.drop (t + 1))).length ≤ 1000
    rw [List.length_append, List.length_append, l1, l2]; simp; omega
  · rcases mem z hz with rfl | ⟨b, rfl⟩
    · exact ho.2.2
    · exact eqz_int _ _
def OA (k : Nat) : List D := [.int (k : Int), .int (-1), .bl false, .str (Str.ofString "0"), .int ((k + 1 : Nat) : Int), .tup [.int 0]]
def OB : List D := [.int 0, .int 1, .bl false, .str (Str.ofString ""), .tup [], .int (-1)]
def OC (a b : D) : List D := [.lst [a, b], .tup [a, b, .int 0], .tup [a], .non]
theorem oa_ok {k : Nat} (hk : 0 < k) : ∀ x ∈ OA k, tyA x = true ∧ (its x).all tyA = true ∧ eqz 56 x x = true ∧ upA k x = false := fun x hx => by
  have e : ∀ x : D, upA k x = whA x 0 (k : Int) := fun x => by unfold upA; rw [if_neg (by omega)]
  simp only [OA, List.mem_cons, List.not_mem_nil, or_false] at hx
  rcases hx with rfl | rfl | rfl | rfl | rfl | rfl
  · exact ⟨rfl, rfl, eqz_int _ _, by rw [e]; simp [whA]⟩
  · exact ⟨rfl, rfl, eqz_int _ _, by rw [e]; simp [whA]⟩
  · exact ⟨rfl, rfl, eqz_leaf _ rfl, by rw [e]; rfl⟩
  · exact ⟨rfl, rfl, eqz_leaf _ (by simp [eqL]), by rw [e]; rfl⟩
  · exact ⟨rfl, rfl, eqz_int _ _, by rw [e]; simp only [whA]; exact decide_eq_false (by omega)⟩
  · exact ⟨rfl, rfl, eqz_tup 55 fun x hx => by rw [List.mem_singleton.mp hx]; exact eqz_int _ _, by rw [e]; rfl⟩
theorem ob_ok : ∀ x ∈ OB, tyA x = true ∧ (its x).all tyA = true ∧ eqz 56 x x = true ∧ upA 0 x = false := fun x hx => by
  simp only [OB, List.mem_cons, List.not_mem_nil, or_false] at hx
  rcases hx with rfl | rfl | rfl | rfl | rfl | rfl
  · exact ⟨rfl, rfl, eqz_int _ _, rfl⟩
  · exact ⟨rfl, rfl, eqz_int _ _, rfl⟩
  · exact ⟨rfl, rfl, eqz_leaf _ rfl, rfl⟩
  · exact ⟨rfl, rfl, eqz_leaf _ (by simp [eqL]), rfl⟩
  · exact ⟨rfl, rfl, eqz_tup 55 (fun x hx => by cases hx), rfl⟩
  · exact ⟨rfl, rfl, eqz_int _ _, rfl⟩
theorem oc_ok (T k : Nat) (a : Option Nat) (bs : List Nat) (hb : bs.length ≤ 1000) : ∀ x ∈ OC (aboD a) (.tup (natD bs)), OddL T k x := fun x hx => by
  have ta := ty_abo a
  have ta2 : (its (aboD a)).all tyA = true := by cases a <;> rfl
  have tn := ty_nat bs
  have ea : eqz 56 (aboD a) (aboD a) = true := eqz_abo 56 a
  have en : eqz 56 (.tup (natD bs)) (.tup (natD bs)) = true := eqz_tup 55 (eqz_nat 55 bs)
  have nl := natD_len bs
  simp only [OC, List.mem_cons, List.not_mem_nil, or_false] at hx
  rcases hx with rfl | rfl | rfl | rfl
  · refine ⟨rfl, rfl, by show ([] : List D).length ≤ 1000; simp, eqz_lst 56 fun x hx => ?_⟩
    simp only [List.mem_cons, List.not_mem_nil, or_false] at hx
    rcases hx with rfl | rfl
    · exact ea
    · exact en
  · refine ⟨?_, rfl, by show (natD bs).length ≤ 1000; rw [nl]; exact hb, eqz_tup 56 fun x hx => ?_⟩
    · show (true && (([aboD a, .tup (natD bs), .int 0] : List D).all fun x => tyA x && (its x).all tyA)) = true
      have t1 : tyA (.tup (natD bs)) = true := rfl
      have t2 : (its (.tup (natD bs))).all tyA = true := tn
      have t3 : tyA (.int 0) = true := rfl
      have t4 : (its (.int 0)).all tyA = true := rfl
      simp only [List.all_cons, List.all_nil, ta, ta2, t1, t2, t3, t4, Bool.and_self]
    · simp only [List.mem_cons, List.not_mem_nil, or_false] at hx
      rcases hx with rfl | rfl | rfl
      · exact ea
      · exact en
      · exact eqz_int _ _
  · refine ⟨?_, rfl, by show ([] : List D).length ≤ 1000; simp, eqz_tup 56 fun x hx => ?_⟩
    · show (true && (([aboD a] : List D).all fun x => tyA x && (its x).all tyA)) = true
      simp only [List.all_cons, List.all_nil, ta, ta2, Bool.and_self]
    · rw [List.mem_singleton.mp hx]; exact ea
  · exact ⟨rfl, rfl, by show ([] : List D).length ≤ 1000; simp, eqz_leaf _ rfl⟩
theorem ix_lst {xs : List D} {j : Nat} {x : D} (h : xs[j]? = some x) : ixD (.lst xs) (.int (j : Int)) = some x := by
  simp only [ixD]
  rw [ixP_nat8 (List.getElem?_eq_some_iff.mp h).1]
  simp [h]
theorem ix_tup8 {xs : List D} {j : Nat} {x : D} (h : xs[j]? = some x) : ixD (.tup xs) (.int (j : Int)) = some x := by
  simp only [ixD]
  rw [ixP_nat8 (List.getElem?_eq_some_iff.mp h).1]
  simp [h]
theorem s_oddL (Φ : Nat → Fn) {Y : Yd} (ok : Y.Ok) {k w : Nat} (hk : k < Y.ls.length) (hw : w < 10) : ∃ l, runP Φ 3 df_law_odd_line [Y.d, .int (k : Int), .int (w : Int)] = some (.ret l []) ∧ OddL Y.T k l := by
  obtain ⟨l, hl⟩ : ∃ l, Y.ls[k]? = some l := ⟨_, List.getElem?_eq_getElem hk⟩
  have hb := ok_lines ok l (List.mem_of_getElem? hl)
  have i1 : ixD Y.d (.int 1) = some (.tup (Y.ls.map lineD)) := rfl
  have ik : ixD (.tup (Y.ls.map lineD)) (.int (k : Int)) = some (.tup [aboD l.1, .tup (natD l.2)]) := ix_tup8 (by simp [hl, lineD])
  have bt : ∀ (y kk ww : D), bindT (.t [(.n 3), (.n 4)]) (.tup [aboD l.1, .tup (natD l.2)]) [some y, some kk, some ww, none, none, none] = some [some y, some kk, some ww, some (aboD l.1), some (.tup (natD l.2)), none] := fun _ _ _ => rfl
  have lt : cmpD .lt (.int (w : Int)) (.int 6) = some (decide (w < 6)) := by
    simp only [cmpD]
    by_cases e : w < 6
    · rw [decide_eq_true e, decide_eq_true (by omega)]
    · rw [decide_eq_false e, decide_eq_false (by omega)]
  have qk : cmpD .eq (.int (k : Int)) (.int 0) = some (decide (k = 0)) := eq_n k 0
  have ad : binD .add (.int (k : Int)) (.int 1) = some (.int ((k + 1 : Nat) : Int)) := by simp only [binD]; push_cast; rfl
  have pY := Y.pure
  have pl : pureD (.tup (Y.ls.map lineD)) = true := by simpa [Yd.d, PU] using pY
  have pa : pureD (aboD l.1) = true := by cases l.1 <;> rfl
  have pn : pureD (.tup (natD l.2)) = true := by simp [PU, pure_natD l.2]
  by_cases c6 : w < 6
  · rw [decide_eq_true c6] at lt
    obtain ⟨x, hx⟩ : ∃ x, (OA k)[w]? = some x := ⟨_, List.getElem?_eq_getElem (by show w < 6; omega)⟩
    have ixa := ix_lst hx
    unfold OA at ixa
    by_cases k0 : k = 0
    · rw [decide_eq_true k0] at qk
      obtain ⟨x2, hx2⟩ : ∃ x, OB[w]? = some x := ⟨_, List.getElem?_eq_getElem (by show w < 6; omega)⟩
      have ixb := ix_lst hx2
      unfold OB at ixb
      obtain ⟨p1, p2, p3, p4⟩ := ob_ok x2 (List.mem_of_getElem? hx2)
      refine ⟨.tup [x2, .tup (natD l.2)], ?_, oddL_up l.2 hb p1 p2 p3 (by rw [k0]; exact p4)⟩
      clear p1 p2 p3 p4 hx hx2
      generalize aboD l.1 = ab at *
      generalize D.tup (natD l.2) = nd at *
      generalize Y.ls.map lineD = ld at *
      generalize Y.d = yd at *
      generalize ((k + 1 : Nat) : Int) = k1 at *
      generalize (k : Int) = ki at *
      generalize (w : Int) = wi at *
      simp [df_law_odd_line, runP_eq, EV, EV3, EV4, EV5, EV6, ES, RC, RD, ioE, ioL, ioP, PU, ↓bt, bindT, i1, ik, lt, qk, ad, ixa, ixb, pl]
    · rw [decide_eq_false k0] at qk
      obtain ⟨p1, p2, p3, p4⟩ := oa_ok (by omega) x (List.mem_of_getElem? hx)
      refine ⟨.tup [x, .tup (natD l.2)], ?_, oddL_up l.2 hb p1 p2 p3 p4⟩
      clear p1 p2 p3 p4 hx
      generalize aboD l.1 = ab at *
      generalize D.tup (natD l.2) = nd at *
      generalize Y.ls.map lineD = ld at *
      generalize Y.d = yd at *
      generalize ((k + 1 : Nat) : Int) = k1 at *
      generalize (k : Int) = ki at *
      generalize (w : Int) = wi at *
      simp [df_law_odd_line, runP_eq, EV, EV3, EV4, EV5, EV6, ES, RC, RD, ioE, ioL, ioP, PU, ↓bt, bindT, i1, ik, lt, qk, ad, ixa, pl]
  · rw [decide_eq_false c6] at lt
    have sb : binD .sub (.int (w : Int)) (.int 6) = some (.int ((w - 6 : Nat) : Int)) := by
      simp only [binD]; rw [Int.natCast_sub (by omega)]; rfl
    obtain ⟨x, hx⟩ : ∃ x, (OC (aboD l.1) (.tup (natD l.2)))[w - 6]? = some x := ⟨_, List.getElem?_eq_getElem (by show w - 6 < 4; omega)⟩
    have ixc := ix_lst hx
    unfold OC at ixc
    refine ⟨x, ?_, oc_ok Y.T k l.1 l.2 hb x (List.mem_of_getElem? hx)⟩
    clear hx
    generalize aboD l.1 = ab at *
    generalize D.tup (natD l.2) = nd at *
    generalize Y.ls.map lineD = ld at *
    generalize Y.d = yd at *
    generalize ((w - 6 : Nat) : Int) = wj at *
    generalize (k : Int) = ki at *
    generalize (w : Int) = wi at *
    simp [df_law_odd_line, runP_eq, EV, EV3, EV4, EV5, EV6, ES, RC, RD, ioE, ioL, ioP, PU, ↓bt, bindT, i1, ik, lt, sb, ixc, pl]
theorem eqz_lines (Y : Yd) : ∀ x ∈ Y.ls.map lineD, eqz 57 x x = true := fun x hx => by
  obtain ⟨l, _, rfl⟩ := List.mem_map.mp hx
  exact eqz_line 55 l
theorem ok_linesD {Y : Yd} (ok : Y.Ok) : ∀ x ∈ Y.ls.map lineD, okLA x = true ∧ (its (itm 1 x)).length ≤ 1000000 := fun x hx => by
  obtain ⟨l, hl, rfl⟩ := List.mem_map.mp hx
  refine ⟨ok_line l, ?_⟩
  show (natD l.2).length ≤ 1000000
  rw [natD_len]; have := ok_lines ok l hl; omega
/-- a turn's number or the lines are another thing -/
theorem oddY_of {a b : D} (ha : tyA a = true) (hb : tyA b = true) (hl : ∀ x ∈ its b, okLA x = true ∧ (its (itm 1 x)).length ≤ 1000000) (ea : eqz 58 a a = true) (eb : eqz 58 b b = true)
    (no : yardA (.tup [a, b]) = false) : OddY (.tup [a, b]) := by
  refine ⟨⟨rfl, fun x hx => ?_, hl⟩, no, cmp_tup fun x hx => ?_⟩
  · have hx : x ∈ ([a, b] : List D) := hx
    simp only [List.mem_cons, List.not_mem_nil, or_false] at hx
    rcases hx with rfl | rfl
    · exact ha
    · exact hb
  · simp only [List.mem_cons, List.not_mem_nil, or_false] at hx
    rcases hx with rfl | rfl
    · exact ea
    · exact eb
def OT : List D := [.int 0, .int 9, .bl true, .non, .str (Str.ofString "1"), .int (-1), .tup [.int 1]]
theorem ot_ok : ∀ x ∈ OT, tyA x = true ∧ eqz 58 x x = true ∧ whA x 1 9 = false := fun x hx => by
  simp only [OT, List.mem_cons, List.not_mem_nil, or_false] at hx
  rcases hx with rfl | rfl | rfl | rfl | rfl | rfl | rfl
  · exact ⟨rfl, eqz_int _ _, by decide⟩
  · exact ⟨rfl, eqz_int _ _, by decide⟩
  · exact ⟨rfl, eqz_leaf _ rfl, rfl⟩
  · exact ⟨rfl, eqz_leaf _ rfl, rfl⟩
  · exact ⟨rfl, eqz_leaf _ (by simp [eqL]), rfl⟩
  · exact ⟨rfl, eqz_int _ _, by decide⟩
  · exact ⟨rfl, eqz_tup 57 fun x hx => by rw [List.mem_singleton.mp hx]; exact eqz_int _ _, rfl⟩
def OU (t l : D) : List D := [.lst [t, l], .tup [t, l, .int 0], .tup [t], .tup [l, t]]
theorem ou_ok {Y : Yd} (ok : Y.Ok) : ∀ x ∈ OU (.int (Y.T : Int)) (.tup (Y.ls.map lineD)), OddY x := fun x hx => by
  have el : eqz 58 (.tup (Y.ls.map lineD)) (.tup (Y.ls.map lineD)) = true := eqz_tup 57 (eqz_lines Y)
  simp only [OU, List.mem_cons, List.not_mem_nil, or_false] at hx
  rcases hx with rfl | rfl | rfl | rfl
  · refine ⟨⟨rfl, (fun x hx => by cases hx), (fun x hx => by cases hx)⟩, rfl, cmp_self (.inl ?_)⟩
    have h : shps 58 (Y.ls.map lineD) = true := by
      rw [shps_all, List.all_eq_true]
      intro d hd
      obtain ⟨l, _, rfl⟩ := List.mem_map.mp hd
      exact shp_lineD l
    simp [SHP, h]
  · refine ⟨⟨rfl, fun x hx => ?_, fun x hx => ok_linesD ok x hx⟩, rfl, cmp_tup fun x hx => ?_⟩
    · have hx : x ∈ ([.int (Y.T : Int), .tup (Y.ls.map lineD), .int 0] : List D) := hx
      simp only [List.mem_cons, List.not_mem_nil, or_false] at hx
      rcases hx with rfl | rfl | rfl <;> rfl
    · simp only [List.mem_cons, List.not_mem_nil, or_false] at hx
      rcases hx with rfl | rfl | rfl
      · exact eqz_int _ _
      · exact el
      · exact eqz_int _ _
  · refine ⟨⟨rfl, fun x hx => ?_, fun x hx => nomatch hx⟩, rfl, cmp_tup fun x hx => ?_⟩
    · have hx : x ∈ ([.int (Y.T : Int)] : List D) := hx
      rw [List.mem_singleton.mp hx]; rfl
    · rw [List.mem_singleton.mp hx]; exact eqz_int _ _
  · refine oddY_of rfl rfl (fun x hx => nomatch hx) el (eqz_int _ _) ?_
    rw [yard_tup]; rfl
theorem s_spoilt {Φ : Nat → Fn} {a b c : Nat} {Y : Yd} (ok : Y.Ok) (hw : ∀ (k : Nat) (l : D), k < Y.ls.length → Φ a [Y.d, .int (k : Int), l] = some (.ret (putL Y k l) []))
    (hob : ∀ (bs : List Nat) (w t : Nat), bs.length = Y.T → w < 12 → t < Y.T → ∃ o, Φ b [.tup (natD bs), .int (w : Int), .int (t : Int)] = some (.ret o []) ∧ OddB Y.T o)
    (hol : ∀ k w : Nat, k < Y.ls.length → w < 10 → ∃ l, Φ c [Y.d, .int (k : Int), .int (w : Int)] = some (.ret l []) ∧ OddL Y.T k l) (n : Nat) :
    ∃ s, runP Φ 2 (df_law_spoilt a b c) [Y.d, .int (n : Int)] = some (.ret s []) ∧ OddY s := by
  have t1 := ok.t1
  have t8 := ok.t8
  have l1 := ok.l1
  have l5 := ok.l5
  have i0 : ixD Y.d (.int 0) = some (.int (Y.T : Int)) := rfl
  have i1 : ixD Y.d (.int 1) = some (.tup (Y.ls.map lineD)) := rfl
  have ln : biD .len [.tup (Y.ls.map lineD)] = some (.int (Y.ls.length : Int)) := by simp [biD]
  have m1 : binD .mod (.int (n : Int)) (.int 28) = some (.int ((n % 28 : Nat) : Int)) := nMod n 28 (by decide)
  have d1 : binD .fdiv (.int (n : Int)) (.int 28) = some (.int ((n / 28 : Nat) : Int)) := nDiv n 28 (by decide) (dvbN (by decide))
  have m2 : binD .mod (.int ((n / 28 : Nat) : Int)) (.int (Y.ls.length : Int)) = some (.int ((n / 28 % Y.ls.length : Nat) : Int)) := nMod _ _ (by omega)
  have d2 : binD .fdiv (.int ((n / 28 : Nat) : Int)) (.int 5) = some (.int ((n / 28 / 5 : Nat) : Int)) := nDiv (n / 28) 5 (by decide) (dvbN (by decide))
  have m3 : binD .mod (.int ((n / 28 / 5 : Nat) : Int)) (.int (Y.T : Int)) = some (.int ((n / 28 / 5 % Y.T : Nat) : Int)) := nMod _ _ (by omega)
  have d3 : binD .fdiv (.int ((n / 28 : Nat) : Int)) (.int 40) = some (.int ((n / 28 / 40 : Nat) : Int)) := nDiv (n / 28) 40 (by decide) (dvbN (by decide))
  have m4 : binD .mod (.int ((n / 28 / 40 : Nat) : Int)) (.int 7) = some (.int ((n / 28 / 40 % 7 : Nat) : Int)) := nMod _ 7 (by decide)
  have m5 : binD .mod (.int ((n / 28 / 40 : Nat) : Int)) (.int 4) = some (.int ((n / 28 / 40 % 4 : Nat) : Int)) := nMod _ 4 (by decide)
  have hk : n / 28 % Y.ls.length < Y.ls.length := Nat.mod_lt _ (by omega)
  have ht : n / 28 / 5 % Y.T < Y.T := Nat.mod_lt _ (by omega)
  have h7 : n / 28 / 40 % 7 < 7 := Nat.mod_lt _ (by decide)
  have h4 : n / 28 / 40 % 4 < 4 := Nat.mod_lt _ (by decide)
  have hw28 : n % 28 < 28 := Nat.mod_lt _ (by decide)
  generalize n / 28 % Y.ls.length = k at *
  generalize n / 28 / 5 % Y.T = t at *
  generalize n / 28 / 40 % 7 = r7 at *
  generalize n / 28 / 40 % 4 = r4 at *
  generalize n / 28 / 40 = n4 at *
  generalize n / 28 / 5 = n5 at *
  generalize n / 28 = n2 at *
  generalize n % 28 = w at *
  have lt12 : cmpD .lt (.int (w : Int)) (.int 12) = some (decide (w < 12)) := by
    simp only [cmpD]; congr 1; exact decide_eq_decide.mpr (by omega)
  have lt22 : cmpD .lt (.int (w : Int)) (.int 22) = some (decide (w < 22)) := by
    simp only [cmpD]; congr 1; exact decide_eq_decide.mpr (by omega)
  have q22 : cmpD .eq (.int (w : Int)) (.int 22) = some (decide (w = 22)) := eq_n w 22
  have q23 : cmpD .eq (.int (w : Int)) (.int 23) = some (decide (w = 23)) := eq_n w 23
  have q24 : cmpD .eq (.int (w : Int)) (.int 24) = some (decide (w = 24)) := eq_n w 24
  have q25 : cmpD .eq (.int (w : Int)) (.int 25) = some (decide (w = 25)) := eq_n w 25
  have q26 : cmpD .eq (.int (w : Int)) (.int 26) = some (decide (w = 26)) := eq_n w 26
  have pY := Y.pure
  have pls : pureDs (Y.ls.map lineD) = true := by simpa [Yd.d, PU] using pY
  have pl : pureD (.tup (Y.ls.map lineD)) = true := by simp only [PU]; exact pls
  obtain ⟨l, hl⟩ : ∃ l, Y.ls[k]? = some l := ⟨_, List.getElem?_eq_getElem hk⟩
  have lk := ok.ln k l hl
  have ik : ixD (.tup (Y.ls.map lineD)) (.int (k : Int)) = some (.tup [aboD l.1, .tup (natD l.2)]) := ix_tup8 (by simp [hl, lineD])
  have el : eqz 58 (.tup (Y.ls.map lineD)) (.tup (Y.ls.map lineD)) = true := eqz_tup 57 (eqz_lines Y)
  have okl := ok_linesD ok
  obtain ⟨l0, hl0⟩ : ∃ l, Y.ls[0]? = some l := ⟨_, List.getElem?_eq_getElem (by omega)⟩
  have lk0 := ok.ln 0 l0 hl0
  by_cases c12 : w < 12
  · rw [decide_eq_true c12] at lt12
    obtain ⟨o, ho, hO⟩ := hob l.2 w t lk.len c12 ht
    have hwk := hw k (.tup [aboD l.1, o]) hk
    have j0 : ixD (.tup [aboD l.1, .tup (natD l.2)]) (.int 0) = some (aboD l.1) := rfl
    have j1 : ixD (.tup [aboD l.1, .tup (natD l.2)]) (.int 1) = some (.tup (natD l.2)) := rfl
    refine ⟨putL Y k (.tup [aboD l.1, o]), ?_, odd_put ok hk (oddL_of (ty_abo _) (by cases l.1 <;> rfl) (eqz_abo _ _) hO)⟩
    clear hob hol hw hO okl el ok hl lk hl0 lk0 lt22 q22 q23 q24 q25 q26 pls
    generalize putL Y k (.tup [aboD l.1, o]) = res at *
    generalize hab : D.tup [aboD l.1, .tup (natD l.2)] = lnd at *
    generalize aboD l.1 = ab at *
    generalize D.tup (natD l.2) = nd at *
    generalize D.tup (Y.ls.map lineD) = ld at *
    generalize Y.d = yd at *
    generalize (Y.ls.length : Int) = Nn at *
    generalize (Y.T : Int) = Ti at *
    generalize (k : Int) = ki at *
    generalize (t : Int) = ti at *
    generalize (w : Int) = wi at *
    generalize (n : Int) = ni at *
    simp [df_law_spoilt, runP_eq, EV, EV3, EV4, EV5, EV6, ES, RC, RD, ioE, ioL, ioP, bindT, PU, i0, i1, ln, m1, d1, m2, d2, m3, lt12, ik, j0, j1, ho, hwk, pl]
  rw [decide_eq_false c12] at lt12
  by_cases c22 : w < 22
  · rw [decide_eq_true c22] at lt22
    obtain ⟨o, ho, hO⟩ := hol k (w - 12) hk (by omega)
    have hwk := hw k o hk
    have sb : binD .sub (.int (w : Int)) (.int 12) = some (.int ((w - 12 : Nat) : Int)) := by
      simp only [binD]; rw [Int.natCast_sub (by omega)]; rfl
    refine ⟨putL Y k o, ?_, odd_put ok hk hO⟩
    clear hob hol hw hO okl el ok hl lk hl0 lk0 q22 q23 q24 q25 q26 pls
    generalize putL Y k o = res at *
    generalize D.tup (Y.ls.map lineD) = ld at *
    generalize Y.d = yd at *
    generalize (Y.ls.length : Int) = Nn at *
    generalize (Y.T : Int) = Ti at *
    generalize (k : Int) = ki at *
    generalize ((w - 12 : Nat) : Int) = wj at *
    generalize (w : Int) = wi at *
    generalize (n : Int) = ni at *
    simp [df_law_spoilt, runP_eq, EV, EV3, EV4, EV5, EV6, ES, RC, RD, ioE, ioL, ioP, bindT, PU, i0, i1, ln, m1, d1, m2, d2, m3, lt12, lt22, ho, hwk, sb, pl]
  rw [decide_eq_false c22] at lt22
  clear hob hol hw
  by_cases c : w = 22
  · rw [decide_eq_true c] at q22
    have ad : binD .add (.int (Y.T : Int)) (.int 1) = some (.int ((Y.T + 1 : Nat) : Int)) := by simp only [binD]; push_cast; rfl
    refine ⟨.tup [.int ((Y.T + 1 : Nat) : Int), .tup (Y.ls.map lineD)], ?_, oddY_of rfl rfl okl (eqz_int _ _) el ?_⟩
    · clear okl el hl lk hl0 lk0 q23 q24 q25 q26 pls
      generalize D.tup (Y.ls.map lineD) = ld at *
      generalize Y.d = yd at *
      generalize (Y.ls.length : Int) = Nn at *
      generalize ((Y.T + 1 : Nat) : Int) = T1 at *
      generalize (Y.T : Int) = Ti at *
      generalize (w : Int) = wi at *
      generalize (n : Int) = ni at *
      simp [df_law_spoilt, runP_eq, EV, EV3, EV4, EV5, EV6, ES, RC, RD, ioE, ioL, ioP, bindT, PU, i0, i1, ln, m1, d1, m2, d2, m3, lt12, lt22, q22, ad, pl]
    · rw [yard_tup]
      have e : tmA (.tup [.int ((Y.T + 1 : Nat) : Int), .tup (Y.ls.map lineD)]) = Y.T + 1 := by
        show ((Y.T + 1 : Nat) : Int).toNat = Y.T + 1
        exact Int.toNat_natCast _
      rw [e]
      have : ((its (.tup (Y.ls.map lineD))).zipIdx 0).all (fun p => lineA (Y.T + 1) p.2 p.1) = false := by
        rw [List.all_eq_false]
        refine ⟨(lineD l0, 0), ?_, ?_⟩
        · rw [List.mk_mem_zipIdx_iff_getElem?]
          show (Y.ls.map lineD)[0]? = _
          simp [hl0]
        · show ¬ lineA (Y.T + 1) 0 (.tup [aboD l0.1, .tup (natD l0.2)]) = true
          rw [line_tup, bnd_tup, natD_len, decide_eq_false (by rw [lk0.len]; omega)]
          simp
      rw [this]; simp
  rw [decide_eq_false c] at q22
  by_cases c : w = 23
  · rw [decide_eq_true c] at q23
    obtain ⟨x, hx⟩ : ∃ x, OT[r7]? = some x := ⟨_, List.getElem?_eq_getElem (by show r7 < 7; omega)⟩
    have ix := ix_lst hx
    unfold OT at ix
    obtain ⟨p1, p2, p3⟩ := ot_ok x (List.mem_of_getElem? hx)
    refine ⟨.tup [x, .tup (Y.ls.map lineD)], ?_, oddY_of p1 rfl okl p2 el (by rw [yard_tup, p3]; rfl)⟩
    clear okl el hl lk hl0 lk0 q24 q25 q26 pls p1 p2 p3 hx
    generalize D.tup (Y.ls.map lineD) = ld at *
    generalize Y.d = yd at *
    generalize (Y.ls.length : Int) = Nn at *
    generalize (Y.T : Int) = Ti at *
    generalize (r7 : Int) = r7i at *
    generalize (n4 : Int) = n4i at *
    generalize (n2 : Int) = n2i at *
    generalize (w : Int) = wi at *
    generalize (n : Int) = ni at *
    simp [df_law_spoilt, runP_eq, EV, EV3, EV4, EV5, EV6, ES, RC, RD, ioE, ioL, ioP, bindT, PU, i0, i1, ln, m1, d1, m2, d2, m3, d3, m4, lt12, lt22, q22, q23, ix, pl]
  rw [decide_eq_false c] at q23
  by_cases c : w = 24
  · rw [decide_eq_true c] at q24
    have bl : biD .list [.tup (Y.ls.map lineD)] = some (.lst (Y.ls.map lineD)) := rfl
    refine ⟨.tup [.int (Y.T : Int), .lst (Y.ls.map lineD)], ?_, oddY_of rfl rfl (fun x hx => nomatch hx) (eqz_int _ _) (eqz_lst 57 (eqz_lines Y)) (by rw [yard_tup]; show (_ && (false && _ && _)) = false; simp)⟩
    clear okl el hl lk hl0 lk0 q25 q26
    generalize Y.ls.map lineD = ld at *
    generalize Y.d = yd at *
    generalize (Y.ls.length : Int) = Nn at *
    generalize (Y.T : Int) = Ti at *
    generalize (w : Int) = wi at *
    generalize (n : Int) = ni at *
    simp [df_law_spoilt, runP_eq, EV, EV3, EV4, EV5, EV6, ES, RC, RD, ioE, ioL, ioP, bindT, PU, i0, i1, ln, m1, d1, m2, d2, m3, lt12, lt22, q22, q23, q24, bl, pl, pls]
  rw [decide_eq_false c] at q24
  by_cases c : w = 25
  · rw [decide_eq_true c] at q25
    refine ⟨.tup [.int (Y.T : Int), .tup []], ?_, oddY_of rfl rfl (fun x hx => nomatch hx) (eqz_int _ _) (eqz_tup 57 fun x hx => nomatch hx) (by rw [yard_tup]; show (_ && (true && (decide (1 ≤ 0) && _) && _)) = false; simp)⟩
    clear okl el hl lk hl0 lk0 q26 pls
    generalize Y.ls.map lineD = ld at *
    generalize Y.d = yd at *
    generalize (Y.ls.length : Int) = Nn at *
    generalize (Y.T : Int) = Ti at *
    generalize (w : Int) = wi at *
    generalize (n : Int) = ni at *
    simp [df_law_spoilt, runP_eq, EV, EV3, EV4, EV5, EV6, ES, RC, RD, ioE, ioL, ioP, bindT, PU, i0, i1, ln, m1, d1, m2, d2, m3, lt12, lt22, q22, q23, q24, q25, pl]
  rw [decide_eq_false c] at q25
  by_cases c : w = 26
  · rw [decide_eq_true c] at q26
    have k0 : ixD (.tup (Y.ls.map lineD)) (.int 0) = some (.tup [aboD l0.1, .tup (natD l0.2)]) := ix_tup8 (j := 0) (by simp [hl0, lineD])
    have k1 : ixD (.tup [aboD l0.1, .tup (natD l0.2)]) (.int 1) = some (.tup (natD l0.2)) := rfl
    have pz : pureDs [D.tup [.int 0, .tup (natD l0.2)]] = true := by simp [PU, pure_natD l0.2]
    generalize hz : D.tup [.int 0, .tup (natD l0.2)] = z at *
    have rp : binD .rep (.tup [z]) (.int 5) = some (.tup [z, z, z, z, z]) := by
      simp only [binD]
      rw [if_pos ⟨by decide, by decide, by simp, by simp, pz⟩]
      rfl
    have ct := catT (Y.ls.map lineD) [z, z, z, z, z] (by simp; omega)
    have sl : slD (.tup (Y.ls.map lineD ++ [z, z, z, z, z])) none (some 6) = some (.tup ((Y.ls.map lineD ++ [z, z, z, z, z]).take 6)) := sl_tup2 _ 6
    have mem : ∀ x ∈ (Y.ls.map lineD ++ [z, z, z, z, z]).take 6, x = z ∨ x ∈ Y.ls.map lineD := fun x hx => by
      rcases List.mem_append.mp (List.mem_of_mem_take hx) with h | h
      · exact .inr h
      · simp only [List.mem_cons, List.not_mem_nil, or_false, or_self] at h
        exact .inl h
    have hlen0 := ok_lines ok l0 (List.mem_of_getElem? hl0)
    refine ⟨.tup [.int (Y.T : Int), .tup ((Y.ls.map lineD ++ [z, z, z, z, z]).take 6)], ?_, oddY_of rfl rfl (fun x hx => ?_) (eqz_int _ _) (eqz_tup 57 fun x hx => ?_) ?_⟩
    · clear okl el hl lk hl0 lk0 mem hlen0
      have pn := pure_natD l0.2
      have pn2 : pureD (.tup (natD l0.2)) = true := by simp only [PU]; exact pn
      have pz2 : pureD z = true := by rw [← hz]; simp only [PU, pn, Bool.and_self]
      generalize hlz : D.tup [aboD l0.1, .tup (natD l0.2)] = lnd at *
      generalize (Y.ls.map lineD ++ [z, z, z, z, z]).take 6 = w6 at *
      generalize Y.ls.map lineD ++ [z, z, z, z, z] = w5 at *
      generalize Y.ls.map lineD = ld at *
      generalize D.tup (natD l0.2) = nd at *
      generalize Y.d = yd at *
      generalize (Y.ls.length : Int) = Nn at *
      generalize (Y.T : Int) = Ti at *
      generalize (w : Int) = wi at *
      generalize (n : Int) = ni at *
      simp [df_law_spoilt, runP_eq, EV, EV3, EV4, EV5, EV6, ES, RC, RD, ioE, ioL, ioP, bindT, PU, i0, i1, ln, m1, d1, m2, d2, m3, lt12, lt22, q22, q23, q24, q25, q26, k0, k1, hz, rp, ct, sl, pl, pls]
    · rcases mem x hx with rfl | h
      · rw [← hz]
        refine ⟨ok_tup2 rfl rfl (by unfold tyB2; show (true && (natD l0.2).all tyA) = true; rw [ty_nat]; rfl), ?_⟩
        show (natD l0.2).length ≤ 1000000
        rw [natD_len]; omega
      · exact okl x h
    · rcases mem x hx with rfl | h
      · rw [← hz]
        refine eqz_tup 56 fun x hx => ?_
        simp only [List.mem_cons, List.not_mem_nil, or_false] at hx
        rcases hx with rfl | rfl
        · exact eqz_int _ _
        · exact eqz_tup 55 (eqz_nat 55 _)
      · exact eqz_lines Y x h
    · rw [yard_tup]
      have e6 : (its (.tup ((Y.ls.map lineD ++ [z, z, z, z, z]).take 6))).length = 6 := by
        show ((Y.ls.map lineD ++ [z, z, z, z, z]).take 6).length = 6
        rw [List.length_take, List.length_append, List.length_map]
        simp; omega
      rw [e6]
      have : decide (6 ≤ 5) = false := by decide
      rw [this]; simp
  rw [decide_eq_false c] at q26
  have w27 : w = 27 := by omega
  obtain ⟨x, hx⟩ : ∃ x, (OU (.int (Y.T : Int)) (.tup (Y.ls.map lineD)))[r4]? = some x := ⟨_, List.getElem?_eq_getElem (by show r4 < 4; omega)⟩
  have ix := ix_lst hx
  unfold OU at ix
  refine ⟨x, ?_, ou_ok ok x (List.mem_of_getElem? hx)⟩
  have bl : biD .list [Y.d] = some (.lst [.int (Y.T : Int), .tup (Y.ls.map lineD)]) := rfl
  have ct : binD .cat Y.d (.tup [.int 0]) = some (.tup [.int (Y.T : Int), .tup (Y.ls.map lineD), .int 0]) := catT [.int (Y.T : Int), .tup (Y.ls.map lineD)] [.int 0] (by simp)
  have sl : slD Y.d none (some 1) = some (.tup [.int (Y.T : Int)]) := sl_tup2 [.int (Y.T : Int), .tup (Y.ls.map lineD)] 1
  clear okl el hl lk hl0 lk0 hx
  generalize Y.ls.map lineD = ld at *
  generalize Y.d = yd at *
  generalize (Y.ls.length : Int) = Nn at *
  generalize (Y.T : Int) = Ti at *
  generalize (r4 : Int) = r4i at *
  generalize (n4 : Int) = n4i at *
  generalize (n2 : Int) = n2i at *
  generalize (w : Int) = wi at *
  generalize (n : Int) = ni at *
  simp [df_law_spoilt, runP_eq, EV, EV3, EV4, EV5, EV6, ES, RC, RD, ioE, ioL, ioP, bindT, PU, i0, i1, ln, m1, d1, m2, d2, m3, d3, m5, lt12, lt22, q22, q23, q24, q25, q26, bl, ct, sl, ix, pl, pls, pY]
def LB1 : DSs := (.cons (.ifs (.not (.call 11 (.cons (.v 3) (.cons (.c (.bl false)) .nil)))) (.cons (.ret (.c (.bl false))) .nil) .nil) .nil)
theorem s_told {Φ : Nat → Fn} {y : Nat} {d : D} {u b : Bool} (h : Φ y [d] = some (.ret (.bl u) [])) : runP Φ 2 (df_law_told y) [d, .bl b] = some (.ret (.bl (u == b)) []) := by
  have i1 : biD (.isi .bool) [.bl u] = some (.bl true) := rfl
  have c1 : cmpD .eq (.bl u) (.bl b) = some (u == b) := by cases u <;> cases b <;> rfl
  generalize (u == b) = ub at *
  simp [df_law_told, runP_eq, EV, ES, RC, RD, ioE, ioL, bindT, PU, h, i1, c1]
theorem law_ok (ns : List Int) (h1 : ns.length ≤ 63) (h2 : ∀ z ∈ ns, bitsI z ≤ 1048576) : f12 [.scr ns] = some (.ret (.bl true) []) := by
  have h_is_whole : WholeS f0 := s_is_whole _
  have h_is_line : LineS f1 := s_is_line (Φ := ph [f0]) (w := 0) h_is_whole
  have h_is_yard : YardIs f2 := s_is_yard (Φ := ph [f0, f1]) (w := 0) (l := 1) h_is_whole h_is_line
  have h_law_cell_at : CellS f3 := fun ns k => s_cell _ ns k
  have h_law_number : NumS f4 ns := s_number (Φ := ph [f0, f1, f2, f3]) (c := 3) h_law_cell_at ns h2
  have h_law_amount : AmtS f5 := s_amount _
  obtain ⟨Y, h_law_yard, ok⟩ : YardS f6 ns := s_yard (Φ := ph [f0, f1, f2, f3, f4, f5]) (c := 3) (n := 4) (a := 5) ns h_law_cell_at h_law_number h_law_amount
  -- f7: law_with_line
  -- f8: law_odd_bounds
  -- f9: law_odd_line
  -- f10: law_spoilt
  -- f11: law_told
  -- f12: law
  have w0 : WholeA f0 := a_whole _
  have l0 : LineA f1 := a_line (Φ := (ph [f0])) (w := 0) w0
  have ya : YardA f2 := a_yard (Φ := (ph [f0, f1])) (w := 0) (l := 1) w0 l0
  have sw : ∀ (k : Nat) (l : D), k < Y.ls.length → f7 [Y.d, .int (k : Int), l] = some (.ret (putL Y k l) []) := fun k l hk => s_with _ ok hk l
  have sob : ∀ (bs : List Nat) (w t : Nat), bs.length = Y.T → w < 12 → t < Y.T → ∃ o, f8 [.tup (natD bs), .int (w : Int), .int (t : Int)] = some (.ret o []) ∧ OddB Y.T o := fun bs w t h1 h2 h3 => s_oddB _ bs Y.T w t h1 ok.t1 ok.t8 h2 h3
  have sol : ∀ k w : Nat, k < Y.ls.length → w < 10 → ∃ l, f9 [Y.d, .int (k : Int), .int (w : Int)] = some (.ret l []) ∧ OddL Y.T k l := fun k w h1 h2 => s_oddL _ ok h1 h2
  obtain ⟨n, hn⟩ := h_law_number 14 (by omega)
  have hn : f4 [.scr ns, .int 14] = some (.ret (.int (n : Int)) []) := hn
  obtain ⟨s, hs, hY⟩ : ∃ s, f10 [Y.d, .int (n : Int)] = some (.ret s []) ∧ OddY s := s_spoilt (Φ := (ph [f0, f1, f2, f3, f4, f5, f6, f7, f8, f9])) (a := 7) (b := 8) (c := 9) ok sw sob sol n
  have tY : f11 [Y.d, .bl true] = some (.ret (.bl true) []) := s_told (Φ := (ph [f0, f1, f2, f3, f4, f5, f6, f7, f8, f9, f10])) (y := 2) (h_is_yard Y ok)
  have t0 : f11 [.tup [.int 1, .tup [.tup [.non, .tup [.int 0]]]], .bl true] = some (.ret (.bl true) []) := s_told (Φ := (ph [f0, f1, f2, f3, f4, f5, f6, f7, f8, f9, f10])) (y := 2) (d := .tup [.int 1, .tup [.tup [.non, .tup [.int 0]]]]) (u := true) (b := true) (show f2 [.tup [.int 1, .tup [.tup [.non, .tup [.int 0]]]]] = _ from h_is_yard Y0 Y0_ok)
  have tF : ∀ d : D, OkYA d → yardA d = false → f11 [d, .bl false] = some (.ret (.bl true) []) := fun d hd hn => by
    have := ya d hd
    rw [hn] at this
    exact s_told (Φ := (ph [f0, f1, f2, f3, f4, f5, f6, f7, f8, f9, f10])) (y := 2) this
  have tS := tF s hY.ok hY.no
  have me := hY.me
  have all : ∀ d ∈ ([.non, .bl true, .int 1, .str (Str.ofString "yard"), .lst [], .dct [] [], .tup [], .tup [.int 1], .lst [.int 1, .tup [.tup [.non, .tup [.int 0]]]]] : List D), OkYA d ∧ yardA d = false := fun d hd => by
    simp only [List.mem_cons, List.not_mem_nil, or_false] at hd
    rcases hd with rfl | rfl | rfl | rfl | rfl | rfl | rfl | rfl | rfl
    · exact ⟨⟨rfl, (fun x hx => by cases hx), (fun x hx => by cases hx)⟩, rfl⟩
    · exact ⟨⟨rfl, (fun x hx => by cases hx), (fun x hx => by cases hx)⟩, rfl⟩
    · exact ⟨⟨rfl, (fun x hx => by cases hx), (fun x hx => by cases hx)⟩, rfl⟩
    · exact ⟨⟨rfl, (fun x hx => by cases hx), (fun x hx => by cases hx)⟩, rfl⟩
    · exact ⟨⟨rfl, (fun x hx => by cases hx), (fun x hx => by cases hx)⟩, rfl⟩
    · exact ⟨⟨rfl, (fun x hx => by cases hx), (fun x hx => by cases hx)⟩, rfl⟩
    · exact ⟨⟨rfl, (fun x hx => by cases hx), (fun x hx => by cases hx)⟩, rfl⟩
    · refine ⟨⟨rfl, (fun x hx => ?_), (fun x hx => by cases hx)⟩, rfl⟩
      have hx : x ∈ ([.int 1] : List D) := hx
      rw [List.mem_singleton.mp hx]; rfl
    · exact ⟨⟨rfl, (fun x hx => by cases hx), (fun x hx => by cases hx)⟩, rfl⟩
  have loop : ∀ (ds : List D) (e0 e1 e2 x3 : Option D), (∀ d ∈ ds, OkYA d ∧ yardA d = false) → ∃ y3 : Option D, fr (ph [f0, f1, f2, f3, f4, f5, f6, f7, f8, f9, f10, f11]) (.n 3) LB1 ds [e0, e1, e2, x3] = some (.ok .nx [e0, e1, e2, y3]) := by
    intro ds
    induction ds with
    | nil => intro e0 e1 e2 x3 _; exact ⟨x3, rfl⟩
    | cons d ds ih =>
      intro e0 e1 e2 x3 hd
      have hd0 := hd d List.mem_cons_self
      have t := tF d hd0.1 hd0.2
      obtain ⟨y3, h⟩ := ih e0 e1 e2 (some d) fun q hq => hd q (List.mem_cons_of_mem _ hq)
      refine ⟨y3, ?_⟩
      rw [fr_nx (e1 := [e0, e1, e2, some d]) (e2 := [e0, e1, e2, some d]) rfl ?_]
      · exact h
      · clear h ih tF all
        simp [LB1, EV, ES, RC, RD, ioE, ioL, bindT, PU, ph, t]
  obtain ⟨y3, lp⟩ := loop _ (some (.scr ns)) (some Y.d) (some s) none all
  show runP (ph [f0, f1, f2, f3, f4, f5, f6, f7, f8, f9, f10, f11]) 1 (df_law 6 10 4 11) [.scr ns] = _
  clear loop all tF sw sob sol ya
  unfold LB1 at lp
  have it : ∀ xs : List D, itemsD (.lst xs) = some xs := fun _ => rfl
  have dc : ∀ e : En, ev (ph [f0, f1, f2, f3, f4, f5, f6, f7, f8, f9, f10, f11]) .dct0 e = some (.ok (.dct [] []) e) := fun _ => by rw [ev]
  generalize (n : Int) = ni at *
  generalize Y.d = yd at *
  simp [df_law, runP_eq, EV, EV3, EV4, EV5, EV6, ES, RC, RD, ioE, ioL, ioI, ioP, bindT, PU, ph, h_law_yard, hn, hs, tY, tS, t0, ↓lp, it, dc, me]
end K01
end
section
set_option Elab.async false
set_option Elab.async false
set_option linter.all false
set_option maxRecDepth 100000
set_option maxHeartbeats 0
namespace K01
open PySem PySem.Spec PyProof.Rows L2 Cy
def ct0 : Ct := ⟨["thing", "low", "beyond"], [], [], gls, bns, ats, [], [], xcl, [], false⟩
theorem sc0 : FnScope ["thing", "low", "beyond"] ["thing", "low", "beyond"] (defScope (top 4)) := ⟨rfl, rfl, rfl, by decide +kernel, rfl, by decide +kernel, by decide +kernel⟩
def ct1 : Ct := ⟨["thing", "number", "turns", "above", "bounds", "bound"], ["is_whole"], [(none, true)], gls, bns, ats, [(("" : PySem.Str), ("" : PySem.Str))], [], xcl, [], false⟩
theorem sc1 : FnScope ["thing", "number", "turns", "above", "bounds", "bound"] ["thing", "number", "turns"] (defScope (top 5)) := ⟨rfl, rfl, rfl, by decide +kernel, rfl, by decide +kernel, by decide +kernel⟩
def ct2 : Ct := ⟨["thing", "turns", "lines", "number", "line"], ["is_whole", "is_line"], [(none, true), (none, true)], gls, bns, ats, [(("" : PySem.Str), ("" : PySem.Str)), (("" : PySem.Str), ("" : PySem.Str))], [], xcl, [], false⟩
theorem sc2 : FnScope ["thing", "turns", "lines", "number", "line"] ["thing"] (defScope (top 6)) := ⟨rfl, rfl, rfl, by decide +kernel, rfl, by decide +kernel, by decide +kernel⟩
def ct3 : Ct := ⟨["_law_script", "_law_k"], ["is_whole", "is_line", "is_yard"], [(none, true), (none, true), (none, true)], gls, bns, ats, [(("" : PySem.Str), ("" : PySem.Str)), (("" : PySem.Str), ("" : PySem.Str)), (("" : PySem.Str), ("" : PySem.Str))], [], xcl, [], false⟩
theorem sc3 : FnScope ["_law_script", "_law_k"] ["_law_script", "_law_k"] (defScope (top 8)) := ⟨rfl, rfl, rfl, by decide +kernel, rfl, by decide +kernel, by decide +kernel⟩
def ct4 : Ct := ⟨["_law_script", "_law_k", "_law_head", "_law_one", "_law_other", "_law_total", "_law_turn", "_law_cell"], ["is_whole", "is_line", "is_yard", "_law_cell_at"], [(none, true), (none, true), (none, true), (none, true)], gls, bns, ats, [(("" : PySem.Str), ("" : PySem.Str)), (("" : PySem.Str), ("" : PySem.Str)), (("" : PySem.Str), ("" : PySem.Str)), (("" : PySem.Str), ("" : PySem.Str))], [], xcl, [], false⟩
theorem sc4 : FnScope ["_law_script", "_law_k", "_law_head", "_law_one", "_law_other", "_law_total", "_law_turn", "_law_cell"] ["_law_script", "_law_k"] (defScope (top 9)) := ⟨rfl, rfl, rfl, by decide +kernel, rfl, by decide +kernel, by decide +kernel⟩
def ct5 : Ct := ⟨["_law_number_here", "_law_way"], ["is_whole", "is_line", "is_yard", "_law_cell_at", "_law_number"], [(none, true), (none, true), (none, true), (none, true), (none, true)], gls, bns, ats, [(("" : PySem.Str), ("" : PySem.Str)), (("" : PySem.Str), ("" : PySem.Str)), (("" : PySem.Str), ("" : PySem.Str)), (("" : PySem.Str), ("" : PySem.Str)), (("" : PySem.Str), ("" : PySem.Str))], [], xcl, [], false⟩
theorem sc5 : FnScope ["_law_number_here", "_law_way"] ["_law_number_here"] (defScope (top 10)) := ⟨rfl, rfl, rfl, by decide +kernel, rfl, by decide +kernel, by decide +kernel⟩
def ct6 : Ct := ⟨["_law_script", "_law_head", "_law_turns", "_law_lines", "_law_k", "_law_number_here", "_law_above", "_law_bounds", "_law_turn", "_law_bound"], ["is_whole", "is_line", "is_yard", "_law_cell_at", "_law_number", "_law_amount"], [(none, true), (none, true), (none, true), (none, true), (none, true), (none, true)], gls, bns, ats, [(("" : PySem.Str), ("" : PySem.Str)), (("" : PySem.Str), ("" : PySem.Str)), (("" : PySem.Str), ("" : PySem.Str)), (("" : PySem.Str), ("" : PySem.Str)), (("" : PySem.Str), ("" : PySem.Str)), (("" : PySem.Str), ("" : PySem.Str))], [], xcl, [], false⟩
theorem sc6 : FnScope ["_law_script", "_law_head", "_law_turns", "_law_lines", "_law_k", "_law_number_here", "_law_above", "_law_bounds", "_law_turn", "_law_bound"] ["_law_script"] (defScope (top 11)) := ⟨rfl, rfl, rfl, by decide +kernel, rfl, by decide +kernel, by decide +kernel⟩
def ct7 : Ct := ⟨["_law_yard_here", "_law_k", "_law_line"], ["is_whole", "is_line", "is_yard", "_law_cell_at", "_law_number", "_law_amount", "_law_yard"], [(none, true), (none, true), (none, true), (none, true), (none, true), (none, true), (none, true)], gls, bns, ats, [(("" : PySem.Str), ("" : PySem.Str)), (("" : PySem.Str), ("" : PySem.Str)), (("" : PySem.Str), ("" : PySem.Str)), (("" : PySem.Str), ("" : PySem.Str)), (("" : PySem.Str), ("" : PySem.Str)), (("" : PySem.Str), ("" : PySem.Str)), (("" : PySem.Str), ("" : PySem.Str))], [], xcl, [], false⟩
theorem sc7 : FnScope ["_law_yard_here", "_law_k", "_law_line"] ["_law_yard_here", "_law_k", "_law_line"] (defScope (top 12)) := ⟨rfl, rfl, rfl, by decide +kernel, rfl, by decide +kernel, by decide +kernel⟩
def ct8 : Ct := ⟨["_law_bounds", "_law_way", "_law_turn", "_law_odd"], ["is_whole", "is_line", "is_yard", "_law_cell_at", "_law_number", "_law_amount", "_law_yard", "_law_with_line"], [(none, true), (none, true), (none, true), (none, true), (none, true), (none, true), (none, true), (none, false)], gls, bns, ats, [(("" : PySem.Str), ("" : PySem.Str)), (("" : PySem.Str), ("" : PySem.Str)), (("" : PySem.Str), ("" : PySem.Str)), (("" : PySem.Str), ("" : PySem.Str)), (("" : PySem.Str), ("" : PySem.Str)), (("" : PySem.Str), ("" : PySem.Str)), (("" : PySem.Str), ("" : PySem.Str)), (("" : PySem.Str), ("" : PySem.Str))], [], xcl, [], false⟩
theorem sc8 : FnScope ["_law_bounds", "_law_way", "_law_turn", "_law_odd"] ["_law_bounds", "_law_way", "_law_turn"] (defScope (top 13)) := ⟨rfl, rfl, rfl, by decide +kernel, rfl, by decide +kernel, by decide +kernel⟩
def ct9 : Ct := ⟨["_law_yard_here", "_law_k", "_law_way", "_law_above", "_law_bounds", "_law_odd"], ["is_whole", "is_line", "is_yard", "_law_cell_at", "_law_number", "_law_amount", "_law_yard", "_law_with_line", "_law_odd_bounds"], [(none, true), (none, true), (none, true), (none, true), (none, true), (none, true), (none, true), (none, false), (none, false)], gls, bns, ats, [(("" : PySem.Str), ("" : PySem.Str)), (("" : PySem.Str), ("" : PySem.Str)), (("" : PySem.Str), ("" : PySem.Str)), (("" : PySem.Str), ("" : PySem.Str)), (("" : PySem.Str), ("" : PySem.Str)), (("" : PySem.Str), ("" : PySem.Str)), (("" : PySem.Str), ("" : PySem.Str)), (("" : PySem.Str), ("" : PySem.Str)), (("" : PySem.Str), ("" : PySem.Str))], [], xcl, [], false⟩
theorem sc9 : FnScope ["_law_yard_here", "_law_k", "_law_way", "_law_above", "_law_bounds", "_law_odd"] ["_law_yard_here", "_law_k", "_law_way"] (defScope (top 14)) := ⟨rfl, rfl, rfl, by decide +kernel, rfl, by decide +kernel, by decide +kernel⟩
def ct10 : Ct := ⟨["_law_yard_here", "_law_number_here", "_law_way", "_law_k", "_law_turn"], ["is_whole", "is_line", "is_yard", "_law_cell_at", "_law_number", "_law_amount", "_law_yard", "_law_with_line", "_law_odd_bounds", "_law_odd_line"], [(none, true), (none, true), (none, true), (none, true), (none, true), (none, true), (none, true), (none, false), (none, false), (none, false)], gls, bns, ats, [(("" : PySem.Str), ("" : PySem.Str)), (("" : PySem.Str), ("" : PySem.Str)), (("" : PySem.Str), ("" : PySem.Str)), (("" : PySem.Str), ("" : PySem.Str)), (("" : PySem.Str), ("" : PySem.Str)), (("" : PySem.Str), ("" : PySem.Str)), (("" : PySem.Str), ("" : PySem.Str)), (("" : PySem.Str), ("" : PySem.Str)), (("" : PySem.Str), ("" : PySem.Str)), (("" : PySem.Str), ("" : PySem.Str))], [], xcl, [], false⟩
theorem sc10 : FnScope ["_law_yard_here", "_law_number_here", "_law_way", "_law_k", "_law_turn"] ["_law_yard_here", "_law_number_here"] (defScope (top 15)) := ⟨rfl, rfl, rfl, by decide +kernel, rfl, by decide +kernel, by decide +kernel⟩
def ct11 : Ct := ⟨["_law_thing", "_law_due", "_law_found"], ["is_whole", "is_line", "is_yard", "_law_cell_at", "_law_number", "_law_amount", "_law_yard", "_law_with_line", "_law_odd_bounds", "_law_odd_line", "_law_spoilt"], [(none, true), (none, true), (none, true), (none, true), (none, true), (none, true), (none, true), (none, false), (none, false), (none, false), (none, false)], gls, bns, ats, [(("" : PySem.Str), ("" : PySem.Str)), (("" : PySem.Str), ("" : PySem.Str)), (("" : PySem.Str), ("" : PySem.Str)), (("" : PySem.Str), ("" : PySem.Str)), (("" : PySem.Str), ("" : PySem.Str)), (("" : PySem.Str), ("" : PySem.Str)), (("" : PySem.Str), ("" : PySem.Str)), (("" : PySem.Str), ("" : PySem.Str)), (("" : PySem.Str), ("" : PySem.Str)), (("" : PySem.Str), ("" : PySem.Str)), (("" : PySem.Str), ("" : PySem.Str))], [], xcl, [], false⟩
theorem sc11 : FnScope ["_law_thing", "_law_due", "_law_found"] ["_law_thing", "_law_due"] (defScope (top 16)) := ⟨rfl, rfl, rfl, by decide +kernel, rfl, by decide +kernel, by decide +kernel⟩
def ct12 : Ct := ⟨["_law_script", "_law_yard_here", "_law_spoilt_here", "_law_thing"], ["is_whole", "is_line", "is_yard", "_law_cell_at", "_law_number", "_law_amount", "_law_yard", "_law_with_line", "_law_odd_bounds", "_law_odd_line", "_law_spoilt", "_law_told"], [(none, true), (none, true), (none, true), (none, true), (none, true), (none, true), (none, true), (none, false), (none, false), (none, false), (none, false), (none, true)], gls, bns, ats, [(("" : PySem.Str), ("" : PySem.Str)), (("" : PySem.Str), ("" : PySem.Str)), (("" : PySem.Str), ("" : PySem.Str)), (("" : PySem.Str), ("" : PySem.Str)), (("" : PySem.Str), ("" : PySem.Str)), (("" : PySem.Str), ("" : PySem.Str)), (("" : PySem.Str), ("" : PySem.Str)), (("" : PySem.Str), ("" : PySem.Str)), (("" : PySem.Str), ("" : PySem.Str)), (("" : PySem.Str), ("" : PySem.Str)), (("" : PySem.Str), ("" : PySem.Str)), (("" : PySem.Str), ("" : PySem.Str))], [], xcl, [], false⟩
theorem sc12 : FnScope ["_law_script", "_law_yard_here", "_law_spoilt_here", "_law_thing"] ["_law_script"] (defScope (top 17)) := ⟨rfl, rfl, rfl, by decide +kernel, rfl, by decide +kernel, by decide +kernel⟩
section
variable {P : Program} {w : World} {K : PySem.W.Frag} {mg : PySem.Str → Option Value} {base : Heap} [ClTab]
theorem ok0 {fa : Addr} {fd : FuncData} (F : FunD K "is_whole" "is_whole" (defArgs (top 4)) (defBody (top 4)) (defScope (top 4)) [] [] fa fd) (G : Gx P w K mg base ct0 (ph []) 0) : FnOk P w K mg base CX0 1 fa fd ["thing", "low", "beyond"] (spD K (none, true) f0) :=
  fn_ok (own := []) (vw := []) G F sc0 rfl rfl rfl (by decide +kernel) (by decide +kernel) (by decide +kernel)
theorem ok1 {fa : Addr} {fd : FuncData} (F : FunD K "is_line" "is_line" (defArgs (top 5)) (defBody (top 5)) (defScope (top 5)) [] [] fa fd) (G : Gx P w K mg base ct1 (ph [f0]) 2) : FnOk P w K mg base CX0 3 fa fd ["thing", "number", "turns"] (spD K (none, true) f1) :=
  fn_ok (own := []) (vw := []) G F sc1 rfl rfl rfl (by decide +kernel) (by decide +kernel) (by decide +kernel)
theorem ok2 {fa : Addr} {fd : FuncData} (F : FunD K "is_yard" "is_yard" (defArgs (top 6)) (defBody (top 6)) (defScope (top 6)) [] [] fa fd) (G : Gx P w K mg base ct2 (ph [f0, f1]) 4) : FnOk P w K mg base CX0 5 fa fd ["thing"] (spD K (none, true) f2) :=
  fn_ok (own := []) (vw := []) G F sc2 rfl rfl rfl (by decide +kernel) (by decide +kernel) (by decide +kernel)
theorem ok3 {fa : Addr} {fd : FuncData} (F : FunD K "_law_cell_at" "_law_cell_at" (defArgs (top 8)) (defBody (top 8)) (defScope (top 8)) [] [] fa fd) (G : Gx P w K mg base ct3 (ph [f0, f1, f2]) 6) : FnOk P w K mg base CX0 7 fa fd ["_law_script", "_law_k"] (spD K (none, true) f3) :=
  fn_ok (own := []) (vw := []) G F sc3 rfl rfl rfl (by decide +kernel) (by decide +kernel) (by decide +kernel)
theorem ok4 {fa : Addr} {fd : FuncData} (F : FunD K "_law_number" "_law_number" (defArgs (top 9)) (defBody (top 9)) (defScope (top 9)) [] [] fa fd) (G : Gx P w K mg base ct4 (ph [f0, f1, f2, f3]) 8) : FnOk P w K mg base CX0 9 fa fd ["_law_script", "_law_k"] (spD K (none, true) f4) :=
  fn_ok (own := []) (vw := []) G F sc4 rfl rfl rfl (by decide +kernel) (by decide +kernel) (by decide +kernel)
theorem ok5 {fa : Addr} {fd : FuncData} (F : FunD K "_law_amount" "_law_amount" (defArgs (top 10)) (defBody (top 10)) (defScope (top 10)) [] [] fa fd) (G : Gx P w K mg base ct5 (ph [f0, f1, f2, f3, f4]) 10) : FnOk P w K mg base CX0 11 fa fd ["_law_number_here"] (spD K (none, true) f5) :=
  fn_ok (own := []) (vw := []) G F sc5 rfl rfl rfl (by decide +kernel) (by decide +kernel) (by decide +kernel)
theorem ok6 {fa : Addr} {fd : FuncData} (F : FunD K "_law_yard" "_law_yard" (defArgs (top 11)) (defBody (top 11)) (defScope (top 11)) [] [] fa fd) (G : Gx P w K mg base ct6 (ph [f0, f1, f2, f3, f4, f5]) 12) : FnOk P w K mg base CX0 13 fa fd ["_law_script"] (spD K (none, true) f6) :=
  fn_ok (own := [3, 7]) (vw := []) G F sc6 rfl rfl rfl (by decide +kernel) (by decide +kernel) (by decide +kernel)
theorem ok7 {fa : Addr} {fd : FuncData} (F : FunD K "_law_with_line" "_law_with_line" (defArgs (top 12)) (defBody (top 12)) (defScope (top 12)) [] [] fa fd) (G : Gx P w K mg base ct7 (ph [f0, f1, f2, f3, f4, f5, f6]) 14) : FnOk P w K mg base CX0 15 fa fd ["_law_yard_here", "_law_k", "_law_line"] (spD K (none, false) f7) :=
  fn_ok (own := []) (vw := []) G F sc7 rfl rfl rfl (by decide +kernel) (by decide +kernel) (by decide +kernel)
theorem ok8 {fa : Addr} {fd : FuncData} (F : FunD K "_law_odd_bounds" "_law_odd_bounds" (defArgs (top 13)) (defBody (top 13)) (defScope (top 13)) [] [] fa fd) (G : Gx P w K mg base ct8 (ph [f0, f1, f2, f3, f4, f5, f6, f7]) 16) : FnOk P w K mg base CX0 17 fa fd ["_law_bounds", "_law_way", "_law_turn"] (spD K (none, false) f8) :=
  fn_ok (own := []) (vw := []) G F sc8 rfl rfl rfl (by decide +kernel) (by decide +kernel) (by decide +kernel)
theorem ok9 {fa : Addr} {fd : FuncData} (F : FunD K "_law_odd_line" "_law_odd_line" (defArgs (top 14)) (defBody (top 14)) (defScope (top 14)) [] [] fa fd) (G : Gx P w K mg base ct9 (ph [f0, f1, f2, f3, f4, f5, f6, f7, f8]) 18) : FnOk P w K mg base CX0 19 fa fd ["_law_yard_here", "_law_k", "_law_way"] (spD K (none, false) f9) :=
  fn_ok (own := []) (vw := []) G F sc9 rfl rfl rfl (by decide +kernel) (by decide +kernel) (by decide +kernel)
theorem ok10 {fa : Addr} {fd : FuncData} (F : FunD K "_law_spoilt" "_law_spoilt" (defArgs (top 15)) (defBody (top 15)) (defScope (top 15)) [] [] fa fd) (G : Gx P w K mg base ct10 (ph [f0, f1, f2, f3, f4, f5, f6, f7, f8, f9]) 20) : FnOk P w K mg base CX0 21 fa fd ["_law_yard_here", "_law_number_here"] (spD K (none, false) f10) :=
  fn_ok (own := []) (vw := []) G F sc10 rfl rfl rfl (by decide +kernel) (by decide +kernel) (by decide +kernel)
theorem ok11 {fa : Addr} {fd : FuncData} (F : FunD K "_law_told" "_law_told" (defArgs (top 16)) (defBody (top 16)) (defScope (top 16)) [] [] fa fd) (G : Gx P w K mg base ct11 (ph [f0, f1, f2, f3, f4, f5, f6, f7, f8, f9, f10]) 22) : FnOk P w K mg base CX0 23 fa fd ["_law_thing", "_law_due"] (spD K (none, true) f11) :=
  fn_ok (own := [2]) (vw := []) G F sc11 rfl rfl rfl (by decide +kernel) (by decide +kernel) (by decide +kernel)
theorem ok12 {fa : Addr} {fd : FuncData} (F : FunD K "law" "law" (defArgs (top 17)) (defBody (top 17)) (defScope (top 17)) [] [] fa fd) (G : Gx P w K mg base ct12 (ph [f0, f1, f2, f3, f4, f5, f6, f7, f8, f9, f10, f11]) 24) : FnOk P w K mg base CX0 25 fa fd ["_law_script"] (spD K (none, true) f12) :=
  fn_ok (own := []) (vw := []) G F sc12 rfl rfl rfl (by decide +kernel) (by decide +kernel) (by decide +kernel)
end
theorem facts {P : Program} {w : World} {K : PySem.W.Frag} {h : Heap} {mg : PySem.Str → Option Value} {f : Addr} (X : K.In h) (G : h.Ns mainGlobals mg) (hfa : mg ("law" : PySem.Str) = some (.ref f)) (c : He.SaysD fa fn K) :
    ∃ fd : FuncData, (∀ (s : Shared) (v : Value), BindsTo s fd ⟨[v], []⟩ [("_law_script", v)]) ∧ ∀ base : Heap, K.In base → base.Ns mainGlobals mg → FnOk P w K mg base CX0 25 f fd ["_law_script"] (@spD (clT K cls xs false) K (none, true) f12) := by
  letI := clT K cls xs false
  haveI : Fxd := ⟨fun _ => none⟩
  obtain ⟨fd0, F0⟩ := c.def_ 0 (d := d0) rfl
  obtain ⟨fd1, F1⟩ := c.def_ 1 (d := d1) rfl
  obtain ⟨fd2, F2⟩ := c.def_ 2 (d := d2) rfl
  obtain ⟨fd3, F3⟩ := c.def_ 3 (d := d3) rfl
  obtain ⟨fd4, F4⟩ := c.def_ 4 (d := d4) rfl
  obtain ⟨fd5, F5⟩ := c.def_ 5 (d := d5) rfl
  obtain ⟨fd6, F6⟩ := c.def_ 6 (d := d6) rfl
  obtain ⟨fd7, F7⟩ := c.def_ 7 (d := d7) rfl
  obtain ⟨fd8, F8⟩ := c.def_ 8 (d := d8) rfl
  obtain ⟨fd9, F9⟩ := c.def_ 9 (d := d9) rfl
  obtain ⟨fd10, F10⟩ := c.def_ 10 (d := d10) rfl
  obtain ⟨fd11, F11⟩ := c.def_ 11 (d := d11) rfl
  obtain ⟨fd12, F12⟩ := c.def_ 12 (d := d12) rfl
  have e := hfa.symm.trans (He.glo_ok X G (c.fact 12 (f := .glo "law") rfl))
  cases e
  have b := FunD.bindsA (ps := ["_law_script"]) F12 fun _ _ _ _ _ _ us hl => match us, hl with | [_], _ => rfl
  refine ⟨fd12, fun s v => b s [v] rfl, fun base _ _ => ?_⟩
  have hb : ∀ x ∈ bns, mg x = none := (List.forall_mem_cons.mpr ⟨He.free_ok X G (c.fact 16 (f := .free "isinstance") rfl), (List.forall_mem_cons.mpr ⟨He.free_ok X G (c.fact 17 (f := .free "int") rfl), (List.forall_mem_cons.mpr ⟨He.free_ok X G (c.fact 18 (f := .free "bool") rfl), (List.forall_mem_cons.mpr ⟨He.free_ok X G (c.fact 19 (f := .free "tuple") rfl), (List.forall_mem_cons.mpr ⟨He.free_ok X G (c.fact 20 (f := .free "len") rfl), (List.forall_mem_cons.mpr ⟨He.free_ok X G (c.fact 21 (f := .free "all") rfl), (List.forall_mem_cons.mpr ⟨He.free_ok X G (c.fact 22 (f := .free "enumerate") rfl), (List.forall_mem_cons.mpr ⟨He.free_ok X G (c.fact 23 (f := .free "range") rfl), (List.forall_mem_cons.mpr ⟨He.free_ok X G (c.fact 24 (f := .free "abs") rfl), (List.forall_mem_cons.mpr ⟨He.free_ok X G (c.fact 25 (f := .free "list") rfl), (fun x h => nomatch h)⟩)⟩)⟩)⟩)⟩)⟩)⟩)⟩)⟩)⟩)
  have hg : ∀ p ∈ gls, ∃ u v, mg p.1 = some u ∧ RelV v u ∧ ScV v p.2 := (List.forall_mem_cons.mpr ⟨(let ⟨t, ht⟩ := He.int_ok X G (c.fact 13 (f := .int "BEYOND" 1000000000000000000000000000000) rfl); ⟨.int 1000000000000000000000000000000 t, .int 1000000000000000000000000000000, ht, ⟨t, rfl⟩, rfl⟩), (List.forall_mem_cons.mpr ⟨(let ⟨t, ht⟩ := He.int_ok X G (c.fact 14 (f := .int "MOST_TURNS" 8) rfl); ⟨.int 8 t, .int 8, ht, ⟨t, rfl⟩, rfl⟩), (List.forall_mem_cons.mpr ⟨(let ⟨t, ht⟩ := He.int_ok X G (c.fact 15 (f := .int "MOST_LINES" 5) rfl); ⟨.int 5 t, .int 5, ht, ⟨t, rfl⟩, rfl⟩), (fun x h => nomatch h)⟩)⟩)⟩)
  have hcl : ∀ c Ca, ClTab.is c Ca → Cls K Ca ∧ ∀ f, inB f ats = true → NoAttr K Ca f := fun c Ca h => nomatch h.1
  have hx4 : ∀ c b, (c, b) ∈ xcl → XCl P w K mg base 0 c b := fun c b h => nomatch h
  have hx5 : ∀ c b, (c, b) ∈ xcl → ∀ c0 ∈ xs, PySem.W.exmOne K (.ref (He.ga K c)) (.ref (He.ga K c0)) = some (subX c c0) := fun c b h => nomatch h
  have hx6 : ∀ c b, (c, b) ∈ xcl → c ∈ xs := fun c b h => nomatch h
  have G0 : Gx P w K mg base ct0 (ph []) 0 := Gx.nil hb hg hcl hx4 hx5 hx6 (fun h => Bool.noConfusion h) (fun h => Bool.noConfusion (show false = true from h))
  have G1 : Gx P w K mg base ct1 (ph [f0]) 2 := (G0.names.snoc rfl rfl rfl (He.glo_ok X G (c.fact 0 (f := .glo "is_whole") rfl)) F0.kp (F0.bindsN (ps := ["thing", "low", "beyond"]) fun _ _ _ _ _ _ us hl => match us, hl with | [_, _, _], _ => rfl) (ok0 F0 G0) (by decide))
  have G2 : Gx P w K mg base ct2 (ph [f0, f1]) 4 := (G1.names.snoc rfl rfl rfl (He.glo_ok X G (c.fact 1 (f := .glo "is_line") rfl)) F1.kp (F1.bindsN (ps := ["thing", "number", "turns"]) fun _ _ _ _ _ _ us hl => match us, hl with | [_, _, _], _ => rfl) (ok1 F1 G1) (by decide))
  have G3 : Gx P w K mg base ct3 (ph [f0, f1, f2]) 6 := (G2.names.snoc rfl rfl rfl (He.glo_ok X G (c.fact 2 (f := .glo "is_yard") rfl)) F2.kp (F2.bindsN (ps := ["thing"]) fun _ _ _ _ _ _ us hl => match us, hl with | [_], _ => rfl) (ok2 F2 G2) (by decide))
  have G4 : Gx P w K mg base ct4 (ph [f0, f1, f2, f3]) 8 := (G3.names.snoc rfl rfl rfl (He.glo_ok X G (c.fact 3 (f := .glo "_law_cell_at") rfl)) F3.kp (F3.bindsN (ps := ["_law_script", "_law_k"]) fun _ _ _ _ _ _ us hl => match us, hl with | [_, _], _ => rfl) (ok3 F3 G3) (by decide))
  have G5 : Gx P w K mg base ct5 (ph [f0, f1, f2, f3, f4]) 10 := (G4.names.snoc rfl rfl rfl (He.glo_ok X G (c.fact 4 (f := .glo "_law_number") rfl)) F4.kp (F4.bindsN (ps := ["_law_script", "_law_k"]) fun _ _ _ _ _ _ us hl => match us, hl with | [_, _], _ => rfl) (ok4 F4 G4) (by decide))
  have G6 : Gx P w K mg base ct6 (ph [f0, f1, f2, f3, f4, f5]) 12 := (G5.names.snoc rfl rfl rfl (He.glo_ok X G (c.fact 5 (f := .glo "_law_amount") rfl)) F5.kp (F5.bindsN (ps := ["_law_number_here"]) fun _ _ _ _ _ _ us hl => match us, hl with | [_], _ => rfl) (ok5 F5 G5) (by decide))
  have G7 : Gx P w K mg base ct7 (ph [f0, f1, f2, f3, f4, f5, f6]) 14 := (G6.names.snoc rfl rfl rfl (He.glo_ok X G (c.fact 6 (f := .glo "_law_yard") rfl)) F6.kp (F6.bindsN (ps := ["_law_script"]) fun _ _ _ _ _ _ us hl => match us, hl with | [_], _ => rfl) (ok6 F6 G6) (by decide))
  have G8 : Gx P w K mg base ct8 (ph [f0, f1, f2, f3, f4, f5, f6, f7]) 16 := (G7.names.snoc rfl rfl rfl (He.glo_ok X G (c.fact 7 (f := .glo "_law_with_line") rfl)) F7.kp (F7.bindsN (ps := ["_law_yard_here", "_law_k", "_law_line"]) fun _ _ _ _ _ _ us hl => match us, hl with | [_, _, _], _ => rfl) (ok7 F7 G7) (by decide))
  have G9 : Gx P w K mg base ct9 (ph [f0, f1, f2, f3, f4, f5, f6, f7, f8]) 18 := (G8.names.snoc rfl rfl rfl (He.glo_ok X G (c.fact 8 (f := .glo "_law_odd_bounds") rfl)) F8.kp (F8.bindsN (ps := ["_law_bounds", "_law_way", "_law_turn"]) fun _ _ _ _ _ _ us hl => match us, hl with | [_, _, _], _ => rfl) (ok8 F8 G8) (by decide))
  have G10 : Gx P w K mg base ct10 (ph [f0, f1, f2, f3, f4, f5, f6, f7, f8, f9]) 20 := (G9.names.snoc rfl rfl rfl (He.glo_ok X G (c.fact 9 (f := .glo "_law_odd_line") rfl)) F9.kp (F9.bindsN (ps := ["_law_yard_here", "_law_k", "_law_way"]) fun _ _ _ _ _ _ us hl => match us, hl with | [_, _, _], _ => rfl) (ok9 F9 G9) (by decide))
  have G11 : Gx P w K mg base ct11 (ph [f0, f1, f2, f3, f4, f5, f6, f7, f8, f9, f10]) 22 := (G10.names.snoc rfl rfl rfl (He.glo_ok X G (c.fact 10 (f := .glo "_law_spoilt") rfl)) F10.kp (F10.bindsN (ps := ["_law_yard_here", "_law_number_here"]) fun _ _ _ _ _ _ us hl => match us, hl with | [_, _], _ => rfl) (ok10 F10 G10) (by decide))
  have G12 : Gx P w K mg base ct12 (ph [f0, f1, f2, f3, f4, f5, f6, f7, f8, f9, f10, f11]) 24 := (G11.names.snoc rfl rfl rfl (He.glo_ok X G (c.fact 11 (f := .glo "_law_told") rfl)) F11.kp (F11.bindsN (ps := ["_law_thing", "_law_due"]) fun _ _ _ _ _ _ us hl => match us, hl with | [_, _], _ => rfl) (ok11 F11 G11) (by decide))
  exact ok12 F12 G12
end K01
open PySem PySem.W PySem.Calls PyProof.Rows
theorem PySem.Challenge.cw_chargeyard_k01_what_is_a_yard_holds : PySem.Challenge.rw_chargeyard_k01_what_is_a_yard.Holds := by
  w_on; o_law
  refine HandSHeadRun.head_any (r := OpenLaw.row PySem.Challenge.rw_chargeyard_k01_what_is_a_yard) (q := view (OpenLaw.row PySem.Challenge.rw_chargeyard_k01_what_is_a_yard).prog [17]) (H := K01.hk) (ob := K01.ob) (M := 3000) (loose := K01.lo) (d := HandSHeadRun.topDef (OpenLaw.row PySem.Challenge.rw_chargeyard_k01_what_is_a_yard).prog 17) (kwd := []) K01.ob_eq
    (by kernel_rfl) (fun s => by kernel_rfl) K01.run (by kernel_rfl) (by kernel_rfl) (by kernel_rfl) (by rfl) (by first | assumption | decide +kernel) (by decide +kernel) ⟨rfl, rfl, rfl, rfl, rfl, by decide +kernel⟩ ?hw ?hc
  case hw => w_witness2
  case hc =>
    haveI : Cy.ClTab := ⟨fun _ _ => False, [], false⟩
    refine Cy.walk_ofEB (l := PySem.Challenge.rw_chargeyard_k01_what_is_a_yard) (n := 63) (k := 25) (x := "_law_script") (F := K01.f12) (fr := true) rfl (by decide) (by kernel_rfl) ⟨rfl, by decide, by decide⟩ ?F (fun ns h1 h2 => K01.law_ok ns h1 h2)
    intro w mg fa h Y G hmg0
    obtain ⟨K, KX, c⟩ := Y
    have hmg : mg ("law" : PySem.Str) = some (.ref fa) := by
      have e : (HandSHeadRun.topDef (OpenLaw.row PySem.Challenge.rw_chargeyard_k01_what_is_a_yard).prog 17).name = ("law" : PySem.Str) := by kernel_rfl
      rw [← e]
      exact hmg0
    obtain ⟨fd, hb, hF⟩ := K01.facts (P := (PySem.Challenge.rw_chargeyard_k01_what_is_a_yard).prog) (w := w) KX G hmg c
    exact ⟨Cy.clT K K01.cls K01.xs false, K, fd, KX, hb, hF⟩
end
