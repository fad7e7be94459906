import PyProof.Rows.All
import Wide.All
import OpenK.AllK
import Wide.FinOn
import HandS.ForMost
import HandS.ForExc
import HandS.HeadHook1
import KE.KDictKeyed
import HandS.Exc
import HandS.TupAny
import HandS.Wide
import HandS.TupMul
import HandS.Style
import HandS.Deep
import KE.GoesNew
import KE.GoesMore
import KE.GoesZip
import HandS.Text
import KE.LtData
import KE.DataMinMax
import KE.SortData
import HandS.TupLen
import HandS.WordsDict
import HandS.Flt
import HandS.IsInst
import HandS.TryOnly
import HandS.Iter
import HandS.Comp
import HandS.CallSlots
import HandS.ExcOwn
import HandS.Dict
import KE.SortKeyHeap
import KE.SortLaws
import HandS.Strs
import HandS.SetFor
import HandS.ExcValue
import KE.KDictSum
import HandS.Head0
import PyProof.SeqIndex
import PyProof.Transfer
import KE.KDictCopyH
import HandS.Conv
import HandS.Sort
import KE.KDictDisplayH
import HandS.ExcInit
import HandS.ExcField
import HandS.ExcIs
import KE.KExcSuper
import KE.KExcIs
import HandS.Defaults
import HandS.Head1
import HandS.Head2
import HandS.HeadEnd
import HandS.HeadHook2
import HandS.HeadHook3
import HandS.HeadHook4
import PySem.Challenge.RW_rateflows_k37_known_loops
set_option Elab.async false
set_option linter.all false
set_option maxRecDepth 100000
namespace Mp
inductive SV where
  | non | bl (b : Bool) | int (i : Int) | str (s : List Nat)
  | tup (xs : List SV) | lst (xs : List SV) | dct (ks vs : List SV) | scr (xs : List SV)
  | ref (n : Nat) | view (i : Nat)
  deriving Inhabited
inductive Cel where
  | dead | lst (xs : List SV) | dct (ks vs : List SV) | ins (c : Nat) (fs : List (Nat × SV))
  deriving Inhabited
inductive Slt where
  | emp | val (v : SV) | box (c : Cel)
  deriving Inhabited
structure Sta where
  env : List Slt
  heap : List Cel
structure Er where
  cls : Nat
  arg : Option SV
inductive Rs (α : Type) where
  | ok (a : α) (s : Sta) | err (e : Er) (s : Sta) | bad
inductive RC where
  | ok (a : SV) (h : List Cel) | err (e : Er) (h : List Cel) | bad
def Rs.bind {α β : Type} (x : Rs α) (f : α → Sta → Rs β) : Rs β := match x with
  | .ok a s => f a s | .err e s => .err e s | .bad => .bad
def Rs.of {α : Type} (o : Option α) (s : Sta) : Rs α := match o with
  | some a => .ok a s | none => .bad
inductive Bop where | add | sub | mul | fdiv | mod | pow
inductive Cop where | eq | ne | lt | le | gt | ge | isin | notin
inductive Ty where | int | bool | tup | lst | str | cls (n : Nat)
inductive Blt where
  | len | tuple | sum | max | min | max2 | max3 | min2 | abs | int | str | bool
inductive Mth where | index | count | get1 | get2 | join | replace

mutual
inductive Ex where
  | slot (i : Nat)
  | cst (v : SV)
  | glob (x : Nat) (v : SV)
  | tup (es : List Ex)
  | fr (f : Fx)
  | new (f : Fx)
  | bin (op : Bop) (a b : Ex)
  | neg (a : Ex)
  | lnot (a : Ex) | land (a b : Ex) | lor (a b : Ex)
  | ife (c a b : Ex)
  | cmp (op : Cop) (a b : Ex) | cmp2 (op1 op2 : Cop) (a b c : Ex)
  | isN (a : Ex) | notN (a : Ex) | isB (a : Ex) (c : Bool) | notB (a : Ex) (c : Bool)
  | idx (a i : Ex)
  | slc (a : Ex) (lo hi : Option Ex) | rev (a : Ex)
  | fld (a : Ex) (f : Nat)
  | call (f : Nat) (es : List Ex)
  | blt (f : Blt) (es : List Ex)
  | mth (m : Mth) (a : Ex) (es : List Ex)
  | own (c m : Nat) (a : Ex) (es : List Ex)
  | make (c m : Nat) (es : List Ex)
  | pop (a : Ex)
  | isi (a : Ex) (ts : List Ty)
  | sumv (a : Ex)
  | tupR (a : Ex)
  | bad
inductive Fx where
  | lst (es : List Ex)
  | comp (own : List Nat) (t : Tg) (s : Src) (c : Option Ex) (e : Ex)
  | comp2 (own own2 : List Nat) (t : Tg) (s : Src) (t2 : Tg) (s2 : Src) (e : Ex)
  | add (a b : Ex) | mul (a b : Ex)
  | list (s : Src)
  | sorted (a : Ex)
  | sortedK (a : Ex)
  | sortk (a : Ex)
  | setl (a : Ex)
  | dct (tup : Bool) (kvs : List Ex)
  | dict (a : Ex)
  | ife (c : Ex) (a b : Fx)
  | slc (a : Ex) (lo hi : Option Ex) | rev (a : Ex)
  | bad
inductive Src where
  | vals (e : Ex)
  | keys (e : Ex) | chars (e : Ex)
  | rng (a : Option Ex) (b : Ex)
  | rng3 (a b c : Ex)
  | enum (e : Ex)
  | zip (a b : Ex)
  | bad
inductive Tg where
  | nm (i : Nat)
  | tp (ts : List Tg)
  | sub (o i : Ex)
  | fld (o : Ex) (k f : Nat)
end
inductive Rh where | ex (e : Ex) | fx (f : Fx)
/-- what is said of a caught exception: a constant, its field -/
inductive Xx where | cst (v : SV) | fld (f : Nat)
inductive Sm where
  | asg (t : Tg) (e : Ex)
  | box (i : Nat) (f : Fx)
  | asgs (ts : List Tg) (es : List Rh)
  | augN (i : Nat) (op : Bop) (e : Ex)
  | augS (o i : Ex) (op : Bop) (e : Ex)
  | augF (o : Ex) (f : Nat) (op : Bop) (e : Ex)
  | ex (e : Ex)
  | app (o e : Ex)
  | ret (e : Ex)
  | ife (c : Ex) (a b : List Sm)
  | for_ (t : Tg) (s : Src) (b : List Sm)
  | whl (c : Ex) (b : List Sm)
  | rse (c : Nat) (a : Option Ex)
  | try_ (b : List Sm) (i : Nat) (j : Option Nat) (c : Nat) (y n : Xx)
  | pass
  | bad
structure Fn where
  pars : Nat
  slots : Nat
  body : List Sm
  keep : Bool := false
inductive Fl where | next | ret (v : SV)

mutual
/-- data of at most n levels -/
def SV.plainN : SV → Nat → Bool
  | .tup xs, n => match n with | 0 => false | n + 1 => SV.plainsN xs n
  | .lst xs, n => match n with | 0 => false | n + 1 => SV.plainsN xs n
  | .dct _ _, _ => false | .scr _, _ => false | .ref _, _ => false | .view _, _ => false
  | .non, _ => true | .bl _, _ => true | .int _, _ => true | .str s, _ => s.all fun c => decide (c < 1114112)
def SV.plainsN : List SV → Nat → Bool
  | [], _ => true
  | x :: xs, n => x.plainN n && SV.plainsN xs n
end
def SV.plain (v : SV) : Bool := v.plainN 50
def SV.plains (v : List SV) : Bool := SV.plainsN v 50
def bInt (b : Bool) : Int := if b then 1 else 0
mutual
def SV.eqv : SV → SV → Bool
  | .non, .non => true
  | .bl a, .bl b => a == b
  | .bl a, .int j => bInt a == j
  | .int i, .bl b => i == bInt b
  | .int i, .int j => i == j
  | .str s, .str t => s == t
  | .tup xs, .tup ys => SV.eqvs xs ys
  | .lst xs, .lst ys => SV.eqvs xs ys
  | _, _ => false
def SV.eqvs : List SV → List SV → Bool
  | [], [] => true
  | x :: xs, y :: ys => x.eqv y && SV.eqvs xs ys
  | _, _ => false
end
mutual
/-- they can be compared, place by place -/
def SV.alk : SV → SV → Bool
  | .non, .non => true
  | .bl _, .bl _ => true
  | .int _, .int _ => true
  | .str _, .str _ => true
  | .tup xs, .tup ys => SV.alks xs ys
  | .lst xs, .lst ys => SV.alks xs ys
  | _, _ => false
def SV.alks : List SV → List SV → Bool
  | x :: xs, y :: ys => x.alk y && SV.alks xs ys
  | [], _ => true
  | _ :: _, [] => true
end
mutual
def SV.lt : SV → SV → Bool
  | .bl a, .bl b => !a && b
  | .int i, .int j => decide (i < j)
  | .str s, .str t => decide (s < t)
  | .tup xs, .tup ys => SV.lts xs ys
  | .lst xs, .lst ys => SV.lts xs ys
  | _, _ => false
def SV.lts : List SV → List SV → Bool
  | [], [] => false
  | [], _ :: _ => true
  | _ :: _, [] => false
  | x :: xs, y :: ys => if x.eqv y then SV.lts xs ys else x.lt y
end
def lim : Nat := 16777216
def big : Int := 18446744073709551616
def mulOk (i j : Int) : Bool := (decide (-big < i) && decide (i < big)) || (decide (-big < j) && decide (j < big))

def Sta.cellOf (s : Sta) : SV → Option Cel
  | .lst xs => some (.lst xs)
  | .dct ks vs => some (.dct ks vs)
  | .view i => match s.env[i]? with | some (.box c) => some c | _ => none
  | .ref n => s.heap[n]?
  | _ => none
/-- the items of a list or tuple -/
def Sta.seq (s : Sta) (v : SV) : Option (List SV) := match v with
  | .tup xs => some xs
  | .scr xs => some xs
  | v => match s.cellOf v with | some (.lst xs) => some xs | _ => none
def Sta.list (s : Sta) (v : SV) : Option (List SV) := match s.cellOf v with | some (.lst xs) => some xs | _ => none
def Sta.dict (s : Sta) (v : SV) : Option (List SV × List SV) := match s.cellOf v with | some (.dct ks vs) => some (ks, vs) | _ => none
/-- the items of a list or tuple, no script -/
def Sta.lot (s : Sta) (v : SV) : Option (List SV) := match v with
  | .tup xs => some xs
  | v => s.list v
/-- what may be kept: a list in a box is given up -/
def Cel.frozen : Cel → Option SV
  | .lst xs => some (.lst xs) | .dct ks vs => some (.dct ks vs) | _ => none
def Sta.solid (s : Sta) (v : SV) : Rs SV := match v with
  | .view i => match s.env[i]? with
    | some (.box c) => match c.frozen with
      | some w => .ok w { s with env := s.env.set i (.val w) }
      | none => .bad
    | _ => .bad
  | v => .ok v s
/-- the content at a place is changed -/
def Sta.put (s : Sta) (v : SV) (c : Cel) : Option Sta := match v with
  | .view i => some { s with env := s.env.set i (.box c) }
  | .ref n => some { s with heap := s.heap.set n c }
  | _ => none

def lookD (k : SV) : List SV → List SV → Option SV
  | a :: ks, v :: vs => if a.eqv k then some v else lookD k ks vs
  | _, _ => none
def putVs (k v : SV) : List SV → List SV → List SV
  | a :: ks, w :: ws => (if a.eqv k then v else w) :: putVs k v ks ws
  | _, _ => []
def putD (k v : SV) (ks ws : List SV) : List SV × List SV := if ks.any fun a => a.eqv k then (ks, putVs k v ks ws) else (ks ++ [k], ws ++ [v])
def ixN (n : Nat) (i : Int) : Option Nat := if 0 ≤ i then (if i < n then some i.toNat else none) else if -(n : Int) ≤ i then some (i + n).toNat else none
def atI (xs : List SV) (i : Int) : Option SV := (ixN xs.length i).bind fun j => xs[j]?
def sIx (n d : Nat) : Option Int → Nat
  | none => d
  | some i => if i < 0 then (i + n).toNat else min i.toNat n
def cut {α : Type} (xs : List α) (lo hi : Option Int) : List α := (xs.drop (sIx xs.length 0 lo)).take (sIx xs.length xs.length hi - sIx xs.length 0 lo)
def small (n : Nat) : Bool := decide (n ≤ lim)

def SV.scal : SV → Bool
  | .int _ => true | .str _ => true | _ => false
mutual
/-- tuples of whole numbers, some levels deep -/
def SV.nkey : SV → Nat → Bool
  | .int _, _ => true
  | .tup xs, n => match n with | 0 => false | n + 1 => SV.nkeys xs n
  | _, _ => false
def SV.nkeys : List SV → Nat → Bool
  | [], _ => true
  | x :: xs, n => x.nkey n && SV.nkeys xs n
end
def SV.key : SV → Bool
  | .int _ => true | .str _ => true | .tup xs => SV.nkeys xs 7 | _ => false

/-- a key for a dict with such keys -/
def kindOk (k : SV) (ks : List SV) : Bool := k.key && (match ks with
  | [] => true
  | a :: _ => match a with
    | .tup _ => (match k with | .tup _ => true | _ => false)
    | _ => (match k with | .tup _ => false | _ => true))
def SV.isNon : SV → Option Bool
  | .non => some true | .view _ => none | _ => some false
def isTy : Ty → SV → Bool
  | .int, .int _ => true | .int, .bl _ => true
  | .bool, .bl _ => true
  | .tup, .tup _ => true
  | .str, .str _ => true
  | .lst, .lst _ => true
  | _, _ => false
def isiOk : SV → Bool
  | .dct ks _ => ks.all SV.scal
  | .ref _ => false | .view _ => false | .scr _ => false | _ => true

def binInt (op : Bop) (i j : Int) : Option Int := match op with
  | .add => some (i + j)
  | .sub => some (i - j)
  | .mul => if mulOk i j then some (i * j) else none
  | .fdiv => if decide (j ≠ 0) && decide (j.natAbs < 1073741824) then some (i.fdiv j) else none
  | .mod => if decide (j ≠ 0) then some (i.fmod j) else none
  | .pow => if decide (0 ≤ j) && decide (j ≤ 1000000) && decide (i.natAbs < 18446744073709551616) then some (i ^ j.toNat) else none
def repL {α : Type} (xs : List α) (k : Int) : Option (List α) :=
  if decide (-9223372036854775808 ≤ k) && decide (k < 9223372036854775808) && small (xs.length * k.toNat) then some (List.replicate k.toNat xs).flatten else none
def catL {α : Type} (xs ys : List α) : Option (List α) := if small (xs.length + ys.length) then some (xs ++ ys) else none
def binV (s : Sta) (op : Bop) (a b : SV) : Option SV := match a, b with
  | .int i, .int j => (binInt op i j).map .int
  | .str x, .str y => match op with | .add => (catL x y).map .str | _ => none
  | .tup x, .tup y => match op with | .add => (catL x y).map .tup | _ => none
  | .tup x, .int k => match op with | .mul => (repL x k).map .tup | _ => none
  | a, .int k => match op with | .mul => (s.list a).bind fun x => (repL x k).map .lst | _ => none
  | a, b => match op with | .add => (s.list a).bind fun x => (s.list b).bind fun y => (catL x y).map .lst | _ => none
/-- the value to compare: a place's content -/
def Sta.flat (s : Sta) (v : SV) : Option SV := match v with
  | .view _ => (s.list v).map .lst
  | .ref _ => (s.list v).map .lst
  | v => some v
def sameV (s : Sta) (a b : SV) : Option Bool := (s.flat a).bind fun x => (s.flat b).bind fun y => if x.plain && y.plain then some (x.eqv y) else none
def memR (s : Sta) (a b : SV) : Option Bool := match s.dict b with
  | some (ks, vs) => if kindOk a ks then some (lookD a ks vs).isSome else none
  | none => (s.seq b).bind fun xs => if a.plain && SV.plains xs then some (xs.any fun y => y.eqv a) else none
def memT (t : List Nat) : SV → Option Bool
  | .str [c] => some (t.contains c)
  | _ => none
def memV (s : Sta) (a b : SV) : Option Bool := match b with
  | .str t => memT t a
  | b => memR s a b
def cmpV (s : Sta) (op : Cop) (a b : SV) : Option Bool := match op with
  | .eq => sameV s a b
  | .ne => (sameV s a b).map fun c => !c
  | .isin => memV s a b
  | .notin => (memV s a b).map fun c => !c
  | .lt => match a, b with | .int i, .int j => some (decide (i < j)) | _, _ => none
  | .le => match a, b with | .int i, .int j => some (decide (i ≤ j)) | _, _ => none
  | .gt => match a, b with | .int i, .int j => some (decide (j < i)) | _, _ => none
  | .ge => match a, b with | .int i, .int j => some (decide (j ≤ i)) | _, _ => none
def truth (s : Sta) : SV → Option Bool
  | .bl b => some b
  | _ => none
def idxS (s : Sta) (a : SV) : SV → Option SV
  | .int k => (s.seq a).bind fun xs => atI xs k
  | _ => none
def idxR (s : Sta) (a i : SV) : Option SV := match s.dict a with
  | some (ks, vs) => if kindOk i ks then lookD i ks vs else none
  | none => idxS s a i
def idxT (t : List Nat) : SV → Option SV
  | .int k => if small t.length then ((ixN t.length k).bind fun j => t[j]?).map fun c => .str [c] else none
  | _ => none
def idxV (s : Sta) (a i : SV) : Option SV := match a with
  | .str t => idxT t i
  | a => idxR s a i
def slcV (s : Sta) (a : SV) (lo hi : Option Int) : Option SV := match a with
  | .str t => if small t.length then some (.str (cut t lo hi)) else none
  | .tup xs => some (.tup (cut xs lo hi))
  | a => (s.list a).map fun xs => .lst (cut xs lo hi)
def revV (s : Sta) (a : SV) : Option SV := match a with
  | .tup xs => some (.tup xs.reverse)
  | a => (s.list a).map fun xs => .lst xs.reverse
def intsV : List SV → Option (List Int)
  | [] => some []
  | .int i :: r => (intsV r).map (List.cons i)
  | _ => none
def strsV : List SV → Option (List (List Nat))
  | [] => some []
  | .str i :: r => (strsV r).map (List.cons i)
  | _ => none
def allAlk (xs : List SV) : Bool := SV.plains xs && xs.all fun x => xs.all fun y => x.alk y
def SV.isNone : SV → Bool
  | .non => true | _ => false
def minL : SV → List SV → SV
  | m, [] => m
  | m, x :: xs => minL (if x.lt m then x else m) xs
def maxL : SV → List SV → SV
  | m, [] => m
  | m, x :: xs => maxL (if m.lt x then x else m) xs
def insBy (k : SV → SV) (x : SV) : List SV → List SV
  | [] => [x]
  | y :: ys => if (k y).lt (k x) then y :: insBy k x ys else x :: y :: ys
def sortBy (k : SV → SV) : List SV → List SV
  | [] => []
  | x :: xs => insBy k x (sortBy k xs)
def SV.isTup1 : SV → Bool
  | .tup (_ :: _) => true | _ => false
def SV.notTup : SV → Bool
  | .bl _ => true | .int _ => true | .str _ => true | .lst _ => true | _ => false
def sortT (xs : List SV) : Option (List SV) := if allAlk xs && (xs.all SV.isTup1 || xs.all SV.notTup) && small xs.length then some (sortBy (fun x => x) xs) else none
/-- one value alone is always in order -/
def sortOn : List SV → Option (List SV)
  | [x] => if x.plain then some [x] else none
  | xs => sortT xs
def digits : Nat → Nat → List Nat → List Nat
  | 0, _, acc => acc
  | k + 1, n, acc => if n < 10 then (48 + n) :: acc else digits k (n / 10) ((48 + n % 10) :: acc)
def strI (i : Int) : List Nat := if i < 0 then 45 :: digits 12 i.natAbs [] else digits 12 i.natAbs []
def joinS (sep : List Nat) : List (List Nat) → List Nat
  | [] => []
  | [x] => x
  | x :: y :: r => x ++ sep ++ joinS sep (y :: r)
def digit? : List Nat → Option Int
  | [c] => if decide (48 ≤ c) && decide (c ≤ 57) then some ((c : Int) - 48) else none
  | _ => none
def bltV (s : Sta) (f : Blt) (xs : List SV) : Option SV := match f, xs with
  | .len, [.str t] => if small t.length then some (.int t.length) else none
  | .len, [a] => match s.dict a with
    | some (ks, _) => some (.int ks.length)
    | none => (s.seq a).map fun xs => .int xs.length
  | .tuple, [.scr _] => none
  | .tuple, [a] => (s.seq a).map .tup
  | .sum, [a] => (s.seq a).bind fun xs => (intsV xs).map fun ns => .int ns.sum
  | .max, [a] => (s.seq a).bind fun xs => match xs with
    | [] => none
    | m :: r => if allAlk (m :: r) && !m.isNone then some (maxL m r) else none
  | .min, [a] => (s.seq a).bind fun xs => match xs with
    | [] => none
    | m :: r => if allAlk (m :: r) && !m.isNone then some (minL m r) else none
  | .max2, [.int i, .int j] => some (.int (if j > i then j else i))
  | .min2, [.int i, .int j] => some (.int (if j < i then j else i))
  | .max3, [.int i, .int j, .int k] => some (maxL (.int i) [.int j, .int k])
  | .abs, [.int i] => some (.int (if i < 0 then -i else i))
  | .int, [.int i] => some (.int i)
  | .int, [.str t] => (digit? t).map .int
  | .str, [.int i] => if decide (0 ≤ i) && decide (i.natAbs < 10000000000) then some (.str (strI i)) else none
  | .bool, [.bl b] => some (.bl b)
  | .bool, [.int i] => some (.bl (i != 0))
  | _, _ => none
def indexOf (x : SV) : List SV → Nat → Option Nat
  | [], _ => none
  | y :: ys, k => if y.eqv x then some k else indexOf x ys (k + 1)
def SV.isView : SV → Bool
  | .view _ => true | _ => false
def mthV (s : Sta) (m : Mth) (a : SV) (xs : List SV) : Option SV := match m, xs with
  | .index, [x] => (s.seq a).bind fun ys => if x.plain && SV.plains ys then (indexOf x ys 0).map fun k => .int k else none
  | .count, [x] => (s.seq a).bind fun ys => if x.plain && SV.plains ys then some (.int ((ys.filter fun y => y.eqv x).length : Nat)) else none
  | .get1, [k] => (s.dict a).bind fun (ks, vs) => if kindOk k ks then some ((lookD k ks vs).getD .non) else none
  | .get2, [k, d] => (s.dict a).bind fun (ks, vs) => if kindOk k ks && !d.isView then some ((lookD k ks vs).getD d) else none
  | .join, [l] => match a with | .str sep => (s.list l).bind fun ys => (strsV ys).bind fun ts => if small ((ts.map List.length).sum + ts.length * sep.length) then some (.str (joinS sep ts)) else none | _ => none
  | _, _ => none
def SV.isScr : SV → Bool
  | .scr _ => true | _ => false
/-- the method is there -/
def mthOk (s : Sta) (m : Mth) (a : SV) : Bool := match m with
  | .index => !a.isScr && (s.seq a).isSome
  | .count => !a.isScr && (s.seq a).isSome
  | .get1 => (s.dict a).isSome
  | .get2 => (s.dict a).isSome
  | _ => match a with | .str _ => true | _ => false
def addI (x : Int) : List Int → List Int
  | [] => [x]
  | y :: ys => if x < y then x :: y :: ys else if x = y then y :: ys else y :: addI x ys
/-- a tuple of few whole numbers -/
def tupInts : SV → Option (List Int)
  | .tup xs => if decide (xs.length ≤ 1000) then intsV xs else none
  | _ => none
def rngL (a : Int) : Nat → List SV
  | 0 => []
  | n + 1 => .int a :: rngL (a + 1) n
def rng3L (a c : Int) : Nat → List SV
  | 0 => []
  | n + 1 => .int a :: rng3L (a + c) c n
def rngOk (i : Int) : Bool := decide (-4611686018427387904 ≤ i) && decide (i < 4611686018427387904)
def enumL (k : Int) : List SV → List SV
  | [] => []
  | x :: xs => .tup [.int k, x] :: enumL (k + 1) xs
def zipL : List SV → List SV → List SV
  | x :: xs, y :: ys => .tup [x, y] :: zipL xs ys
  | _, _ => []
def wipe (env : List Slt) : List Nat → List Slt
  | [] => env
  | i :: is => (wipe env is).set i .emp
def ownOk (env : List Slt) (is : List Nat) : Bool := is.all fun i => match env[i]? with | some (.box _) => false | some _ => true | none => false
/-- the slots of is as in old -/
def back (env old : List Slt) : List Nat → List Slt
  | [] => env
  | i :: is => (back env old is).set i (old.getD i .emp)
def getF (f : Nat) : List (Nat × SV) → Option SV
  | [] => none
  | (g, v) :: r => if g = f then some v else getF f r
def putF (f : Nat) (v : SV) : List (Nat × SV) → List (Nat × SV)
  | [] => [(f, v)]
  | (g, w) :: r => if g = f then (g, v) :: r else (g, w) :: putF f v r
/-- a walk over items; what is made is handed on -/
def compL (body : SV → Sta → Rs (Option SV)) : List SV → List SV → Sta → Rs (List SV)
  | [], acc, s => .ok acc.reverse s
  | x :: xs, acc, s => match body x s with
    | .ok (some v) s1 => compL body xs (v :: acc) s1
    | .ok none s1 => compL body xs acc s1
    | .err _ _ => .bad
    | .bad => .bad
/-- walks within a walk; what is made is handed on -/
def compM (body : SV → List SV → Sta → Rs (List SV)) : List SV → List SV → Sta → Rs (List SV)
  | [], acc, s => .ok acc.reverse s
  | x :: xs, acc, s => match body x acc s with
    | .ok vs s1 => compM body xs vs.reverse s1
    | .err _ _ => .bad
    | .bad => .bad
def forL (body : SV → Sta → Rs Fl) : List SV → Sta → Rs Fl
  | [], s => .ok .next s
  | x :: xs, s => match body x s with
    | .ok .next s1 => forL body xs s1
    | .ok (.ret v) s1 => .ok (.ret v) s1
    | .err e s1 => .err e s1
    | .bad => .bad
def whlL (c : Sta → Rs Bool) (body : Sta → Rs Fl) : Nat → Sta → Rs Fl
  | 0, _ => .bad
  | n + 1, s => match c s with
    | .ok true s1 => match body s1 with
      | .ok .next s2 => whlL c body n s2
      | .ok (.ret v) s2 => .ok (.ret v) s2
      | .err e s2 => .err e s2
      | .bad => .bad
    | .ok false s1 => .ok .next s1
    | .err e s1 => .err e s1
    | .bad => .bad
/-- a place's content is taken away while it is walked -/
def Sta.hide (s : Sta) (v : SV) : Sta := match v with
  | .view i => { s with env := s.env.set i .emp }
  | .ref n => { s with heap := s.heap.set n .dead }
  | _ => s
def Sta.unhide (s : Sta) (v : SV) (c : Option Cel) : Sta := match v, c with
  | .view i, some c => { s with env := s.env.set i (.box c) }
  | .ref n, some c => { s with heap := s.heap.set n c }
  | _, _ => s
structure Prog where
  run : Nat → List SV → List Cel → RC
  mk_ : Nat → List SV → List Cel → RC
  wf : Nat
/-- as calls of __init__ go: one level less -/
def Prog.init (P : Prog) : Prog := ⟨P.mk_, P.mk_, P.wf⟩
/-- arguments that are views become places of the heap for the call -/
def lend : List SV → Sta → Option (List SV × Sta × List (Nat × Nat))
  | [], s => some ([], s, [])
  | .view i :: r, s => match s.env[i]? with
    | some (.box c) => match lend r { env := s.env.set i .emp, heap := s.heap ++ [c] } with
      | some (vs, s1, m) => some (.ref s.heap.length :: vs, s1, (i, s.heap.length) :: m)
      | none => none
    | _ => none
  | v :: r, s => match lend r s with
    | some (vs, s1, m) => some (v :: vs, s1, m)
    | none => none
mutual
def SV.refLt (n : Nat) : SV → Bool
  | .ref k => decide (k < n)
  | .tup xs => SV.refsLt n xs
  | .lst xs => SV.refsLt n xs
  | .scr xs => SV.refsLt n xs
  | .dct ks vs => SV.refsLt n ks && SV.refsLt n vs
  | _ => true
def SV.refsLt (n : Nat) : List SV → Bool
  | [] => true
  | x :: xs => x.refLt n && SV.refsLt n xs
end
def Cel.refLt (n : Nat) : Cel → Bool
  | .dead => true
  | .lst xs => SV.refsLt n xs
  | .dct ks vs => SV.refsLt n ks && SV.refsLt n vs
  | .ins _ fs => fs.all fun p => p.2.refLt n
/-- the heap behind a call, without what is new and unreachable -/
def trim (n : Nat) (v : SV) (h : List Cel) : Option (List Cel) :=
  if h.length ≤ n then some h
  else if v.refLt n && ((h.take n).all (Cel.refLt n)) then some (h.take n) else none
def unlend (h : List Cel) (env : List Slt) : List (Nat × Nat) → List Slt
  | [] => env
  | (i, n) :: r => (unlend h env r).set i (match h[n]? with | some .dead => .emp | some c => .box c | none => .emp)
def callR (P : Prog) (f : Nat) (vs : List SV) (s : Sta) : Rs SV := match lend vs s with
  | none => .bad
  | some (us, s1, m) => match P.run f us s1.heap with
    | .ok v h => match m with
      | [] => .ok v { s1 with heap := h }
      | _ => if m.all (fun p => match h[p.2]? with | some c => c.refLt s.heap.length | none => true) then match trim s.heap.length v h with
        | some h2 => .ok v { env := unlend h s1.env m, heap := h2 }
        | none => .bad
        else .bad
    | .err e h => match m with
      | [] => .err e { s1 with heap := h }
      | _ => .bad
    | .bad => .bad
/-- the value that a tuple, a list keeps -/
def solidB (x : Rs SV) : Rs SV := x.bind fun v s => s.solid v
def asB (x : Rs SV) : Rs Bool := x.bind fun v s => match v with | .bl b => .ok b s | _ => .bad
def asI (x : Rs SV) : Rs Int := x.bind fun v s => match v with | .int b => .ok b s | _ => .bad
/-- a target takes a value -/
def slotSet (i : Nat) (v : SV) (s : Sta) : Sta := { s with env := s.env.set i (.val v) }
def subSet (s : Sta) (o i v : SV) : Option Sta := match s.cellOf o with
  | some (.lst xs) => match i with
    | .int k => match ixN xs.length k with
      | some j => s.put o (.lst (xs.set j v))
      | none => none
    | _ => none
  | some (.dct ks vs) => if kindOk i ks && small (ks.length + 1) then s.put o (.dct (putD i v ks vs).1 (putD i v ks vs).2) else none
  | _ => none
/-- a field of an instance of the class k takes a value -/
def fldPut (s : Sta) (o : SV) (k f : Nat) (v : SV) : Option Sta := match s.cellOf o with
  | some (.ins c fs) => if decide (c = k) && decide (f ≤ 8) && decide (fs.length < 100) then s.put o (.ins c (putF f v fs)) else none
  | _ => none
/-- an instance's class and its field's number -/
def insF (s : Sta) (o : SV) (f : Nat) : Option (Nat × Int) := match s.cellOf o with
  | some (.ins k fs) => match getF f fs with
    | some (.int a) => some (k, a)
    | _ => none
  | _ => none
def fldGet (s : Sta) (o : SV) (f : Nat) : Option SV := match s.cellOf o with
  | some (.ins _ fs) => getF f fs
  | _ => none
def popV (s : Sta) (o : SV) : Option (SV × Sta) := match s.cellOf o with
  | some (.lst xs) => match xs[xs.length - 1]? with
    | some v => match s.put o (.lst xs.dropLast) with
      | some s1 => some (v, s1)
      | none => none
    | none => none
  | _ => none
def appV (s : Sta) (o v : SV) : Option Sta := match s.cellOf o with
  | some (.lst xs) => if small (xs.length + 1) then s.put o (.lst (xs ++ [v])) else none
  | _ => none
def pairsD : List SV → List SV → List SV → Option (List SV × List SV)
  | [], ks, vs => some (ks, vs)
  | .tup [k, v] :: r, ks, vs => if k.scal && kindOk k ks && small (ks.length + 1) then pairsD r (putD k v ks vs).1 (putD k v ks vs).2 else none
  | _ :: _, _, _ => none
def putAll : List SV → List SV → List SV → List SV → Option (List SV × List SV)
  | [], [], ks, vs => some (ks, vs)
  | k :: kr, v :: vr, ks, vs => if kindOk k ks && small (ks.length + 1) then putAll kr vr (putD k v ks vs).1 (putD k v ks vs).2 else none
  | _, _, _, _ => none
/-- k, v, k, v, .. -/
def unpair : List SV → Option (List SV × List SV)
  | [] => some ([], [])
  | k :: v :: r => (unpair r).map fun p => (k :: p.1, v :: p.2)
  | _ => none
/-- a display: of whole numbers and texts, of one tuple -/
def dispV (t : Bool) (l : List SV) : Option (List SV × List SV) := (unpair l).bind fun p =>
  if t then (match p.1, p.2 with | [k], [v] => (match k with | .tup _ => if k.key then some ([k], [v]) else none | _ => none) | _, _ => none)
  else if p.1.all SV.scal && decide (p.1.length ≤ 15) then putAll p.1 p.2 [] [] else none
def sumOf : SV → Option Int
  | .tup xs => (intsV xs).map List.sum
  | _ => none
def keyK (x : SV) : SV := match sumOf x with | some n => .tup [.int n, x] | none => .non
def sortK (xs : List SV) : Option (List SV) := if allAlk xs && (xs.all fun x => (sumOf x).isSome) && small xs.length then some (sortBy keyK xs) else none
/-- a walk over what a source gives: a place's content is hidden meanwhile -/
structure Walk where
  items : List SV
  hid : Option SV
def hidOf : SV → Option SV
  | .view i => some (.view i) | .ref n => some (.ref n) | _ => none
def mkWalk (s : Sta) (v : SV) : Rs Walk := if v.isScr then .bad else match s.seq v with
  | none => .bad
  | some xs => .ok ⟨xs, hidOf v⟩ s
def keyWalk (s : Sta) (v : SV) : Rs Walk := match s.dict v with
  | none => .bad
  | some (ks, _) => .ok ⟨ks, hidOf v⟩ s
def strWalk (s : Sta) (v : SV) : Rs Walk := match v with
  | .str t => .ok ⟨t.map fun c => .str [c], none⟩ s
  | _ => .bad
def walking {α : Type} (w : Walk) (s : Sta) (f : Sta → Rs α) : Rs α := match w.hid with
  | none => f s
  | some v => match f (s.hide v) with
    | .ok a s1 => .ok a (s1.unhide v (s.cellOf v))
    | .err e s1 => .err e (s1.unhide v (s.cellOf v))
    | .bad => .bad
/-- ahead of a for: a list in a box is given up -/
def giveUp (w : Walk) (s : Sta) : Rs Unit := match w.hid with
  | none => .ok () s
  | some (.view i) => (s.solid (.view i)).bind fun _ s => .ok () s
  | some _ => .bad
def freshC (v : Option (List SV)) (s : Sta) : Rs Cel := match v with | some xs => .ok (.lst xs) s | none => .bad
def Src.few : Src → Nat → Bool
  | .rng _ _, n => small n | .rng3 _ _ _, n => small n | _, _ => true
mutual
def evE (P : Prog) : Ex → Sta → Rs SV
  | .slot i, s => match s.env[i]? with
    | some (.val v) => .ok v s
    | some (.box _) => .ok (.view i) s
    | _ => .bad
  | .cst v, s => .ok v s
  | .glob _ v, s => .ok v s
  | .tup es, s => (evEs P es s).bind fun vs s => if small vs.length then .ok (.tup vs) s else .bad
  | .fr f, s => (evF P f s).bind fun c s => Rs.of c.frozen s
  | .new f, s => (evF P f s).bind fun c s => .ok (.ref s.heap.length) { s with heap := s.heap ++ [c] }
  | .bin op a b, s => (evE P a s).bind fun x s => (evE P b s).bind fun y s => Rs.of (binV s op x y) s
  | .neg a, s => (asI (evE P a s)).bind fun i s => .ok (.int (-i)) s
  | .lnot a, s => (asB (evE P a s)).bind fun b s => .ok (.bl (!b)) s
  | .land a b, s => (asB (evE P a s)).bind fun c s => if c then evE P b s else .ok (.bl false) s
  | .lor a b, s => (asB (evE P a s)).bind fun c s => if c then .ok (.bl true) s else evE P b s
  | .ife c a b, s => (asB (evE P c s)).bind fun c s => if c then evE P a s else evE P b s
  | .cmp op a b, s => (evE P a s).bind fun x s => (evE P b s).bind fun y s => (Rs.of (cmpV s op x y) s).bind fun c s => .ok (.bl c) s
  | .cmp2 op1 op2 a b c, s => (evE P a s).bind fun x s => (evE P b s).bind fun y s => (Rs.of (cmpV s op1 x y) s).bind fun k s =>
      if k then (evE P c s).bind fun z s => (Rs.of (cmpV s op2 y z) s).bind fun k s => .ok (.bl k) s else .ok (.bl false) s
  | .isN a, s => (evE P a s).bind fun x s => Rs.of (x.isNon.map fun b => .bl b) s
  | .notN a, s => (evE P a s).bind fun x s => Rs.of (x.isNon.map fun b => .bl (!b)) s
  | .isB a c, s => (asB (evE P a s)).bind fun b s => .ok (.bl (b == c)) s
  | .notB a c, s => (asB (evE P a s)).bind fun b s => .ok (.bl (!(b == c))) s
  | .idx a i, s => (evE P a s).bind fun x s => (evE P i s).bind fun y s => Rs.of (idxV s x y) s
  | .slc a lo hi, s => (evE P a s).bind fun x s => (evO P lo s).bind fun l s => (evO P hi s).bind fun h s => Rs.of (slcV s x l h) s
  | .rev a, s => (evE P a s).bind fun x s => Rs.of (revV s x) s
  | .fld a f, s => (evE P a s).bind fun x s => Rs.of (fldGet s x f) s
  | .call f es, s => (evAs P es s).bind fun vs s => callR P f vs s
  | .blt f es, s => (evAs P es s).bind fun vs s => Rs.of (bltV s f vs) s
  | .mth m a es, s => (evE P a s).bind fun x s => if mthOk s m x then (evAs P es s).bind fun vs s => Rs.of (mthV s m x vs) s else .bad
  | .own c m a es, s => (evE P a s).bind fun x s => match s.cellOf x with
    | some (.ins d _) => if c = d then (evAs P es s).bind fun vs s => callR P m (x :: vs) s else .bad
    | _ => .bad
  | .make c m es, s => (evAs P es s).bind fun vs s =>
      (callR P.init m (.ref s.heap.length :: vs) { s with heap := s.heap ++ [.ins c []] }).bind fun v s1 => match v with
        | .non => .ok (.ref s.heap.length) s1
        | _ => .bad
  | .pop a, s => (evE P a s).bind fun x s => match popV s x with | some (v, s) => .ok v s | none => .bad
  | .isi a ts, s => (evE P a s).bind fun x s => (Rs.of (s.flat x) s).bind fun y s => if isiOk y then .ok (.bl (ts.any fun t => isTy t y)) s else .bad
  | .tupR a, s => (asI (evE P a s)).bind fun j s => if rngOk j && small j.toNat then .ok (.tup (rngL 0 j.toNat)) s else .bad
  | .sumv a, s => (evE P a s).bind fun x s => match s.dict x with
    | some (_, vs) => Rs.of ((intsV vs).map fun ns => .int ns.sum) s
    | none => .bad
  | .bad, _ => .bad
/-- kept values -/
def evEs (P : Prog) : List Ex → Sta → Rs (List SV)
  | [], s => .ok [] s
  | e :: r, s => (solidB (evE P e s)).bind fun v s => (evEs P r s).bind fun vs s => .ok (v :: vs) s
/-- arguments -/
def evAs (P : Prog) : List Ex → Sta → Rs (List SV)
  | [], s => .ok [] s
  | e :: r, s => (evE P e s).bind fun v s => (evAs P r s).bind fun vs s => .ok (v :: vs) s
def evC (P : Prog) : Option Ex → Sta → Rs Bool
  | none, s => .ok true s
  | some c, s => asB (evE P c s)
def evO (P : Prog) : Option Ex → Sta → Rs (Option Int)
  | none, s => .ok none s
  | some e, s => (asI (evE P e s)).bind fun i s => .ok (some i) s
/-- a cell just made -/
def evF (P : Prog) : Fx → Sta → Rs Cel
  | .lst es, s => (evEs P es s).bind fun vs s => if small vs.length then .ok (.lst vs) s else .bad
  | .comp own t src c e, s => (evW P src s).bind fun w s0 => walking w s0 fun s1 => if ownOk s1.env own then
      (compL (fun x s => (evT P t x { s with env := wipe s.env own }).bind fun _ s => (evC P c s).bind fun k s =>
        if k then (solidB (evE P e s)).bind fun v s => .ok (some v) s else .ok none s) w.items [] s1).bind fun vs s2 =>
      if small vs.length then .ok (.lst vs) { s2 with env := back s2.env s1.env own } else .bad
      else .bad
  | .comp2 own own2 t src t2 src2 e, s => (evW P src s).bind fun w s0 => match w.hid with
    | some _ => .bad
    | none => if ownOk s0.env own && own2.all own.contains then
      (compM (fun x acc s => (evT P t x { s with env := wipe s.env own }).bind fun _ s => (evW P src2 s).bind fun w2 s => match w2.hid with
        | some _ => .bad
        | none => compL (fun y s => (evT P t2 y { s with env := wipe s.env own2 }).bind fun _ s => (solidB (evE P e s)).bind fun v s => .ok (some v) s) w2.items acc s)
        w.items [] s0).bind fun vs s2 => if small vs.length then .ok (.lst vs) { s2 with env := back s2.env s0.env own } else .bad
      else .bad
  | .add a b, s => (evE P a s).bind fun x s => (evE P b s).bind fun y s => freshC ((s.list x).bind fun xs => (s.list y).bind fun ys => catL xs ys) s
  | .mul a b, s => (evE P a s).bind fun x s => (asI (evE P b s)).bind fun k s => freshC ((s.list x).bind fun xs => repL xs k) s
  | .list src, s => (evW P src s).bind fun w s => if src.few w.items.length then .ok (.lst w.items) s else .bad
  | .sorted a, s => (evE P a s).bind fun x s => freshC ((s.lot x).bind sortT) s
  | .sortedK a, s => (evE P a s).bind fun x s => freshC ((s.dict x).bind fun p => sortOn p.1) s
  | .sortk a, s => (evE P a s).bind fun x s => freshC ((s.list x).bind sortK) s
  | .setl a, s => (evE P a s).bind fun x s => freshC ((tupInts x).map fun ns => (ns.foldr addI []).map .int) s
  | .dct t kvs, s => (evEs P kvs s).bind fun l s => match dispV t l with
    | some p => .ok (.dct p.1 p.2) s
    | none => .bad
  | .dict a, s => (evE P a s).bind fun x s => match (s.list x).bind fun xs => pairsD xs [] [] with
    | some (ks, vs) => .ok (.dct ks vs) s
    | none => .bad
  | .ife c a b, s => (asB (evE P c s)).bind fun c s => if c then evF P a s else evF P b s
  | .slc a lo hi, s => (evE P a s).bind fun x s => (evO P lo s).bind fun l s => (evO P hi s).bind fun h s => freshC ((s.list x).map fun xs => cut xs l h) s
  | .rev a, s => (evE P a s).bind fun x s => freshC ((s.list x).map List.reverse) s
  | .bad, _ => .bad
def evW (P : Prog) : Src → Sta → Rs Walk
  | .vals e, s => (evE P e s).bind fun x s => mkWalk s x
  | .keys e, s => (evE P e s).bind fun x s => keyWalk s x
  | .chars e, s => (evE P e s).bind fun x s => strWalk s x
  | .rng none b, s => (asI (evE P b s)).bind fun j s => if rngOk j then .ok ⟨rngL 0 j.toNat, none⟩ s else .bad
  | .rng (some a) b, s => (asI (evE P a s)).bind fun i s => (asI (evE P b s)).bind fun j s => if rngOk i && rngOk j then .ok ⟨rngL i (j - i).toNat, none⟩ s else .bad
  | .rng3 a b c, s => (asI (evE P a s)).bind fun i s => (asI (evE P b s)).bind fun j s => (asI (evE P c s)).bind fun c s =>
      if rngOk i && rngOk j && decide (c = -1) then .ok ⟨rng3L i c (i - j).toNat, none⟩ s else .bad
  | .enum e, s => (evE P e s).bind fun x s => (mkWalk s x).bind fun w s => .ok { w with items := enumL 0 w.items } s
  | .zip a b, s => (evE P a s).bind fun x s => (evE P b s).bind fun y s => (mkWalk s x).bind fun w s => (mkWalk s y).bind fun w2 s => match w2.hid with
    | none => .ok ⟨zipL w.items w2.items, w.hid⟩ s
    | some h => match w.hid with
      | none => .ok ⟨zipL w.items w2.items, some h⟩ s
      | some _ => .bad
  | .bad, _ => .bad
/-- a target takes a kept value -/
def evT (P : Prog) : Tg → SV → Sta → Rs Unit
  | .nm i, v, s => .ok () (slotSet i v s)
  | .tp ts, v, s => match s.seq v with
    | some xs => if xs.length = ts.length then evTs P ts xs s else .bad
    | none => .bad
  | .sub o i, v, s => (evE P o s).bind fun x s => (evE P i s).bind fun y s => match subSet s x y v with
    | some s => .ok () s
    | none => .bad
  | .fld o k f, v, s => (evE P o s).bind fun x s => match fldPut s x k f v with
    | some s => .ok () s
    | none => .bad
def evTs (P : Prog) : List Tg → List SV → Sta → Rs Unit
  | [], [], s => .ok () s
  | t :: ts, v :: vs, s => (evT P t v s).bind fun _ s => evTs P ts vs s
  | _, _, s => .bad
end
/-- right-hand sides of a = .., kept or just made -/
inductive RV where | v (x : SV) | c (x : Cel)
def evRs (P : Prog) : List Rh → Sta → Rs (List RV)
  | [], s => .ok [] s
  | .ex e :: r, s => (solidB (evE P e s)).bind fun v s => (evRs P r s).bind fun vs s => .ok (.v v :: vs) s
  | .fx f :: r, s => (evF P f s).bind fun c s => (evRs P r s).bind fun vs s => .ok (.c c :: vs) s
def stRs (P : Prog) : List Tg → List RV → Sta → Rs Unit
  | [], [], s => .ok () s
  | t :: ts, .v v :: r, s => (evT P t v s).bind fun _ s => stRs P ts r s
  | .nm i :: ts, .c c :: r, s => stRs P ts r { s with env := s.env.set i (.box c) }
  | _, _, _ => .bad
/-- the field of an exception of the class c -/
def excF : Nat → Option Nat
  | 1 => some 6 | 4 => some 6 | 6 => some 6 | 7 => some 6 | 10 => some 6 | 12 => some 6 | 15 => some 6 | 18 => some 8 | 19 => some 7 | _ => none
def Xx.val (e : Er) : Xx → Option SV
  | .cst v => some v
  | .fld f => if excF e.cls = some f then e.arg else none
/-- except .. as slot i: slot j = y if isinstance(slot i, c) else n (or returned) -/
def catchX (i : Nat) (j : Option Nat) (c : Nat) (y n : Xx) : Rs Fl → Rs Fl
  | .err e s => match (if e.cls == c then y else n).val e with
    | some v => match j with
      | some j => .ok .next (slotSet j v { s with env := s.env.set i .emp })
      | none => .ok (.ret v) { s with env := s.env.set i .emp }
    | none => .bad
  | r => r
def nextR (_ : Unit) (s : Sta) : Rs Fl := .ok .next s
def nextO : Option Sta → Rs Fl
  | some s => .ok .next s
  | none => .bad
mutual
def evS (P : Prog) : Sm → Sta → Rs Fl
  | .asg t e, s => (solidB (evE P e s)).bind fun v s => (evT P t v s).bind nextR
  | .box i f, s => (evF P f s).bind fun c s => .ok .next { s with env := s.env.set i (.box c) }
  | .asgs ts es, s => (evRs P es s).bind fun vs s => if vs.length = ts.length then (stRs P ts vs s).bind nextR else .bad
  | .augN i op e, s => match s.env[i]? with
    | some (.val (.int a)) => (asI (evE P e s)).bind fun b s => match binInt op a b with
      | some c => .ok .next (slotSet i (.int c) s)
      | none => .bad
    | _ => .bad
  | .augS o i op e, s => (evE P o s).bind fun x s => (evE P i s).bind fun y s => match idxR s x y with
    | some (.int a) => (asI (evE P e s)).bind fun b s => match binInt op a b with
      | some c => nextO (subSet s x y (.int c))
      | none => .bad
    | _ => .bad
  | .augF o f op e, s => (evE P o s).bind fun x s => match insF s x f with
    | some (k, a) => (asI (evE P e s)).bind fun b s => match binInt op a b with
      | some c => nextO (fldPut s x k f (.int c))
      | none => .bad
    | none => .bad
  | .ex e, s => (evE P e s).bind fun _ s => .ok .next s
  | .app o e, s => (evE P o s).bind fun x s => match s.list x with
    | some _ => (solidB (evE P e s)).bind fun v s => nextO (appV s x v)
    | none => .bad
  | .ret e, s => (solidB (evE P e s)).bind fun v s => .ok (.ret v) s
  | .ife c a b, s => (asB (evE P c s)).bind fun k s => if k then evB P a s else evB P b s
  | .for_ t src b, s => (evW P src s).bind fun w s => (giveUp w s).bind fun _ s => forL (fun x s => (evT P t x s).bind fun _ s => evB P b s) w.items s
  | .whl c b, s => whlL (fun s => asB (evE P c s)) (fun s => evB P b s) P.wf s
  | .rse c a, s => match a with
    | none => .err ⟨c, none⟩ s
    | some e => (evE P e s).bind fun v s => match v with
      | .int i => .err ⟨c, some (.int i)⟩ s
      | .non => .err ⟨c, some .non⟩ s
      | _ => .bad
  | .try_ b i j c y n, s => catchX i j c y n (evB P b s)
  | .pass, s => .ok .next s
  | .bad, _ => .bad
def evB (P : Prog) : List Sm → Sta → Rs Fl
  | [], s => .ok .next s
  | x :: r, s => (evS P x s).bind fun f s => match f with
    | .next => evB P r s
    | .ret v => .ok (.ret v) s
end
def runB (P : Prog) (f : Fn) (vs : List SV) (h : List Cel) : RC :=
  if vs.length = f.pars then
    match evB P f.body { env := vs.map .val ++ List.replicate (f.slots - f.pars) .emp, heap := h } with
    | .ok fl s => match fl with
      | .next => if f.keep then .ok .non s.heap else match trim h.length .non s.heap with | some h2 => .ok .non h2 | none => .bad
      | .ret v => if f.keep then .ok v s.heap else match trim h.length v s.heap with | some h2 => .ok v h2 | none => .bad
    | .err e s => match trim h.length .non s.heap with | some h2 => .err e h2 | none => .bad
    | .bad => .bad
  else .bad
/-- defs by their numbers -/
abbrev Tab := Nat → Option Fn
def badRun : Nat → List SV → List Cel → RC := fun _ _ _ => .bad
def stepR (T : Tab) (wf : Nat) (p : (Nat → List SV → List Cel → RC) × (Nat → List SV → List Cel → RC)) : (Nat → List SV → List Cel → RC) × (Nat → List SV → List Cel → RC) :=
  (fun f vs h => match T f with
    | some fn => runB ⟨p.1, p.2, wf⟩ fn vs h
    | none => .bad, p.1)
def runP (T : Tab) (wf : Nat) : Nat → (Nat → List SV → List Cel → RC) × (Nat → List SV → List Cel → RC)
  | 0 => (badRun, badRun)
  | n + 1 => stepR T wf (runP T wf n)
/-- n calls deep at most -/
def runN (T : Tab) (wf n : Nat) : Nat → List SV → List Cel → RC := (runP T wf n).1
def mkN (T : Tab) (wf n : Nat) : Nat → List SV → List Cel → RC := (runP T wf n).2
theorem runN_succ (T : Tab) (wf n f : Nat) (vs : List SV) (h : List Cel) : runN T wf (n + 1) f vs h = match T f with
    | some fn => runB ⟨runN T wf n, mkN T wf n, wf⟩ fn vs h
    | none => .bad := rfl
theorem mkN_succ (T : Tab) (wf n : Nat) : mkN T wf (n + 1) = runN T wf n := rfl
end Mp

namespace Mp
def RsLe {α : Type} (x y : Rs α) : Prop := x = .bad ∨ y = x
def RcLe (x y : RC) : Prop := x = .bad ∨ y = x
structure PLe (P Q : Prog) : Prop where
  run : ∀ f vs h, RcLe (P.run f vs h) (Q.run f vs h)
  mk_ : ∀ f vs h, RcLe (P.mk_ f vs h) (Q.mk_ f vs h)
  wf : P.wf = Q.wf
theorem RsLe.rfl {α : Type} {x : Rs α} : RsLe x x := .inr (Eq.refl _)
theorem RsLe.bd {α : Type} {y : Rs α} : RsLe .bad y := .inl (Eq.refl _)
theorem RsLe.bind {α β : Type} {x y : Rs α} {f g : α → Sta → Rs β} (h : RsLe x y) (k : ∀ a s, RsLe (f a s) (g a s)) : RsLe (x.bind f) (y.bind g) := by
  rcases h with h | h
  · subst h; exact .bd
  · subst h
    cases y with
    | ok a s => exact k a s
    | err e s => exact .rfl
    | bad => exact .rfl
theorem RsLe.asB {x y : Rs SV} (h : RsLe x y) : RsLe (asB x) (asB y) := h.bind fun _ _ => .rfl
theorem RsLe.asI {x y : Rs SV} (h : RsLe x y) : RsLe (asI x) (asI y) := h.bind fun _ _ => .rfl
theorem RsLe.solidB {x y : Rs SV} (h : RsLe x y) : RsLe (solidB x) (solidB y) := h.bind fun _ _ => .rfl
theorem walking_le {α : Type} {w : Walk} {s : Sta} {f g : Sta → Rs α} (h : ∀ s, RsLe (f s) (g s)) : RsLe (walking w s f) (walking w s g) := by
  unfold walking
  cases w.hid with
  | none => exact h s
  | some v =>
    rcases h (s.hide v) with q | q
    · simp only [q]; exact .bd
    · simp only [q]; exact .rfl
theorem compL_le {b b' : SV → Sta → Rs (Option SV)} (h : ∀ x s, RsLe (b x s) (b' x s)) : ∀ (xs acc : List SV) (s : Sta), RsLe (compL b xs acc s) (compL b' xs acc s)
  | [], acc, s => .rfl
  | x :: xs, acc, s => by
    unfold compL
    rcases h x s with q | q
    · simp only [q]; exact .bd
    · rw [q]
      cases b x s with
      | ok o s1 => cases o <;> exact compL_le h xs _ s1
      | err _ _ => exact .rfl
      | bad => exact .rfl
theorem compM_le {b b' : SV → List SV → Sta → Rs (List SV)} (h : ∀ x acc s, RsLe (b x acc s) (b' x acc s)) : ∀ (xs acc : List SV) (s : Sta), RsLe (compM b xs acc s) (compM b' xs acc s)
  | [], acc, s => .rfl
  | x :: xs, acc, s => by
    unfold compM
    rcases h x acc s with q | q
    · simp only [q]; exact .bd
    · rw [q]
      cases b x acc s with
      | ok o s1 => exact compM_le h xs _ s1
      | err _ _ => exact .rfl
      | bad => exact .rfl
theorem forL_le {b b' : SV → Sta → Rs Fl} (h : ∀ x s, RsLe (b x s) (b' x s)) : ∀ (xs : List SV) (s : Sta), RsLe (forL b xs s) (forL b' xs s)
  | [], s => .rfl
  | x :: xs, s => by
    unfold forL
    rcases h x s with q | q
    · simp only [q]; exact .bd
    · rw [q]
      cases b x s with
      | ok o s1 => cases o with
        | next => exact forL_le h xs s1
        | ret v => exact .rfl
      | err _ _ => exact .rfl
      | bad => exact .rfl
theorem whlL_le {c c' : Sta → Rs Bool} {b b' : Sta → Rs Fl} (hc : ∀ s, RsLe (c s) (c' s)) (h : ∀ s, RsLe (b s) (b' s)) : ∀ (n : Nat) (s : Sta), RsLe (whlL c b n s) (whlL c' b' n s)
  | 0, s => .rfl
  | n + 1, s => by
    unfold whlL
    rcases hc s with q | q
    · simp only [q]; exact .bd
    · rw [q]
      cases c s with
      | err _ _ => exact .rfl
      | bad => exact .rfl
      | ok k s1 =>
        cases k with
        | false => exact .rfl
        | true =>
          show RsLe (match b s1 with | .ok .next s2 => whlL c b n s2 | .ok (.ret v) s2 => .ok (.ret v) s2 | .err e s2 => .err e s2 | .bad => .bad) (match b' s1 with | .ok .next s2 => whlL c' b' n s2 | .ok (.ret v) s2 => .ok (.ret v) s2 | .err e s2 => .err e s2 | .bad => .bad)
          rcases h s1 with q | q
          · simp only [q]; exact .bd
          · rw [q]
            cases b s1 with
            | ok o s2 => cases o with
              | next => exact whlL_le hc h n s2
              | ret v => exact .rfl
            | err _ _ => exact .rfl
            | bad => exact .rfl
section
variable {P Q : Prog} (hp : PLe P Q)
include hp
theorem callR_le (f : Nat) (vs : List SV) (s : Sta) : RsLe (callR P f vs s) (callR Q f vs s) := by
  unfold callR
  cases lend vs s with
  | none => exact .rfl
  | some p =>
    obtain ⟨us, s1, m⟩ := p
    simp only
    rcases hp.run f us s1.heap with q | q
    · rw [q]; exact .bd
    · rw [q]; exact .rfl
theorem init_le : PLe P.init Q.init := ⟨hp.mk_, hp.mk_, hp.wf⟩
mutual
theorem evE_le : ∀ (e : Ex) (s : Sta), RsLe (evE P e s) (evE Q e s)
  | .slot i, s => by rw [evE, evE]; exact .rfl
  | .cst v, s => by rw [evE, evE]; exact .rfl
  | .glob _ v, s => by rw [evE, evE]; exact .rfl
  | .tup es, s => by rw [evE, evE]; exact (evEs_le es s).bind fun _ _ => .rfl
  | .fr f, s => by rw [evE, evE]; exact (evF_le f s).bind fun _ _ => .rfl
  | .new f, s => by rw [evE, evE]; exact (evF_le f s).bind fun _ _ => .rfl
  | .bin op a b, s => by rw [evE, evE]; exact (evE_le a s).bind fun _ s => (evE_le b s).bind fun _ _ => .rfl
  | .neg a, s => by rw [evE, evE]; exact (evE_le a s).asI.bind fun _ _ => .rfl
  | .lnot a, s => by rw [evE, evE]; exact (evE_le a s).asB.bind fun _ _ => .rfl
  | .land a b, s => by rw [evE, evE]; exact (evE_le a s).asB.bind fun c s => by cases c <;> first | exact evE_le b s | exact .rfl
  | .lor a b, s => by rw [evE, evE]; exact (evE_le a s).asB.bind fun c s => by cases c <;> first | exact evE_le b s | exact .rfl
  | .ife c a b, s => by rw [evE, evE]; exact (evE_le c s).asB.bind fun k s => by cases k <;> first | exact evE_le a s | exact evE_le b s
  | .cmp op a b, s => by rw [evE, evE]; exact (evE_le a s).bind fun _ s => (evE_le b s).bind fun _ _ => .rfl
  | .cmp2 op1 op2 a b c, s => by rw [evE, evE]; exact (evE_le a s).bind fun _ s => (evE_le b s).bind fun _ s => RsLe.rfl.bind fun k s => by cases k <;> first | exact (evE_le c s).bind fun _ _ => .rfl | exact .rfl
  | .isN a, s => by rw [evE, evE]; exact (evE_le a s).bind fun _ _ => .rfl
  | .notN a, s => by rw [evE, evE]; exact (evE_le a s).bind fun _ _ => .rfl
  | .isB a c, s => by rw [evE, evE]; exact (evE_le a s).asB.bind fun _ _ => .rfl
  | .notB a c, s => by rw [evE, evE]; exact (evE_le a s).asB.bind fun _ _ => .rfl
  | .idx a i, s => by rw [evE, evE]; exact (evE_le a s).bind fun _ s => (evE_le i s).bind fun _ _ => .rfl
  | .slc a lo hi, s => by rw [evE, evE]; exact (evE_le a s).bind fun _ s => (evO_le lo s).bind fun _ s => (evO_le hi s).bind fun _ _ => .rfl
  | .rev a, s => by rw [evE, evE]; exact (evE_le a s).bind fun _ _ => .rfl
  | .fld a f, s => by rw [evE, evE]; exact (evE_le a s).bind fun _ _ => .rfl
  | .call f es, s => by rw [evE, evE]; exact (evAs_le es s).bind fun vs s => callR_le hp f vs s
  | .blt f es, s => by rw [evE, evE]; exact (evAs_le es s).bind fun vs s => .rfl
  | .mth m a es, s => by
    rw [evE, evE]
    refine (evE_le a s).bind fun x s => ?_
    by_cases k : mthOk s m x = true
    · rw [if_pos k, if_pos k]; exact (evAs_le es s).bind fun _ _ => .rfl
    · rw [if_neg k, if_neg k]; exact .rfl
  | .own c m a es, s => by
    rw [evE, evE]
    refine (evE_le a s).bind fun x s => ?_
    cases s.cellOf x with
    | none => exact .rfl
    | some l => cases l with
      | ins d _ =>
        simp only
        by_cases k : c = d
        · rw [if_pos k, if_pos k]; exact (evAs_le es s).bind fun _ s => callR_le hp m _ s
        · rw [if_neg k, if_neg k]; exact .rfl
      | _ => exact .rfl
  | .make c m es, s => by rw [evE, evE]; exact (evAs_le es s).bind fun _ s => (callR_le (init_le hp) m _ _).bind fun _ _ => .rfl
  | .pop a, s => by rw [evE, evE]; exact (evE_le a s).bind fun _ _ => .rfl
  | .isi a ts, s => by rw [evE, evE]; exact (evE_le a s).bind fun _ _ => .rfl
  | .sumv a, s => by rw [evE, evE]; exact (evE_le a s).bind fun _ _ => .rfl
  | .tupR a, s => by rw [evE, evE]; exact (evE_le a s).asI.bind fun _ _ => .rfl
  | .bad, s => by rw [evE, evE]; exact .rfl
theorem evEs_le : ∀ (es : List Ex) (s : Sta), RsLe (evEs P es s) (evEs Q es s)
  | [], s => by rw [evEs, evEs]; exact .rfl
  | e :: r, s => by rw [evEs, evEs]; exact (evE_le e s).solidB.bind fun _ s => (evEs_le r s).bind fun _ _ => .rfl
theorem evAs_le : ∀ (es : List Ex) (s : Sta), RsLe (evAs P es s) (evAs Q es s)
  | [], s => by rw [evAs, evAs]; exact .rfl
  | e :: r, s => by rw [evAs, evAs]; exact (evE_le e s).bind fun _ s => (evAs_le r s).bind fun _ _ => .rfl
theorem evC_le : ∀ (c : Option Ex) (s : Sta), RsLe (evC P c s) (evC Q c s)
  | none, s => by rw [evC, evC]; exact .rfl
  | some c, s => by rw [evC, evC]; exact (evE_le c s).asB
theorem evO_le : ∀ (c : Option Ex) (s : Sta), RsLe (evO P c s) (evO Q c s)
  | none, s => by rw [evO, evO]; exact .rfl
  | some c, s => by rw [evO, evO]; exact (evE_le c s).asI.bind fun _ _ => .rfl
theorem evF_le : ∀ (f : Fx) (s : Sta), RsLe (evF P f s) (evF Q f s)
  | .lst es, s => by rw [evF, evF]; exact (evEs_le es s).bind fun _ _ => .rfl
  | .comp own t src c e, s => by
    rw [evF, evF]
    refine (evW_le src s).bind fun w s0 => walking_le fun s1 => ?_
    by_cases k : ownOk s1.env own = true
    · rw [if_pos k, if_pos k]
      refine (compL_le (fun x s => (evT_le t x _).bind fun _ s => (evC_le c s).bind fun k s => ?_) _ _ _).bind fun _ _ => .rfl
      cases k
      · exact .rfl
      · exact (evE_le e s).solidB.bind fun _ _ => .rfl
    · rw [if_neg k, if_neg k]; exact .rfl
  | .comp2 own own2 t src t2 src2 e, s => by
    rw [evF, evF]
    refine (evW_le src s).bind fun w s0 => ?_
    cases w.hid with
    | some _ => exact .rfl
    | none =>
      by_cases k : (ownOk s0.env own && own2.all own.contains) = true
      · dsimp only
        rw [if_pos k, if_pos k]
        refine (compM_le (fun x acc s => (evT_le t x _).bind fun _ s => (evW_le src2 s).bind fun w2 s => ?_) _ _ _).bind fun _ _ => .rfl
        cases w2.hid with
        | some _ => exact .rfl
        | none => exact compL_le (fun y s => (evT_le t2 y _).bind fun _ s => (evE_le e s).solidB.bind fun _ _ => .rfl) _ _ _
      · dsimp only
        rw [if_neg k, if_neg k]; exact .rfl
  | .add a b, s => by rw [evF, evF]; exact (evE_le a s).bind fun _ s => (evE_le b s).bind fun _ _ => .rfl
  | .mul a b, s => by rw [evF, evF]; exact (evE_le a s).bind fun _ s => (evE_le b s).asI.bind fun _ _ => .rfl
  | .list src, s => by rw [evF, evF]; exact (evW_le src s).bind fun _ _ => .rfl
  | .sorted a, s => by rw [evF, evF]; exact (evE_le a s).bind fun _ _ => .rfl
  | .sortedK a, s => by rw [evF, evF]; exact (evE_le a s).bind fun _ _ => .rfl
  | .sortk a, s => by rw [evF, evF]; exact (evE_le a s).bind fun _ _ => .rfl
  | .setl a, s => by rw [evF, evF]; exact (evE_le a s).bind fun _ _ => .rfl
  | .dct t kvs, s => by rw [evF, evF]; exact (evEs_le kvs s).bind fun _ _ => .rfl
  | .dict a, s => by rw [evF, evF]; exact (evE_le a s).bind fun _ _ => .rfl
  | .ife c a b, s => by rw [evF, evF]; exact (evE_le c s).asB.bind fun k s => by cases k <;> first | exact evF_le a s | exact evF_le b s
  | .slc a lo hi, s => by rw [evF, evF]; exact (evE_le a s).bind fun _ s => (evO_le lo s).bind fun _ s => (evO_le hi s).bind fun _ _ => .rfl
  | .rev a, s => by rw [evF, evF]; exact (evE_le a s).bind fun _ _ => .rfl
  | .bad, s => by rw [evF, evF]; exact .rfl
theorem evW_le : ∀ (w : Src) (s : Sta), RsLe (evW P w s) (evW Q w s)
  | .vals e, s => by rw [evW, evW]; exact (evE_le e s).bind fun _ _ => .rfl
  | .keys e, s => by rw [evW, evW]; exact (evE_le e s).bind fun _ _ => .rfl
  | .chars e, s => by rw [evW, evW]; exact (evE_le e s).bind fun _ _ => .rfl
  | .rng none b, s => by rw [evW, evW]; exact (evE_le b s).asI.bind fun _ _ => .rfl
  | .rng (some a) b, s => by rw [evW, evW]; exact (evE_le a s).asI.bind fun _ s => (evE_le b s).asI.bind fun _ _ => .rfl
  | .rng3 a b c, s => by rw [evW, evW]; exact (evE_le a s).asI.bind fun _ s => (evE_le b s).asI.bind fun _ s => (evE_le c s).asI.bind fun _ _ => .rfl
  | .enum e, s => by rw [evW, evW]; exact (evE_le e s).bind fun _ _ => .rfl
  | .zip a b, s => by rw [evW, evW]; exact (evE_le a s).bind fun _ s => (evE_le b s).bind fun _ _ => .rfl
  | .bad, s => by rw [evW, evW]; exact .rfl
theorem evT_le : ∀ (t : Tg) (v : SV) (s : Sta), RsLe (evT P t v s) (evT Q t v s)
  | .nm i, v, s => by rw [evT, evT]; exact .rfl
  | .tp ts, v, s => by
    rw [evT, evT]
    cases s.seq v with
    | none => exact .rfl
    | some xs =>
      simp only
      by_cases k : xs.length = ts.length
      · rw [if_pos k, if_pos k]; exact evTs_le ts xs s
      · rw [if_neg k, if_neg k]; exact .rfl
  | .sub o i, v, s => by rw [evT, evT]; exact (evE_le o s).bind fun _ s => (evE_le i s).bind fun _ _ => .rfl
  | .fld o _ f, v, s => by rw [evT, evT]; exact (evE_le o s).bind fun _ _ => .rfl
theorem evTs_le : ∀ (t : List Tg) (v : List SV) (s : Sta), RsLe (evTs P t v s) (evTs Q t v s)
  | [], [], s => by rw [evTs, evTs]; exact .rfl
  | t :: ts, v :: vs, s => by rw [evTs, evTs]; exact (evT_le t v s).bind fun _ s => evTs_le ts vs s
  | [], _ :: _, s => by simp only [evTs]; exact .rfl
  | _ :: _, [], s => by simp only [evTs]; exact .rfl
end
theorem evRs_le : ∀ (es : List Rh) (s : Sta), RsLe (evRs P es s) (evRs Q es s)
  | [], s => by rw [evRs, evRs]; exact .rfl
  | .ex e :: r, s => by rw [evRs, evRs]; exact (evE_le hp e s).solidB.bind fun _ s => (evRs_le r s).bind fun _ _ => .rfl
  | .fx e :: r, s => by rw [evRs, evRs]; exact (evF_le hp e s).bind fun _ s => (evRs_le r s).bind fun _ _ => .rfl
theorem stRs_le : ∀ (ts : List Tg) (vs : List RV) (s : Sta), RsLe (stRs P ts vs s) (stRs Q ts vs s)
  | [], [], s => by rw [stRs, stRs]; exact .rfl
  | t :: ts, .v v :: r, s => by rw [stRs, stRs]; exact (evT_le hp t v s).bind fun _ s => stRs_le ts r s
  | .nm i :: ts, .c c :: r, s => by rw [stRs, stRs]; exact stRs_le ts r _
  | [], _ :: _, s => by simp only [stRs]; exact .rfl
  | _ :: _, [], s => by simp only [stRs]; exact .rfl
  | .tp _ :: _, .c _ :: _, s => by simp only [stRs]; exact .rfl
  | .sub _ _ :: _, .c _ :: _, s => by simp only [stRs]; exact .rfl
  | .fld _ _ _ :: _, .c _ :: _, s => by simp only [stRs]; exact .rfl
mutual
theorem evS_le : ∀ (x : Sm) (s : Sta), RsLe (evS P x s) (evS Q x s)
  | .asg t e, s => by rw [evS, evS]; exact (evE_le hp e s).solidB.bind fun v s => (evT_le hp t v s).bind fun _ _ => .rfl
  | .box i f, s => by rw [evS, evS]; exact (evF_le hp f s).bind fun _ _ => .rfl
  | .asgs ts es, s => by
    rw [evS, evS]
    refine (evRs_le hp es s).bind fun vs s => ?_
    by_cases k : vs.length = ts.length
    · rw [if_pos k, if_pos k]; exact (stRs_le hp ts vs s).bind fun _ _ => .rfl
    · rw [if_neg k, if_neg k]; exact .rfl
  | .augN i op e, s => by
    rw [evS, evS]
    split
    · exact (evE_le hp e s).asI.bind fun _ _ => .rfl
    · exact .rfl
  | .augS o i op e, s => by
    rw [evS, evS]
    refine (evE_le hp o s).bind fun x s => (evE_le hp i s).bind fun y s => ?_
    split
    · exact (evE_le hp e s).asI.bind fun _ _ => .rfl
    · exact .rfl
  | .augF o f op e, s => by
    rw [evS, evS]
    refine (evE_le hp o s).bind fun x s => ?_
    split
    · exact (evE_le hp e s).asI.bind fun _ _ => .rfl
    · exact .rfl
  | .ex e, s => by rw [evS, evS]; exact (evE_le hp e s).bind fun _ _ => .rfl
  | .app o e, s => by
    rw [evS, evS]
    refine (evE_le hp o s).bind fun x s => ?_
    split
    · exact (evE_le hp e s).solidB.bind fun _ _ => .rfl
    · exact .rfl
  | .ret e, s => by rw [evS, evS]; exact (evE_le hp e s).solidB.bind fun _ _ => .rfl
  | .ife c a b, s => by rw [evS, evS]; exact (evE_le hp c s).asB.bind fun k s => by cases k <;> first | exact evB_le a s | exact evB_le b s
  | .for_ t src b, s => by rw [evS, evS]; exact (evW_le hp src s).bind fun w s => RsLe.rfl.bind fun _ s => forL_le (fun x s => (evT_le hp t x s).bind fun _ s => evB_le b s) _ _
  | .whl c b, s => by rw [evS, evS, hp.wf]; exact whlL_le (fun s => (evE_le hp c s).asB) (fun s => evB_le b s) _ _
  | .rse c none, s => by rw [evS, evS]; exact .rfl
  | .rse c (some e), s => by rw [evS, evS]; exact (evE_le hp e s).bind fun _ _ => .rfl
  | .try_ b i j c y n, s => by
    rw [evS, evS]
    rcases evB_le b s with q | q
    · rw [q]; exact .inl rfl
    · rw [q]; exact .inr rfl
  | .pass, s => by rw [evS, evS]; exact .rfl
  | .bad, s => by rw [evS, evS]; exact .rfl
theorem evB_le : ∀ (x : List Sm) (s : Sta), RsLe (evB P x s) (evB Q x s)
  | [], s => by rw [evB, evB]; exact .rfl
  | x :: r, s => by
    rw [evB, evB]
    refine (evS_le x s).bind fun f s => ?_
    cases f with
    | next => exact evB_le r s
    | ret v => exact .rfl
end
theorem runB_le (f : Fn) (vs : List SV) (h : List Cel) : RcLe (runB P f vs h) (runB Q f vs h) := by
  unfold runB
  split
  · rcases evB_le hp f.body { env := vs.map .val ++ List.replicate (f.slots - f.pars) .emp, heap := h } with q | q
    · rw [q]; exact .inl rfl
    · rw [q]; exact .inr rfl
  · exact .inr rfl
end
theorem RcLe.refl {x : RC} : RcLe x x := .inr rfl
theorem RcLe.trans {x y z : RC} (a : RcLe x y) (b : RcLe y z) : RcLe x z := by
  rcases a with a | a
  · exact .inl a
  · subst a; exact b
theorem runN_le (T : Tab) (wf : Nat) : ∀ (n j f : Nat) (vs : List SV) (h : List Cel), RcLe (runN T wf n f vs h) (runN T wf (j + n) f vs h) ∧ RcLe (mkN T wf n f vs h) (mkN T wf (j + n) f vs h)
  | 0, j, f, vs, h => ⟨.inl rfl, .inl rfl⟩
  | n + 1, j, f, vs, h => by
    refine ⟨?_, ?_⟩
    · rw [← Nat.add_assoc, runN_succ, runN_succ]
      cases T f with
      | none => exact .refl
      | some fn => exact runB_le (P := ⟨runN T wf n, mkN T wf n, wf⟩) (Q := ⟨runN T wf (j + n), mkN T wf (j + n), wf⟩) ⟨fun f vs h => (runN_le T wf n j f vs h).1, fun f vs h => (runN_le T wf n j f vs h).2, rfl⟩ fn vs h
    · rw [← Nat.add_assoc, mkN_succ, mkN_succ]
      exact (runN_le T wf n j f vs h).1
mutual
def SV.same : SV → SV → Bool
  | .non, .non => true
  | .bl a, .bl b => a == b
  | .int a, .int b => a == b
  | .str a, .str b => a == b
  | .tup a, .tup b => SV.sames a b
  | .lst a, .lst b => SV.sames a b
  | .ref a, .ref b => a == b
  | _, _ => false
def SV.sames : List SV → List SV → Bool
  | [], [] => true
  | x :: xs, y :: ys => x.same y && SV.sames xs ys
  | _, _ => false
end
mutual
theorem SV.same_eq : ∀ {a b : SV}, a.same b = true → a = b
  | .non, b, h => by cases b <;> first | rfl | (simp [SV.same] at h)
  | .bl _, b, h => by cases b <;> first | (simp [SV.same] at h; done) | (simp [SV.same] at h; rw [h])
  | .int _, b, h => by cases b <;> first | (simp [SV.same] at h; done) | (simp [SV.same] at h; rw [h])
  | .str _, b, h => by cases b <;> first | (simp [SV.same] at h; done) | (simp [SV.same] at h; rw [h])
  | .tup _, b, h => by cases b <;> first | (simp [SV.same] at h; done) | (rw [SV.same] at h; rw [SV.sames_eq h])
  | .lst _, b, h => by cases b <;> first | (simp [SV.same] at h; done) | (rw [SV.same] at h; rw [SV.sames_eq h])
  | .dct _ _, b, h => by cases b <;> simp [SV.same] at h
  | .scr _, b, h => by cases b <;> simp [SV.same] at h
  | .ref _, b, h => by cases b <;> first | (simp [SV.same] at h; done) | (simp [SV.same] at h; rw [h])
  | .view _, b, h => by cases b <;> simp [SV.same] at h
theorem SV.sames_eq : ∀ {a b : List SV}, SV.sames a b = true → a = b
  | [], b, h => by cases b <;> first | rfl | (simp [SV.sames] at h)
  | x :: xs, b, h => by
    cases b with
    | nil => simp [SV.sames] at h
    | cons y ys =>
      rw [SV.sames, Bool.and_eq_true] at h
      rw [SV.same_eq h.1, SV.sames_eq h.2]
end
/-- a call with nothing on the heap but a hidden script: how deep, def, arguments, answer -/
structure Ment where
  k : Nat
  f : Nat
  vs : List SV
  r : SV
def isDead1 : List Cel → Bool
  | [.dead] => true
  | _ => false
theorem isDead1_eq {h : List Cel} (q : isDead1 h = true) : h = [.dead] := by
  unfold isDead1 at q
  split at q
  · rfl
  · cases q
def Ment.hit (n f : Nat) (vs : List SV) : List Ment → Option SV
  | [] => none
  | e :: r => if Nat.beq e.f f && Nat.ble e.k n && SV.sames e.vs vs then some e.r else Ment.hit n f vs r
def stepM (T : Tab) (wf : Nat) (M : List Ment) (n : Nat) (p : (Nat → List SV → List Cel → RC) × (Nat → List SV → List Cel → RC)) : (Nat → List SV → List Cel → RC) × (Nat → List SV → List Cel → RC) :=
  (fun f vs h => match (if isDead1 h then Ment.hit (n + 1) f vs M else none) with
    | some r => .ok r [.dead]
    | none => match T f with
      | some fn => runB ⟨p.1, p.2, wf⟩ fn vs h
      | none => .bad, p.1)
def runQ (T : Tab) (wf : Nat) (M : List Ment) : Nat → (Nat → List SV → List Cel → RC) × (Nat → List SV → List Cel → RC)
  | 0 => (badRun, badRun)
  | n + 1 => stepM T wf M n (runQ T wf M n)
def runM (T : Tab) (wf : Nat) (M : List Ment) (n : Nat) : Nat → List SV → List Cel → RC := (runQ T wf M n).1
theorem Ment.hit_mem {n f : Nat} {vs : List SV} : ∀ {M : List Ment} {r : SV}, Ment.hit n f vs M = some r → ∃ e ∈ M, e.k ≤ n ∧ e.f = f ∧ e.vs = vs ∧ e.r = r
  | [], r, h => by cases h
  | e :: M, r, h => by
    unfold Ment.hit at h
    split at h
    · rename_i q
      rw [Bool.and_eq_true, Bool.and_eq_true] at q
      cases h
      exact ⟨e, List.mem_cons_self, Nat.le_of_ble_eq_true q.1.2, Nat.eq_of_beq_eq_true q.1.1, SV.sames_eq q.2, rfl⟩
    · obtain ⟨e', h1, h2⟩ := Ment.hit_mem h
      exact ⟨e', List.mem_cons_of_mem _ h1, h2⟩
/-- the answers hold -/
def MOk (T : Tab) (wf : Nat) (M : List Ment) : Prop := ∀ e ∈ M, runN T wf e.k e.f e.vs [.dead] = .ok e.r [.dead]
theorem runQ_le {T : Tab} {wf : Nat} {M : List Ment} (hM : MOk T wf M) : ∀ (n f : Nat) (vs : List SV) (h : List Cel), RcLe ((runQ T wf M n).1 f vs h) (runN T wf n f vs h) ∧ RcLe ((runQ T wf M n).2 f vs h) (mkN T wf n f vs h)
  | 0, f, vs, h => ⟨.inl rfl, .inl rfl⟩
  | n + 1, f, vs, h => by
    refine ⟨?_, (runQ_le hM n f vs h).1⟩
    show RcLe (match (if isDead1 h then Ment.hit (n + 1) f vs M else none) with
      | some r => .ok r [.dead]
      | none => match T f with
        | some fn => runB ⟨(runQ T wf M n).1, (runQ T wf M n).2, wf⟩ fn vs h
        | none => .bad) _
    split
    · rename_i r q
      split at q
      · rename_i hd
        obtain ⟨e, he, hk, rfl, rfl, rfl⟩ := Ment.hit_mem q
        have hd := isDead1_eq hd
        subst hd
        obtain ⟨j, hj⟩ := Nat.le.dest hk
        have := (runN_le T wf e.k j e.f e.vs [.dead]).1
        rw [hM e he, Nat.add_comm, hj] at this
        exact this
      · cases q
    · rw [runN_succ]
      cases T f with
      | none => exact .refl
      | some fn => exact runB_le (P := ⟨(runQ T wf M n).1, (runQ T wf M n).2, wf⟩) (Q := ⟨runN T wf n, mkN T wf n, wf⟩) ⟨fun f vs h => (runQ_le hM n f vs h).1, fun f vs h => (runQ_le hM n f vs h).2, rfl⟩ fn vs h
theorem runM_le {T : Tab} {wf : Nat} {M : List Ment} (hM : MOk T wf M) (n f : Nat) (vs : List SV) (h : List Cel) : RcLe (runM T wf M n f vs h) (runN T wf n f vs h) := (runQ_le hM n f vs h).1
def okV (r : SV) : RC → Bool
  | .ok v h => v.same r && isDead1 h
  | _ => false
theorem okV_eq {r : SV} {x : RC} (h : okV r x = true) : x = .ok r [.dead] := by
  cases x with
  | ok v hp =>
    unfold okV at h
    rw [Bool.and_eq_true] at h
    rw [SV.same_eq h.1, isDead1_eq h.2]
  | err _ _ => cases h
  | bad => cases h
theorem MOk.nil {T : Tab} {wf : Nat} : MOk T wf [] := fun _ h => nomatch h
/-- one more answer -/
theorem MOk.add {T : Tab} {wf : Nat} {M : List Ment} (hM : MOk T wf M) {e : Ment} (h : okV e.r (runM T wf M e.k e.f e.vs [.dead]) = true) : MOk T wf (e :: M) := fun e' he => by
  rcases List.mem_cons.mp he with q | q
  · subst q
    have h := okV_eq h
    have := runM_le hM e'.k e'.f e'.vs [.dead]
    rw [h] at this
    rcases this with q | q
    · cases q
    · exact q
  · exact hM e' q
def okT (r : RC) : Bool := match r with | .ok (.bl true) _ => true | _ => false
theorem ok_of {r : RC} (h : okT r = true) : ∃ h, r = .ok (.bl true) h := by
  unfold okT at h
  split at h
  · exact ⟨_, rfl⟩
  · cases h
theorem MOk.law {T : Tab} {wf : Nat} {M : List Ment} (hM : MOk T wf M) {n f : Nat} {vs : List SV} {h : List Cel} (q : okT (runM T wf M n f vs h) = true) : ∃ h', runN T wf n f vs h = .ok (.bl true) h' := by
  obtain ⟨h', q⟩ := ok_of q
  have := runM_le hM n f vs h
  rw [q] at this
  rcases this with r | r
  · cases r
  · exact ⟨h', r⟩
end Mp

namespace Mq
open PySem PySem.Spec PyProof.Rows L2 Mp
def keyOf : SV → Option Key
  | .int i => some (.inl i)
  | .str s => some (.inr ⟨s.toArray⟩)
  | _ => none
mutual
def nkeyOf : SV → Option NestedKey
  | .int i => some (.num i)
  | .tup xs => (nkeysOf xs).map .tup
  | _ => none
def nkeysOf : List SV → Option (List NestedKey)
  | [] => some []
  | x :: xs => (nkeyOf x).bind fun k => (nkeysOf xs).map (List.cons k)
end
/-- at a stands a dict of these entries, the keys being tuples -/
def NxAt (a : Addr) (xs : List (NestedKey × Addr × Value)) : Heap → Prop := fun h => ∃ (P : Program) (w : World) (o : Obj) (es : Array DictEntry) (ep : Nat), h.get? a = some o ∧ o.ExactDict ∧ o.data = .dict es ep ∧ es.toList = xs.map (entryOfKey (nestedKind P w))
def nxO (a : Addr) (xs : List (NestedKey × Addr × Value)) : HO := .ext (NxAt a xs)
mutual
def Rep (K : PySem.W.Frag) (F : Hp) (c : Nat → Addr) (len : Nat) : SV → V → Prop
  | .non, v => v = .non
  | .bl b, v => v = .bl b
  | .int i, v => v = .int i
  | .str s, v => v = .str ⟨s.toArray⟩
  | .tup xs, v => ∃ a o vs, v = .ref a ∧ F a = some (.frz o (.tup vs)) ∧ o.dict = none ∧ RepL K F c len xs vs
  | .lst xs, v => ∃ a vs, v = .ref a ∧ F a = some (.lst vs) ∧ RepL K F c len xs vs
  | .scr xs, v => ∃ a vs, v = .ref a ∧ (SqL K F a vs ∨ SqT K F a vs) ∧ RepL K F c len xs vs
  | .dct ks ws, v => ∃ a, v = .ref a ∧ ((∃ kvs : List (Key × V), F a = some (.dK kvs) ∧ ks.map keyOf = kvs.map (fun p => some p.1) ∧ RepL K F c len ws (kvs.map (·.2))) ∨
      (∃ b xs vs, F a = some (nxO b xs) ∧ ks.map nkeyOf = xs.map (fun x => some x.1) ∧ (ks ≠ [] ∧ xs.length ≤ sizeLine ∧ (b == sysModules) = false ∧ (xs.map (·.1)).Nodup ∧ ks.all SV.key = true ∧ Vals vs (xs.map (·.2.2))) ∧
        RepL K F c len ks (xs.map fun x => V.ref x.2.1) ∧ RepL K F c len ws vs))
  | .ref n, v => n < len ∧ v = .ref (c n)
  | .view _, _ => False
def RepL (K : PySem.W.Frag) (F : Hp) (c : Nat → Addr) (len : Nat) : List SV → List V → Prop
  | [], vs => vs = []
  | x :: xs, vs => ∃ y ys, vs = y :: ys ∧ Rep K F c len x y ∧ RepL K F c len xs ys
end
inductive Pl where | cell (n : Nat) | box (i : Nat)
structure Gh where
  F : Hp
  c : Nat → Addr
  b : Nat → Addr
def Gh.at (g : Gh) : Pl → Addr | .cell n => g.c n | .box i => g.b i
def live? : Cel → Option Cel | .dead => none | c => some c
def at? (st : Sta) : Pl → Option Cel
  | .cell n => (st.heap[n]?).bind live?
  | .box i => match st.env[i]? with | some (.box c) => live? c | _ => none
/-- the names of classes, of fields -/
def clsN : Nat → Str
  | 0 => "Reader" | 1 => "Cells" | _ => "LoopReader"
def fldN : Nat → Str
  | 0 => "text" | 1 => "at" | 2 => "flow" | 3 => "room" | 4 => "some" | 5 => "heads" | 6 => "index" | 7 => "most" | _ => "place"
def CellRep (K : PySem.W.Frag) (F : Hp) (c : Nat → Addr) (len : Nat) : Cel → HO → Prop
  | .lst xs, o => ∃ vs, o = .lst vs ∧ RepL K F c len xs vs
  | .dct ks ws, o => (∃ kvs : List (Key × V), o = .dK kvs ∧ ks.map keyOf = kvs.map (fun p => some p.1) ∧ RepL K F c len ws (kvs.map (·.2))) ∨
      (∃ b xs vs, o = nxO b xs ∧ ks.map nkeyOf = xs.map (fun x => some x.1) ∧ (ks ≠ [] ∧ xs.length ≤ sizeLine ∧ (b == sysModules) = false ∧ (xs.map (·.1)).Nodup ∧ ks.all SV.key = true ∧ Vals vs (xs.map (·.2.2))) ∧
        RepL K F c len ks (xs.map fun x => V.ref x.2.1) ∧ RepL K F c len ws vs)
  | .ins k fs, o => (∃ dx fv, o = .ins (He.ga K (clsN k)) dx fv ∧ fv.map (·.1) = fs.map (fun p => fldN p.1) ∧ RepL K F c len (fs.map (·.2)) (fv.map (·.2))) ∧ Cls K (He.ga K (clsN k)) ∧ ∀ p ∈ fs, p.1 ≤ 8 ∧ NoAttr K (He.ga K (clsN k)) (fldN p.1)
  | _, _ => False
structure Rel (K : PySem.W.Frag) (g : Gh) (st : Sta) (σ : L2.St) (H : Hp) : Prop where
  sub : ∀ a o, g.F a = some o → H a = some o
  loc : ∀ l c, at? st l = some c → g.F (g.at l) = none ∧ ∃ o, H (g.at l) = some o ∧ CellRep K g.F g.c st.heap.length c o
  inj : ∀ l l' c c', at? st l = some c → at? st l' = some c' → g.at l = g.at l' → l = l'
  slot : ∀ (i : Nat) (v : SV), st.env[i]? = some (.val v) → ∃ x, σ[i]? = some (some x) ∧ Rep K g.F g.c st.heap.length v x
  box : ∀ (i : Nat) (c : Cel), st.env[i]? = some (.box c) → σ[i]? = some (some (.ref (g.b i)))
  len : st.env.length = σ.length
def LiveA (g : Gh) (st : Sta) (a : Addr) : Prop := ∃ l c, at? st l = some c ∧ g.at l = a
structure Grow (g : Gh) (st : Sta) (H : Hp) (g' : Gh) (st' : Sta) (H' : Hp) : Prop where
  keep : ∀ a o, H a = some o → ¬ LiveA g st a → H' a = some o
  dom : ∀ a o, H a = some o → ∃ o', H' a = some o'
  fr : ∀ a o, g.F a = some o → g'.F a = some o
  cells : ∀ n, n < st.heap.length → g'.c n = g.c n
  hlen : st.heap.length ≤ st'.heap.length
  live : ∀ a, LiveA g' st' a → LiveA g st a ∨ H a = none
  new : ∀ a o, g'.F a = some o → g.F a = some o ∨ H a = none ∨ LiveA g st a
theorem Grow.refl (g : Gh) (st : Sta) (H : Hp) : Grow g st H g st H :=
  ⟨fun _ _ e _ => e, fun _ o e => ⟨o, e⟩, fun _ _ e => e, fun _ _ => rfl, Nat.le_refl _, fun _ h => .inl h, fun _ _ e => .inl e⟩
theorem Grow.trans {g g1 g2 : Gh} {st st1 st2 : Sta} {H H1 H2 : Hp} (a : Grow g st H g1 st1 H1) (b : Grow g1 st1 H1 g2 st2 H2) : Grow g st H g2 st2 H2 where
  keep := fun x o e n => b.keep x o (a.keep x o e n) fun l => by
    rcases a.live x l with h | h
    · exact n h
    · rw [e] at h; cases h
  dom := fun x o e => let ⟨o1, e1⟩ := a.dom x o e; b.dom x o1 e1
  fr := fun x o e => b.fr x o (a.fr x o e)
  cells := fun n h => (b.cells n (Nat.lt_of_lt_of_le h a.hlen)).trans (a.cells n h)
  hlen := Nat.le_trans a.hlen b.hlen
  live := fun x l => by
    rcases b.live x l with h | h
    · exact a.live x h
    · refine .inr ?_
      cases e : H x with
      | none => rfl
      | some o => obtain ⟨o', e'⟩ := a.dom x o e; rw [h] at e'; cases e'
  new := fun x o e => by
    have back : H1 x = none → H x = none := fun h => by
      cases e : H x with
      | none => rfl
      | some o => obtain ⟨o', e'⟩ := a.dom x o e; rw [h] at e'; cases e'
    rcases b.new x o e with h | h | h
    · exact a.new x o h
    · exact .inr (.inl (back h))
    · rcases a.live x h with h | h
      · exact .inr (.inr h)
      · exact .inr (.inl h)
theorem SqT.up {K : PySem.W.Frag} {F F' : Hp} (h : ∀ a o, F a = some o → F' a = some o) {a : Addr} {vs : List V} (s : SqT K F a vs) : SqT K F' a vs := by
  rcases s with s | s
  · rcases s with s | ⟨o, s⟩
    · exact .inl (.inl (h _ _ s))
    · exact .inl (.inr ⟨o, h _ _ s⟩)
  · exact .inr s
theorem SqL.up {K : PySem.W.Frag} {F F' : Hp} (h : ∀ a o, F a = some o → F' a = some o) {a : Addr} {vs : List V} (s : SqL K F a vs) : SqL K F' a vs := by
  rcases s with s | s
  · rcases s with s | ⟨o, s⟩
    · exact .inl (.inl (h _ _ s))
    · exact .inl (.inr ⟨o, h _ _ s⟩)
  · exact .inr s
section
variable {K : PySem.W.Frag} {F F' : Hp} {c c' : Nat → Addr} {len len' : Nat}
mutual
theorem Rep.up (h : ∀ a o, F a = some o → F' a = some o) (hc : ∀ n, n < len → c' n = c n) (hl : len ≤ len') : ∀ (x : SV) (v : V), Rep K F c len x v → Rep K F' c' len' x v
  | .non, _, r => r
  | .bl _, _, r => r
  | .int _, _, r => r
  | .str _, _, r => r
  | .tup xs, _, r => by
    obtain ⟨a, o, vs, e, s, od, r⟩ := r
    exact ⟨a, o, vs, e, h _ _ s, od, RepL.up h hc hl xs vs r⟩
  | .lst xs, _, r => by
    obtain ⟨a, vs, e, s, r⟩ := r
    exact ⟨a, vs, e, h _ _ s, RepL.up h hc hl xs vs r⟩
  | .scr xs, _, r => by
    obtain ⟨a, vs, e, s, r⟩ := r
    exact ⟨a, vs, e, s.imp (SqL.up h) (SqT.up h), RepL.up h hc hl xs vs r⟩
  | .dct ks ws, _, r => by
    obtain ⟨a, e, r⟩ := r
    rcases r with ⟨kvs, e1, e2, r⟩ | ⟨b, xs, vs, e1, e2, e3, r1, r⟩
    · exact ⟨a, e, .inl ⟨kvs, h _ _ e1, e2, RepL.up h hc hl ws _ r⟩⟩
    · exact ⟨a, e, .inr ⟨b, xs, vs, h _ _ e1, e2, e3, RepL.up h hc hl ks _ r1, RepL.up h hc hl ws _ r⟩⟩
  | .ref n, _, r => ⟨Nat.lt_of_lt_of_le r.1 hl, by rw [hc n r.1]; exact r.2⟩
  | .view _, _, r => r.elim
theorem RepL.up (h : ∀ a o, F a = some o → F' a = some o) (hc : ∀ n, n < len → c' n = c n) (hl : len ≤ len') : ∀ (x : List SV) (v : List V), RepL K F c len x v → RepL K F' c' len' x v
  | [], _, r => r
  | x :: xs, _, r => by
    obtain ⟨y, ys, e, r1, r2⟩ := r
    exact ⟨y, ys, e, Rep.up h hc hl x y r1, RepL.up h hc hl xs ys r2⟩
end
theorem CellRep.up (h : ∀ a o, F a = some o → F' a = some o) (hc : ∀ n, n < len → c' n = c n) (hl : len ≤ len') {x : Cel} {o : HO} (r : CellRep K F c len x o) : CellRep K F' c' len' x o := by
  cases x with
  | dead => exact r
  | ins _ _ => obtain ⟨⟨dx, fv, e, e2, r⟩, q⟩ := r; exact ⟨⟨dx, fv, e, e2, RepL.up h hc hl _ _ r⟩, q⟩
  | lst xs => obtain ⟨vs, e, r⟩ := r; exact ⟨vs, e, RepL.up h hc hl _ _ r⟩
  | dct ks ws =>
    rcases r with ⟨kvs, e1, e2, r⟩ | ⟨b, xs, vs, e1, e2, e3, r1, r⟩
    · exact .inl ⟨kvs, e1, e2, RepL.up h hc hl ws _ r⟩
    · exact .inr ⟨b, xs, vs, e1, e2, e3, RepL.up h hc hl ks _ r1, RepL.up h hc hl ws _ r⟩
theorem RepL.length : ∀ {xs : List SV} {vs : List V}, RepL K F c len xs vs → xs.length = vs.length
  | [], _, r => by rw [show _ = [] from r]; rfl
  | x :: xs, _, r => by obtain ⟨y, ys, e, _, r⟩ := r; subst e; simp [RepL.length r]
theorem RepL.append : ∀ {xs ys : List SV} {us vs : List V}, RepL K F c len xs us → RepL K F c len ys vs → RepL K F c len (xs ++ ys) (us ++ vs)
  | [], _, _, _, r, q => by rw [show _ = [] from r]; exact q
  | x :: xs, _, _, _, r, q => by
    obtain ⟨v, vs, e1, r1, r2⟩ := r
    subst e1
    exact ⟨v, _, rfl, r1, RepL.append r2 q⟩
theorem RepL.set : ∀ {xs : List SV} {us : List V} {i : Nat} {x : SV} {v : V}, RepL K F c len xs us → Rep K F c len x v → RepL K F c len (xs.set i x) (us.set i v)
  | [], _, _, _, _, r, q => by rw [show _ = [] from r]; exact rfl
  | x :: xs, _, 0, _, _, r, q => by
    obtain ⟨v, vs, e1, r1, r2⟩ := r
    subst e1
    exact ⟨_, _, rfl, q, r2⟩
  | x :: xs, _, i + 1, _, _, r, q => by
    obtain ⟨v, vs, e1, r1, r2⟩ := r
    subst e1
    exact ⟨_, _, rfl, r1, RepL.set r2 q⟩
theorem RepL.take : ∀ {xs : List SV} {us : List V} (n : Nat), RepL K F c len xs us → RepL K F c len (xs.take n) (us.take n)
  | [], _, n, r => by rw [show _ = [] from r]; simp; exact rfl
  | x :: xs, us, 0, r => rfl
  | x :: xs, _, n + 1, r => by
    obtain ⟨v, vs, e1, r1, r2⟩ := r
    subst e1
    exact ⟨_, _, rfl, r1, RepL.take n r2⟩
theorem RepL.drop : ∀ {xs : List SV} {us : List V} (n : Nat), RepL K F c len xs us → RepL K F c len (xs.drop n) (us.drop n)
  | [], _, n, r => by rw [show _ = [] from r]; simp; exact rfl
  | x :: xs, us, 0, r => r
  | x :: xs, _, n + 1, r => by
    obtain ⟨v, vs, e1, r1, r2⟩ := r
    subst e1
    exact RepL.drop n r2
end
end Mq

namespace Mq
open PySem PySem.Spec PyProof.Rows L2 Mp
/-- what x is for the value v, slots at σ -/
def RepV (K : PySem.W.Frag) (g : Gh) (st : Sta) (σ : L2.St) (v : SV) (x : V) : Prop := match v with
  | .view i => σ[i]? = some (some x)
  | v => Rep K g.F g.c st.heap.length v x
abbrev ErT := Er → Gh → Sta → Value → Option Addr → Hp → Prop
/-- what is wanted of an end -/
def Out {α : Type} (K : PySem.W.Frag) (E : ErT) (W : WX) (g : Gh) (st : Sta) (σ : L2.St) (H : Hp) (Q : α → Gh → Sta → Hp → Prop) : Rs α → Prop
  | .ok a st' => ∀ g' H', Grow g st H g' st' H' → Rel K g' st' σ H' → Q a g' st' H'
  | .err e st' => ∀ g' H' cls d, Grow g st H g' st' H' → Rel K g' st' σ H' → E e g' st' cls d H' → W cls d σ H'
  | .bad => False
section
variable {K : PySem.W.Frag} {E : ErT} {W : WX} {g g1 : Gh} {st st1 : Sta} {σ : L2.St} {H H1 : Hp}
theorem Out.from {α : Type} {Q : α → Gh → Sta → Hp → Prop} {r : Rs α} (h : Out K E W g st σ H Q r) (G : Grow g st H g1 st1 H1) : Out K E W g1 st1 σ H1 Q r := by
  cases r with
  | ok a s => exact fun g' H' G' R => h g' H' (G.trans G') R
  | err e s => exact fun g' H' cls d G' R e => h g' H' cls d (G.trans G') R e
  | bad => exact h
theorem Out.imp {α : Type} {Q Q' : α → Gh → Sta → Hp → Prop} {r : Rs α} (h : Out K E W g st σ H Q r) (hq : ∀ a g' st' H', Q a g' st' H' → Q' a g' st' H') : Out K E W g st σ H Q' r := by
  cases r with
  | ok a s => exact fun g' H' G' R => hq _ _ _ _ (h g' H' G' R)
  | err e s => exact h
  | bad => exact h
/-- the first part of a run -/
theorem Out.bind {α β : Type} {Q : β → Gh → Sta → Hp → Prop} {r : Rs α} {k : α → Sta → Rs β} (h : Out K E W g st σ H Q (r.bind k)) :
    Out K E W g st σ H (fun a g1 st1 H1 => Grow g st H g1 st1 H1 ∧ Rel K g1 st1 σ H1 ∧ Out K E W g1 st1 σ H1 Q (k a st1)) r := by
  cases r with
  | ok a s => exact fun g' H' G' R => ⟨G', R, Out.from h G'⟩
  | err e s => exact h
  | bad => exact h
theorem RepV.up {v : SV} {x : V} (G : Grow g st H g1 st1 H1) (r : RepV K g st σ v x) : RepV K g1 st1 σ v x := by
  cases v with
  | view i => exact r
  | _ => exact Rep.up G.fr G.cells G.hlen _ _ r
/-- a run that gives a value -/
def tE (K : PySem.W.Frag) (E : ErT) (W : WX) (f : Sta → Rs SV) : TE := fun σ H Q => ∃ g st, Rel K g st σ H ∧ Out K E W g st σ H (fun v g' st' H' => ∀ x, RepV K g' st' σ v x → Q x H') (f st)
/-- .. that gives True or False -/
def tT (K : PySem.W.Frag) (E : ErT) (W : WX) (f : Sta → Rs Bool) : TT := fun σ H Q => ∃ g st, Rel K g st σ H ∧ Out K E W g st σ H (fun v g' st' H' => Q v H') (f st)
/-- .. values -/
def RepVs (K : PySem.W.Frag) (g : Gh) (st : Sta) (σ : L2.St) : List SV → List V → Prop
  | [], vs => vs = []
  | x :: xs, vs => ∃ y ys, vs = y :: ys ∧ RepV K g st σ x y ∧ RepVs K g st σ xs ys
theorem RepVs.up (G : Grow g st H g1 st1 H1) : ∀ {v : List SV} {x : List V}, RepVs K g st σ v x → RepVs K g1 st1 σ v x
  | [], _, r => r
  | x :: xs, _, r => by
    obtain ⟨y, ys, e, r1, r2⟩ := r
    exact ⟨y, ys, e, r1.up G, RepVs.up G r2⟩
def tA (K : PySem.W.Frag) (E : ErT) (W : WX) (f : Sta → Rs (List SV)) : TA := fun σ H Q => ∃ g st, Rel K g st σ H ∧ Out K E W g st σ H (fun v g' st' H' => ∀ x, RepVs K g' st' σ v x → Q x H') (f st)
/-- an end that is reached -/
theorem Out.now {α : Type} {Q : α → Gh → Sta → Hp → Prop} {a : α} (R : Rel K g st σ H) (h : Out K E W g st σ H Q (.ok a st)) : Q a g st H := h g H (Grow.refl _ _ _) R
end
theorem PE.imp {X : Cx} {e : Expr} {t t' : TE} (h : PE X e t) (hi : ∀ σ H Q, t' σ H Q → t σ H Q) : PE X e t' := ⟨fun pins s σ H Q I q => h.run pins s σ H Q I (hi _ _ _ q)⟩
theorem PT.imp {X : Cx} {e : Expr} {t t' : TT} (h : PT X e t) (hi : ∀ σ H Q, t' σ H Q → t σ H Q) : PT X e t' := ⟨fun pins s σ H Q I q => h.run pins s σ H Q I (hi _ _ _ q)⟩
theorem PA.imp {X : Cx} {e : List Expr} {t t' : TA} (h : PA X e t) (hi : ∀ σ H Q, t' σ H Q → t σ H Q) : PA X e t' := ⟨fun pos pins s σ H Q I q => h.run pos pins s σ H Q I (hi _ _ _ q)⟩
theorem PS.imp {X : Cx} {e : Stmt} {t t' : TS} (h : PS X e t) (hi : ∀ D σ H, t' D σ H → t D σ H) : PS X e t' := ⟨fun pins s σ H D I q => h.run pins s σ H D I (hi _ _ _ q)⟩
theorem PSs.imp {X : Cx} {e : List Stmt} {t t' : TS} (h : PSs X e t) (hi : ∀ D σ H, t' D σ H → t D σ H) : PSs X e t' := ⟨fun pins s σ H D I q => h.run pins s σ H D I (hi _ _ _ q)⟩
section
variable {K : PySem.W.Frag} {g : Gh} {st : Sta} {σ : L2.St} {H : Hp} {v : SV} {x : V}
theorem RepV.int {i : Int} (r : RepV K g st σ (.int i) x) : x = .int i := r
theorem RepV.bl {i : Bool} (r : RepV K g st σ (.bl i) x) : x = .bl i := r
theorem RepV.str {s : List Nat} (r : RepV K g st σ (.str s) x) : x = .str ⟨s.toArray⟩ := r
theorem SqT.frz {K : PySem.W.Frag} {H : Hp} {a : Addr} {o : Obj} {vs : List V} (h : H a = some (.frz o (.tup vs))) : SqT K H a vs := .inl (.inr ⟨o, h⟩)
/-- a tuple, with its very object -/
theorem RepV.tupZ {xs : List SV} (R : Rel K g st σ H) (r : RepV K g st σ (.tup xs) x) : ∃ a o vs, x = .ref a ∧ H a = some (.frz o (.tup vs)) ∧ o.dict = none ∧ RepL K g.F g.c st.heap.length xs vs := by
  obtain ⟨a, o, vs, e, s, od, r⟩ := r
  exact ⟨a, o, vs, e, R.sub _ _ s, od, r⟩
theorem RepV.tup {xs : List SV} (R : Rel K g st σ H) (r : RepV K g st σ (.tup xs) x) : ∃ a vs, x = .ref a ∧ SqT K H a vs ∧ RepL K g.F g.c st.heap.length xs vs := by
  obtain ⟨a, o, vs, e, s, _, r⟩ := r.tupZ R
  exact ⟨a, vs, e, SqT.frz s, r⟩
/-- a list's content: frozen, or at a place -/
theorem RepV.list {xs : List SV} (R : Rel K g st σ H) (r : RepV K g st σ v x) (h : st.list v = some xs) : ∃ a vs, x = .ref a ∧ H a = some (.lst vs) ∧ RepL K g.F g.c st.heap.length xs vs := by
  unfold Sta.list Sta.cellOf at h
  cases v with
  | lst ys =>
    simp at h; subst h
    obtain ⟨a, vs, e, s, r⟩ := r
    exact ⟨a, vs, e, R.sub _ _ s, r⟩
  | view i =>
    simp only at h
    cases hs : st.env[i]? with
    | none => rw [hs] at h; simp at h
    | some sl =>
      rw [hs] at h
      cases sl with
      | emp => simp at h
      | val _ => simp at h
      | box c =>
        cases c with
        | lst ys =>
          simp at h; subst h
          have e := R.box i _ hs
          have r : σ[i]? = some (some x) := r
          rw [r] at e
          obtain ⟨_, o, ho, vs, eo, rr⟩ := R.loc (.box i) (.lst ys) (by simp [at?, hs, live?])
          subst eo
          exact ⟨g.b i, vs, by simpa using e, ho, rr⟩
        | _ => simp at h
  | ref n =>
    simp only at h
    cases hs : st.heap[n]? with
    | none => rw [hs] at h; simp at h
    | some c =>
      rw [hs] at h
      cases c with
      | lst ys =>
        simp at h; subst h
        obtain ⟨_, e⟩ := (show n < st.heap.length ∧ x = .ref (g.c n) from r)
        obtain ⟨_, o, ho, vs, eo, rr⟩ := R.loc (.cell n) (.lst ys) (by simp [at?, hs, live?])
        subst eo
        exact ⟨g.c n, vs, e, ho, rr⟩
      | _ => simp at h
  | _ => simp at h
theorem RepV.seq {xs : List SV} (R : Rel K g st σ H) (r : RepV K g st σ v x) (h : st.seq v = some xs) : ∃ a vs, x = .ref a ∧ (SqL K H a vs ∨ SqT K H a vs) ∧ RepL K g.F g.c st.heap.length xs vs := by
  unfold Sta.seq at h
  cases v with
  | tup ys =>
    simp at h; subst h
    obtain ⟨a, vs, e, s, r⟩ := RepV.tup R r
    exact ⟨a, vs, e, .inr s, r⟩
  | scr ys =>
    simp at h; subst h
    obtain ⟨a, vs, e, s, r⟩ := r
    exact ⟨a, vs, e, s.imp (SqL.up R.sub) (SqT.up R.sub), r⟩
  | _ =>
    obtain ⟨a, vs, e, s, r⟩ := RepV.list R r (xs := xs) (by simpa [Sta.list] using h)
    exact ⟨a, vs, e, .inl (SqL.of s), r⟩
end
end Mq

namespace Mq
open PySem PySem.Spec PyProof.Rows L2 Mp
section
variable {K : PySem.W.Frag} {g : Gh} {st : Sta} {σ : L2.St} {H : Hp} {p : Addr} {o : HO}
theorem LiveA.of {l : Pl} {c : Cel} (h : at? st l = some c) : LiveA g st (g.at l) := ⟨l, c, h, rfl⟩
theorem Rel.there (R : Rel K g st σ H) {a : Addr} (h : LiveA g st a) : H a ≠ none ∧ g.F a = none := by
  obtain ⟨l, c, h1, rfl⟩ := h
  obtain ⟨h2, o, h3, _⟩ := R.loc l c h1
  exact ⟨(by rw [h3]; simp), h2⟩
/-- a new thing that is never changed -/
def Gh.add (g : Gh) (p : Addr) (o : HO) : Gh := { g with F := upd g.F p o }
theorem Rel.fresh (R : Rel K g st σ H) (hp : H p = none) : g.F p = none := by
  cases e : g.F p with
  | none => rfl
  | some o => rw [R.sub _ _ e] at hp; cases hp
theorem add_up (hp : g.F p = none) : ∀ a u, g.F a = some u → (g.add p o).F a = some u := fun a u e => by
  show upd g.F p o a = some u
  rw [upd_ne (ne_of_none e hp)]; exact e
theorem Rel.add (R : Rel K g st σ H) (hp : H p = none) : Rel K (g.add p o) st σ (upd H p o) ∧ Grow g st H (g.add p o) st (upd H p o) := by
  have hF := R.fresh hp
  have up := add_up (o := o) hF
  have nl : ∀ l c, at? st l = some c → g.at l ≠ p := fun l c h e => by
    obtain ⟨_, u, h3, _⟩ := R.loc l c h
    rw [e, hp] at h3; cases h3
  have at_ : ∀ l, (g.add p o).at l = g.at l := fun l => by cases l <;> rfl
  refine ⟨⟨fun a u e => ?_, fun l c h => ?_, fun l l' c c' h h' e => ?_, fun i v h => ?_, fun i c h => R.box i c h, R.len⟩, ⟨fun a u e _ => ?_, fun a u e => ?_, up, fun _ _ => rfl, Nat.le_refl _, fun a h => ?_, fun a u e => ?_⟩⟩
  · by_cases ha : a = p
    · subst ha
      have e' : upd g.F a o a = some u := e
      rw [upd_same] at e' ⊢; exact e'
    · have e' : upd g.F p o a = some u := e
      rw [upd_ne ha] at e' ⊢; exact R.sub _ _ e'
  · obtain ⟨h1, u, h2, h3⟩ := R.loc l c h
    rw [at_]
    refine ⟨?_, u, ?_, CellRep.up up (fun _ _ => rfl) (Nat.le_refl _) h3⟩
    · show upd g.F p o _ = none
      rw [upd_ne (nl l c h)]; exact h1
    · rw [upd_ne (nl l c h)]; exact h2
  · rw [at_, at_] at e
    exact R.inj l l' c c' h h' e
  · obtain ⟨x, h1, h2⟩ := R.slot i v h
    exact ⟨x, h1, Rep.up up (fun _ _ => rfl) (Nat.le_refl _) _ _ h2⟩
  · rw [upd_ne (ne_of_none e hp)]; exact e
  · by_cases ha : a = p
    · exact ⟨o, by rw [ha, upd_same]⟩
    · exact ⟨u, by rw [upd_ne ha]; exact e⟩
  · obtain ⟨l, c, h1, h2⟩ := h
    exact .inl ⟨l, c, h1, by rw [← h2, at_]⟩
  · by_cases ha : a = p
    · exact .inr (.inl (by rw [ha]; exact hp))
    · have e' : upd g.F p o a = some u := e
      rw [upd_ne ha] at e'; exact .inl e'
/-- the ghost alone changes: a place is given up -/
theorem at_set_box {i : Nat} {s : Slt} {l : Pl} {c : Cel} (hs : ∀ d, s ≠ .box d) (h : at? { st with env := st.env.set i s } l = some c) : at? st l = some c ∧ l ≠ .box i := by
  cases l with
  | cell n => exact ⟨h, fun e => by cases e⟩
  | box j =>
    unfold at? at h ⊢
    simp only at h ⊢
    by_cases hj : i = j
    · subst hj
      exfalso
      rw [List.getElem?_set] at h
      simp only [if_true] at h
      split at h
      · rename_i hlt
        split at hlt
        · exact hs _ (Option.some.inj hlt)
        · cases hlt
      · cases h
    · rw [List.getElem?_set_ne hj] at h
      exact ⟨h, fun e => hj (by cases e; rfl)⟩
end
end Mq

namespace Mq
open PySem PySem.Spec PyProof.Rows L2 Mp
section
end
section
variable {X : Cx}
end
end Mq

namespace Mq
open PySem PySem.Spec PyProof.Rows L2 Mp
/-- a value comes of a state -/
def Res (K : PySem.W.Frag) (g : Gh) (st : Sta) (σ : L2.St) (H : Hp) (v : SV) (Q : VK) : Prop := ∀ z g' H', Grow g st H g' st H' → Rel K g' st σ H' → Rep K g'.F g'.c st.heap.length v z → Q z H'
section
variable {K : PySem.W.Frag} {g : Gh} {st : Sta} {σ : L2.St} {H : Hp} {Q : VK} {p : Addr}
theorem Res.here {v : SV} {z : V} (R : Rel K g st σ H) (h : Res K g st σ H v Q) (r : Rep K g.F g.c st.heap.length v z) : Q z H := h z g H (Grow.refl _ _ _) R r
/-- a new tuple -/
theorem Res.tup {xs : List SV} {vs : List V} {o : Obj} (R : Rel K g st σ H) (h : Res K g st σ H (.tup xs) Q) (r : RepL K g.F g.c st.heap.length xs vs) (hp : H p = none) (ho : o.dict = none) : Q (.ref p) (upd H p (.frz o (.tup vs))) := by
  obtain ⟨R1, G1⟩ := R.add (o := .frz o (.tup vs)) hp
  exact h _ _ _ G1 R1 ⟨p, o, vs, rfl, upd_same, ho, RepL.up (add_up (R.fresh hp)) (fun _ _ => rfl) (Nat.le_refl _) _ _ r⟩
/-- a new list that is never changed -/
theorem Res.lst {xs : List SV} {vs : List V} (R : Rel K g st σ H) (h : Res K g st σ H (.lst xs) Q) (r : RepL K g.F g.c st.heap.length xs vs) (hp : H p = none) : Q (.ref p) (upd H p (.lst vs)) := by
  obtain ⟨R1, G1⟩ := R.add (o := .lst vs) hp
  exact h _ _ _ G1 R1 ⟨p, vs, rfl, upd_same, RepL.up (add_up (R.fresh hp)) (fun _ _ => rfl) (Nat.le_refl _) _ _ r⟩
end
section
variable {X : Cx}
end
end Mq

namespace Mq
open PySem PySem.Spec PyProof.Rows L2 Mp
mutual
def toPD : SV → PyData
  | .non => .none | .bl b => .bool b | .int i => .int i | .str s => .str ⟨s.toArray⟩
  | .tup xs => .tuple (toPDs xs) | .lst xs => .list (toPDs xs)
  | .dct _ _ => .none | .scr _ => .none | .ref _ => .none | .view _ => .none
def toPDs : List SV → List PyData
  | [] => []
  | x :: xs => toPD x :: toPDs xs
end
section
variable {K : PySem.W.Frag} {F : Hp} {c : Nat → Addr} {len : Nat} {H : Hp}
mutual
theorem Rep.dp (h : ∀ a o, F a = some o → H a = some o) : ∀ (x : SV) (v : V) (n : Nat), Rep K F c len x v → x.plainN n = true → Dp K H v (toPD x)
  | .non, _, _, r, _ => by rw [show _ = _ from r]; exact .non
  | .bl _, _, _, r, _ => by rw [show _ = _ from r]; exact .bl _
  | .int _, _, _, r, _ => by rw [show _ = _ from r]; exact .int _
  | .str _, _, _, r, _ => by rw [show _ = _ from r]; exact .str _
  | .tup xs, _, 0, _, p => by simp [SV.plainN] at p
  | .tup xs, _, n + 1, r, p => by
    obtain ⟨a, o, vs, rfl, s, _, r⟩ := r
    exact .tup (SqT.frz (h _ _ s)) (RepL.dp h xs vs n r (by simpa [SV.plainN] using p))
  | .lst xs, _, 0, _, p => by simp [SV.plainN] at p
  | .lst xs, _, n + 1, r, p => by
    obtain ⟨a, vs, rfl, s, r⟩ := r
    exact .lst (SqL.of (h _ _ s)) (RepL.dp h xs vs n r (by simpa [SV.plainN] using p))
  | .dct _ _, _, _, _, p => by simp [SV.plainN] at p
  | .scr _, _, _, _, p => by simp [SV.plainN] at p
  | .ref _, _, _, _, p => by simp [SV.plainN] at p
  | .view _, _, _, _, p => by simp [SV.plainN] at p
theorem RepL.dp (h : ∀ a o, F a = some o → H a = some o) : ∀ (x : List SV) (v : List V) (n : Nat), RepL K F c len x v → SV.plainsN x n = true → DpAll K H v (toPDs x)
  | [], _, _, r, _ => by rw [show _ = _ from r]; exact .nil
  | x :: xs, _, n, r, p => by
    obtain ⟨y, ys, rfl, r1, r2⟩ := r
    have p : x.plainN n = true ∧ SV.plainsN xs n = true := by simpa [SV.plainsN] using p
    exact .cons (Rep.dp h x y n r1 p.1) (RepL.dp h xs ys n r2 p.2)
end
end
/-- a value to compare -/
theorem RepV.flat {K : PySem.W.Frag} {g : Gh} {st : Sta} {σ : L2.St} {H : Hp} {v w : SV} {x : V} (R : Rel K g st σ H) (r : RepV K g st σ v x) (h : st.flat v = some w) (p : w.plain = true) : Dp K H x (toPD w) := by
  have key : ∀ {xs : List SV}, st.list v = some xs → w = .lst xs → Dp K H x (toPD w) := fun {xs} e1 e2 => by
    subst e2
    obtain ⟨a, vs, rfl, ha, rr⟩ := RepV.list R r e1
    exact .lst (SqL.of ha) (RepL.dp R.sub xs vs 49 rr (by simpa [SV.plain, SV.plainN] using p))
  cases v with
  | view i =>
    have h : (st.list (.view i)).map SV.lst = some w := h
    cases e : st.list (.view i) with
    | none => rw [e] at h; simp at h
    | some xs => rw [e] at h; simp at h; exact key e h.symm
  | ref n =>
    have h : (st.list (.ref n)).map SV.lst = some w := h
    cases e : st.list (.ref n) with
    | none => rw [e] at h; simp at h
    | some xs => rw [e] at h; simp at h; exact key e h.symm
  | _ => cases h; exact Rep.dp (c := g.c) (len := st.heap.length) R.sub _ _ 50 r p
section
variable {X : Cx}
end
end Mq

namespace Mq
open PySem PySem.Spec PyProof.Rows L2 Mp
def DRep (K : PySem.W.Frag) (F : Hp) (c : Nat → Addr) (len : Nat) (ks ws : List SV) (o : HO) : Prop :=
  (∃ kvs : List (Key × V), o = .dK kvs ∧ ks.map keyOf = kvs.map (fun p => some p.1) ∧ RepL K F c len ws (kvs.map (·.2))) ∨
  (∃ b xs vs, o = nxO b xs ∧ ks.map nkeyOf = xs.map (fun x => some x.1) ∧ (ks ≠ [] ∧ xs.length ≤ sizeLine ∧ (b == sysModules) = false ∧ (xs.map (·.1)).Nodup ∧ ks.all SV.key = true ∧ Vals vs (xs.map (·.2.2))) ∧
    RepL K F c len ks (xs.map fun x => V.ref x.2.1) ∧ RepL K F c len ws vs)
theorem RepV.dict {K : PySem.W.Frag} {g : Gh} {st : Sta} {σ : L2.St} {H : Hp} {v : SV} {x : V} {ks ws : List SV} (R : Rel K g st σ H) (r : RepV K g st σ v x) (h : st.dict v = some (ks, ws)) :
    ∃ a o, x = .ref a ∧ H a = some o ∧ DRep K g.F g.c st.heap.length ks ws o := by
  unfold Sta.dict Sta.cellOf at h
  cases v with
  | dct ks' ws' =>
    simp at h; obtain ⟨rfl, rfl⟩ := h
    obtain ⟨a, e, q⟩ := r
    rcases q with ⟨kvs, h1, h2, h3⟩ | ⟨b, xs, vs, h1, h2⟩
    · exact ⟨a, _, e, R.sub _ _ h1, .inl ⟨kvs, rfl, h2, h3⟩⟩
    · exact ⟨a, _, e, R.sub _ _ h1, .inr ⟨b, xs, vs, rfl, h2⟩⟩
  | view i =>
    simp only at h
    cases hs : st.env[i]? with
    | none => rw [hs] at h; simp at h
    | some sl =>
      rw [hs] at h
      cases sl with
      | emp => simp at h
      | val _ => simp at h
      | box c =>
        cases c with
        | dct ks' ws' =>
          simp at h; obtain ⟨rfl, rfl⟩ := h
          have e := R.box i _ hs
          have r : σ[i]? = some (some x) := r
          rw [r] at e
          obtain ⟨_, o, ho, q⟩ := R.loc (.box i) (.dct ks' ws') (by simp [at?, hs, live?])
          exact ⟨g.b i, o, by simpa using e, ho, q⟩
        | _ => simp at h
  | ref n =>
    simp only at h
    cases hs : st.heap[n]? with
    | none => rw [hs] at h; simp at h
    | some c =>
      rw [hs] at h
      cases c with
      | dct ks' ws' =>
        simp at h; obtain ⟨rfl, rfl⟩ := h
        obtain ⟨_, e⟩ := (show n < st.heap.length ∧ x = .ref (g.c n) from r)
        obtain ⟨_, o, ho, q⟩ := R.loc (.cell n) (.dct ks' ws') (by simp [at?, hs, live?])
        exact ⟨g.c n, o, e, ho, q⟩
      | _ => simp at h
  | _ => simp at h
section
variable {K : PySem.W.Frag} {F : Hp} {c : Nat → Addr} {len : Nat} {κ : Type} [DecidableEq κ] {kf : SV → Option κ}
end
section
variable {K : PySem.W.Frag} {F : Hp} {c : Nat → Addr} {len : Nat}
end
end Mq

namespace Mq
open PySem PySem.Spec PyProof.Rows L2 Mp
section
variable {K : PySem.W.Frag} {F : Hp} {c : Nat → Addr} {len : Nat}
end
section
variable {X : Cx} {pins : List (Addr × Obj)} {σ σ' : L2.St} {H : Hp} {s : Shared} {x y : V} {v u : Value} {g : Gh} {st : Sta} {a b : SV}
end
section
variable {X : Cx}
end
end Mq

namespace Mq
open PySem PySem.Spec PyProof.Rows L2
section
variable {X : Cx} {pins : List (Addr × Obj)} {σ : L2.St} {H : Hp} {s : Shared} {a it : Addr} {xs ys : List V} {k : Kd}
end
end Mq

namespace Mq
open PySem PySem.Spec PyProof.Rows L2 Mp
section
variable {K : PySem.W.Frag} {E : ErT} {W : WX} {g g1 : Gh} {st st1 : Sta} {σ : L2.St} {H H1 : Hp}
def tK (K : PySem.W.Frag) (E : ErT) (W : WX) (f : Sta → Rs SV) : TE := fun σ H Q => ∃ g st, Rel K g st σ H ∧ Out K E W g st σ H (fun v g' st' H' => ∀ x, Rep K g'.F g'.c st'.heap.length v x → Q x H') (f st)
def tKs (K : PySem.W.Frag) (E : ErT) (W : WX) (f : Sta → Rs (List SV)) : TA := fun σ H Q => ∃ g st, Rel K g st σ H ∧ Out K E W g st σ H (fun v g' st' H' => ∀ x, RepL K g'.F g'.c st'.heap.length v x → Q x H') (f st)
/-- the first part of a run, then the rest -/
theorem tE.seq {f : Sta → Rs SV} {β : Type} {k : SV → Sta → Rs β} {Qb : β → Gh → Sta → Hp → Prop} {Q : VK} (R : Rel K g st σ H) (h : Out K E W g st σ H Qb ((f st).bind k))
    (hk : ∀ v x g1 st1 H1, Grow g st H g1 st1 H1 → Rel K g1 st1 σ H1 → RepV K g1 st1 σ v x → Out K E W g1 st1 σ H1 Qb (k v st1) → Q x H1) : tE K E W f σ H Q :=
  ⟨g, st, R, h.bind.imp fun v g1 st1 H1 ⟨G, R1, o⟩ x r => hk v x g1 st1 H1 G R1 r o⟩
theorem tT.seq {f : Sta → Rs Bool} {β : Type} {k : Bool → Sta → Rs β} {Qb : β → Gh → Sta → Hp → Prop} {Q : Bool → Hp → Prop} (R : Rel K g st σ H) (h : Out K E W g st σ H Qb ((f st).bind k))
    (hk : ∀ v g1 st1 H1, Grow g st H g1 st1 H1 → Rel K g1 st1 σ H1 → Out K E W g1 st1 σ H1 Qb (k v st1) → Q v H1) : tT K E W f σ H Q :=
  ⟨g, st, R, h.bind.imp fun v g1 st1 H1 ⟨G, R1, o⟩ => hk v g1 st1 H1 G R1 o⟩
theorem tA.seq {f : Sta → Rs (List SV)} {β : Type} {k : List SV → Sta → Rs β} {Qb : β → Gh → Sta → Hp → Prop} {Q : List V → Hp → Prop} (R : Rel K g st σ H) (h : Out K E W g st σ H Qb ((f st).bind k))
    (hk : ∀ v x g1 st1 H1, Grow g st H g1 st1 H1 → Rel K g1 st1 σ H1 → RepVs K g1 st1 σ v x → Out K E W g1 st1 σ H1 Qb (k v st1) → Q x H1) : tA K E W f σ H Q :=
  ⟨g, st, R, h.bind.imp fun v g1 st1 H1 ⟨G, R1, o⟩ x r => hk v x g1 st1 H1 G R1 r o⟩
theorem tKs.seq {f : Sta → Rs (List SV)} {β : Type} {k : List SV → Sta → Rs β} {Qb : β → Gh → Sta → Hp → Prop} {Q : List V → Hp → Prop} (R : Rel K g st σ H) (h : Out K E W g st σ H Qb ((f st).bind k))
    (hk : ∀ v x g1 st1 H1, Grow g st H g1 st1 H1 → Rel K g1 st1 σ H1 → RepL K g1.F g1.c st1.heap.length v x → Out K E W g1 st1 σ H1 Qb (k v st1) → Q x H1) : tKs K E W f σ H Q :=
  ⟨g, st, R, h.bind.imp fun v g1 st1 H1 ⟨G, R1, o⟩ x r => hk v x g1 st1 H1 G R1 r o⟩
theorem tK.seq {f : Sta → Rs SV} {β : Type} {k : SV → Sta → Rs β} {Qb : β → Gh → Sta → Hp → Prop} {Q : VK} (R : Rel K g st σ H) (h : Out K E W g st σ H Qb ((f st).bind k))
    (hk : ∀ v x g1 st1 H1, Grow g st H g1 st1 H1 → Rel K g1 st1 σ H1 → Rep K g1.F g1.c st1.heap.length v x → Out K E W g1 st1 σ H1 Qb (k v st1) → Q x H1) : tK K E W f σ H Q :=
  ⟨g, st, R, h.bind.imp fun v g1 st1 H1 ⟨G, R1, o⟩ x r => hk v x g1 st1 H1 G R1 r o⟩
/-- an int, a bool -/
theorem asI.seq {f : Sta → Rs SV} {β : Type} {k : Int → Sta → Rs β} {Qb : β → Gh → Sta → Hp → Prop} {Q : VK} (R : Rel K g st σ H) (h : Out K E W g st σ H Qb ((asI (f st)).bind k))
    (hk : ∀ i g1 st1 H1, Grow g st H g1 st1 H1 → Rel K g1 st1 σ H1 → Out K E W g1 st1 σ H1 Qb (k i st1) → Q (.int i) H1) : tE K E W f σ H Q := by
  refine tE.seq (Qb := Qb) (k := fun v s => (match v with | .int b => Rs.ok b s | _ => .bad : Rs Int).bind k) R ?_ fun v x g1 st1 H1 G R1 r o => ?_
  · unfold asI at h
    cases e : f st with
    | ok a s => rw [e] at h; exact h
    | err a s => rw [e] at h; exact h
    | bad => rw [e] at h; exact h
  · cases v <;> first | exact o.elim | skip
    obtain rfl := r.int
    exact hk _ g1 st1 H1 G R1 o
theorem asB.seq {f : Sta → Rs SV} {β : Type} {k : Bool → Sta → Rs β} {Qb : β → Gh → Sta → Hp → Prop} {Q : VK} (R : Rel K g st σ H) (h : Out K E W g st σ H Qb ((asB (f st)).bind k))
    (hk : ∀ i g1 st1 H1, Grow g st H g1 st1 H1 → Rel K g1 st1 σ H1 → Out K E W g1 st1 σ H1 Qb (k i st1) → Q (.bl i) H1) : tE K E W f σ H Q := by
  refine tE.seq (Qb := Qb) (k := fun v s => (match v with | .bl b => Rs.ok b s | _ => .bad : Rs Bool).bind k) R ?_ fun v x g1 st1 H1 G R1 r o => ?_
  · unfold asB at h
    cases e : f st with
    | ok a s => rw [e] at h; exact h
    | err a s => rw [e] at h; exact h
    | bad => rw [e] at h; exact h
  · cases v <;> first | exact o.elim | skip
    obtain rfl := r.bl
    exact hk _ g1 st1 H1 G R1 o
end
section
variable {X : Cx} {E : ErT} {W : WX} {fa fb fc : Sta → Rs SV} {ft : Sta → Rs Bool} {a b c : Expr} {pos : Pos}
/-- a test that is its value's truth -/
theorem m_val (ha : PE X a (tE X.K E W fa)) (he : ∀ whole, isTrue a X.env whole = (do let v ← whole; standAt a.pos; holding [v] (truthy v))) : PT X a (tT X.K E W fun s => asB (fa s)) := by
  refine PT.imp (pt_val ha he) fun σ H Q ⟨g, st, R, h⟩ => ?_
  refine asB.seq (k := fun c s => .ok c s) (Qb := fun c g st H => Q c H) R ?_ fun i g1 st1 H1 G R1 h => ⟨i, rfl, Out.now R1 h⟩
  dsimp only at h
  cases e : asB (fa st) with
  | err a s => rw [e] at h; exact h
  | bad => rw [e] at h; exact h
  | ok c s => rw [e] at h; exact h
end
end Mq

namespace Mq
open PySem PySem.Spec PyProof.Rows L2 Mp
section
variable {K : PySem.W.Frag} {E : ErT} {W : WX} {g g1 : Gh} {st st1 : Sta} {σ : L2.St} {H H0 H1 : Hp} {p : Addr} {o : HO} {Q : VK}
theorem Grow.back (G : Grow g st H g1 st1 H1) {a : Addr} (h : H1 a = none) : H a = none := by
  cases e : H a with
  | none => rfl
  | some o => obtain ⟨o', e'⟩ := G.dom a o e; rw [h] at e'; cases e'
end
theorem RepV.isNon {K : PySem.W.Frag} {g : Gh} {st : Sta} {σ : L2.St} {v : SV} {x : V} {k : Bool} (r : RepV K g st σ v x) (e : v.isNon = some k) : decide (x = V.non) = k := by
  cases v <;> simp only [SV.isNon, Option.some.injEq, reduceCtorEq] at e <;> subst e
  case non => obtain rfl := (show x = .non from r); rfl
  case bl b => obtain rfl := r.bl; rfl
  case int b => obtain rfl := r.int; rfl
  case str b => obtain rfl := r.str; rfl
  case tup b => obtain ⟨a, _, _, rfl, _⟩ := r; rfl
  case lst b => obtain ⟨a, _, rfl, _⟩ := r; rfl
  case scr b => obtain ⟨a, _, rfl, _⟩ := r; rfl
  case dct b c => obtain ⟨a, rfl, _⟩ := r; rfl
  case ref b => obtain ⟨_, rfl⟩ := (show _ ∧ x = .ref (g.c b) from r); rfl
section
variable {X : Cx} {E : ErT} {W : WX} {fa fb fc : Sta → Rs SV} {ff : Sta → Rs Cel} {fs : Sta → Rs (List SV)} {ft : Sta → Rs Bool} {a b c e : Expr} {es : List Expr} {pos : Pos}
end
end Mq

namespace Mq
open PySem PySem.Spec PyProof.Rows L2 Mp
section
variable {X : Cx}
/-- an optional part of a slice -/
def tO (K : PySem.W.Frag) (E : ErT) (W : WX) (f : Sta → Rs (Option Int)) : TO := fun σ H Q => ∃ g st, Rel K g st σ H ∧ Out K E W g st σ H (fun v g' st' H' => Q v H') (f st)
theorem PO.imp {e : Option Expr} {t t' : TO} (h : PO X e t) (hi : ∀ σ H Q, t' σ H Q → t σ H Q) : PO X e t' := ⟨fun pins s σ H Q I q => h.run pins s σ H Q I (hi _ _ _ q)⟩
theorem tO.seq {K : PySem.W.Frag} {E : ErT} {W : WX} {g : Gh} {st : Sta} {σ : L2.St} {H : Hp} {f : Sta → Rs (Option Int)} {β : Type} {k : Option Int → Sta → Rs β} {Qb : β → Gh → Sta → Hp → Prop} {Q : Option Int → Hp → Prop} (R : Rel K g st σ H) (h : Out K E W g st σ H Qb ((f st).bind k))
    (hk : ∀ v g1 st1 H1, Grow g st H g1 st1 H1 → Rel K g1 st1 σ H1 → Out K E W g1 st1 σ H1 Qb (k v st1) → Q v H1) : tO K E W f σ H Q :=
  ⟨g, st, R, h.bind.imp fun v g1 st1 H1 ⟨G, R1, o⟩ => hk v g1 st1 H1 G R1 o⟩
section
variable {E : ErT} {W : WX} {fa fb : Sta → Rs SV} {fl fh : Sta → Rs (Option Int)} {a b e : Expr} {lo hi : Option Expr} {pos p2 : Pos}
end
end
open PySem.W (alike alikeAll dataLt keyToksAll)
end Mq

namespace Mq
open PySem PySem.Spec PyProof.Rows L2 Mp
open PySem.W (alike alikeAll dataLt minD maxD AlikeAll)
section
variable {X : Cx} {pins : List (Addr × Obj)} {σ' σ : L2.St} {H : Hp} {s : Shared}
end
end Mq

namespace Mq
open PySem PySem.Spec PyProof.Rows L2 Mp
open PySem.W (alike alikeAll dataLt minD maxD AlikeAll)
section
variable {X : Cx} {pins : List (Addr × Obj)} {σ' σ : L2.St} {H : Hp} {s : Shared} {g : Gh} {st : Sta}
end
section
variable {X : Cx}
end
end Mq

namespace Mq
open PySem PySem.Spec PyProof.Rows L2 Mp
section
variable {X : Cx}
end
def tyS : SV → String
  | .non => "NoneType" | .bl _ => "bool" | .int _ => "int" | .str _ => "str" | .tup _ => "tuple" | .lst _ => "list" | .dct _ _ => "dict" | _ => ""
def Ty.plain : Ty → Bool | .cls _ => false | _ => true
theorem RepV.ty {K : PySem.W.Frag} {g : Gh} {st : Sta} {σ : L2.St} {H : Hp} {a y : SV} {x : V} (R : Rel K g st σ H) (r : RepV K g st σ a x) (h : st.flat a = some y) (hy : isiOk y = true) : TyX K H x (.type (tyS y)) := by
  have lstCase : st.list a = (match y with | .lst zs => some zs | _ => none) → (∃ zs, y = .lst zs) → TyX K H x (.type (tyS y)) := fun e ⟨zs, ez⟩ => by
    subst ez
    obtain ⟨p, vs, rfl, h1, _⟩ := RepV.list R r e
    exact .base (.lst h1)
  cases a with
  | non => simp only [Sta.flat, Option.some.injEq] at h; subst h; obtain rfl := (show x = .non from r); exact .base .non
  | bl b => simp only [Sta.flat, Option.some.injEq] at h; subst h; obtain rfl := r.bl; exact .base (.bl b)
  | int i => simp only [Sta.flat, Option.some.injEq] at h; subst h; obtain rfl := r.int; exact .base (.int i)
  | str t => simp only [Sta.flat, Option.some.injEq] at h; subst h; obtain rfl := r.str; exact .base (.str _)
  | tup xs =>
    simp only [Sta.flat, Option.some.injEq] at h; subst h
    obtain ⟨p, o, vs, rfl, h1, _⟩ := RepV.tupZ R r
    exact .fTuple h1
  | lst xs =>
    simp only [Sta.flat, Option.some.injEq] at h; subst h
    obtain ⟨p, vs, rfl, h1, _⟩ := RepV.list (xs := xs) R r rfl
    exact .base (.lst h1)
  | dct ks ws =>
    simp only [Sta.flat, Option.some.injEq] at h; subst h
    obtain ⟨p, o, rfl, ho, d⟩ := RepV.dict (ks := ks) (ws := ws) R r rfl
    rcases d with ⟨kvs, rfl, _, _⟩ | ⟨b, xs, vs, rfl, h2, h3, h4, _⟩
    · exact .base (.dK ho)
    · exfalso
      cases ks with
      | nil => exact h3.1 rfl
      | cons k ks =>
        have hk : SV.scal k = true := by simp only [isiOk, List.all_cons, Bool.and_eq_true] at hy; exact hy.1
        cases xs with
        | nil => simp at h2
        | cons x xs =>
          simp only [List.map_cons, List.cons.injEq] at h2
          obtain ⟨_, _, er, r1, _⟩ := h4
          simp only [List.map_cons, List.cons.injEq] at er
          obtain ⟨er, _⟩ := er
          subst er
          cases k <;> first | (simp [SV.scal] at hk; done) | (cases (show V.ref _ = _ from r1); done)
  | scr xs => simp only [Sta.flat, Option.some.injEq] at h; subst h; simp [isiOk] at hy
  | ref n =>
    simp only [Sta.flat] at h
    cases e : st.list (.ref n) with
    | none => rw [e] at h; cases h
    | some zs => rw [e] at h; cases h; exact lstCase e ⟨zs, rfl⟩
  | view n =>
    simp only [Sta.flat] at h
    cases e : st.list (.view n) with
    | none => rw [e] at h; cases h
    | some zs => rw [e] at h; cases h; exact lstCase e ⟨zs, rfl⟩
section
variable {X : Cx} {E : ErT} {W : WX} {fa fb : Sta → Rs SV} {fs : Sta → Rs (List SV)} {a b e : Expr} {es : List Expr} {pos p p2 : Pos} {x : Str}
end
end Mq

namespace Mq
open PySem PySem.Spec PyProof.Rows L2 Mp
section
variable {K : PySem.W.Frag} {E : ErT} {W : WX} {g g1 : Gh} {st st1 : Sta} {σ : L2.St} {H H0 H1 : Hp}
def plOf : SV → Option Pl
  | .view i => some (.box i) | .ref n => some (.cell n) | _ => none
theorem cell_at {v : SV} {l : Pl} {c : Cel} (hl : plOf v = some l) (h : st.cellOf v = some c) (hc : live? c = some c) : at? st l = some c := by
  cases v <;> simp only [plOf, reduceCtorEq, Option.some.injEq] at hl <;> subst hl
  · simp only [Sta.cellOf] at h
    unfold at?
    simp only [h, Option.bind_some, hc]
  · simp only [Sta.cellOf] at h
    rename_i i
    cases e : st.env[i]? with
    | none => rw [e] at h; cases h
    | some s =>
      rw [e] at h
      cases s <;> simp only [reduceCtorEq, Option.some.injEq] at h
      subst h
      unfold at?
      simp only [e]
      exact hc
theorem ref_of {v : SV} {l : Pl} {c : Cel} {x : V} (R : Rel K g st σ H) (hl : plOf v = some l) (h : at? st l = some c) (r : RepV K g st σ v x) : x = .ref (g.at l) := by
  cases v <;> simp only [plOf, reduceCtorEq, Option.some.injEq] at hl <;> subst hl
  · exact r.2
  · rename_i i
    unfold at? at h
    simp only at h
    cases e : st.env[i]? with
    | none => rw [e] at h; cases h
    | some s =>
      rw [e] at h
      cases s <;> simp only [reduceCtorEq] at h
      have e1 := R.box i _ e
      have r : σ[i]? = some (some x) := r
      rw [r] at e1
      have e2 : x = .ref (g.b i) := by simpa using e1
      exact e2
end
section
variable {X : Cx} {E : ErT} {W : WX} {fa fb : Sta → Rs SV} {fs : Sta → Rs (List SV)} {a b e : Expr} {es : List Expr} {pos p p2 : Pos} {x : Str}
end
end Mq

namespace Mq
open PySem PySem.Spec PyProof.Rows L2 Mp
def OutS {α : Type} (K : PySem.W.Frag) (E : ErT) (W : WX) (S : L2.St → Prop) (g : Gh) (st : Sta) (H : Hp) (Q : α → Gh → Sta → L2.St → Hp → Prop) : Rs α → Prop
  | .ok a st' => ∀ g' σ' H', S σ' → Grow g st H g' st' H' → Rel K g' st' σ' H' → Q a g' st' σ' H'
  | .err e st' => ∀ g' σ' H' cls d, S σ' → Grow g st H g' st' H' → Rel K g' st' σ' H' → E e g' st' cls d H' → W cls d σ' H'
  | .bad => False
/-- the same but at the places L -/
def OnlyAt (L : List Nat) (σ σ' : L2.St) : Prop := σ'.length = σ.length ∧ ∀ i, i ∉ L → σ'[i]? = σ[i]?
theorem OnlyAt.refl (L : List Nat) (σ : L2.St) : OnlyAt L σ σ := ⟨rfl, fun _ _ => rfl⟩
theorem OnlyAt.trans {L : List Nat} {a b c : L2.St} (h : OnlyAt L a b) (k : OnlyAt L b c) : OnlyAt L a c := ⟨k.1.trans h.1, fun i hi => (k.2 i hi).trans (h.2 i hi)⟩
theorem OnlyAt.set {L : List Nat} {σ : L2.St} {i : Nat} {v : Option V} (h : i ∈ L) : OnlyAt L σ (σ.set i v) := ⟨by simp, fun j hj => List.getElem?_set_ne (fun e => hj (by rw [← e]; exact h))⟩
section
variable {K : PySem.W.Frag} {E : ErT} {W : WX} {g g1 : Gh} {st st1 : Sta} {σ : L2.St} {H H0 H1 : Hp} {S : L2.St → Prop}
theorem OutS.from {α : Type} {Q : α → Gh → Sta → L2.St → Hp → Prop} {r : Rs α} (h : OutS K E W S g st H Q r) (G : Grow g st H g1 st1 H1) : OutS K E W S g1 st1 H1 Q r := by
  cases r with
  | ok a s => exact fun g' σ' H' hs G' R => h g' σ' H' hs (G.trans G') R
  | err e s => exact fun g' σ' H' cls d hs G' R e => h g' σ' H' cls d hs (G.trans G') R e
  | bad => exact h
theorem OutS.sub {α : Type} {S' : L2.St → Prop} {Q : α → Gh → Sta → L2.St → Hp → Prop} {r : Rs α} (h : OutS K E W S g st H Q r) (hs : ∀ σ, S' σ → S σ) : OutS K E W S' g st H Q r := by
  cases r with
  | ok a s => exact fun g' σ' H' z => h g' σ' H' (hs _ z)
  | err e s => exact fun g' σ' H' cls d z => h g' σ' H' cls d (hs _ z)
  | bad => exact h
theorem OutS.imp {α : Type} {Q Q' : α → Gh → Sta → L2.St → Hp → Prop} {r : Rs α} (h : OutS K E W S g st H Q r) (hq : ∀ a g' st' σ' H', Q a g' st' σ' H' → Q' a g' st' σ' H') : OutS K E W S g st H Q' r := by
  cases r with
  | ok a s => exact fun g' σ' H' z G' R => hq _ _ _ _ _ (h g' σ' H' z G' R)
  | err e s => exact h
  | bad => exact h
theorem OutS.bind {α β : Type} {Q : β → Gh → Sta → L2.St → Hp → Prop} {r : Rs α} {k : α → Sta → Rs β} (h : OutS K E W S g st H Q (r.bind k)) :
    OutS K E W S g st H (fun a g1 st1 σ1 H1 => S σ1 ∧ Grow g st H g1 st1 H1 ∧ Rel K g1 st1 σ1 H1 ∧ OutS K E W S g1 st1 H1 Q (k a st1)) r := by
  cases r with
  | ok a s => exact fun g' σ' H' hs G' R => ⟨hs, G', R, OutS.from h G'⟩
  | err e s => exact h
  | bad => exact h
theorem OutS.now {α : Type} {Q : α → Gh → Sta → L2.St → Hp → Prop} {a : α} (hσ : S σ) (R : Rel K g st σ H) (h : OutS K E W S g st H Q (.ok a st)) : Q a g st σ H := h g σ H hσ (Grow.refl _ _ _) R
/-- a slot takes a kept value -/
theorem at_slot {i : Nat} {v : SV} {l : Pl} {c : Cel} (h : at? (slotSet i v st) l = some c) : at? st l = some c ∧ l ≠ .box i := at_set_box (fun d => by simp) h
theorem Rel.slotSet {i : Nat} {v : SV} {x : V} (R : Rel K g st σ H) (r : Rep K g.F g.c st.heap.length v x) : Rel K g (slotSet i v st) (σ.set i (some x)) H ∧ Grow g st H g (slotSet i v st) H := by
  refine ⟨⟨R.sub, fun l c h => R.loc l c (at_slot h).1, fun l l' c c' h h' => R.inj l l' c c' (at_slot h).1 (at_slot h').1, fun j w h => ?_, fun j c h => ?_, ?_⟩,
    ⟨fun _ _ e _ => e, fun _ o e => ⟨o, e⟩, fun _ _ e => e, fun _ _ => rfl, Nat.le_refl _, fun a ⟨l, c, h, e⟩ => .inl ⟨l, c, (at_slot h).1, e⟩, fun _ _ e => .inl e⟩⟩
  · have h : (st.env.set i (.val v))[j]? = some (.val w) := h
    by_cases hj : i = j
    · subst hj
      have hlt : i < st.env.length := by
        rw [List.getElem?_set] at h
        simp at h
        exact h.1
      rw [List.getElem?_set_self hlt] at h
      cases h
      exact ⟨x, List.getElem?_set_self (by rw [← R.len]; exact hlt), r⟩
    · rw [List.getElem?_set_ne hj] at h
      obtain ⟨y, h1, h2⟩ := R.slot j w h
      exact ⟨y, by rw [List.getElem?_set_ne hj]; exact h1, h2⟩
  · have h : (st.env.set i (.val v))[j]? = some (.box c) := h
    by_cases hj : i = j
    · subst hj
      rw [List.getElem?_set] at h
      simp at h
    · rw [List.getElem?_set_ne hj] at h
      rw [List.getElem?_set_ne hj]
      exact R.box j c h
  · show (st.env.set i (.val v)).length = (σ.set i (some x)).length
    simp [R.len]
/-- a slot takes a new thing as its box -/
def Gh.boxAt (g : Gh) (i : Nat) (p : Addr) : Gh := { g with b := fun k => if k = i then p else g.b k }
theorem at_boxSet {i : Nat} {c d : Cel} {l : Pl} (h : at? { st with env := st.env.set i (.box c) } l = some d) : (l = .box i ∧ live? c = some d) ∨ (l ≠ .box i ∧ at? st l = some d) := by
  cases l with
  | cell n => exact .inr ⟨by simp, h⟩
  | box j =>
    unfold at? at h ⊢
    simp only at h ⊢
    by_cases hj : i = j
    · subst hj
      rw [List.getElem?_set] at h
      by_cases hlt : i < st.env.length
      · simp [hlt] at h; exact .inl ⟨rfl, h⟩
      · simp [hlt] at h
    · rw [List.getElem?_set_ne hj] at h
      exact .inr ⟨fun e => hj (by cases e; rfl), h⟩
theorem boxAt_ne {i : Nat} {p : Addr} {l : Pl} (h : l ≠ .box i) : (g.boxAt i p).at l = g.at l := by
  cases l with
  | cell n => rfl
  | box j => exact if_neg fun e => h (by rw [e])
theorem boxAt_self {i : Nat} {p : Addr} : (g.boxAt i p).at (.box i) = p := if_pos rfl
end
theorem PG.imp {X : Cx} {e : Expr} {t t' : TG} (h : PG X e t) (hi : ∀ x σ H Q, t' x σ H Q → t x σ H Q) : PG X e t' := ⟨fun pins s σ H v u Q I r q => h.run pins s σ H v u Q I r (hi _ _ _ _ q)⟩
theorem PGs.imp {X : Cx} {e : List Expr} {t t' : TGs} (h : PGs X e t) (hi : ∀ x σ H Q, t' x σ H Q → t x σ H Q) : PGs X e t' := ⟨fun pins s σ H v u Q I r q => h.run pins s σ H v u Q I r (hi _ _ _ _ q)⟩
theorem PG.or {X : Cx} {e : Expr} {t t' : TG} (h : PG X e t) (h' : PG X e t') : PG X e (fun x σ H Q => t x σ H Q ∨ t' x σ H Q) := ⟨fun pins s σ H v u Q I r q => q.elim (h.run pins s σ H v u Q I r) (h'.run pins s σ H v u Q I r)⟩
section
variable {X : Cx} {E : ErT} {W : WX} {L : List Nat} {pos : Pos}
end
end Mq

namespace Mq
open PySem PySem.Spec PyProof.Rows L2 Mp
section
variable {X : Cx} {E : ErT} {W : WX} {L : List Nat} {pos : Pos}
end
section
variable {X : Cx} {E : ErT} {W : WX} {L : List Nat} {pos : Pos} {e : Expr} {fe : Sta → Rs SV} {st : Stmt} {rest : List Stmt} {fs fr : Sta → Rs Fl}
end
end Mq

namespace Mq
open PySem PySem.Spec PyProof.Rows L2 Mp
section
variable {X : Cx}
end
section
variable {X : Cx} {E : ErT} {W : WX} {pos p2 p : Pos} {a b i e : Expr} {es : List Expr} {fa fi fe : Sta → Rs SV}
end
end Mq

namespace Mq
open PySem PySem.Spec PyProof.Rows L2 Mp
def Still (g : Gh) (st : Sta) (H : Hp) (a : Addr) : Prop := (∃ o, g.F a = some o) ∨ (H a ≠ none ∧ ¬ LiveA g st a)
section
variable {K : PySem.W.Frag} {E : ErT} {W : WX} {g g' g1 : Gh} {st st' st1 : Sta} {σ σ' : L2.St} {H H' H0 H1 : Hp}
theorem PI.imp {X : Cx} {tg e : Expr} {t t' : TI} (h : PI X tg e t) (hi : ∀ σ H Q, t' σ H Q → t σ H Q) : PI X tg e t' := ⟨fun pins s σ H R I q => h.run pins s σ H R I (hi _ _ _ q)⟩
end

section
variable {K : PySem.W.Frag} {g : Gh} {len : Nat} {H : Hp} {A : List Addr}
end
end Mq

namespace Mq
open PySem PySem.Spec PyProof.Rows L2 Mp
section
variable {X : Cx} {E : ErT} {W : WX} {tg a b e : Expr} {fa fb : Sta → Rs SV} {pos p tpos : Pos}
end
section
variable {X : Cx} {E : ErT} {W : WX} {pos : Pos} {tg c iter : Expr} {body : List Stmt} {L : List Nat} {fw : Sta → Rs Walk} {ft : SV → Sta → Rs Unit} {fb : Sta → Rs Fl} {fc : Sta → Rs Bool}
end
end Mq

namespace Mq
open PySem PySem.Spec PyProof.Rows L2 Mp
theorem wipe_len (env : List Slt) : ∀ is : List Nat, (Mp.wipe env is).length = env.length
  | [] => rfl
  | i :: is => by simp [Mp.wipe, wipe_len env is]
theorem wipe_get {env : List Slt} {j : Nat} {s : Slt} : ∀ {is : List Nat}, (Mp.wipe env is)[j]? = some s → s ≠ .emp → env[j]? = some s ∧ j ∉ is
  | [], h, _ => ⟨h, by simp⟩
  | i :: is, h, hs => by
    unfold Mp.wipe at h
    by_cases hj : i = j
    · subst hj
      rw [List.getElem?_set] at h
      simp only [if_true] at h
      split at h
      · cases h; exact absurd rfl hs
      · cases h
    · rw [List.getElem?_set_ne hj] at h
      obtain ⟨h1, h2⟩ := wipe_get h hs
      exact ⟨h1, by simp only [List.mem_cons, not_or]; exact ⟨fun e => hj e.symm, h2⟩⟩
theorem wipeV_at {σ : L2.St} {j : Nat} : ∀ {is : List Nat}, j ∉ is → (L2.wipe σ is)[j]? = σ[j]?
  | [], _ => rfl
  | i :: is, h => by
    simp only [List.mem_cons, not_or] at h
    unfold L2.wipe
    rw [List.getElem?_set_ne (fun e => h.1 e.symm)]
    exact wipeV_at h.2
def wiped (s : Sta) (is : List Nat) : Sta := { s with env := Mp.wipe s.env is }
section
variable {K : PySem.W.Frag} {E : ErT} {W : WX} {g g1 g3 : Gh} {st st1 s2 : Sta} {σ : L2.St} {H H' H0 H1 : Hp} {own : List Nat}
theorem at_wiped {l : Pl} {d : Cel} (h : at? (wiped st own) l = some d) : at? st l = some d ∧ ∀ i, l = .box i → i ∉ own := by
  cases l with
  | cell n => exact ⟨h, fun i e => by cases e⟩
  | box j =>
    unfold at? wiped at h
    simp only at h
    cases e : (Mp.wipe st.env own)[j]? with
    | none => rw [e] at h; cases h
    | some s =>
      rw [e] at h
      cases s <;> simp only [reduceCtorEq] at h
      obtain ⟨h1, h2⟩ := wipe_get e (by simp)
      exact ⟨by unfold at?; simp only [h1]; exact h, fun i e => by cases e; exact h2⟩
theorem Rel.wiped (R : Rel K g st σ H) : Rel K g (wiped st own) (L2.wipe σ own) H ∧ Grow g st H g (wiped st own) H := by
  refine ⟨⟨R.sub, fun l c h => R.loc l c (at_wiped h).1, fun l l' c c' h h' => R.inj l l' c c' (at_wiped h).1 (at_wiped h').1, fun j w h => ?_, fun j c h => ?_, ?_⟩,
    ⟨fun _ _ e _ => e, fun _ o e => ⟨o, e⟩, fun _ _ e => e, fun _ _ => rfl, Nat.le_refl _, fun a ⟨l, c, h, e⟩ => .inl ⟨l, c, (at_wiped h).1, e⟩, fun _ _ e => .inl e⟩⟩
  · obtain ⟨h1, h2⟩ := wipe_get (show (Mp.wipe st.env own)[j]? = some (.val w) from h) (by simp)
    obtain ⟨x, h3, h4⟩ := R.slot j w h1
    exact ⟨x, by rw [wipeV_at h2]; exact h3, h4⟩
  · obtain ⟨h1, h2⟩ := wipe_get (show (Mp.wipe st.env own)[j]? = some (.box c) from h) (by simp)
    rw [wipeV_at h2]; exact R.box j c h1
  · show (Mp.wipe st.env own).length = (L2.wipe σ own).length
    rw [wipe_len, L2.wipe_length]; exact R.len
end
end Mq

namespace Mq
open PySem PySem.Spec PyProof.Rows L2 Mp
theorem RepL.nil {K : PySem.W.Frag} {F : Hp} {c : Nat → Addr} {len : Nat} : RepL K F c len [] [] := rfl
section
variable {X : Cx} {E : ErT} {W : WX} {tg elt iter : Expr} {ifs : List Expr} {scope : Scope} {own : List (Str × Nat)} {fw : Sta → Rs Walk} {ft : SV → Sta → Rs Unit} {fc : Sta → Rs Bool} {fe : Sta → Rs SV} {pos : Pos}
end
end Mq

namespace Mq
open PySem PySem.Spec PyProof.Rows L2 Mp
section
variable {X : Cx} {E : ErT} {W : WX} {tg elt iter c : Expr} {ifs : List Expr} {scope : Scope} {own : List (Str × Nat)} {fw : Sta → Rs Walk} {ft : SV → Sta → Rs Unit} {fc : Sta → Rs Bool} {fe : Sta → Rs SV} {pos : Pos}
theorem PTs.imp {X : Cx} {t t' : TT} (h : PTs X ifs t) (hi : ∀ σ H Q, t' σ H Q → t σ H Q) : PTs X ifs t' := ⟨fun pins s σ H Q I q => h.run pins s σ H Q I (hi _ _ _ q)⟩
end
end Mq

namespace Mq
open PySem PySem.Spec PyProof.Rows L2 Mp
section
variable {K : PySem.W.Frag} {g g1 : Gh} {st st1 : Sta} {σ : L2.St} {H H' : Hp}
mutual
theorem Rep.down {F : Hp} {c : Nat → Addr} {len n : Nat} : ∀ (v : SV) (x : V), Rep K F c len v x → v.refLt n = true → Rep K F c n v x
  | .non, _, r, _ => r
  | .bl _, _, r, _ => r
  | .int _, _, r, _ => r
  | .str _, _, r, _ => r
  | .tup xs, _, ⟨a, o, vs, e, s, od, r⟩, h => ⟨a, o, vs, e, s, od, RepL.down xs vs r (by simpa [SV.refLt] using h)⟩
  | .lst xs, _, ⟨a, vs, e, s, r⟩, h => ⟨a, vs, e, s, RepL.down xs vs r (by simpa [SV.refLt] using h)⟩
  | .scr xs, _, ⟨a, vs, e, s, r⟩, h => ⟨a, vs, e, s, RepL.down xs vs r (by simpa [SV.refLt] using h)⟩
  | .dct ks ws, _, ⟨a, e, r⟩, h => by
    have hw : SV.refsLt n ws = true := by simp only [SV.refLt, Bool.and_eq_true] at h; exact h.2
    have hk : SV.refsLt n ks = true := by simp only [SV.refLt, Bool.and_eq_true] at h; exact h.1
    rcases r with ⟨kvs, e1, e2, r⟩ | ⟨kvs, e1, e2, e3, q1, q2, q3, r⟩
    · exact ⟨a, e, .inl ⟨kvs, e1, e2, RepL.down ws _ r hw⟩⟩
    · exact ⟨a, e, .inr ⟨kvs, e1, e2, e3, q1, q2, RepL.down ks _ q3 hk, RepL.down ws _ r hw⟩⟩
  | .ref k, _, r, h => ⟨by simpa [SV.refLt] using h, r.2⟩
  | .view _, _, r, _ => r.elim
theorem RepL.down {F : Hp} {c : Nat → Addr} {len n : Nat} : ∀ (v : List SV) (x : List V), RepL K F c len v x → SV.refsLt n v = true → RepL K F c n v x
  | [], _, r, _ => r
  | v :: vs, _, ⟨y, ys, e, r1, r2⟩, h => by
    simp only [SV.refsLt, Bool.and_eq_true] at h
    exact ⟨y, ys, e, Rep.down v y r1 h.1, RepL.down vs ys r2 h.2⟩
end
theorem refsLt_all {n : Nat} : ∀ {xs : List SV}, (∀ x ∈ xs, x.refLt n = true) → SV.refsLt n xs = true
  | [], _ => rfl
  | x :: xs, h => by
    rw [SV.refsLt, h x List.mem_cons_self, refsLt_all fun y hy => h y (List.mem_cons_of_mem _ hy)]
    rfl
theorem CellRep.down {F : Hp} {c : Nat → Addr} {len n : Nat} {d : Cel} {o : HO} (r : CellRep K F c len d o) (h : d.refLt n = true) : CellRep K F c n d o := by
  cases d with
  | dead => exact r
  | ins _ fs =>
    obtain ⟨⟨dx, fv, e, e2, r⟩, q⟩ := r
    refine ⟨⟨dx, fv, e, e2, RepL.down _ _ r (refsLt_all fun x hx => ?_)⟩, q⟩
    obtain ⟨p, hp, rfl⟩ := List.mem_map.mp hx
    exact List.all_eq_true.mp h p hp
  | lst xs => obtain ⟨vs, e, r⟩ := r; exact ⟨vs, e, RepL.down _ _ r h⟩
  | dct ks ws =>
    have hw : SV.refsLt n ws = true := by simp only [Cel.refLt, Bool.and_eq_true] at h; exact h.2
    have hk : SV.refsLt n ks = true := by simp only [Cel.refLt, Bool.and_eq_true] at h; exact h.1
    rcases r with ⟨kvs, e1, e2, r⟩ | ⟨kvs, e1, e2, e3, q1, q2, q3, r⟩
    · exact .inl ⟨kvs, e1, e2, RepL.down ws _ r hw⟩
    · exact .inr ⟨kvs, e1, e2, e3, q1, q2, RepL.down ks _ q3 hk, RepL.down ws _ r hw⟩
theorem trim_some {n : Nat} {v : SV} {h h2 : List Cel} (e : trim n v h = some h2) : (h.length ≤ n ∧ h2 = h) ∨ (n < h.length ∧ v.refLt n = true ∧ (∀ c ∈ h.take n, c.refLt n = true) ∧ h2 = h.take n) := by
  unfold trim at e
  split at e
  · rename_i hle; cases e; exact .inl ⟨hle, rfl⟩
  · rename_i hle
    split at e
    · rename_i hk
      simp only [Bool.and_eq_true, List.all_eq_true] at hk
      cases e
      exact .inr ⟨by omega, hk.1, hk.2, rfl⟩
    · cases e
theorem at_take {env : List Slt} {h : List Cel} {n : Nat} {l : Pl} {d : Cel} (q : at? ⟨[], h.take n⟩ l = some d) : at? ⟨env, h⟩ l = some d ∧ ∃ k, l = .cell k ∧ k < n ∧ h[k]? = some d := by
  cases l with
  | box i => unfold at? at q; simp at q
  | cell k =>
    unfold at? at q ⊢
    simp only [List.getElem?_take] at q ⊢
    split at q
    · rename_i hk
      refine ⟨q, k, rfl, hk, ?_⟩
      cases e : h[k]? with
      | none => rw [e] at q; cases q
      | some c =>
        rw [e] at q
        cases c <;> simp [live?] at q <;> subst q <;> rfl
    · cases q
/-- a def's end: its slots are gone, the heap is cut -/
theorem Rel.trim {n : Nat} {v : SV} {h2 : List Cel} (R : Rel K g st σ H) (e : Mp.trim n v st.heap = some h2) (hn : n ≤ st.heap.length) :
    Rel K g ⟨[], h2⟩ [] H ∧ h2.length = n ∧ (∀ l d, at? ⟨[], h2⟩ l = some d → at? st l = some d) ∧ ∀ x, Rep K g.F g.c st.heap.length v x → Rep K g.F g.c n v x := by
  have key : h2 = st.heap.take n ∧ ((st.heap.length = n) ∨ ((∀ c ∈ st.heap.take n, c.refLt n = true) ∧ v.refLt n = true)) := by
    rcases trim_some e with ⟨h1, rfl⟩ | ⟨h1, hv, hc, rfl⟩
    · exact ⟨by rw [List.take_of_length_le h1], .inl (by omega)⟩
    · exact ⟨rfl, .inr ⟨hc, hv⟩⟩
  obtain ⟨rfl, hk⟩ := key
  have hl2 : (st.heap.take n).length = n := by rw [List.length_take]; omega
  have down : ∀ {d : Cel} {o : HO}, d ∈ st.heap.take n → CellRep K g.F g.c st.heap.length d o → CellRep K g.F g.c (st.heap.take n).length d o := fun {d o} hd r => by
    rw [hl2]
    rcases hk with hk | ⟨hk, _⟩
    · rw [← hk]; exact r
    · exact r.down (hk d hd)
  refine ⟨⟨R.sub, fun l d h => ?_, fun l l' d d' h h' => R.inj l l' d d' (at_take (env := st.env) h).1 (at_take (env := st.env) h').1, fun i v h => by simp at h, fun i c h => by simp at h, rfl⟩, hl2, fun l d h => (at_take (env := st.env) h).1, fun x r => ?_⟩
  · obtain ⟨h1, k, rfl, hk, e⟩ := at_take (env := st.env) h
    obtain ⟨h2, o, h3, h4⟩ := R.loc _ _ h1
    refine ⟨h2, o, h3, down ?_ h4⟩
    exact List.mem_of_getElem? (i := k) (by rw [List.getElem?_take, if_pos hk]; exact e)
  · rcases hk with hk | ⟨_, hv⟩
    · rw [← hk]; exact r
    · exact Rep.down _ _ r hv
end
end Mq

namespace Mq
open PySem PySem.Spec PyProof.Rows L2 Mp
def OutR (K : PySem.W.Frag) (E : ErT) (EX : XK) (g : Gh) (st : Sta) (H : Hp) (Q : VK) : RC → Prop
  | .ok v h => ∀ g' H', Grow g st H g' ⟨[], h⟩ H' → Rel K g' ⟨[], h⟩ [] H' → ∀ x, Rep K g'.F g'.c h.length v x → Q x H'
  | .err e h => ∀ g' H' cls d, Grow g st H g' ⟨[], h⟩ H' → Rel K g' ⟨[], h⟩ [] H' → E e g' ⟨[], h⟩ cls d H' → EX cls d H'
  | .bad => False
def spF (K : PySem.W.Frag) (E : ErT) (run : List SV → List Cel → RC) : Sp := fun vs H Q EX => ∃ g us h, Rel K g ⟨[], h⟩ [] H ∧ RepL K g.F g.c h.length us vs ∧ OutR K E EX g ⟨[], h⟩ H Q (run us h)
section
variable {K : PySem.W.Frag} {E : ErT} {W : WX} {g g1 g' : Gh} {st st1 : Sta} {σ : L2.St} {H H' : Hp} {h h2 : List Cel}
theorem at_heap {l : Pl} {d : Cel} (q : at? ⟨[], st.heap⟩ l = some d) : at? st l = some d ∧ ∃ n, l = .cell n := by
  cases l with
  | cell n => exact ⟨q, n, rfl⟩
  | box i => unfold at? at q; simp at q
theorem LiveA.heap {a : Addr} (q : LiveA g ⟨[], st.heap⟩ a) : LiveA g st a := by
  obtain ⟨l, d, h1, h2⟩ := q
  exact ⟨l, d, (at_heap h1).1, h2⟩
end
end Mq

namespace Mq
open PySem PySem.Spec PyProof.Rows L2 Mp
section
variable {X : Cx} {E : ErT} {W : WX} {pos p : Pos} {e : Expr} {es : List Expr} {fs : Sta → Rs (List SV)} {k : Nat} {f : Addr} {fd : FuncData} {ps : List Str} {x : Str} {P : Prog} {fi : Nat}
end
section
variable {K : PySem.W.Frag} {E : ErT} {EX : XK} {g : Gh} {H : Hp} {h : List Cel}
end
end Mq

namespace Mq
open PySem PySem.Spec PyProof.Rows L2 Mp
section
variable {K : PySem.W.Frag} {E : ErT} {W : WX} {g g1 g0 : Gh} {st st1 st0 : Sta} {σ : L2.St} {H H1 H0 : Hp}
structure Flt (K : PySem.W.Frag) (g : Gh) (st : Sta) (H : Hp) (p : Addr) (c : Cel) : Prop where
  ob : ∃ o, H p = some o ∧ CellRep K g.F g.c st.heap.length c o
  fr : g.F p = none
  nl : ¬ LiveA g st p
theorem Flt.up {p : Addr} {c : Cel} (f : Flt K g st H p c) (G : Grow g st H g1 st1 H1) : Flt K g1 st1 H1 p c := by
  obtain ⟨⟨o, ho, rc⟩, hF, hl⟩ := f
  refine ⟨⟨o, G.keep p o ho hl, CellRep.up G.fr G.cells G.hlen rc⟩, ?_, fun z => ?_⟩
  · cases e : g1.F p with
    | none => rfl
    | some u =>
      rcases G.new p u e with z | z | z
      · rw [hF] at z; cases z
      · rw [ho] at z; cases z
      · exact absurd z hl
  · rcases G.live p z with z | z
    · exact hl z
    · rw [ho] at z; cases z
def RVr (K : PySem.W.Frag) (g : Gh) (st : Sta) (H : Hp) : List RV → List V → List Addr → Prop
  | [], xs, ps => xs = [] ∧ ps = []
  | .v w :: r, xs, ps => ∃ y ys, xs = y :: ys ∧ Rep K g.F g.c st.heap.length w y ∧ RVr K g st H r ys ps
  | .c c :: r, xs, ps => ∃ p ys qs, xs = .ref p :: ys ∧ ps = p :: qs ∧ Flt K g st H p c ∧ p ∉ qs ∧ RVr K g st H r ys qs
theorem RVr.up (G : Grow g st H g1 st1 H1) : ∀ {rs : List RV} {xs : List V} {ps : List Addr}, RVr K g st H rs xs ps → RVr K g1 st1 H1 rs xs ps
  | [], _, _, r => r
  | .v w :: rs, _, _, ⟨y, ys, e, r1, r2⟩ => ⟨y, ys, e, Rep.up G.fr G.cells G.hlen _ _ r1, RVr.up G r2⟩
  | .c c :: rs, _, _, ⟨p, ys, qs, e1, e2, f, hn, r2⟩ => ⟨p, ys, qs, e1, e2, f.up G, hn, RVr.up G r2⟩
theorem RVr.length : ∀ {rs : List RV} {xs : List V} {ps : List Addr}, RVr K g st H rs xs ps → rs.length = xs.length
  | [], _, _, r => by rw [r.1]; rfl
  | .v w :: rs, _, _, ⟨y, ys, e, r1, r2⟩ => by subst e; simp [RVr.length r2]
  | .c c :: rs, _, _, ⟨p, ys, qs, e1, e2, f, hn, r2⟩ => by subst e1; simp [RVr.length r2]
end
section
variable {X : Cx} {E : ErT} {W : WX} {a b c e : Expr} {es : List Expr} {pos : Pos} {fa : Sta → Rs SV} {ff : Sta → Rs Cel} {fr : Sta → Rs (List RV)}
theorem Flt.box {K : PySem.W.Frag} {g : Gh} {st : Sta} {H : Hp} {p q : Addr} {c d : Cel} {i : Nat} (f : Flt K g st H q d) (h : p ≠ q) : Flt K (g.boxAt i p) { st with env := st.env.set i (.box c) } H q d := by
  obtain ⟨⟨o, ho, rc⟩, hF, hl⟩ := f
  refine ⟨⟨o, ho, rc⟩, hF, fun ⟨l, d', h1, h2⟩ => ?_⟩
  rcases at_boxSet h1 with ⟨rfl, _⟩ | ⟨n, h3⟩
  · rw [boxAt_self] at h2; exact h h2
  · rw [boxAt_ne n] at h2; exact hl ⟨l, d', h3, h2⟩
theorem RVr.box {K : PySem.W.Frag} {g : Gh} {st : Sta} {H : Hp} {p : Addr} {c : Cel} {i : Nat} : ∀ {rs : List RV} {xs : List V} {ps : List Addr}, RVr K g st H rs xs ps → p ∉ ps → RVr K (g.boxAt i p) { st with env := st.env.set i (.box c) } H rs xs ps
  | [], _, _, r, _ => r
  | .v w :: rs, _, _, ⟨y, ys, e, r1, r2⟩, h => ⟨y, ys, e, r1, RVr.box r2 h⟩
  | .c c :: rs, _, _, ⟨p', ys, qs, e1, e2, f, hn, r2⟩, h => by
    subst e2
    exact ⟨p', ys, qs, e1, rfl, f.box (fun e => h (by rw [e]; exact List.mem_cons_self)), hn, RVr.box r2 fun z => h (List.mem_cons_of_mem _ z)⟩
end
end Mq

namespace Mq
open PySem PySem.Spec PyProof.Rows L2 Mp
theorem PGs.or {X : Cx} {e : List Expr} {t t' : TGs} (h : PGs X e t) (h' : PGs X e t') : PGs X e (fun x σ H Q => t x σ H Q ∨ t' x σ H Q) := ⟨fun pins s σ H v u Q I r q => q.elim (h.run pins s σ H v u Q I r) (h'.run pins s σ H v u Q I r)⟩
section
variable {X : Cx} {E : ErT} {W : WX} {L : List Nat} {e : Expr} {es : List Expr} {pos : Pos} {ft : SV → Sta → Rs Unit} {fts : List RV → Sta → Rs Unit} {fr : Sta → Rs (List RV)}
end
end Mq

namespace Mq
open PySem PySem.Spec PyProof.Rows L2 Mp
section
variable {X : Cx} {E : ErT} {W : WX} {a b c e : Expr} {es : List Expr} {pos p p2 : Pos} {fa fb fc : Sta → Rs SV} {fw : Sta → Rs Walk}
end
end Mq

namespace Mq
open PySem PySem.Spec PyProof.Rows L2 Mp
section
variable {α : Type} {le : α → α → Bool}
end

section
variable {X : Cx} {E : ErT} {W : WX} {a : Expr} {pos p : Pos} {fa : Sta → Rs SV}
end
end Mq

namespace Mq
open PySem PySem.Spec PyProof.Rows L2 Mp
section
variable {K : PySem.W.Frag} {g : Gh} {len : Nat} {H : Hp} {A : List Addr}
end
section
variable {X : Cx} {E : ErT} {W : WX} {tg a b c e : Expr} {fa fb fc : Sta → Rs SV} {p pos : Pos}
end
section
variable {X : Cx} {E : ErT} {W : WX} {a b c e : Expr} {fa fb fc : Sta → Rs SV} {fs : Sta → Rs (List SV)} {p pos : Pos}
end
section
variable {X : Cx} {E : ErT} {W : WX} {a b c e : Expr} {fa fb fc : Sta → Rs SV} {p pos : Pos}
end
end Mq

namespace Mq
open PySem PySem.Spec PyProof.Rows L2 Mp
open PySem.Calls
section
variable {prog : Program} {w : World} {A : Around} {E : Value → Shared → Prop} {s : Shared} {r : Addr} {Q : Bool → Shared → Prop}
end
section
variable {P : Program} {w : World} {A : Around} {E : Value → Shared → Prop} {s : Shared} {a : Addr} {es : Array (Int × Value)} {ep : Nat} {t : SetTable}
end
section
variable {P : Program} {w : World} {A : Around} {E : Value → Shared → Prop} {s : Shared} {a : Addr} {es : Array (Int × Value)} {ep : Nat} {t : SetTable}
end

section
variable {X : Cx} {E : ErT} {W : WX} {a : Expr} {fa : Sta → Rs SV} {p p2 pos pos2 : Pos}
end
end Mq

namespace Mq
open PySem PySem.Spec PyProof.Rows L2 Mp
section
variable {K : PySem.W.Frag} {F : Hp} {c : Nat → Addr} {len : Nat}
end
section
variable {K : PySem.W.Frag} {g : Gh} {st : Sta} {σ : L2.St} {H : Hp} {v : SV} {x : V}
theorem RepV.cell {c : Cel} (R : Rel K g st σ H) (r : RepV K g st σ v x) (hp : ∃ l, plOf v = some l) (hc : st.cellOf v = some c) (hl : live? c = some c) : ∃ a o, x = .ref a ∧ H a = some o ∧ CellRep K g.F g.c st.heap.length c o := by
  obtain ⟨l, h1⟩ := hp
  have h2 := cell_at h1 hc hl
  obtain ⟨_, o, h3, h4⟩ := R.loc l c h2
  exact ⟨g.at l, o, ref_of R h1 h2 r, h3, h4⟩
end
section
variable {X : Cx} {E : ErT} {W : WX} {o e : Expr} {es : List Expr} {fo fe : Sta → Rs SV} {fs : Sta → Rs (List SV)} {pos p pos' tpos apos : Pos} {f : Nat}
end
section
variable {X : Cx} {E : ErT} {W : WX} {o e : Expr} {es : List Expr} {fo fe : Sta → Rs SV} {fs : Sta → Rs (List SV)} {pos p apos : Pos} {k c mi : Nat} {m x : Str} {f : Addr} {fd : FuncData} {ps : List Str} {P : Prog}
end
end Mq

namespace Mq
open PySem PySem.Spec PyProof.Rows L2 Mp
section
variable {X : Cx} {pins pins' : List (Addr × Obj)} {σ σ1 σ2 : L2.St} {H H1 H2 : Hp} {s s2 : Shared} {g g2 : Gh} {st st2 : Sta}
end
section
variable {X : Cx} {E : ErT} {W : WX} {a b c e : Expr} {es : List Expr} {fa fb fc : Sta → Rs SV} {fs : Sta → Rs (List SV)} {p pos : Pos}
end
end Mq

namespace Mq
open PySem PySem.Spec PyProof.Rows L2 Mp
section
variable {prog : Program} {w : World} {A : Around} {E : Value → Shared → Prop} {s : Shared}
end
section
variable {X : Cx} {E : ErT} {W : WX} {a e : Expr} {fa : Sta → Rs SV} {p1 p2 p3 pos : Pos} {k : Nat}
theorem RepL.reverse {K : PySem.W.Frag} {F : Hp} {c : Nat → Addr} {len : Nat} : ∀ {xs : List SV} {vs : List V}, RepL K F c len xs vs → RepL K F c len xs.reverse vs.reverse
  | [], _, r => by rw [show _ = [] from r]; exact rfl
  | x :: xs, _, ⟨y, ys, e, r1, r2⟩ => by
    subst e
    rw [List.reverse_cons, List.reverse_cons]
    exact (RepL.reverse r2).append ⟨y, [], rfl, r1, rfl⟩
end
end Mq

namespace Mq
open PySem PySem.Spec PyProof.Rows L2 Mp
section
variable {K : PySem.W.Frag} {F : Hp} {c : Nat → Addr} {len : Nat}
end
section
variable {X : Cx} {pins : List (Addr × Obj)} {σ σ1 : L2.St} {H : Hp} {s : Shared} {g : Gh} {st : Sta} {a : SV} {x : V}
end
section
variable {prog : Program} {w : World} {A : Around} {E : Value → Shared → Prop} {s : Shared} {d : Addr} {es : Array DictEntry} {ep : Nat}
end
section
variable {X : Cx} {pins : List (Addr × Obj)} {σ σ1 : L2.St} {H : Hp} {s : Shared} {g : Gh} {st : Sta}
end
section
variable {X : Cx} {pins : List (Addr × Obj)} {σ σ1 : L2.St} {H : Hp} {s : Shared} {g : Gh} {st : Sta}
end
section
variable {X : Cx} {E : ErT} {W : WX} {a b c e : Expr} {p pos apos mpos : Pos} {fa fb fc : Sta → Rs SV}
end
end Mq

namespace Mq
open PySem PySem.Spec PyProof.Rows L2 Mp
section
variable {X : Cx} {E : ErT} {W : WX} {a b c e : Expr} {p p2 pos apos mpos : Pos} {fa fb fc : Sta → Rs SV}
end
end Mq

namespace Mq
open PySem PySem.Spec PyProof.Rows L2 Mp
section
variable {K : PySem.W.Frag} {g g1 : Gh} {st st1 : Sta} {σ : L2.St} {H H1 : Hp} {p : Addr} {o o' : HO}
theorem Rel.touch (R : Rel K g st σ H) (hf : g.F p = none) (hl : ¬ LiveA g st p) : Rel K g st σ (upd H p o) := by
  refine ⟨fun a u e => ?_, fun l c h => ?_, R.inj, R.slot, R.box, R.len⟩
  · by_cases ha : a = p
    · subst ha; rw [hf] at e; cases e
    · rw [upd_ne ha]; exact R.sub _ _ e
  · obtain ⟨h1, u, h2, h3⟩ := R.loc l c h
    have : g.at l ≠ p := fun e => hl ⟨l, c, h, e⟩
    exact ⟨h1, u, by rw [upd_ne this]; exact h2, h3⟩
theorem Grow.touch (hn : H p = none) (G : Grow g st H g1 st1 H1) : Grow g st H g1 st1 (upd H1 p o) := by
  refine ⟨fun a u e n => ?_, fun a u e => ?_, G.fr, G.cells, G.hlen, G.live, G.new⟩
  · have : a ≠ p := fun z => by subst z; rw [hn] at e; cases e
    rw [upd_ne this]; exact G.keep a u e n
  · have : a ≠ p := fun z => by subst z; rw [hn] at e; cases e
    rw [upd_ne this]; exact G.dom a u e
end
section
variable {X : Cx} {E : ErT} {W : WX} {k v : Expr} {ks : List (Option Expr)} {vs : List Expr} {pos : Pos} {fa fb : Sta → Rs SV} {fs : Sta → Rs (List SV)}
end
section
variable {K : PySem.W.Frag} {F : Hp} {c : Nat → Addr} {len : Nat} {P : Program} {w : World}
end
section
variable {X : Cx} {E : ErT} {W : WX} {keys : List (Option Expr)} {values : List Expr} {pos : Pos} {fs : Sta → Rs (List SV)}
end
end Mq

namespace Mq
open PySem PySem.Spec PyProof.Rows L2 Mp
section
variable {X : Cx} {E : ErT} {W : WX} {tg a b : Expr} {fa fb : Sta → Rs SV} {p pos : Pos}
end
section
variable (is is2 : List Nat) (fw : Sta → Rs Walk) (ft : SV → Sta → Rs Unit) (fw2 : Sta → Rs Walk) (ft2 : SV → Sta → Rs Unit) (fe : Sta → Rs SV)
end
/-- what holds while the new list D grows -/
structure LcI (K : PySem.W.Frag) (g1 : Gh) (st1 : Sta) (H1 : Hp) (A : List Addr) (D : Addr) (is : List Nat) (σw : L2.St) (g3 : Gh) (st3 : Sta) (accS : List SV) (accV : List V) (H' : Hp) : Prop where
  R : Rel K g3 (wiped st3 is) σw H'
  G : Grow g1 st1 H1 g3 (wiped st3 is) H'
  S : ∀ a ∈ A, Still g3 (wiped st3 is) H' a ∧ H' a = H1 a
  dd : H' D = some (.lst accV)
  F : g3.F D = none
  L : ¬ LiveA g3 (wiped st3 is) D
  acc : RepL K g3.F g3.c st3.heap.length accS.reverse accV
section
variable {K : PySem.W.Frag} {g1 g3 g4 : Gh} {st1 st3 st4 : Sta} {H1 H' H4 : Hp} {A : List Addr} {D : Addr} {is is' : List Nat} {σw σw' : L2.St} {accS : List SV} {accV : List V}
theorem LcI.app {v : SV} {y : V} (i : LcI K g1 st1 H1 A D is σw g3 st3 accS accV H') (hD : H1 D = none) (ry : Rep K g3.F g3.c st3.heap.length v y) : LcI K g1 st1 H1 A D is σw g3 st3 (v :: accS) (accV ++ [y]) (upd H' D (.lst (accV ++ [y]))) := by
  refine ⟨i.R.touch i.F i.L, i.G.touch hD, fun a ha => ?_, upd_same, i.F, i.L, ?_⟩
  · obtain ⟨z1, z2⟩ := i.S a ha
    have hne : a ≠ D := fun z => by
      subst z
      rw [i.dd, hD] at z2; cases z2
    refine ⟨?_, by rw [upd_ne hne]; exact z2⟩
    rcases z1 with ⟨o, e⟩ | ⟨hn, hl⟩
    · exact .inl ⟨o, e⟩
    · exact .inr ⟨by rw [upd_ne hne]; exact hn, hl⟩
  · rw [List.reverse_cons]
    exact i.acc.append ⟨y, [], rfl, ry, rfl⟩
end
section
variable {E : ErT} {W : WX} {fw : Sta → Rs Walk} {ft : SV → Sta → Rs Unit} {fw2 : Sta → Rs Walk} {ft2 : SV → Sta → Rs Unit} {fe : Sta → Rs SV}
end
section
variable {X : Cx} {E : ErT} {W : WX} {tg elt iter tg1 iter1 : Expr} {scope : Scope} {own : List (Str × Nat)} {vs1 : List Nat} {fw : Sta → Rs Walk} {ft : SV → Sta → Rs Unit} {fw2 : Sta → Rs Walk} {ft2 : SV → Sta → Rs Unit} {fe : Sta → Rs SV} {pos : Pos}
end
end Mq

namespace Mq
open PySem PySem.Spec PyProof.Rows L2 Mp
def plainTest : Expr → Bool | .UnaryOp _ _ _ => false | .BoolOp _ _ _ => false | .IfExp _ _ _ _ => false | .Compare _ _ _ _ => false | _ => true
theorem plainT {e : Expr} {env : Env} (h : plainTest e = true) (whole : Sem Value) : isTrue e env whole = (do let v ← whole; standAt e.pos; holding [v] (truthy v)) := by
  cases e <;> first | (cases h; done) | rfl
theorem PW.of {X : Cx} {op : BoolOp} {es : List Expr} {p : Pos} {t : TT} (h : PT X (.BoolOp op es p) t) : PW X (.BoolOp op es p) t := ⟨fun w pins s σ H Q I q => by
  have := h.run pins s σ H Q I q
  rw [PySem.isTrue] at this ⊢
  exact this⟩
end Mq

namespace Mq
open PySem PySem.Spec PyProof.Rows L2 Mp
section
variable {X : Cx} {E : ErT} {W : WX} {a b c e : Expr} {pos p2 : Pos} {fa fb fc : Sta → Rs SV}
end
end Mq

namespace Mq
open PySem PySem.Spec PyProof.Rows L2 Mp
/-- the def of such an __init__, seen in the written part; f is the parameter's name and the field's -/
structure InitFd (P : Program) (K : PySem.W.Frag) (C : Addr) (f : Str) (fd : FuncData) (body : List Stmt) : Prop where
  bd : fd.body = .stmts body
  shape : ∃ p0 p1 p2 p3 p4 p5 p6 p7 p8 p9, body = [.Expr (.Call (.Attribute (.Call (.Name "super" p0) [] [] p1) "__init__" p2) [.Name f p3] [] p4) p5, .Assign [.Attribute (.Name "self" p6) f p7] (.Name f p8) p9] ∧ (p2.endLine == p4.line) = true
  par : ∃ o0 o1 q0 q1, fd.params = ⟨[], [⟨"self", o0, q0⟩, ⟨f, o1, q1⟩], none, [], [], none, []⟩
  df : fd.defaults = .none
  fnm : f = "index" ∨ f = "most" ∨ f = "place"
  ls : fd.scope.names.lookup ("self" : Str) = some .local
  lf : fd.scope.names.lookup f = some .local
  lsu : fd.scope.names.lookup ("super" : Str) = some .globalImplicit
  lc : fd.scope.names.lookup ("__class__" : Str) = some .free
  nc : ∀ x ∈ fd.scope.names, x.2 ≠ .cell
  kd : fd.scope.kind = .function
  co : fd.scope.isCoroutine = false
  ge : fd.scope.isGenerator = false
  gl : fd.globals = mainGlobals
  bl : fd.builtins = builtinsNs
  code : ∃ cc oc dc vs sl file tf, fd.code = .ref cc ∧ K.lookup cc = some ⟨oc, dc, .fields vs, sl⟩ ∧ vs[2]? = some (.str file tf) ∧ ((P.main.file : Str) == file) = true
  cd : PySem.W.codeIn K fd.code fd.qualname = true
  cell : ∃ k ok dk sk, fd.closure.lookup ("__class__" : Str) = some k ∧ K.lookup k = some ⟨ok, dk, .cell (some (.ref C)), sk⟩
  top : (P.main.scope.names.lookup ("super" : Str)).isSome = false
section
variable {P0 : Program} {w : World} {K : PySem.W.Frag} {mg : Str → Option Value} {base : Heap} {A : Around} {s : Shared} {C fI a t0 : Addr} {f : Str} {fd : FuncData} {body : List Stmt} {R : Result → Shared → Prop} {v : Value} {oc : Value} {od : Option Addr} {osl : Array (Option Value)}
/-- what the written part tells of the class -/
structure InitCls (K : PySem.W.Frag) (C : Addr) (f : Str) : Prop where
  oex : OexC K C
  sup : PySem.W.ks_superIn K C C "__init__" = some (some (.builtin "ValueError.__init__"))
  own : PySem.W.mroIn K C (.ref C) = some true
  ve : PySem.W.subIn K (.ref C) (.type "ValueError") = some true
  no : PySem.W.findIn K (.ref C) f = some none
  third : PySem.W.nsIn K cStatics "thirdparty.any" = some none
end
end Mq

namespace Mq
open PySem PySem.Spec PyProof.Rows L2 Mp
def excN : Nat → Str
  | 0 => "FlowError" | 1 => "BadFlow" | 2 => "BadBox" | 3 => "BadPipe" | 4 => "BadMarks" | 5 => "BadFiring" | 6 => "BadWord" | 7 => "BadCounts" | 8 => "NotBalanced" | 9 => "NotLive"
  | 10 => "BadRoom" | 11 => "BadLoop" | 12 => "BadCode" | 13 => "BadSet" | 14 => "BadOrder" | 15 => "BadTimes" | 16 => "BadCount" | 17 => "NotText" | 18 => "InvalidText" | _ => "TooMany"
abbrev xA (K : PySem.W.Frag) (c : Nat) : Addr := He.ga K (excN c)
structure ExT (K : PySem.W.Frag) (exs : List (Str × Nat)) (c : Nat) : Prop where
  rs : PySem.W.subIn K (.ref (xA K c)) (.type "BaseException") = some true
  ty : PySem.W.typeIn K (.ref (xA K c)) = some (.type "type")
  kp : PySem.W.keepIn K (.ref (xA K c)) = true
  hcl : (PySem.W.clsIn K (xA K c)).isSome = true
  ga : PySem.W.findIn K (.ref (xA K c)) "__getattribute__" = some (some (.builtin "BaseException.__getattribute__"))
  gt : PySem.W.findIn K (.ref (xA K c)) "__getattr__" = some none
  ca : PySem.W.findIn K (.ref (xA K c)) "__class__" = some (some (.builtin "object.__class__"))
  gs : PySem.W.specialIn K (.builtin "object.__class__") "__get__" = some (some (.builtin "getset_descriptor.__get__"))
  tk : PySem.W.takesIn K (.builtin "object.__class__") = some true
  ob : PySem.W.mroIn K (xA K c) (.type "object") = some true
  hd : PySem.W.hasDictIn K (xA K c) = true
  kit : ∀ x d, (x, d) ∈ exs → d ≠ 0 → PySem.W.kitOne K (.ref (xA K c)) (.ref (He.ga K x)) = some (c == d)
  top : ∀ x d, (x, d) ∈ exs → d = 0 → PySem.W.exmOne K (.ref (xA K c)) (.ref (He.ga K x)) = some true
  nof : ∀ i, excF c = some i → PySem.W.findIn K (.ref (xA K c)) (fldN i) = some none
structure ExMk (P : Program) (K : PySem.W.Frag) (c : Nat) : Prop where
  ini : ∀ i, excF c = some i → ∃ fI fd body oc od osl, PySem.W.findIn K (.ref (xA K c)) "__init__" = some (some (.ref fI)) ∧ PySem.W.typeIn K (.ref fI) = some (.type "function") ∧ K.lookup fI = some ⟨oc, od, .func fd, osl⟩ ∧ InitFd P K (xA K c) (fldN i) fd body ∧ InitCls K (xA K c) (fldN i)
  own : excF c = none → PySem.W.excIn K (xA K c) He.veBase "ValueError.__new__" = true
def oexB (K : PySem.W.Frag) (C : Addr) : Bool := match K.lookup C with
  | some ⟨.type "type", _, .cls cd, sl⟩ => (match cd.mro, sl.toList with
    | .ref C' :: bm, [_, _, _, _, some (.builtin n), _] => C' == C && n == "ValueError.__new__" && !cd.hasDel && cd.hasDict && PySem.HandSPX.refsVE bm
    | _, _ => false)
  | _ => false
def fnB (fl : Str) (K : PySem.W.Frag) (C : Addr) (f : Str) (fd : FuncData) : Bool :=
  (match fd.body with
    | .stmts [.Expr (.Call (.Attribute (.Call (.Name s0 _) [] [] _) i0 p2) [.Name a _] [] p4) _, .Assign [.Attribute (.Name s1 _) g _] (.Name b _) _] =>
      decide (s0 = "super") && decide (i0 = "__init__") && decide (a = f) && decide (s1 = "self") && decide (g = f) && decide (b = f) && (p2.endLine == p4.line)
    | _ => false) &&
  (match fd.params with
    | ⟨[], [⟨a0, _, _⟩, ⟨a1, _, _⟩], none, [], [], none, []⟩ => decide (a0 = "self") && decide (a1 = f)
    | _ => false) &&
  (match fd.defaults with | .none => true | _ => false) && (decide (f = "index") || decide (f = "most") || decide (f = "place")) &&
  decide (fd.scope.names.lookup ("self" : Str) = some .local) && decide (fd.scope.names.lookup f = some .local) && decide (fd.scope.names.lookup ("super" : Str) = some .globalImplicit) && decide (fd.scope.names.lookup ("__class__" : Str) = some .free) &&
  fd.scope.names.all (fun x => decide (x.2 ≠ .cell)) && decide (fd.scope.kind = .function) && !fd.scope.isCoroutine && !fd.scope.isGenerator && decide (fd.globals = mainGlobals) && decide (fd.builtins = builtinsNs) &&
  (match fd.code with
    | .ref cc => (match K.lookup cc with | some ⟨_, _, Data.fields vs, _⟩ => (match vs[2]? with | some (Value.str file _) => fl == file | _ => false) | _ => false)
    | _ => false) && PySem.W.codeIn K fd.code fd.qualname &&
  (match fd.closure.lookup ("__class__" : Str) with
    | some k => (match K.lookup k with | some ⟨_, _, .cell (some (.ref D)), _⟩ => D == C | _ => false)
    | none => false)
def iniB (fl : Str) (K : PySem.W.Frag) (C : Addr) (f : Str) : Bool :=
  (match PySem.W.findIn K (.ref C) "__init__" with
    | some (some (.ref fI)) => decide (PySem.W.typeIn K (.ref fI) = some (.type "function")) && (match K.lookup fI with | some ⟨_, _, .func fd, _⟩ => fnB fl K C f fd | _ => false)
    | _ => false) &&
  oexB K C && He.eqO (PySem.W.findIn K (.ref C) "__setattr__") (some (some (.builtin "object.__setattr__"))) && decide (PySem.W.subIn K (.ref C) (.type "BaseException") = some true) && decide (PySem.W.typeIn K (.ref C) = some (.type "type")) && PySem.W.keepIn K (.ref C) &&
  He.eqO (PySem.W.ks_superIn K C C "__init__") (some (some (.builtin "ValueError.__init__"))) && decide (PySem.W.mroIn K C (.ref C) = some true) && decide (PySem.W.subIn K (.ref C) (.type "ValueError") = some true) &&
  He.eqO (PySem.W.findIn K (.ref C) f) (some none) && He.eqO (PySem.W.nsIn K cStatics "thirdparty.any") (some none)
def exTB (K : PySem.W.Frag) (exs : List (Str × Nat)) (c : Nat) : Bool :=
  decide (PySem.W.subIn K (.ref (xA K c)) (.type "BaseException") = some true) && decide (PySem.W.typeIn K (.ref (xA K c)) = some (.type "type")) && PySem.W.keepIn K (.ref (xA K c)) && (PySem.W.clsIn K (xA K c)).isSome &&
  He.eqO (PySem.W.findIn K (.ref (xA K c)) "__getattribute__") (some (some (.builtin "BaseException.__getattribute__"))) && He.eqO (PySem.W.findIn K (.ref (xA K c)) "__getattr__") (some none) && He.eqO (PySem.W.findIn K (.ref (xA K c)) "__class__") (some (some (.builtin "object.__class__"))) &&
  He.eqO (PySem.W.specialIn K (.builtin "object.__class__") "__get__") (some (some (.builtin "getset_descriptor.__get__"))) && decide (PySem.W.takesIn K (.builtin "object.__class__") = some true) && decide (PySem.W.mroIn K (xA K c) (.type "object") = some true) && PySem.W.hasDictIn K (xA K c) &&
  exs.all (fun p => if p.2 == 0 then decide (PySem.W.exmOne K (.ref (xA K c)) (.ref (He.ga K p.1)) = some true) else decide (PySem.W.kitOne K (.ref (xA K c)) (.ref (He.ga K p.1)) = some (c == p.2))) &&
  (match excF c with | some i => He.eqO (PySem.W.findIn K (.ref (xA K c)) (fldN i)) (some none) | none => true)
def exMB (fl : Str) (K : PySem.W.Frag) (c : Nat) : Bool := match excF c with
  | some i => iniB fl K (xA K c) (fldN i)
  | none => PySem.W.excIn K (xA K c) He.veBase "ValueError.__new__"
end Mq

namespace Mq
open PySem PySem.Spec PyProof.Rows L2 Mp
/-- what an exception in the air is -/
def exQ (K : PySem.W.Frag) (exs : List (Str × Nat)) (e : Er) (cls : Value) (d : Option Addr) (H : Hp) : Prop := ExT K exs e.cls ∧ cls = .ref (xA K e.cls) ∧ match e.arg with
  | none => d = none
  | some v => ∃ dd i x, d = some dd ∧ excF e.cls = some i ∧ H dd = some (.xd [(fldN i, x)]) ∧ ((∃ n, v = .int n ∧ x = .int n) ∨ (v = .non ∧ x = .non))
def exE (K : PySem.W.Frag) (exs : List (Str × Nat)) : ErT := fun e _ _ cls d H => exQ K exs e cls d H
section
variable {X : Cx} {W : WX} {E : ErT} {exs : List (Str × Nat)} {c i : Nat} {x : Str} {e : Expr} {te : TE} {fe : Sta → Rs SV} {p pos pos' : Pos}
end
end Mq

namespace Mq
open PySem PySem.Spec PyProof.Rows L2 Mp
/-- a plain value -/
def litR : SV → V → Prop
  | .non, x => x = .non
  | .bl b, x => x = .bl b
  | .int i, x => x = .int i
  | .str s, x => x = .str ⟨s.toArray⟩
  | _, _ => False
theorem litR.to {K : PySem.W.Frag} {F : Hp} {c : Nat → Addr} {len : Nat} {v : SV} {x : V} (h : litR v x) : Rep K F c len v x := by
  cases v <;> first | exact h.elim | exact h
section
variable {X : Cx} {W : WX} {E : ErT} {exs : List (Str × Nat)} {c i j : Nat} {n z y : Str} {e ea eb : Expr} {p p1 p2 p3 p4 p5 pos pos' : Pos} {a : Addr} {oe : Obj} {cls : Value} {d : Option Addr} {pn : List (Addr × Obj)}
/-- within the suite: the exception stands in its slot -/
def InS (K : PySem.W.Frag) (exs : List (Str × Nat)) (i : Nat) (a : Addr) (cls : Value) (d : Option Addr) (er : Er) (σ : L2.St) (H : Hp) : Prop := (∃ σ0 : L2.St, σ = σ0.set i (some (.ref a))) ∧ exQ K exs er cls d H
theorem InS.at {er : Er} {pins : List (Addr × Obj)} {s : Shared} {σ : L2.St} {H : Hp} (h : InS X.K exs i a cls d er σ H) (hi : X.N[i]? = some n) (I : Inv (X.suite a pn) pins σ H s) : σ[i]? = some (some (.ref a)) := by
  obtain ⟨⟨σ0, rfl⟩, _⟩ := h
  have hl : (σ0.set i (some (V.ref a))).length = X.N.length := I.len
  have hlt : i < X.N.length := (List.getElem?_eq_some_iff.mp hi).1
  exact List.getElem?_set_self (by rw [List.length_set] at hl; omega)
/-- the state behind the suite -/
theorem Rel.caught {g : Gh} {st : Sta} {σ : L2.St} {H : Hp} (R : Rel X.K g st σ H) : Rel X.K g { st with env := st.env.set i .emp } (σ.set i none) H ∧ Grow g st H g { st with env := st.env.set i .emp } H := Rel.wiped (own := [i]) R
end
end Mq

namespace Mq
open PySem PySem.Spec PyProof.Rows L2 Mp
structure CkX where
  N : List Str
  sc : Scope
  raw : Option (List (Str × NameKind))
  own : List Nat
  fns : List (Str × Nat)
  gci : List (Str × Int)
  gcs : List (Str × List Nat)
  gct : List (Str × List (List Nat))
  clss : List (Str × Nat × Nat)
  mths : List ((Nat × Str) × Nat)
  noat : List (Nat × Nat)
  exs : List (Str × Nat)
def CkX.glo (C : CkX) (x : Str) : Bool := match C.sc.names.lookup x with | some .globalImplicit => true | _ => false
def CkX.loc (C : CkX) (x : Str) : Bool := match C.sc.names.lookup x with | some .local => true | _ => false
/-- a name that is stored -/
def CkX.sto (C : CkX) (x : Str) : Bool := match C.sc.names.lookup x with
  | some .local => true
  | some .cell => (match C.raw with | none => true | some ns => ns.lookup x == some .cell)
  | _ => false
def notDbg (x : Str) : Bool := !(x == ("__debug__" : Str)) && !(x == ("__classdict__" : Str)) && !(x == ("__name__" : Str))
def CkX.isSlot (C : CkX) (i : Nat) (x : Str) : Bool := decide (C.N[i]? = some x) && notDbg x
end Mq

namespace Mq
open PySem PySem.Spec PyProof.Rows L2 Mp
def bltNames : List Str := ["len", "tuple", "sum", "max", "min", "abs", "int", "str", "bool", "isinstance", "list", "sorted", "range", "enumerate", "zip", "set", "dict", "super"]
structure CkOk (P : Prog) (E : ErT) (k : Nat) (C : CkX) (X : Cx) : Prop where
  N : X.N = C.N
  nd : X.N.Nodup
  calm : X.calm = true
  room : Room k X.A
  sc : X.env.scope = C.sc
  sto : ∀ x, C.sto x = true → Loc X.env.scope x ∧ (X.fn x = true ∨ X.env.scope.names.lookup x = some .local)
  bl : ∀ x ∈ bltNames, X.mg x = none
  fns : ∀ x f, C.fns.lookup x = some f → ∃ a fd ps, FnOk X.prog X.w X.K X.mg X.base (L2.CX X.prog X.w) k a fd ps (spF X.K E (P.run f)) ∧ X.mg x = some (.ref a) ∧ PySem.W.keepIn X.K (.ref a) = true ∧ Binds X.K fd ps []
  gci : ∀ x i, C.gci.lookup x = some i → ∃ t, X.mg x = some (.int i t)
  gcs : ∀ x l, C.gcs.lookup x = some l → ∃ t, X.mg x = some (.str ⟨l.toArray⟩ t)
  gct : ∀ x (l : List (List Nat)), C.gct.lookup x = some l → ∃ a, X.mg x = some (.ref a) ∧ ∀ H, SqT X.K H a (l.map fun t => V.str ⟨t.toArray⟩)
  clo : ∀ x c mi, C.clss.lookup x = some (c, mi) → Cls X.K (He.ga X.K (clsN c)) ∧ ((∀ vs h, P.mk_ mi vs h = .bad) ∨ ∃ f fd ps k, Mk X.K (He.ga X.K (clsN c)) f ∧ FnOk X.prog X.w X.K X.mg X.base (L2.CX X.prog X.w) k f fd ps (spF X.K E (P.mk_ mi)) ∧ Room (k + 1) X.A ∧ Binds X.K fd ps []) ∧
    PySem.W.keepIn X.K (.ref (He.ga X.K (clsN c))) = true ∧ X.mg x = some (.ref (He.ga X.K (clsN c)))
  mth : ∀ c m mi, C.mths.lookup (c, m) = some mi → ∃ a fd ps, FnOk X.prog X.w X.K X.mg X.base (L2.CX X.prog X.w) k a fd ps (spF X.K E (P.run mi)) ∧ Meth X.K (He.ga X.K (clsN c)) m a ∧ Binds X.K fd ps []
  noa : ∀ c f, C.noat.contains (c, f) = true → NoAttr X.K (He.ga X.K (clsN c)) (fldN f)
  k1 : 1 ≤ k
  exE : ∀ e g st cls d H, E e g st cls d H ↔ exQ X.K C.exs e cls d H
  exk : ∀ x c, C.exs.lookup x = some c → excN c = x ∧ ExT X.K C.exs c ∧ X.mg x = some (.ref (He.ga X.K x))
  exm : ∀ x c, C.exs.lookup x = some c → c ≠ 0 → ExMk X.prog X.K c
section
variable {P : Prog} {E : ErT} {k : Nat} {C : CkX} {X : Cx} {W : WX} {e : Expr} {pos : Pos} {x : Str} {i : Nat}
theorem CkOk.glo (h : CkOk P E k C X) (q : C.glo x = true) : Gl X x := by
  unfold CkX.glo at q
  show X.env.scope.names.lookup x = _
  rw [h.sc]
  split at q
  · rename_i e; exact e
  · cases q
theorem CkOk.loc (h : CkOk P E k C X) (q : C.loc x = true) : X.env.scope.names.lookup x = some .local := by
  unfold CkX.loc at q
  rw [h.sc]
  split at q
  · rename_i e; exact e
  · cases q
theorem slot_of (q : C.isSlot i x = true) : C.N[i]? = some x ∧ (x == ("__debug__" : Str)) = false ∧ (x == ("__classdict__" : Str)) = false ∧ (x == ("__name__" : Str)) = false := by
  unfold CkX.isSlot notDbg at q
  simp only [Bool.and_eq_true, decide_eq_true_eq, Bool.not_eq_true'] at q
  exact ⟨q.1, q.2.1.1, q.2.1.2, q.2.2⟩
theorem CkOk.at (h : CkOk P E k C X) (q : C.isSlot i x = true) : X.N[i]? = some x := by rw [h.N]; exact (slot_of q).1
def SE (P : Prog) (E : ErT) (k : Nat) (t : Bool) (C : CkX) (a : Ex) (e : Expr) : Prop := ∀ (X : Cx) (W : WX), CkOk P E k C X → Takes X W →
  match t with
  | false => PE X e (tE X.K E W (evE P a))
  | true => PT X e (tT X.K E W fun s => asB (evE P a s))
theorem SE.val {t : Bool} {a : Ex} (hp : plainTest e = true) (h : SE P E k false C a e) : SE P E k t C a e := by
  cases t with
  | false => exact h
  | true => exact fun X W c tk => m_val (h X W c tk) (plainT hp)
theorem SE.no {a : Ex} {t : Bool} (ht : (!t) = true) (h : SE P E k false C a e) : SE P E k t C a e := by
  cases t with
  | false => exact h
  | true => cases ht
end
end Mq

namespace Mq
open PySem PySem.Spec PyProof.Rows L2 Mp
section
variable {P : Prog} {E : ErT} {k : Nat} {C : CkX} {X : Cx} {W : WX} {e : Expr} {pos : Pos} {x : Str} {i : Nat}
end
section
variable {P : Prog} {E : ErT} {k : Nat}
set_option maxHeartbeats 2000000
end
end Mq

namespace Mq
open PySem PySem.Spec PyProof.Rows L2 Mp
section
variable {P : Prog} {E : ErT} {k : Nat} {C : CkX} {X : Cx} {W : WX} {e : Expr} {pos : Pos} {x : Str} {i : Nat}
end
section
variable {P : Prog} {E : ErT} {k : Nat}
end
section
variable {P : Prog} {E : ErT} {k : Nat}
set_option maxHeartbeats 2000000
end
end Mq

namespace Mq
open PySem PySem.Spec PyProof.Rows L2 Mp
structure Ent where
  id : Nat
  d : He.DefD
  fn : Fn
  N : List Str
  ps : List Str
  bind : ∀ (kV doc pm : Value) (an : Option Addr) (cdv ct : Value) (us : List Value), us.length = ps.length → bindArgs (PySem.W.fnOf d.name d.qual d.params d.body d.scope .none kV doc pm an cdv ct) ⟨us, []⟩ = pure (ps.zip us)
/-- the table -/
def tabOf (es : List Ent) : Tab := fun i => match es with
  | [] => none
  | e :: r => if Nat.beq e.id i then some e.fn else tabOf r i
theorem all_cons {α : Type} {P : α → Prop} {a : α} {l : List α} (h : P a) (r : ∀ e ∈ l, P e) : ∀ e ∈ a :: l, P e := fun e he => by
  rcases List.mem_cons.mp he with q | q
  · rw [q]; exact h
  · exact r e q
/-- constants of the top: whole numbers, texts, tuples of texts -/
structure Cn where
  cInt : List (Str × Int)
  cStr : List (Str × List Nat)
  cTup : List (Str × List (List Nat))
  cExc : List (Str × Nat) := []
  fl : Str := ""
def ErT.no : ErT := fun _ _ _ _ _ _ => False
def meOf (ents : List Ent) : List He.Fa := ents.filterMap fun e => e.d.at_.2.map fun m => He.Fa.meth e.d.at_.1 m
def faOf (ents : List Ent) (gci : Cn) (cl : List (Str × Nat)) (na : List (Nat × Nat)) : List He.Fa := (ents.map fun e => He.Fa.glo e.d.at_.1) ++ (bltNames.map fun x => He.Fa.free x) ++ (gci.cInt.map fun p => He.Fa.int p.1 p.2) ++ (cl.map fun p => He.Fa.cls p.1) ++ (cl.map fun p => He.Fa.mkr p.1) ++ meOf ents ++ (na.map fun p => He.Fa.noat (clsN p.1) (fldN p.2)) ++ (gci.cStr.map fun p => He.Fa.str p.1 ⟨p.2.toArray⟩) ++ (gci.cTup.map fun p => He.Fa.glo p.1) ++ (gci.cExc.map fun p => He.Fa.glo p.1)
/-- more that is asked of the written part -/
def exOf (gci : Cn) (K : PySem.W.Frag) : Bool := (gci.cTup.all fun p => He.tupB K p.1 (p.2.map fun t => He.Dv.str ⟨t.toArray⟩)) && gci.cExc.all fun p => decide (excN p.2 = p.1) && exTB K gci.cExc p.2 && (p.2 == 0 || exMB gci.fl K p.2)
def adM (n : Nat) (g : Addr → Option Obj) : List Addr := cStatics :: He.asD g n
def hookM (n : Nat) (ex : PySem.W.Frag → Bool) (fa : List He.Fa) (fn : List He.DefD) : PySem.W.Hook where
  α := He.AlD × Bool
  obs := fun s => (He.obsD fa fn (He.frG s.heap.get? (adM n s.heap.get?)), ex (He.frG s.heap.get? (adM n s.heap.get?)))
  val := fun _ => (He.valD fn, true)
  says := fun _ h => ∃ K : PySem.W.Frag, K.In h ∧ He.SaysD fa fn K ∧ ex K = true
  of := fun _ _ e => ⟨_, He.frG_in, congrArg Prod.fst e, congrArg Prod.snd e⟩
  keeps := fun _ _ _ ⟨K, hK, c⟩ k => ⟨K, PySem.W.Frag.In.keeps hK k, c⟩
def obsMG (n : Nat) (ex : PySem.W.Frag → Bool) (fa : List He.Fa) (fn : List He.DefD) (g : Addr → Option Obj) : He.AlD × Bool := (He.obsD fa fn (He.frG g (adM n g)), ex (He.frG g (adM n g)))
end Mq

namespace Mp
/-- _law_alike: slots 0=_law_found 1=_law_due 2=_law_k -/
def f_law_alike : Fn := { pars := 2, slots := 3, body := [
  .ife (.isi (.slot 1) [.tup, .lst]) [
    .ife (.lor (.lnot (.isi (.slot 0) [.tup, .lst])) (.cmp .ne (.isi (.slot 0) [.lst]) (.isi (.slot 1) [.lst]))) [
      .ret (.cst (.bl false))] [],
    .ife (.cmp .ne (.blt .len [(.slot 0)]) (.blt .len [(.slot 1)])) [
      .ret (.cst (.bl false))] [],
    .ret (.cmp .eq (.fr (.comp [2] (.nm 2) (.rng none (.blt .len [(.slot 1)])) (some (.lnot (.call 25 [(.idx (.slot 0) (.slot 2)), (.idx (.slot 1) (.slot 2))]))) (.slot 2))) (.fr (.lst [])))] [],
  .ife (.lor (.isN (.slot 1)) (.isi (.slot 1) [.str])) [
    .ret (.land (.cmp .eq (.slot 0) (.slot 1)) (.cmp .eq (.isi (.slot 0) [.str]) (.isi (.slot 1) [.str])))] [],
  .ret (.land (.isi (.slot 0) [.int]) (.land (.cmp .eq (.isi (.slot 0) [.bool]) (.isi (.slot 1) [.bool])) (.cmp .eq (.slot 0) (.slot 1))))] }
/-- unrolled_in: slots 0=loop 1=found 2=item -/
def f_unrolled_in : Fn := { pars := 1, slots := 3, body := [
  .asg (.nm 1) (.tup []),
  .for_ (.nm 2) (.vals (.slot 0)) [
    .asg (.nm 1) (.bin .add (.slot 1) (.ife (.isi (.slot 2) [.tup]) (.bin .mul (.call 166 [(.idx (.slot 2) (.cst (.int 1)))]) (.idx (.slot 2) (.cst (.int 0)))) (.tup [(.slot 2)])))],
  .ret (.slot 1)] }
/-- is_in: slots 0=value 1=least 2=most -/
def f_is_in : Fn := { pars := 3, slots := 3, body := [
  .ret (.land (.isi (.slot 0) [.int]) (.land (.lnot (.isi (.slot 0) [.bool])) (.cmp2 .le .le (.slot 1) (.slot 0) (.slot 2))))] }
/-- size_of: slots 0=value 1=deep 2=found 3=item 4=inner -/
def f_size_of : Fn := { pars := 2, slots := 5, body := [
  .ife (.lnot (.isi (.slot 0) [.tup])) [
    .ret (.cst .non)] [],
  .asg (.nm 2) (.cst (.int 0)),
  .for_ (.nm 3) (.vals (.slot 0)) [
    .ife (.call 0 [(.slot 3), (.cst (.int 0)), (.bin .sub (.glob 0 (.int 8)) (.cst (.int 1)))]) [
      .augN 2 .add (.cst (.int 1))] [
      .ife (.land (.isi (.slot 3) [.tup]) (.land (.cmp .eq (.blt .len [(.slot 3)]) (.cst (.int 2))) (.land (.call 0 [(.idx (.slot 3) (.cst (.int 0))), (.cst (.int 2)), (.glob 0 (.int 999))]) (.cmp .gt (.slot 1) (.cst (.int 0)))))) [
        .asg (.nm 4) (.call 164 [(.idx (.slot 3) (.cst (.int 1))), (.bin .sub (.slot 1) (.cst (.int 1)))]),
        .ife (.lor (.isN (.slot 4)) (.cmp .eq (.slot 4) (.cst (.int 0)))) [
          .ret (.cst .non)] [],
        .augN 2 .add (.bin .mul (.idx (.slot 3) (.cst (.int 0))) (.slot 4))] [
        .ret (.cst .non)]],
    .ife (.cmp .gt (.slot 2) (.glob 0 (.int 2000))) [
      .ret (.cst .non)] []],
  .ret (.slot 2)] }
/-- need_loop: slots 0=value -/
def f_need_loop : Fn := { pars := 1, slots := 1, body := [
  .ife (.isN (.call 164 [(.slot 0), (.glob 0 (.int 8))])) [
    .rse 11 none] []] }
/-- unrolled: slots 0=loop -/
def f_unrolled : Fn := { pars := 1, slots := 1, body := [
  .ex (.call 610 [(.slot 0)]),
  .ret (.call 166 [(.slot 0)])] }
/-- appear_in: slots 0=loop 1=found 2=item -/
def f_appear_in : Fn := { pars := 1, slots := 3, body := [
  .asg (.nm 1) (.tup []),
  .for_ (.nm 2) (.vals (.slot 0)) [
    .asg (.nm 1) (.bin .add (.slot 1) (.ife (.isi (.slot 2) [.tup]) (.call 168 [(.idx (.slot 2) (.cst (.int 1)))]) (.tup [(.slot 2)])))],
  .ret (.slot 1)] }
/-- appearances: slots 0=loop -/
def f_appearances : Fn := { pars := 1, slots := 1, body := [
  .ex (.call 610 [(.slot 0)]),
  .ret (.call 168 [(.slot 0)])] }
/-- deep_in: slots 0=loop 1=item -/
def f_deep_in : Fn := { pars := 1, slots := 2, body := [
  .ret (.blt .max [(.bin .add (.fr (.lst [(.cst (.int 0))])) (.fr (.comp [1] (.nm 1) (.vals (.slot 0)) (some (.isi (.slot 1) [.tup])) (.bin .add (.cst (.int 1)) (.call 170 [(.idx (.slot 1) (.cst (.int 1)))])))))])] }
/-- depth: slots 0=loop -/
def f_depth : Fn := { pars := 1, slots := 1, body := [
  .ex (.call 610 [(.slot 0)]),
  .ret (.call 170 [(.slot 0)])] }
/-- is_pipe: slots 0=value 1=boxes -/
def f_is_pipe : Fn := { pars := 2, slots := 2, body := [
  .ife (.lor (.lnot (.isi (.slot 0) [.tup])) (.cmp .ne (.blt .len [(.slot 0)]) (.cst (.int 5)))) [
    .ret (.cst (.bl false))] [],
  .ife (.lor (.lnot (.call 0 [(.idx (.slot 0) (.cst (.int 0))), (.cst (.int 0)), (.bin .sub (.slot 1) (.cst (.int 1)))])) (.lnot (.call 0 [(.idx (.slot 0) (.cst (.int 1))), (.cst (.int 0)), (.bin .sub (.slot 1) (.cst (.int 1)))]))) [
    .ret (.cst (.bl false))] [],
  .ife (.lor (.lnot (.call 0 [(.idx (.slot 0) (.cst (.int 2))), (.cst (.int 1)), (.glob 0 (.int 999))])) (.lnot (.call 0 [(.idx (.slot 0) (.cst (.int 3))), (.cst (.int 1)), (.glob 0 (.int 999))]))) [
    .ret (.cst (.bl false))] [],
  .ret (.call 0 [(.idx (.slot 0) (.cst (.int 4))), (.cst (.int 0)), (.glob 0 (.int 99999))])] }
/-- need_flow: slots 0=flow 1=index 2=pipe -/
def f_need_flow : Fn := { pars := 1, slots := 3, body := [
  .ife (.lor (.lnot (.isi (.slot 0) [.tup])) (.lor (.cmp .ne (.blt .len [(.slot 0)]) (.cst (.int 2))) (.lnot (.call 0 [(.idx (.slot 0) (.cst (.int 0))), (.cst (.int 1)), (.glob 0 (.int 8))])))) [
    .rse 1 (some (.cst .non))] [],
  .ife (.lor (.lnot (.isi (.idx (.slot 0) (.cst (.int 1))) [.tup])) (.cmp .gt (.blt .len [(.idx (.slot 0) (.cst (.int 1)))]) (.glob 0 (.int 16)))) [
    .rse 1 (some (.cst .non))] [],
  .for_ (.tp [(.nm 1), (.nm 2)]) (.enum (.idx (.slot 0) (.cst (.int 1)))) [
    .ife (.lnot (.call 1 [(.slot 2), (.idx (.slot 0) (.cst (.int 0)))])) [
      .rse 1 (some (.slot 1))] []]] }
/-- reach_of: slots 0=flow 1=box 2=both 3=found 4=rows 5=here 6=near 7=pipe 8=there -/
def f_reach_of : Fn := { pars := 3, slots := 9, body := [
  .asgs [(.nm 3), (.nm 4)] [.fx (.lst [(.slot 1)]), .fx (.lst [(.slot 1)])],
  .whl (.cmp .ne (.slot 4) (.fr (.lst []))) [
    .asg (.nm 5) (.pop (.slot 4)),
    .asg (.nm 6) (.fr (.comp [7] (.nm 7) (.vals (.idx (.slot 0) (.cst (.int 1)))) (some (.cmp .eq (.idx (.slot 7) (.cst (.int 0))) (.slot 5))) (.idx (.slot 7) (.cst (.int 1))))),
    .asg (.nm 6) (.bin .add (.slot 6) (.ife (.slot 2) (.fr (.comp [7] (.nm 7) (.vals (.idx (.slot 0) (.cst (.int 1)))) (some (.cmp .eq (.idx (.slot 7) (.cst (.int 1))) (.slot 5))) (.idx (.slot 7) (.cst (.int 0))))) (.fr (.lst [])))),
    .for_ (.nm 8) (.vals (.slot 6)) [
      .ife (.cmp .notin (.slot 8) (.slot 3)) [
        .app (.slot 3) (.slot 8),
        .app (.slot 4) (.slot 8)] []]],
  .ret (.fr (.sorted (.slot 3)))] }
/-- parts_in: slots 0=flow 1=found 2=box 3=part -/
def f_parts_in : Fn := { pars := 1, slots := 4, body := [
  .box 1 (.lst []),
  .for_ (.nm 2) (.rng none (.idx (.slot 0) (.cst (.int 0)))) [
    .asg (.nm 3) (.call 8 [(.slot 0), (.slot 2), (.cst (.bl true))]),
    .ife (.cmp .eq (.idx (.slot 3) (.cst (.int 0))) (.slot 2)) [
      .app (.slot 1) (.blt .tuple [(.slot 3)])] []],
  .ret (.slot 1)] }
/-- gcd: slots 0=one 1=other -/
def f_gcd : Fn := { pars := 2, slots := 2, body := [
  .asgs [(.nm 0), (.nm 1)] [.ex (.blt .abs [(.slot 0)]), .ex (.blt .abs [(.slot 1)])],
  .whl (.cmp .ne (.slot 1) (.cst (.int 0))) [
    .asgs [(.nm 0), (.nm 1)] [.ex (.slot 1), .ex (.bin .mod (.slot 0) (.slot 1))]],
  .ret (.slot 0)] }
/-- reduced: slots 0=numerator 1=denominator 2=common -/
def f_reduced : Fn := { pars := 2, slots := 3, body := [
  .asg (.nm 2) (.call 61 [(.slot 0), (.slot 1)]),
  .ife (.cmp .lt (.slot 1) (.cst (.int 0))) [
    .asg (.nm 2) (.neg (.slot 2))] [],
  .ret (.tup [(.bin .fdiv (.slot 0) (.slot 2)), (.bin .fdiv (.slot 1) (.slot 2))])] }
/-- times: slots 0=one 1=other -/
def f_times : Fn := { pars := 2, slots := 2, body := [
  .ret (.call 62 [(.bin .mul (.idx (.slot 0) (.cst (.int 0))) (.idx (.slot 1) (.cst (.int 0)))), (.bin .mul (.idx (.slot 0) (.cst (.int 1))) (.idx (.slot 1) (.cst (.int 1))))])] }
/-- bad_pipe: slots 0=flow 1=shares 2=index 3=one 4=other 5=give 6=eat 7=start -/
def f_bad_pipe : Fn := { pars := 2, slots := 8, body := [
  .for_ (.tp [(.nm 2), (.tp [(.nm 3), (.nm 4), (.nm 5), (.nm 6), (.nm 7)])]) (.enum (.idx (.slot 0) (.cst (.int 1)))) [
    .ife (.cmp .ne (.call 63 [(.idx (.slot 1) (.slot 3)), (.tup [(.slot 5), (.slot 6)])]) (.idx (.slot 1) (.slot 4))) [
      .ret (.slot 2)] []],
  .ret (.cst .non)] }
/-- shares_in: slots 0=flow 1=shares 2=lines 3=part 4=rows 5=here 6=index 7=one 8=other 9=give 10=eat 11=start 12=forward 13=near 14=there 15=rate -/
def f_shares_in : Fn := { pars := 1, slots := 16, body := [
  .asgs [(.nm 1), (.nm 2)] [.fx (.dct false []), .fx (.dct false [])],
  .for_ (.nm 3) (.vals (.call 9 [(.slot 0)])) [
    .asgs [(.sub (.slot 1) (.idx (.slot 3) (.cst (.int 0)))), (.sub (.slot 2) (.idx (.slot 3) (.cst (.int 0)))), (.nm 4)] [.ex (.tup [(.cst (.int 1)), (.cst (.int 1))]), .ex (.tup []), .fx (.lst [(.idx (.slot 3) (.cst (.int 0)))])],
    .whl (.cmp .ne (.slot 4) (.fr (.lst []))) [
      .asg (.nm 5) (.pop (.slot 4)),
      .for_ (.tp [(.nm 6), (.tp [(.nm 7), (.nm 8), (.nm 9), (.nm 10), (.nm 11)])]) (.enum (.idx (.slot 0) (.cst (.int 1)))) [
        .for_ (.nm 12) (.vals (.tup [(.cst (.bl true)), (.cst (.bl false))])) [
          .asg (.tp [(.nm 13), (.nm 14)]) (.ife (.slot 12) (.tup [(.slot 7), (.slot 8)]) (.tup [(.slot 8), (.slot 7)])),
          .ife (.land (.cmp .eq (.slot 13) (.slot 5)) (.cmp .notin (.slot 14) (.slot 1))) [
            .asg (.nm 15) (.ife (.slot 12) (.tup [(.slot 9), (.slot 10)]) (.tup [(.slot 10), (.slot 9)])),
            .asg (.sub (.slot 1) (.slot 14)) (.call 63 [(.idx (.slot 1) (.slot 5)), (.slot 15)]),
            .asg (.sub (.slot 2) (.slot 14)) (.bin .add (.idx (.slot 2) (.slot 5)) (.tup [(.tup [(.slot 6), (.slot 12)])])),
            .app (.slot 4) (.slot 14)] []]]]],
  .ret (.tup [(.slot 1), (.slot 2)])] }
/-- repetitions_in: slots 0=flow 1=shares 2=lines 3=found 4=part 5=below 6=box -/
def f_repetitions_in : Fn := { pars := 1, slots := 7, body := [
  .asg (.tp [(.nm 1), (.nm 2)]) (.call 364 [(.slot 0)]),
  .ife (.notN (.call 65 [(.slot 0), (.slot 1)])) [
    .rse 8 none] [],
  .box 3 (.mul (.fr (.lst [(.cst (.int 0))])) (.idx (.slot 0) (.cst (.int 0)))),
  .for_ (.nm 4) (.vals (.call 9 [(.slot 0)])) [
    .asg (.nm 5) (.cst (.int 1)),
    .for_ (.nm 6) (.vals (.slot 4)) [
      .asg (.nm 5) (.bin .fdiv (.bin .mul (.slot 5) (.idx (.idx (.slot 1) (.slot 6)) (.cst (.int 1)))) (.call 61 [(.slot 5), (.idx (.idx (.slot 1) (.slot 6)) (.cst (.int 1)))]))],
    .for_ (.nm 6) (.vals (.slot 4)) [
      .asg (.sub (.slot 3) (.slot 6)) (.bin .fdiv (.bin .mul (.slot 5) (.idx (.idx (.slot 1) (.slot 6)) (.cst (.int 0)))) (.idx (.idx (.slot 1) (.slot 6)) (.cst (.int 1))))]],
  .ret (.slot 3)] }
/-- is_boxes: slots 0=flow 1=value 2=box -/
def f_is_boxes : Fn := { pars := 2, slots := 3, body := [
  .ife (.lor (.lnot (.isi (.slot 1) [.tup])) (.cmp .gt (.blt .len [(.slot 1)]) (.glob 0 (.int 2000)))) [
    .ret (.cst (.bl false))] [],
  .ret (.cmp .eq (.fr (.comp [2] (.nm 2) (.vals (.slot 1)) (some (.lnot (.call 0 [(.slot 2), (.cst (.int 0)), (.bin .sub (.idx (.slot 0) (.cst (.int 0))) (.cst (.int 1)))]))) (.slot 2))) (.fr (.lst [])))] }
/-- marks_in: slots 0=flow 1=pipe -/
def f_marks_in : Fn := { pars := 1, slots := 2, body := [
  .ret (.blt .tuple [(.fr (.comp [1] (.nm 1) (.vals (.idx (.slot 0) (.cst (.int 1)))) none (.idx (.slot 1) (.cst (.int 4)))))])] }
/-- lacks: slots 0=flow 1=some 2=box 3=index 4=one 5=other 6=give 7=eat 8=start -/
def f_lacks : Fn := { pars := 3, slots := 9, body := [
  .for_ (.tp [(.nm 3), (.tp [(.nm 4), (.nm 5), (.nm 6), (.nm 7), (.nm 8)])]) (.enum (.idx (.slot 0) (.cst (.int 1)))) [
    .ife (.land (.cmp .eq (.slot 5) (.slot 2)) (.cmp .lt (.idx (.slot 1) (.slot 3)) (.slot 7))) [
      .ret (.slot 3)] []],
  .ret (.cst .non)] }
/-- behind: slots 0=flow 1=some 2=box 3=found 4=index 5=one 6=other 7=give 8=eat 9=start -/
def f_behind : Fn := { pars := 3, slots := 10, body := [
  .box 3 (.list (.vals (.slot 1))),
  .for_ (.tp [(.nm 4), (.tp [(.nm 5), (.nm 6), (.nm 7), (.nm 8), (.nm 9)])]) (.enum (.idx (.slot 0) (.cst (.int 1)))) [
    .augS (.slot 3) (.slot 4) .add (.bin .sub (.ife (.cmp .eq (.slot 5) (.slot 2)) (.slot 7) (.cst (.int 0))) (.ife (.cmp .eq (.slot 6) (.slot 2)) (.slot 8) (.cst (.int 0))))],
  .ret (.blt .tuple [(.slot 3)])] }
/-- line_in: slots 0=flow 1=word 2=found 3=box -/
def f_line_in : Fn := { pars := 2, slots := 4, body := [
  .box 2 (.lst [(.call 14 [(.slot 0)])]),
  .for_ (.nm 3) (.vals (.slot 1)) [
    .ife (.notN (.call 29 [(.slot 0), (.idx (.slot 2) (.neg (.cst (.int 1)))), (.slot 3)])) [
      .ret (.slot 2)] [],
    .app (.slot 2) (.call 30 [(.slot 0), (.idx (.slot 2) (.neg (.cst (.int 1)))), (.slot 3)])],
  .ret (.slot 2)] }
/-- counts_in: slots 0=flow 1=word 2=box -/
def f_counts_in : Fn := { pars := 2, slots := 3, body := [
  .ret (.blt .tuple [(.fr (.comp [2] (.nm 2) (.rng none (.idx (.slot 0) (.cst (.int 0)))) none (.mth .count (.slot 1) [(.slot 2)])))])] }
/-- schedules: slots 0=flow 1=word -/
def f_schedules : Fn := { pars := 2, slots := 2, body := [
  .ife (.lor (.lnot (.call 34 [(.slot 0), (.slot 1)])) (.cmp .ne (.call 95 [(.slot 0), (.slot 1)]) (.blt .tuple [(.call 549 [(.slot 0)])]))) [
    .ret (.cst (.bl false))] [],
  .ret (.cmp .gt (.blt .len [(.call 35 [(.slot 0), (.slot 1)])]) (.blt .len [(.slot 1)]))] }
/-- is_schedule: slots 0=flow 1=loop -/
def f_is_schedule : Fn := { pars := 2, slots := 2, body := [
  .ex (.call 522 [(.slot 0)]),
  .ex (.call 549 [(.slot 0)]),
  .ex (.call 610 [(.slot 1)]),
  .ret (.call 616 [(.slot 0), (.call 166 [(.slot 1)])])] }
/-- peaks_in: slots 0=flow 1=word 2=there 3=found 4=some 5=index 6=box 7=one 8=other 9=give 10=eat 11=start -/
def f_peaks_in : Fn := { pars := 2, slots := 12, body := [
  .asg (.nm 2) (.call 35 [(.slot 0), (.slot 1)]),
  .box 3 (.comp [5] (.nm 5) (.rng none (.blt .len [(.idx (.slot 0) (.cst (.int 1)))])) none (.blt .max [(.fr (.comp [4] (.nm 4) (.vals (.slot 2)) none (.idx (.slot 4) (.slot 5))))])),
  .for_ (.tp [(.nm 4), (.nm 6)]) (.zip (.slot 2) (.slot 1)) [
    .for_ (.tp [(.nm 5), (.tp [(.nm 7), (.nm 8), (.nm 9), (.nm 10), (.nm 11)])]) (.enum (.idx (.slot 0) (.cst (.int 1)))) [
      .ife (.land (.cmp .eq (.slot 7) (.slot 6)) (.cmp .eq (.slot 8) (.slot 6))) [
        .asg (.sub (.slot 3) (.slot 5)) (.blt .max2 [(.idx (.slot 3) (.slot 5)), (.bin .add (.idx (.slot 4) (.slot 5)) (.slot 9))])] []]],
  .ret (.slot 3)] }
/-- loop_room: slots 0=flow 1=loop 2=word -/
def f_loop_room : Fn := { pars := 2, slots := 3, body := [
  .ex (.call 522 [(.slot 0)]),
  .ex (.call 549 [(.slot 0)]),
  .ex (.call 610 [(.slot 1)]),
  .asg (.nm 2) (.call 166 [(.slot 1)]),
  .ret (.ife (.call 616 [(.slot 0), (.slot 2)]) (.blt .tuple [(.call 55 [(.slot 0), (.slot 2)])]) (.cst .non))] }
/-- best_fold: slots 0=word 1=at 2=size 3=best 4=found 5=cut 6=left 7=right 8=part 9=inner -/
def f_best_fold : Fn := { pars := 4, slots := 10, body := [
  .ife (.cmp .eq (.slot 2) (.cst (.int 1))) [
    .ret (.tup [(.cst (.int 1)), (.tup [(.idx (.slot 0) (.slot 1))])])] [],
  .asg (.nm 4) (.cst .non),
  .for_ (.nm 5) (.rng (some (.cst (.int 1))) (.slot 2)) [
    .asgs [(.nm 6), (.nm 7)] [.ex (.idx (.slot 3) (.tup [(.slot 1), (.slot 5)])), .ex (.idx (.slot 3) (.tup [(.bin .add (.slot 1) (.slot 5)), (.bin .sub (.slot 2) (.slot 5))]))],
    .ife (.lor (.isN (.slot 4)) (.cmp .lt (.bin .add (.idx (.slot 6) (.cst (.int 0))) (.idx (.slot 7) (.cst (.int 0)))) (.idx (.slot 4) (.cst (.int 0))))) [
      .asg (.nm 4) (.tup [(.bin .add (.idx (.slot 6) (.cst (.int 0))) (.idx (.slot 7) (.cst (.int 0)))), (.bin .add (.idx (.slot 6) (.cst (.int 1))) (.idx (.slot 7) (.cst (.int 1))))])] []],
  .for_ (.nm 8) (.rng (some (.cst (.int 1))) (.slot 2)) [
    .ife (.land (.cmp .eq (.bin .mod (.slot 2) (.slot 8)) (.cst (.int 0))) (.cmp .eq (.bin .mul (.slc (.slot 0) (some (.slot 1)) (some (.bin .add (.slot 1) (.slot 8)))) (.bin .fdiv (.slot 2) (.slot 8))) (.slc (.slot 0) (some (.slot 1)) (some (.bin .add (.slot 1) (.slot 2)))))) [
      .asg (.nm 9) (.idx (.slot 3) (.tup [(.slot 1), (.slot 8)])),
      .ife (.land (.cmp .lt (.idx (.slot 9) (.cst (.int 0))) (.idx (.slot 4) (.cst (.int 0)))) (.land (.cmp .le (.bin .fdiv (.slot 2) (.slot 8)) (.glob 0 (.int 999))) (.cmp .lt (.call 170 [(.idx (.slot 9) (.cst (.int 1)))]) (.glob 0 (.int 8))))) [
        .asg (.nm 4) (.tup [(.idx (.slot 9) (.cst (.int 0))), (.tup [(.tup [(.bin .fdiv (.slot 2) (.slot 8)), (.idx (.slot 9) (.cst (.int 1)))])])])] []] []],
  .ret (.slot 4)] }
/-- folds_of: slots 0=word 1=best 2=size 3=at -/
def f_folds_of : Fn := { pars := 1, slots := 4, body := [
  .box 1 (.dct false []),
  .for_ (.nm 2) (.rng (some (.cst (.int 1))) (.bin .add (.blt .len [(.slot 0)]) (.cst (.int 1)))) [
    .for_ (.nm 3) (.rng none (.bin .add (.bin .sub (.blt .len [(.slot 0)]) (.slot 2)) (.cst (.int 1)))) [
      .asg (.sub (.slot 1) (.tup [(.slot 3), (.slot 2)])) (.call 180 [(.slot 0), (.slot 3), (.slot 2), (.slot 1)])]],
  .ret (.slot 1)] }
/-- need_short: slots 0=word 1=box -/
def f_need_short : Fn := { pars := 1, slots := 2, body := [
  .ife (.lor (.lnot (.isi (.slot 0) [.tup])) (.cmp .ne (.fr (.comp [1] (.nm 1) (.vals (.slot 0)) (some (.lnot (.call 0 [(.slot 1), (.cst (.int 0)), (.bin .sub (.glob 0 (.int 8)) (.cst (.int 1)))]))) (.slot 1))) (.fr (.lst [])))) [
    .rse 6 (some (.cst .non))] [],
  .ife (.cmp .gt (.blt .len [(.slot 0)]) (.glob 0 (.int 24))) [
    .rse 19 (some (.glob 0 (.int 24)))] []] }
/-- folded: slots 0=word -/
def f_folded : Fn := { pars := 1, slots := 1, body := [
  .ex (.call 619 [(.slot 0)]),
  .ret (.ife (.cmp .ne (.slot 0) (.tup [])) (.idx (.idx (.call 423 [(.slot 0)]) (.tup [(.cst (.int 0)), (.blt .len [(.slot 0)])])) (.cst (.int 1))) (.tup []))] }
/-- loop_text: slots 0=loop 1=found 2=item -/
def f_loop_text : Fn := { pars := 1, slots := 3, body := [
  .box 1 (.lst []),
  .for_ (.nm 2) (.vals (.slot 0)) [
    .app (.slot 1) (.ife (.isi (.slot 2) [.tup]) (.bin .add (.bin .add (.bin .add (.bin .add (.cst (.str [40])) (.blt .str [(.idx (.slot 2) (.cst (.int 0)))])) (.cst (.str [32]))) (.call 185 [(.idx (.slot 2) (.cst (.int 1)))])) (.cst (.str [41]))) (.blt .str [(.slot 2)]))],
  .ret (.mth .join (.cst (.str [32])) [(.slot 1)])] }
/-- write_loop: slots 0=loop -/
def f_write_loop : Fn := { pars := 1, slots := 1, body := [
  .ex (.call 610 [(.slot 0)]),
  .ret (.call 185 [(.slot 0)])] }
/-- Reader.sign: slots 0=self -/
def f_Reader_sign : Fn := { pars := 1, slots := 1, body := [
  .ret (.slc (.fld (.slot 0) 0) (some (.fld (.slot 0) 1)) (some (.bin .add (.fld (.slot 0) 1) (.cst (.int 1)))))] }
/-- LoopReader.__init__: slots 0=self 1=text -/
def f_LoopReader___init__ : Fn := { pars := 2, slots := 2, body := [
  .asg (.fld (.slot 0) 2 0) (.slot 1),
  .asg (.fld (.slot 0) 2 1) (.cst (.int 0))], keep := true }
/-- LoopReader.skip: slots 0=self -/
def f_LoopReader_skip : Fn := { pars := 1, slots := 1, body := [
  .whl (.cmp .eq (.own 2 46 (.slot 0) []) (.cst (.str [32]))) [
    .augF (.slot 0) 1 .add (.cst (.int 1))]] }
/-- LoopReader.count: slots 0=self 1=start 2=found -/
def f_LoopReader_count : Fn := { pars := 1, slots := 3, body := [
  .asgs [(.nm 1), (.nm 2)] [.ex (.fld (.slot 0) 1), .ex (.cst (.int 0))],
  .whl (.land (.cmp .ne (.own 2 46 (.slot 0) []) (.cst (.str []))) (.cmp .isin (.own 2 46 (.slot 0) []) (.glob 0 (.str [48, 49, 50, 51, 52, 53, 54, 55, 56, 57])))) [
    .asg (.nm 2) (.bin .add (.bin .mul (.cst (.int 10)) (.slot 2)) (.blt .int [(.own 2 46 (.slot 0) [])])),
    .ife (.lor (.cmp .gt (.slot 2) (.glob 0 (.int 999))) (.cmp .eq (.idx (.fld (.slot 0) 0) (.slot 1)) (.cst (.str [48])))) [
      .rse 18 (some (.fld (.slot 0) 1))] [],
    .augF (.slot 0) 1 .add (.cst (.int 1))],
  .ife (.lor (.cmp .eq (.fld (.slot 0) 1) (.slot 1)) (.cmp .ne (.own 2 46 (.slot 0) []) (.cst (.str [32])))) [
    .rse 18 (some (.fld (.slot 0) 1))] [],
  .ife (.cmp .lt (.slot 2) (.cst (.int 2))) [
    .rse 18 (some (.slot 1))] [],
  .ret (.slot 2)] }
/-- LoopReader.box: slots 0=self 1=found -/
def f_LoopReader_box : Fn := { pars := 1, slots := 2, body := [
  .asg (.nm 1) (.blt .int [(.own 2 46 (.slot 0) [])]),
  .ife (.cmp .ge (.slot 1) (.glob 0 (.int 8))) [
    .rse 18 (some (.fld (.slot 0) 1))] [],
  .augF (.slot 0) 1 .add (.cst (.int 1)),
  .ife (.cmp .notin (.own 2 46 (.slot 0) []) (.tup [(.cst (.str [])), (.cst (.str [32])), (.cst (.str [41]))])) [
    .rse 18 (some (.fld (.slot 0) 1))] [],
  .ret (.slot 1)] }
/-- LoopReader.items: slots 0=self 1=deep 2=found 3=times -/
def f_LoopReader_items : Fn := { pars := 2, slots := 4, body := [
  .box 2 (.lst []),
  .ex (.own 2 187 (.slot 0) []),
  .whl (.land (.cmp .ne (.own 2 46 (.slot 0) []) (.cst (.str []))) (.cmp .ne (.own 2 46 (.slot 0) []) (.cst (.str [41])))) [
    .ife (.land (.cmp .eq (.own 2 46 (.slot 0) []) (.cst (.str [40]))) (.cmp .gt (.slot 1) (.cst (.int 0)))) [
      .augF (.slot 0) 1 .add (.cst (.int 1)),
      .asg (.nm 3) (.own 2 623 (.slot 0) []),
      .app (.slot 2) (.tup [(.slot 3), (.own 2 625 (.slot 0) [(.bin .sub (.slot 1) (.cst (.int 1)))])]),
      .ife (.cmp .ne (.own 2 46 (.slot 0) []) (.cst (.str [41]))) [
        .rse 18 (some (.fld (.slot 0) 1))] [],
      .ife (.cmp .eq (.idx (.idx (.slot 2) (.neg (.cst (.int 1)))) (.cst (.int 1))) (.tup [])) [
        .rse 18 (some (.fld (.slot 0) 1))] [],
      .augF (.slot 0) 1 .add (.cst (.int 1)),
      .ife (.cmp .notin (.own 2 46 (.slot 0) []) (.tup [(.cst (.str [])), (.cst (.str [32])), (.cst (.str [41]))])) [
        .rse 18 (some (.fld (.slot 0) 1))] []] [
      .ife (.cmp .isin (.own 2 46 (.slot 0) []) (.glob 0 (.str [48, 49, 50, 51, 52, 53, 54, 55, 56, 57]))) [
        .app (.slot 2) (.own 2 624 (.slot 0) [])] [
        .rse 18 (some (.fld (.slot 0) 1))]],
    .ex (.own 2 187 (.slot 0) [])],
  .ret (.blt .tuple [(.slot 2)])] }
/-- read_loop: slots 0=text 1=reader 2=found -/
def f_read_loop : Fn := { pars := 1, slots := 3, body := [
  .ife (.lnot (.isi (.slot 0) [.str])) [
    .rse 17 none] [],
  .asg (.nm 1) (.make 2 350 [(.slot 0)]),
  .asg (.nm 2) (.own 2 625 (.slot 1) [(.glob 0 (.int 8))]),
  .ife (.cmp .ne (.own 2 46 (.slot 1) []) (.cst (.str []))) [
    .rse 18 (some (.fld (.slot 1) 1))] [],
  .ife (.isN (.call 164 [(.slot 2), (.glob 0 (.int 8))])) [
    .rse 18 (some (.blt .len [(.slot 0)]))] [],
  .ret (.slot 2)] }
/-- fold_size: slots 0=word -/
def f_fold_size : Fn := { pars := 1, slots := 1, body := [
  .ex (.call 619 [(.slot 0)]),
  .ret (.ife (.cmp .ne (.slot 0) (.tup [])) (.idx (.idx (.call 423 [(.slot 0)]) (.tup [(.cst (.int 0)), (.blt .len [(.slot 0)])])) (.cst (.int 0))) (.cst (.int 0)))] }
/-- shows_fold: slots 0=word 1=value -/
def f_shows_fold : Fn := { pars := 2, slots := 2, body := [
  .ex (.call 619 [(.slot 0)]),
  .ife (.lor (.cmp .ne (.call 164 [(.slot 1), (.glob 0 (.int 8))]) (.blt .len [(.slot 0)])) (.cmp .ne (.call 166 [(.slot 1)]) (.slot 0))) [
    .ret (.cst (.bl false))] [],
  .ret (.cmp .eq (.blt .len [(.call 168 [(.slot 1)])]) (.ife (.cmp .ne (.slot 0) (.tup [])) (.idx (.idx (.call 423 [(.slot 0)]) (.tup [(.cst (.int 0)), (.blt .len [(.slot 0)])])) (.cst (.int 0))) (.cst (.int 0))))] }
/-- most_in: slots 0=flow 1=counts 2=done 3=some 4=going 5=box -/
def f_most_in : Fn := { pars := 2, slots := 6, body := [
  .asgs [(.nm 2), (.nm 3), (.nm 4)] [.fx (.mul (.fr (.lst [(.cst (.int 0))])) (.idx (.slot 0) (.cst (.int 0)))), .ex (.call 14 [(.slot 0)]), .ex (.cst (.bl true))],
  .whl (.slot 4) [
    .asg (.nm 4) (.cst (.bl false)),
    .for_ (.nm 5) (.rng none (.idx (.slot 0) (.cst (.int 0)))) [
      .whl (.land (.cmp .lt (.idx (.slot 2) (.slot 5)) (.idx (.slot 1) (.slot 5))) (.isN (.call 29 [(.slot 0), (.slot 3), (.slot 5)]))) [
        .asg (.nm 3) (.call 30 [(.slot 0), (.slot 3), (.slot 5)]),
        .augS (.slot 2) (.slot 5) .add (.cst (.int 1)),
        .asg (.nm 4) (.cst (.bl true))]]],
  .ret (.tup [(.slot 2), (.slot 3)])] }
/-- does: slots 0=flow 1=counts -/
def f_does : Fn := { pars := 2, slots := 2, body := [
  .ret (.cmp .eq (.idx (.call 89 [(.slot 0), (.slot 1)]) (.cst (.int 0))) (.fr (.list (.vals (.slot 1)))))] }
/-- round_of: slots 0=flow 1=found -/
def f_round_of : Fn := { pars := 1, slots := 2, body := [
  .asg (.nm 1) (.call 549 [(.slot 0)]),
  .ife (.cmp .gt (.blt .sum [(.slot 1)]) (.glob 0 (.int 2000))) [
    .rse 19 (some (.glob 0 (.int 2000)))] [],
  .ret (.slot 1)] }
/-- lives: slots 0=flow -/
def f_lives : Fn := { pars := 1, slots := 1, body := [
  .ret (.call 91 [(.slot 0), (.call 563 [(.slot 0)])])] }
/-- need_live: slots 0=flow -/
def f_need_live : Fn := { pars := 1, slots := 1, body := [
  .ex (.call 522 [(.slot 0)]),
  .ife (.lnot (.call 564 [(.slot 0)])) [
    .rse 9 none] []] }
/-- common_of: slots 0=rounds 1=boxes 2=found 3=box -/
def f_common_of : Fn := { pars := 2, slots := 4, body := [
  .asg (.nm 2) (.cst (.int 0)),
  .for_ (.nm 3) (.vals (.slot 1)) [
    .asg (.nm 2) (.call 61 [(.slot 2), (.idx (.slot 0) (.slot 3))])],
  .ret (.slot 2)] }
/-- open_pipes: slots 0=flow 1=rounds 2=boxes 3=common 4=found 5=one 6=other 7=give 8=eat 9=start -/
def f_open_pipes : Fn := { pars := 3, slots := 10, body := [
  .asgs [(.nm 3), (.nm 4)] [.ex (.call 203 [(.slot 1), (.slot 2)]), .fx (.lst [])],
  .for_ (.tp [(.nm 5), (.nm 6), (.nm 7), (.nm 8), (.nm 9)]) (.vals (.idx (.slot 0) (.cst (.int 1)))) [
    .ife (.land (.cmp .isin (.slot 5) (.slot 2)) (.land (.cmp .isin (.slot 6) (.slot 2)) (.cmp .lt (.slot 9) (.bin .mul (.slot 8) (.bin .fdiv (.idx (.slot 1) (.slot 6)) (.slot 3)))))) [
      .app (.slot 4) (.tup [(.slot 5), (.slot 6)])] []],
  .ret (.slot 4)] }
/-- reach_along: slots 0=edges 1=box 2=found 3=rows 4=here 5=one 6=other -/
def f_reach_along : Fn := { pars := 2, slots := 7, body := [
  .asgs [(.nm 2), (.nm 3)] [.fx (.lst [(.slot 1)]), .fx (.lst [(.slot 1)])],
  .whl (.cmp .ne (.slot 3) (.fr (.lst []))) [
    .asg (.nm 4) (.pop (.slot 3)),
    .for_ (.tp [(.nm 5), (.nm 6)]) (.vals (.slot 0)) [
      .ife (.land (.cmp .eq (.slot 5) (.slot 4)) (.cmp .notin (.slot 6) (.slot 2))) [
        .app (.slot 2) (.slot 6),
        .app (.slot 3) (.slot 6)] []]],
  .ret (.slot 2)] }
/-- knots_along: slots 0=boxes 1=edges 2=told 3=box 4=found 5=left 6=first 7=one 8=knot -/
def f_knots_along : Fn := { pars := 2, slots := 9, body := [
  .asg (.nm 2) (.fr (.dict (.fr (.comp [3] (.nm 3) (.vals (.slot 0)) none (.tup [(.slot 3), (.call 205 [(.slot 1), (.slot 3)])]))))),
  .asgs [(.nm 4), (.nm 5)] [.fx (.lst []), .ex (.fr (.list (.vals (.slot 0))))],
  .whl (.cmp .ne (.slot 5) (.fr (.lst []))) [
    .asg (.nm 6) (.idx (.fr (.comp [3] (.nm 3) (.vals (.slot 5)) (some (.cmp .eq (.fr (.comp [7] (.nm 7) (.vals (.slot 5)) (some (.land (.cmp .isin (.slot 3) (.idx (.slot 2) (.slot 7))) (.cmp .notin (.slot 7) (.idx (.slot 2) (.slot 3))))) (.slot 7))) (.fr (.lst [])))) (.slot 3))) (.cst (.int 0))),
    .asg (.nm 8) (.fr (.comp [3] (.nm 3) (.vals (.slot 5)) (some (.land (.cmp .isin (.slot 3) (.idx (.slot 2) (.slot 6))) (.cmp .isin (.slot 6) (.idx (.slot 2) (.slot 3))))) (.slot 3))),
    .app (.slot 4) (.slot 8),
    .asg (.nm 5) (.fr (.comp [3] (.nm 3) (.vals (.slot 5)) (some (.cmp .notin (.slot 3) (.slot 8))) (.slot 3)))],
  .ret (.slot 4)] }
/-- single_of: slots 0=flow 1=rounds 2=boxes 3=edges 4=pipe 5=found 6=common 7=knots 8=knot 9=inner 10=times -/
def f_single_of : Fn := { pars := 3, slots := 11, body := [
  .ife (.cmp .eq (.blt .len [(.slot 2)]) (.cst (.int 1))) [
    .asg (.nm 3) (.fr (.comp [4] (.nm 4) (.vals (.idx (.slot 0) (.cst (.int 1)))) (some (.land (.cmp .eq (.idx (.slot 4) (.cst (.int 0))) (.idx (.slot 2) (.cst (.int 0)))) (.land (.cmp .eq (.idx (.slot 4) (.cst (.int 1))) (.idx (.slot 2) (.cst (.int 0)))) (.cmp .lt (.idx (.slot 4) (.cst (.int 4))) (.idx (.slot 4) (.cst (.int 3))))))) (.slot 4))),
    .ret (.ife (.cmp .eq (.slot 3) (.fr (.lst []))) (.tup [(.idx (.slot 2) (.cst (.int 0)))]) (.cst .non))] [],
  .asgs [(.nm 5), (.nm 6)] [.ex (.tup []), .ex (.call 203 [(.slot 1), (.slot 2)])],
  .asg (.nm 7) (.call 206 [(.slot 2), (.call 204 [(.slot 0), (.slot 1), (.slot 2)])]),
  .ife (.cmp .eq (.blt .len [(.slot 7)]) (.cst (.int 1))) [
    .ret (.cst .non)] [],
  .for_ (.nm 8) (.vals (.slot 7)) [
    .asg (.nm 9) (.call 207 [(.slot 0), (.slot 1), (.slot 8)]),
    .ife (.isN (.slot 9)) [
      .ret (.cst .non)] [],
    .asg (.nm 10) (.bin .fdiv (.call 203 [(.slot 1), (.slot 8)]) (.slot 6)),
    .asg (.nm 5) (.bin .add (.slot 5) (.ife (.cmp .gt (.slot 10) (.cst (.int 1))) (.tup [(.tup [(.slot 10), (.slot 9)])]) (.slot 9)))],
  .ret (.slot 5)] }
/-- whole_single: slots 0=flow -/
def f_whole_single : Fn := { pars := 1, slots := 1, body := [
  .ret (.call 207 [(.slot 0), (.call 563 [(.slot 0)]), (.fr (.list (.rng none (.idx (.slot 0) (.cst (.int 0))))))])] }
/-- single: slots 0=flow -/
def f_single : Fn := { pars := 1, slots := 1, body := [
  .ex (.call 576 [(.slot 0)]),
  .ret (.call 632 [(.slot 0)])] }
/-- has_single: slots 0=flow -/
def f_has_single : Fn := { pars := 1, slots := 1, body := [
  .ex (.call 576 [(.slot 0)]),
  .ret (.notN (.call 632 [(.slot 0)]))] }
/-- shows_single: slots 0=flow 1=value -/
def f_shows_single : Fn := { pars := 2, slots := 2, body := [
  .ex (.call 576 [(.slot 0)]),
  .ife (.isN (.call 632 [(.slot 0)])) [
    .ret (.isN (.slot 1))] [],
  .ife (.lor (.isN (.call 164 [(.slot 1), (.glob 0 (.int 8))])) (.cmp .ne (.fr (.sorted (.call 168 [(.slot 1)]))) (.fr (.list (.rng none (.idx (.slot 0) (.cst (.int 0)))))))) [
    .ret (.cst (.bl false))] [],
  .ret (.call 616 [(.slot 0), (.call 166 [(.slot 1)])])] }
/-- forward_orders: slots 0=flow 1=rows 2=turn 3=more 4=order 5=box 6=ahead 7=pipe -/
def f_forward_orders : Fn := { pars := 1, slots := 8, body := [
  .ex (.call 522 [(.slot 0)]),
  .asg (.nm 1) (.fr (.lst [(.tup [])])),
  .for_ (.nm 2) (.rng none (.idx (.slot 0) (.cst (.int 0)))) [
    .box 3 (.lst []),
    .for_ (.nm 4) (.vals (.slot 1)) [
      .for_ (.nm 5) (.rng none (.idx (.slot 0) (.cst (.int 0)))) [
        .asg (.nm 6) (.fr (.comp [7] (.nm 7) (.vals (.idx (.slot 0) (.cst (.int 1)))) (some (.land (.cmp .eq (.idx (.slot 7) (.cst (.int 1))) (.slot 5)) (.cmp .notin (.idx (.slot 7) (.cst (.int 0))) (.slot 4)))) (.idx (.slot 7) (.cst (.int 0))))),
        .ife (.land (.cmp .notin (.slot 5) (.slot 4)) (.cmp .eq (.slot 6) (.fr (.lst [])))) [
          .app (.slot 3) (.bin .add (.slot 4) (.tup [(.slot 5)]))] []]],
    .asg (.nm 1) (.slot 3)],
  .ret (.slot 1)] }
/-- code_of: slots 0=told 1=rounds 2=order 3=first 4=last 5=outer 6=common 7=cut 8=inner -/
def f_code_of : Fn := { pars := 6, slots := 9, body := [
  .asg (.nm 6) (.call 203 [(.slot 1), (.slc (.slot 2) (some (.slot 3)) (some (.slot 4)))]),
  .asg (.nm 7) (.idx (.idx (.slot 0) (.tup [(.slot 3), (.slot 4)])) (.cst (.int 1))),
  .ife (.isN (.slot 7)) [
    .asg (.nm 8) (.tup [(.idx (.slot 2) (.slot 3))])] [
    .asg (.nm 8) (.bin .add (.call 223 [(.slot 0), (.slot 1), (.slot 2), (.slot 3), (.slot 7), (.slot 6)]) (.call 223 [(.slot 0), (.slot 1), (.slot 2), (.slot 7), (.slot 4), (.slot 6)]))],
  .ret (.ife (.cmp .gt (.bin .fdiv (.slot 6) (.slot 5)) (.cst (.int 1))) (.tup [(.tup [(.bin .fdiv (.slot 6) (.slot 5)), (.slot 8)])]) (.slot 8))] }
/-- crossing: slots 0=flow 1=rounds 2=order 3=first 4=cut 5=last 6=left 7=right 8=common 9=found 10=one 11=other 12=give 13=eat 14=start -/
def f_crossing : Fn := { pars := 6, slots := 15, body := [
  .asgs [(.nm 6), (.nm 7)] [.ex (.slc (.slot 2) (some (.slot 3)) (some (.slot 4))), .ex (.slc (.slot 2) (some (.slot 4)) (some (.slot 5)))],
  .asgs [(.nm 8), (.nm 9)] [.ex (.call 203 [(.slot 1), (.slc (.slot 2) (some (.slot 3)) (some (.slot 5)))]), .ex (.cst (.int 0))],
  .for_ (.tp [(.nm 10), (.nm 11), (.nm 12), (.nm 13), (.nm 14)]) (.vals (.idx (.slot 0) (.cst (.int 1)))) [
    .ife (.land (.cmp .isin (.slot 10) (.slot 6)) (.cmp .isin (.slot 11) (.slot 7))) [
      .augN 9 .add (.bin .add (.slot 14) (.bin .mul (.slot 12) (.bin .fdiv (.idx (.slot 1) (.slot 10)) (.slot 8))))] []],
  .ret (.slot 9)] }
/-- nest_of: slots 0=flow 1=rounds 2=order 3=told 4=size 5=first 6=last 7=some 8=cut 9=inner -/
def f_nest_of : Fn := { pars := 3, slots := 10, body := [
  .box 3 (.dct false []),
  .for_ (.nm 4) (.rng (some (.cst (.int 1))) (.bin .add (.blt .len [(.slot 2)]) (.cst (.int 1)))) [
    .for_ (.nm 5) (.rng none (.bin .add (.bin .sub (.blt .len [(.slot 2)]) (.slot 4)) (.cst (.int 1)))) [
      .asg (.nm 6) (.bin .add (.slot 5) (.slot 4)),
      .box 7 (.ife (.cmp .eq (.slot 4) (.cst (.int 1))) (.lst [(.tup [(.cst (.int 0)), (.cst .non)])]) (.lst [])),
      .for_ (.nm 8) (.rng (some (.bin .add (.slot 5) (.cst (.int 1)))) (.slot 6)) [
        .asg (.nm 9) (.bin .add (.idx (.idx (.slot 3) (.tup [(.slot 5), (.slot 8)])) (.cst (.int 0))) (.idx (.idx (.slot 3) (.tup [(.slot 8), (.slot 6)])) (.cst (.int 0)))),
        .app (.slot 7) (.tup [(.bin .add (.slot 9) (.call 221 [(.slot 0), (.slot 1), (.slot 2), (.slot 5), (.slot 8), (.slot 6)])), (.slot 8)])],
      .asg (.sub (.slot 3) (.tup [(.slot 5), (.slot 6)])) (.blt .min [(.slot 7)])]],
  .ret (.slot 3)] }
/-- need_forward: slots 0=flow 1=order 2=box 3=pipe -/
def f_need_forward : Fn := { pars := 2, slots := 4, body := [
  .ife (.lor (.lnot (.isi (.slot 1) [.tup])) (.cmp .ne (.blt .len [(.slot 1)]) (.idx (.slot 0) (.cst (.int 0))))) [
    .rse 14 none] [],
  .ife (.lor (.cmp .ne (.fr (.comp [2] (.nm 2) (.vals (.slot 1)) (some (.lnot (.call 0 [(.slot 2), (.cst (.int 0)), (.bin .sub (.glob 0 (.int 8)) (.cst (.int 1)))]))) (.slot 2))) (.fr (.lst []))) (.cmp .ne (.fr (.sorted (.slot 1))) (.fr (.list (.rng none (.idx (.slot 0) (.cst (.int 0)))))))) [
    .rse 14 none] [],
  .ife (.cmp .ne (.fr (.comp [3] (.nm 3) (.vals (.idx (.slot 0) (.cst (.int 1)))) (some (.cmp .ge (.mth .index (.slot 1) [(.idx (.slot 3) (.cst (.int 0)))]) (.mth .index (.slot 1) [(.idx (.slot 3) (.cst (.int 1)))]))) (.slot 3))) (.fr (.lst []))) [
    .rse 14 none] []] }
/-- least_nest: slots 0=flow 1=order 2=rounds 3=told 4=whole -/
def f_least_nest : Fn := { pars := 2, slots := 5, body := [
  .ex (.call 576 [(.slot 0)]),
  .ex (.call 640 [(.slot 0), (.slot 1)]),
  .asg (.nm 2) (.call 563 [(.slot 0)]),
  .asg (.nm 3) (.call 437 [(.slot 0), (.slot 2), (.slot 1)]),
  .asg (.nm 4) (.tup [(.cst (.int 0)), (.blt .len [(.slot 1)])]),
  .ret (.tup [(.idx (.idx (.slot 3) (.slot 4)) (.cst (.int 0))), (.call 223 [(.slot 3), (.slot 2), (.slot 1), (.cst (.int 0)), (.blt .len [(.slot 1)]), (.cst (.int 1))])])] }
/-- law: slots 0=_law_script 1=_law_row 2=_law_loop 3=_law_found 4=_law_pair 5=_law_line 6=_law_tied 7=_law_loose 8=_law_free -/
def f_law_k37 : Fn := { pars := 1, slots := 9, body := [
  .asg (.nm 1) (.fr (.lst [(.slot 0), (.cst (.int 0)), (.cst (.int 9837)), (.cst (.int 0))])),
  .asg (.nm 2) (.tup [(.cst (.int 0)), (.tup [(.cst (.int 3)), (.tup [(.cst (.int 1)), (.tup [(.cst (.int 2)), (.tup [(.cst (.int 2))])])])])]),
  .asg (.nm 3) (.fr (.lst [(.call 611 [(.slot 2)]), (.call 612 [(.slot 2)]), (.call 613 [(.slot 2)]), (.call 613 [(.tup [])]), (.call 622 [(.slot 2)])])),
  .asg (.nm 3) (.bin .add (.slot 3) (.fr (.lst [(.call 626 [(.cst (.str [32, 48, 32, 40, 51, 32, 49, 32, 32, 40, 50, 32, 50, 41, 32, 41, 32]))]), (.call 611 [(.tup [])])]))),
  .ife (.lnot (.call 25 [(.slot 3), (.fr (.lst [(.tup [(.cst (.int 0)), (.cst (.int 1)), (.cst (.int 2)), (.cst (.int 2)), (.cst (.int 1)), (.cst (.int 2)), (.cst (.int 2)), (.cst (.int 1)), (.cst (.int 2)), (.cst (.int 2))]), (.tup [(.cst (.int 0)), (.cst (.int 1)), (.cst (.int 2))]), (.cst (.int 2)), (.cst (.int 0)), (.cst (.str [48, 32, 40, 51, 32, 49, 32, 40, 50, 32, 50, 41, 41])), (.slot 2), (.tup [])]))])) [
    .ret (.cst (.bl false))] [],
  .asg (.nm 3) (.fr (.lst [(.call 628 [(.tup [(.cst (.int 0)), (.cst (.int 1)), (.cst (.int 0)), (.cst (.int 1)), (.cst (.int 0))])]), (.call 620 [(.tup [(.cst (.int 0)), (.cst (.int 0)), (.cst (.int 0))])]), (.call 628 [(.tup [(.cst (.int 0)), (.cst (.int 0)), (.cst (.int 1)), (.cst (.int 0)), (.cst (.int 0)), (.cst (.int 1))])])])),
  .asg (.nm 3) (.bin .add (.slot 3) (.fr (.lst [(.call 629 [(.tup [(.cst (.int 0)), (.cst (.int 1)), (.cst (.int 0)), (.cst (.int 1))]), (.tup [(.tup [(.cst (.int 2)), (.tup [(.cst (.int 0)), (.cst (.int 1))])])])]), (.call 629 [(.tup [(.cst (.int 0)), (.cst (.int 0))]), (.tup [(.cst (.int 0)), (.cst (.int 0))])]), (.call 628 [(.tup [])])]))),
  .ife (.lnot (.call 25 [(.slot 3), (.fr (.lst [(.cst (.int 3)), (.tup [(.tup [(.cst (.int 3)), (.tup [(.cst (.int 0))])])]), (.cst (.int 2)), (.cst (.bl true)), (.cst (.bl false)), (.cst (.int 0))]))])) [
    .ret (.cst (.bl false))] [],
  .asg (.nm 4) (.tup [(.cst (.int 2)), (.tup [(.tup [(.cst (.int 0)), (.cst (.int 1)), (.cst (.int 2)), (.cst (.int 3)), (.cst (.int 1))])])]),
  .asg (.nm 3) (.fr (.lst [(.call 617 [(.slot 4), (.tup [(.tup [(.cst (.int 3)), (.tup [(.cst (.int 0))])]), (.tup [(.cst (.int 2)), (.tup [(.cst (.int 1))])])])]), (.call 618 [(.slot 4), (.tup [(.tup [(.cst (.int 3)), (.tup [(.cst (.int 0))])]), (.tup [(.cst (.int 2)), (.tup [(.cst (.int 1))])])])])])),
  .asg (.nm 3) (.bin .add (.slot 3) (.fr (.lst [(.call 618 [(.slot 4), (.tup [(.cst (.int 0)), (.cst (.int 1)), (.cst (.int 0)), (.cst (.int 0)), (.cst (.int 1))])]), (.call 618 [(.slot 4), (.tup [(.cst (.int 0)), (.cst (.int 1))])])]))),
  .asg (.nm 3) (.bin .add (.slot 3) (.fr (.lst [(.call 617 [(.slot 4), (.tup [(.cst (.int 1)), (.cst (.int 0)), (.cst (.int 0)), (.cst (.int 0)), (.cst (.int 1))])])]))),
  .ife (.lnot (.call 25 [(.slot 3), (.fr (.lst [(.cst (.bl true)), (.tup [(.cst (.int 7))]), (.tup [(.cst (.int 4))]), (.cst .non), (.cst (.bl false))]))])) [
    .ret (.cst (.bl false))] [],
  .asg (.nm 5) (.tup [(.cst (.int 3)), (.tup [(.tup [(.cst (.int 0)), (.cst (.int 1)), (.cst (.int 1)), (.cst (.int 2)), (.cst (.int 0))]), (.tup [(.cst (.int 1)), (.cst (.int 2)), (.cst (.int 1)), (.cst (.int 2)), (.cst (.int 0))])])]),
  .asg (.nm 3) (.fr (.lst [(.call 633 [(.slot 4)]), (.call 634 [(.slot 5)]), (.call 638 [(.slot 5)]), (.call 641 [(.slot 5), (.tup [(.cst (.int 0)), (.cst (.int 1)), (.cst (.int 2))])])])),
  .asg (.nm 3) (.bin .add (.slot 3) (.fr (.lst [(.call 635 [(.slot 5), (.tup [(.tup [(.cst (.int 4)), (.tup [(.cst (.int 0))])]), (.tup [(.cst (.int 2)), (.tup [(.cst (.int 1))])]), (.cst (.int 2))])])]))),
  .asg (.nm 3) (.bin .add (.slot 3) (.fr (.lst [(.call 635 [(.slot 5), (.tup [(.tup [(.cst (.int 2)), (.tup [(.tup [(.cst (.int 2)), (.tup [(.cst (.int 0))])]), (.cst (.int 1))])]), (.cst (.int 2))])])]))),
  .ife (.lnot (.call 25 [(.slot 3), (.fr (.lst [(.tup [(.tup [(.cst (.int 3)), (.tup [(.cst (.int 0))])]), (.tup [(.cst (.int 2)), (.tup [(.cst (.int 1))])])]), (.cst (.bl true)), (.fr (.lst [(.tup [(.cst (.int 0)), (.cst (.int 1)), (.cst (.int 2))])])), (.tup [(.cst (.int 4)), (.tup [(.tup [(.cst (.int 2)), (.tup [(.tup [(.cst (.int 2)), (.tup [(.cst (.int 0))])]), (.cst (.int 1))])]), (.cst (.int 2))])]), (.cst (.bl true)), (.cst (.bl true))]))])) [
    .ret (.cst (.bl false))] [],
  .asgs [(.nm 6), (.nm 7)] [.ex (.tup [(.cst (.int 2)), (.tup [(.tup [(.cst (.int 0)), (.cst (.int 1)), (.cst (.int 2)), (.cst (.int 3)), (.cst (.int 1))]), (.tup [(.cst (.int 1)), (.cst (.int 0)), (.cst (.int 3)), (.cst (.int 2)), (.cst (.int 4))])])]), .ex (.tup [(.cst (.int 2)), (.tup [(.tup [(.cst (.int 0)), (.cst (.int 1)), (.cst (.int 1)), (.cst (.int 1)), (.cst (.int 0))]), (.tup [(.cst (.int 1)), (.cst (.int 0)), (.cst (.int 1)), (.cst (.int 1)), (.cst (.int 1))])])])],
  .asg (.nm 3) (.fr (.lst [(.call 634 [(.slot 6)]), (.call 633 [(.slot 6)]), (.call 633 [(.slot 7)]), (.call 635 [(.slot 6), (.cst .non)])])),
  .asg (.nm 3) (.bin .add (.slot 3) (.fr (.lst [(.call 635 [(.slot 7), (.tup [(.cst (.int 1)), (.cst (.int 0))])]), (.call 638 [(.slot 7)]), (.call 634 [(.tup [(.cst (.int 1)), (.tup [(.tup [(.cst (.int 0)), (.cst (.int 0)), (.cst (.int 1)), (.cst (.int 1)), (.cst (.int 1))])])])])]))),
  .ife (.lnot (.call 25 [(.slot 3), (.fr (.lst [(.cst (.bl false)), (.cst .non), (.tup [(.cst (.int 0)), (.cst (.int 1))]), (.cst (.bl true)), (.cst (.bl false)), (.fr (.lst [])), (.cst (.bl true))]))])) [
    .ret (.cst (.bl false))] [],
  .asg (.nm 8) (.tup [(.cst (.int 3)), (.tup [(.tup [(.cst (.int 0)), (.cst (.int 2)), (.cst (.int 1)), (.cst (.int 1)), (.cst (.int 0))])])]),
  .asg (.nm 3) (.fr (.lst [(.call 638 [(.slot 8)]), (.idx (.call 641 [(.slot 8), (.tup [(.cst (.int 0)), (.cst (.int 1)), (.cst (.int 2))])]) (.cst (.int 0))), (.call 641 [(.tup [(.cst (.int 1)), (.tup [])]), (.tup [(.cst (.int 0))])])])),
  .ret (.call 25 [(.slot 3), (.fr (.lst [(.fr (.lst [(.tup [(.cst (.int 0)), (.cst (.int 1)), (.cst (.int 2))]), (.tup [(.cst (.int 0)), (.cst (.int 2)), (.cst (.int 1))]), (.tup [(.cst (.int 1)), (.cst (.int 0)), (.cst (.int 2))])])), (.cst (.int 1)), (.tup [(.cst (.int 0)), (.tup [(.cst (.int 0))])])]))])] }
end Mp
namespace Tk37
open PySem PySem.Spec PyProof.Rows L2 Mp Mq
def stm (i : Nat) : Stmt := PySem.Challenge.pw_rateflows_k37_known_loops.main.body.getD i (.Pass ⟨0, 0, 0, 0⟩)
def clsB : Stmt → List Stmt
  | .ClassDef _ _ _ b _ _ _ _ _ _ _ => b
  | _ => []
def stc (i j : Nat) : Stmt := (clsB (stm i)).getD j (.Pass ⟨0, 0, 0, 0⟩)
def e0 : Ent := ⟨0, ⟨("is_in", none), "is_in", "is_in", defArgs (stm 12), defBody (stm 12), defScope (stm 12), [], []⟩, Mp.f_is_in, ["value", "least", "most"], ["value", "least", "most"], fun kV doc pm an cdv ct us hl => match us, hl with | [_, _, _], _ => rfl⟩
def e1 : Ent := ⟨61, ⟨("gcd", none), "gcd", "gcd", defArgs (stm 13), defBody (stm 13), defScope (stm 13), [], []⟩, Mp.f_gcd, ["one", "other"], ["one", "other"], fun kV doc pm an cdv ct us hl => match us, hl with | [_, _], _ => rfl⟩
def e2 : Ent := ⟨62, ⟨("reduced", none), "reduced", "reduced", defArgs (stm 14), defBody (stm 14), defScope (stm 14), [], []⟩, Mp.f_reduced, ["numerator", "denominator", "common"], ["numerator", "denominator"], fun kV doc pm an cdv ct us hl => match us, hl with | [_, _], _ => rfl⟩
def e3 : Ent := ⟨63, ⟨("times", none), "times", "times", defArgs (stm 15), defBody (stm 15), defScope (stm 15), [], []⟩, Mp.f_times, ["one", "other"], ["one", "other"], fun kV doc pm an cdv ct us hl => match us, hl with | [_, _], _ => rfl⟩
def e4 : Ent := ⟨1, ⟨("is_pipe", none), "is_pipe", "is_pipe", defArgs (stm 21), defBody (stm 21), defScope (stm 21), [], []⟩, Mp.f_is_pipe, ["value", "boxes"], ["value", "boxes"], fun kV doc pm an cdv ct us hl => match us, hl with | [_, _], _ => rfl⟩
def e5 : Ent := ⟨522, ⟨("need_flow", none), "need_flow", "need_flow", defArgs (stm 22), defBody (stm 22), defScope (stm 22), [], []⟩, Mp.f_need_flow, ["flow", "index", "pipe"], ["flow"], fun kV doc pm an cdv ct us hl => match us, hl with | [_], _ => rfl⟩
def e6 : Ent := ⟨8, ⟨("reach_of", none), "reach_of", "reach_of", defArgs (stm 23), defBody (stm 23), defScope (stm 23), [], []⟩, Mp.f_reach_of, ["flow", "box", "both", "found", "rows", "here", "near", "pipe", "there"], ["flow", "box", "both"], fun kV doc pm an cdv ct us hl => match us, hl with | [_, _, _], _ => rfl⟩
def e7 : Ent := ⟨9, ⟨("parts_in", none), "parts_in", "parts_in", defArgs (stm 24), defBody (stm 24), defScope (stm 24), [], []⟩, Mp.f_parts_in, ["flow", "found", "box", "part"], ["flow"], fun kV doc pm an cdv ct us hl => match us, hl with | [_], _ => rfl⟩
def e8 : Ent := ⟨14, ⟨("marks_in", none), "marks_in", "marks_in", defArgs (stm 25), defBody (stm 25), defScope (stm 25), [], []⟩, Mp.f_marks_in, ["flow", "pipe"], ["flow"], fun kV doc pm an cdv ct us hl => match us, hl with | [_], _ => rfl⟩
def e9 : Ent := ⟨364, ⟨("shares_in", none), "shares_in", "shares_in", defArgs (stm 27), defBody (stm 27), defScope (stm 27), [], []⟩, Mp.f_shares_in, ["flow", "shares", "lines", "part", "rows", "here", "index", "one", "other", "give", "eat", "start", "forward", "near", "there", "rate"], ["flow"], fun kV doc pm an cdv ct us hl => match us, hl with | [_], _ => rfl⟩
def e10 : Ent := ⟨65, ⟨("bad_pipe", none), "bad_pipe", "bad_pipe", defArgs (stm 28), defBody (stm 28), defScope (stm 28), [], []⟩, Mp.f_bad_pipe, ["flow", "shares", "index", "one", "other", "give", "eat", "start"], ["flow", "shares"], fun kV doc pm an cdv ct us hl => match us, hl with | [_, _], _ => rfl⟩
def e11 : Ent := ⟨549, ⟨("repetitions_in", none), "repetitions_in", "repetitions_in", defArgs (stm 29), defBody (stm 29), defScope (stm 29), [], []⟩, Mp.f_repetitions_in, ["flow", "shares", "lines", "found", "part", "below", "box"], ["flow"], fun kV doc pm an cdv ct us hl => match us, hl with | [_], _ => rfl⟩
def e12 : Ent := ⟨29, ⟨("lacks", none), "lacks", "lacks", defArgs (stm 32), defBody (stm 32), defScope (stm 32), [], []⟩, Mp.f_lacks, ["flow", "some", "box", "index", "one", "other", "give", "eat", "start"], ["flow", "some", "box"], fun kV doc pm an cdv ct us hl => match us, hl with | [_, _, _], _ => rfl⟩
def e13 : Ent := ⟨30, ⟨("behind", none), "behind", "behind", defArgs (stm 33), defBody (stm 33), defScope (stm 33), [], []⟩, Mp.f_behind, ["flow", "some", "box", "found", "index", "one", "other", "give", "eat", "start"], ["flow", "some", "box"], fun kV doc pm an cdv ct us hl => match us, hl with | [_, _, _], _ => rfl⟩
def e14 : Ent := ⟨34, ⟨("is_boxes", none), "is_boxes", "is_boxes", defArgs (stm 34), defBody (stm 34), defScope (stm 34), [], []⟩, Mp.f_is_boxes, ["flow", "value", "box"], ["flow", "value"], fun kV doc pm an cdv ct us hl => match us, hl with | [_, _], _ => rfl⟩
def e15 : Ent := ⟨35, ⟨("line_in", none), "line_in", "line_in", defArgs (stm 35), defBody (stm 35), defScope (stm 35), [], []⟩, Mp.f_line_in, ["flow", "word", "found", "box"], ["flow", "word"], fun kV doc pm an cdv ct us hl => match us, hl with | [_, _], _ => rfl⟩
def e16 : Ent := ⟨55, ⟨("peaks_in", none), "peaks_in", "peaks_in", defArgs (stm 36), defBody (stm 36), defScope (stm 36), [], []⟩, Mp.f_peaks_in, ["flow", "word", "there", "found", "some", "index", "box", "one", "other", "give", "eat", "start"], ["flow", "word"], fun kV doc pm an cdv ct us hl => match us, hl with | [_, _], _ => rfl⟩
def e17 : Ent := ⟨95, ⟨("counts_in", none), "counts_in", "counts_in", defArgs (stm 37), defBody (stm 37), defScope (stm 37), [], []⟩, Mp.f_counts_in, ["flow", "word", "box"], ["flow", "word"], fun kV doc pm an cdv ct us hl => match us, hl with | [_, _], _ => rfl⟩
def e18 : Ent := ⟨89, ⟨("most_in", none), "most_in", "most_in", defArgs (stm 39), defBody (stm 39), defScope (stm 39), [], []⟩, Mp.f_most_in, ["flow", "counts", "done", "some", "going", "box"], ["flow", "counts"], fun kV doc pm an cdv ct us hl => match us, hl with | [_, _], _ => rfl⟩
def e19 : Ent := ⟨91, ⟨("does", none), "does", "does", defArgs (stm 40), defBody (stm 40), defScope (stm 40), [], []⟩, Mp.f_does, ["flow", "counts"], ["flow", "counts"], fun kV doc pm an cdv ct us hl => match us, hl with | [_, _], _ => rfl⟩
def e20 : Ent := ⟨563, ⟨("round_of", none), "round_of", "round_of", defArgs (stm 43), defBody (stm 43), defScope (stm 43), [], []⟩, Mp.f_round_of, ["flow", "found"], ["flow"], fun kV doc pm an cdv ct us hl => match us, hl with | [_], _ => rfl⟩
def e21 : Ent := ⟨564, ⟨("lives", none), "lives", "lives", defArgs (stm 44), defBody (stm 44), defScope (stm 44), [], []⟩, Mp.f_lives, ["flow"], ["flow"], fun kV doc pm an cdv ct us hl => match us, hl with | [_], _ => rfl⟩
def e22 : Ent := ⟨576, ⟨("need_live", none), "need_live", "need_live", defArgs (stm 45), defBody (stm 45), defScope (stm 45), [], []⟩, Mp.f_need_live, ["flow"], ["flow"], fun kV doc pm an cdv ct us hl => match us, hl with | [_], _ => rfl⟩
def e23 : Ent := ⟨164, ⟨("size_of", none), "size_of", "size_of", defArgs (stm 51), defBody (stm 51), defScope (stm 51), [], []⟩, Mp.f_size_of, ["value", "deep", "found", "item", "inner"], ["value", "deep"], fun kV doc pm an cdv ct us hl => match us, hl with | [_, _], _ => rfl⟩
def e24 : Ent := ⟨610, ⟨("need_loop", none), "need_loop", "need_loop", defArgs (stm 52), defBody (stm 52), defScope (stm 52), [], []⟩, Mp.f_need_loop, ["value"], ["value"], fun kV doc pm an cdv ct us hl => match us, hl with | [_], _ => rfl⟩
def e25 : Ent := ⟨166, ⟨("unrolled_in", none), "unrolled_in", "unrolled_in", defArgs (stm 53), defBody (stm 53), defScope (stm 53), [], []⟩, Mp.f_unrolled_in, ["loop", "found", "item"], ["loop"], fun kV doc pm an cdv ct us hl => match us, hl with | [_], _ => rfl⟩
def e26 : Ent := ⟨611, ⟨("unrolled", none), "unrolled", "unrolled", defArgs (stm 54), defBody (stm 54), defScope (stm 54), [], []⟩, Mp.f_unrolled, ["loop"], ["loop"], fun kV doc pm an cdv ct us hl => match us, hl with | [_], _ => rfl⟩
def e27 : Ent := ⟨168, ⟨("appear_in", none), "appear_in", "appear_in", defArgs (stm 55), defBody (stm 55), defScope (stm 55), [], []⟩, Mp.f_appear_in, ["loop", "found", "item"], ["loop"], fun kV doc pm an cdv ct us hl => match us, hl with | [_], _ => rfl⟩
def e28 : Ent := ⟨612, ⟨("appearances", none), "appearances", "appearances", defArgs (stm 56), defBody (stm 56), defScope (stm 56), [], []⟩, Mp.f_appearances, ["loop"], ["loop"], fun kV doc pm an cdv ct us hl => match us, hl with | [_], _ => rfl⟩
def e29 : Ent := ⟨170, ⟨("deep_in", none), "deep_in", "deep_in", defArgs (stm 57), defBody (stm 57), defScope (stm 57), [], []⟩, Mp.f_deep_in, ["loop", "item"], ["loop"], fun kV doc pm an cdv ct us hl => match us, hl with | [_], _ => rfl⟩
def e30 : Ent := ⟨613, ⟨("depth", none), "depth", "depth", defArgs (stm 58), defBody (stm 58), defScope (stm 58), [], []⟩, Mp.f_depth, ["loop"], ["loop"], fun kV doc pm an cdv ct us hl => match us, hl with | [_], _ => rfl⟩
def e31 : Ent := ⟨616, ⟨("schedules", none), "schedules", "schedules", defArgs (stm 59), defBody (stm 59), defScope (stm 59), [], []⟩, Mp.f_schedules, ["flow", "word"], ["flow", "word"], fun kV doc pm an cdv ct us hl => match us, hl with | [_, _], _ => rfl⟩
def e32 : Ent := ⟨617, ⟨("is_schedule", none), "is_schedule", "is_schedule", defArgs (stm 60), defBody (stm 60), defScope (stm 60), [], []⟩, Mp.f_is_schedule, ["flow", "loop"], ["flow", "loop"], fun kV doc pm an cdv ct us hl => match us, hl with | [_, _], _ => rfl⟩
def e33 : Ent := ⟨618, ⟨("loop_room", none), "loop_room", "loop_room", defArgs (stm 61), defBody (stm 61), defScope (stm 61), [], []⟩, Mp.f_loop_room, ["flow", "loop", "word"], ["flow", "loop"], fun kV doc pm an cdv ct us hl => match us, hl with | [_, _], _ => rfl⟩
def e34 : Ent := ⟨185, ⟨("loop_text", none), "loop_text", "loop_text", defArgs (stm 62), defBody (stm 62), defScope (stm 62), [], []⟩, Mp.f_loop_text, ["loop", "found", "item"], ["loop"], fun kV doc pm an cdv ct us hl => match us, hl with | [_], _ => rfl⟩
def e35 : Ent := ⟨622, ⟨("write_loop", none), "write_loop", "write_loop", defArgs (stm 63), defBody (stm 63), defScope (stm 63), [], []⟩, Mp.f_write_loop, ["loop"], ["loop"], fun kV doc pm an cdv ct us hl => match us, hl with | [_], _ => rfl⟩
def e36 : Ent := ⟨423, ⟨("folds_of", none), "folds_of", "folds_of", defArgs (stm 64), defBody (stm 64), defScope (stm 64), [], []⟩, Mp.f_folds_of, ["word", "best", "size", "at"], ["word"], fun kV doc pm an cdv ct us hl => match us, hl with | [_], _ => rfl⟩
def e37 : Ent := ⟨180, ⟨("best_fold", none), "best_fold", "best_fold", defArgs (stm 65), defBody (stm 65), defScope (stm 65), [], []⟩, Mp.f_best_fold, ["word", "at", "size", "best", "found", "cut", "left", "right", "part", "inner"], ["word", "at", "size", "best"], fun kV doc pm an cdv ct us hl => match us, hl with | [_, _, _, _], _ => rfl⟩
def e38 : Ent := ⟨619, ⟨("need_short", none), "need_short", "need_short", defArgs (stm 66), defBody (stm 66), defScope (stm 66), [], []⟩, Mp.f_need_short, ["word", "box"], ["word"], fun kV doc pm an cdv ct us hl => match us, hl with | [_], _ => rfl⟩
def e39 : Ent := ⟨620, ⟨("folded", none), "folded", "folded", defArgs (stm 67), defBody (stm 67), defScope (stm 67), [], []⟩, Mp.f_folded, ["word"], ["word"], fun kV doc pm an cdv ct us hl => match us, hl with | [_], _ => rfl⟩
def e40 : Ent := ⟨628, ⟨("fold_size", none), "fold_size", "fold_size", defArgs (stm 68), defBody (stm 68), defScope (stm 68), [], []⟩, Mp.f_fold_size, ["word"], ["word"], fun kV doc pm an cdv ct us hl => match us, hl with | [_], _ => rfl⟩
def e41 : Ent := ⟨629, ⟨("shows_fold", none), "shows_fold", "shows_fold", defArgs (stm 69), defBody (stm 69), defScope (stm 69), [], []⟩, Mp.f_shows_fold, ["word", "value"], ["word", "value"], fun kV doc pm an cdv ct us hl => match us, hl with | [_, _], _ => rfl⟩
def e42 : Ent := ⟨203, ⟨("common_of", none), "common_of", "common_of", defArgs (stm 71), defBody (stm 71), defScope (stm 71), [], []⟩, Mp.f_common_of, ["rounds", "boxes", "found", "box"], ["rounds", "boxes"], fun kV doc pm an cdv ct us hl => match us, hl with | [_, _], _ => rfl⟩
def e43 : Ent := ⟨204, ⟨("open_pipes", none), "open_pipes", "open_pipes", defArgs (stm 72), defBody (stm 72), defScope (stm 72), [], []⟩, Mp.f_open_pipes, ["flow", "rounds", "boxes", "common", "found", "one", "other", "give", "eat", "start"], ["flow", "rounds", "boxes"], fun kV doc pm an cdv ct us hl => match us, hl with | [_, _, _], _ => rfl⟩
def e44 : Ent := ⟨205, ⟨("reach_along", none), "reach_along", "reach_along", defArgs (stm 73), defBody (stm 73), defScope (stm 73), [], []⟩, Mp.f_reach_along, ["edges", "box", "found", "rows", "here", "one", "other"], ["edges", "box"], fun kV doc pm an cdv ct us hl => match us, hl with | [_, _], _ => rfl⟩
def e45 : Ent := ⟨206, ⟨("knots_along", none), "knots_along", "knots_along", defArgs (stm 74), defBody (stm 74), defScope (stm 74), [], []⟩, Mp.f_knots_along, ["boxes", "edges", "told", "box", "found", "left", "first", "one", "knot"], ["boxes", "edges"], fun kV doc pm an cdv ct us hl => match us, hl with | [_, _], _ => rfl⟩
def e46 : Ent := ⟨207, ⟨("single_of", none), "single_of", "single_of", defArgs (stm 75), defBody (stm 75), defScope (stm 75), [], []⟩, Mp.f_single_of, ["flow", "rounds", "boxes", "edges", "pipe", "found", "common", "knots", "knot", "inner", "times"], ["flow", "rounds", "boxes"], fun kV doc pm an cdv ct us hl => match us, hl with | [_, _, _], _ => rfl⟩
def e47 : Ent := ⟨632, ⟨("whole_single", none), "whole_single", "whole_single", defArgs (stm 76), defBody (stm 76), defScope (stm 76), [], []⟩, Mp.f_whole_single, ["flow"], ["flow"], fun kV doc pm an cdv ct us hl => match us, hl with | [_], _ => rfl⟩
def e48 : Ent := ⟨633, ⟨("single", none), "single", "single", defArgs (stm 77), defBody (stm 77), defScope (stm 77), [], []⟩, Mp.f_single, ["flow"], ["flow"], fun kV doc pm an cdv ct us hl => match us, hl with | [_], _ => rfl⟩
def e49 : Ent := ⟨634, ⟨("has_single", none), "has_single", "has_single", defArgs (stm 78), defBody (stm 78), defScope (stm 78), [], []⟩, Mp.f_has_single, ["flow"], ["flow"], fun kV doc pm an cdv ct us hl => match us, hl with | [_], _ => rfl⟩
def e50 : Ent := ⟨635, ⟨("shows_single", none), "shows_single", "shows_single", defArgs (stm 79), defBody (stm 79), defScope (stm 79), [], []⟩, Mp.f_shows_single, ["flow", "value"], ["flow", "value"], fun kV doc pm an cdv ct us hl => match us, hl with | [_, _], _ => rfl⟩
def e51 : Ent := ⟨640, ⟨("need_forward", none), "need_forward", "need_forward", defArgs (stm 80), defBody (stm 80), defScope (stm 80), [], []⟩, Mp.f_need_forward, ["flow", "order", "box", "pipe"], ["flow", "order"], fun kV doc pm an cdv ct us hl => match us, hl with | [_, _], _ => rfl⟩
def e52 : Ent := ⟨221, ⟨("crossing", none), "crossing", "crossing", defArgs (stm 81), defBody (stm 81), defScope (stm 81), [], []⟩, Mp.f_crossing, ["flow", "rounds", "order", "first", "cut", "last", "left", "right", "common", "found", "one", "other", "give", "eat", "start"], ["flow", "rounds", "order", "first", "cut", "last"], fun kV doc pm an cdv ct us hl => match us, hl with | [_, _, _, _, _, _], _ => rfl⟩
def e53 : Ent := ⟨437, ⟨("nest_of", none), "nest_of", "nest_of", defArgs (stm 82), defBody (stm 82), defScope (stm 82), [], []⟩, Mp.f_nest_of, ["flow", "rounds", "order", "told", "size", "first", "last", "some", "cut", "inner"], ["flow", "rounds", "order"], fun kV doc pm an cdv ct us hl => match us, hl with | [_, _, _], _ => rfl⟩
def e54 : Ent := ⟨223, ⟨("code_of", none), "code_of", "code_of", defArgs (stm 83), defBody (stm 83), defScope (stm 83), [], []⟩, Mp.f_code_of, ["told", "rounds", "order", "first", "last", "outer", "common", "cut", "inner"], ["told", "rounds", "order", "first", "last", "outer"], fun kV doc pm an cdv ct us hl => match us, hl with | [_, _, _, _, _, _], _ => rfl⟩
def e55 : Ent := ⟨641, ⟨("least_nest", none), "least_nest", "least_nest", defArgs (stm 84), defBody (stm 84), defScope (stm 84), [], []⟩, Mp.f_least_nest, ["flow", "order", "rounds", "told", "whole"], ["flow", "order"], fun kV doc pm an cdv ct us hl => match us, hl with | [_, _], _ => rfl⟩
def e56 : Ent := ⟨638, ⟨("forward_orders", none), "forward_orders", "forward_orders", defArgs (stm 85), defBody (stm 85), defScope (stm 85), [], []⟩, Mp.f_forward_orders, ["flow", "rows", "turn", "more", "order", "box", "ahead", "pipe"], ["flow"], fun kV doc pm an cdv ct us hl => match us, hl with | [_], _ => rfl⟩
def e57 : Ent := ⟨350, ⟨("LoopReader", some "__init__"), "__init__", "LoopReader.__init__", defArgs (stc 88 0), defBody (stc 88 0), defScope (stc 88 0), [], []⟩, Mp.f_LoopReader___init__, ["self", "text"], ["self", "text"], fun kV doc pm an cdv ct us hl => match us, hl with | [_, _], _ => rfl⟩
def e58 : Ent := ⟨46, ⟨("LoopReader", some "sign"), "sign", "LoopReader.sign", defArgs (stc 88 1), defBody (stc 88 1), defScope (stc 88 1), [], []⟩, Mp.f_Reader_sign, ["self"], ["self"], fun kV doc pm an cdv ct us hl => match us, hl with | [_], _ => rfl⟩
def e59 : Ent := ⟨187, ⟨("LoopReader", some "skip"), "skip", "LoopReader.skip", defArgs (stc 88 2), defBody (stc 88 2), defScope (stc 88 2), [], []⟩, Mp.f_LoopReader_skip, ["self"], ["self"], fun kV doc pm an cdv ct us hl => match us, hl with | [_], _ => rfl⟩
def e60 : Ent := ⟨623, ⟨("LoopReader", some "count"), "count", "LoopReader.count", defArgs (stc 88 3), defBody (stc 88 3), defScope (stc 88 3), [], []⟩, Mp.f_LoopReader_count, ["self", "start", "found"], ["self"], fun kV doc pm an cdv ct us hl => match us, hl with | [_], _ => rfl⟩
def e61 : Ent := ⟨624, ⟨("LoopReader", some "box"), "box", "LoopReader.box", defArgs (stc 88 4), defBody (stc 88 4), defScope (stc 88 4), [], []⟩, Mp.f_LoopReader_box, ["self", "found"], ["self"], fun kV doc pm an cdv ct us hl => match us, hl with | [_], _ => rfl⟩
def e62 : Ent := ⟨625, ⟨("LoopReader", some "items"), "items", "LoopReader.items", defArgs (stc 88 5), defBody (stc 88 5), defScope (stc 88 5), [], []⟩, Mp.f_LoopReader_items, ["self", "deep", "found", "times"], ["self", "deep"], fun kV doc pm an cdv ct us hl => match us, hl with | [_, _], _ => rfl⟩
def e63 : Ent := ⟨626, ⟨("read_loop", none), "read_loop", "read_loop", defArgs (stm 89), defBody (stm 89), defScope (stm 89), [], []⟩, Mp.f_read_loop, ["text", "reader", "found"], ["text"], fun kV doc pm an cdv ct us hl => match us, hl with | [_], _ => rfl⟩
def e64 : Ent := ⟨25, ⟨("_law_alike", none), "_law_alike", "_law_alike", defArgs (stm 91), defBody (stm 91), defScope (stm 91), [], []⟩, Mp.f_law_alike, ["_law_found", "_law_due", "_law_k"], ["_law_found", "_law_due"], fun kV doc pm an cdv ct us hl => match us, hl with | [_, _], _ => rfl⟩
def e65 : Ent := ⟨643, ⟨("law", none), "law", "law", defArgs (stm 92), defBody (stm 92), defScope (stm 92), [], []⟩, Mp.f_law_k37, ["_law_script", "_law_row", "_law_loop", "_law_found", "_law_pair", "_law_line", "_law_tied", "_law_loose", "_law_free"], ["_law_script"], fun kV doc pm an cdv ct us hl => match us, hl with | [_], _ => rfl⟩
def ents : List Ent := [e0, e1, e2, e3, e4, e5, e6, e7, e8, e9, e10, e11, e12, e13, e14, e15, e16, e17, e18, e19, e20, e21, e22, e23, e24, e25, e26, e27, e28, e29, e30, e31, e32, e33, e34, e35, e36, e37, e38, e39, e40, e41, e42, e43, e44, e45, e46, e47, e48, e49, e50, e51, e52, e53, e54, e55, e56, e57, e58, e59, e60, e61, e62, e63, e64, e65]
def gci : Cn := ⟨[("MOST_BOXES", 8), ("MOST_PIPES", 16), ("MOST_RATE", 999), ("MOST_TOKENS", 99999), ("MOST_WORD", 2000), ("MOST_ROUND", 2000), ("MOST_TIMES", 999), ("MOST_DEEP", 8), ("MOST_LONG", 2000), ("MOST_FOLDED", 24)], [("DIGITS", [48, 49, 50, 51, 52, 53, 54, 55, 56, 57])], [], [("BadFlow", 1), ("BadWord", 6), ("NotBalanced", 8), ("NotLive", 9), ("BadLoop", 11), ("BadOrder", 14), ("NotText", 17), ("InvalidText", 18), ("TooMany", 19)], (PySem.Challenge.rw_rateflows_k37_known_loops).prog.main.file⟩
def cl : List (Str × Nat) := [("LoopReader", 2)]
def na : List (Nat × Nat) := [(2, 0), (2, 1)]
def loose : List Str := (["FlowError", "BadFlow", "BadWord", "NotBalanced", "NotLive", "BadLoop", "BadOrder", "NotText", "InvalidText", "TooMany", "is_in", "gcd", "reduced", "times", "MOST_BOXES", "MOST_PIPES", "MOST_RATE", "MOST_TOKENS", "is_pipe", "need_flow", "reach_of", "parts_in", "marks_in", "shares_in", "bad_pipe", "repetitions_in", "MOST_WORD", "lacks", "behind", "is_boxes"] : List Str) ++ (["line_in", "peaks_in", "counts_in", "most_in", "does", "MOST_ROUND", "round_of", "lives", "need_live", "MOST_TIMES", "MOST_DEEP", "MOST_LONG", "MOST_FOLDED", "size_of", "need_loop", "unrolled_in", "unrolled", "appear_in", "appearances", "deep_in", "depth", "schedules", "is_schedule", "loop_room", "loop_text", "write_loop", "folds_of", "best_fold", "need_short", "folded"] : List Str) ++ (["fold_size", "shows_fold", "common_of", "open_pipes", "reach_along", "knots_along", "single_of", "whole_single", "single", "has_single", "shows_single", "need_forward", "crossing", "nest_of", "code_of", "least_nest", "forward_orders", "DIGITS", "LoopReader", "read_loop", "_law_alike"] : List Str)
def T : Tab := tabOf ents
abbrev R : PySem.W.OpenRow := (PySem.W.OpenLaw.row PySem.Challenge.rw_rateflows_k37_known_loops)
def fa : List He.Fa := faOf ents gci cl na
def fn : List He.DefD := ents.map fun e => e.d
abbrev hkT : PySem.W.Hook := Mq.hookM 4 (Mq.exOf gci) fa fn
def obT (s : PySem.W.SharedT) : He.AlD × Bool := Mq.obsMG 4 (Mq.exOf gci) fa fn (HandSHeadRun.getT s)
theorem runT (w : World) : HandSHeadRun.RunEq R (PySem.W.view R.prog [92]) hkT obT 9000 loose w := by intro os; kernel_rfl
end Tk37
set_option Elab.async false
set_option linter.all false
set_option maxRecDepth 100000
namespace Mp
@[simp] theorem Rs.bind_ok {α β : Type} (a : α) (s : Sta) (f : α → Sta → Rs β) : (Rs.ok a s).bind f = f a s := rfl
@[simp] theorem Rs.of_some {α : Type} (a : α) (s : Sta) : Rs.of (some a) s = .ok a s := rfl
end Mp

namespace Mp
section
variable {P Q : Prog} (hp : PLe P Q)
end
end Mp

namespace Mq
open PySem PySem.Spec PyProof.Rows L2 Mp
section
variable {K : PySem.W.Frag} {F F' : Hp} {c c' : Nat → Addr} {len len' : Nat}
theorem RepL.get : ∀ {xs : List SV} {vs : List V} {i : Nat} {x : SV}, RepL K F c len xs vs → xs[i]? = some x → ∃ v, vs[i]? = some v ∧ Rep K F c len x v
  | [], _, _, _, _, e => by simp at e
  | y :: ys, _, 0, x, r, e => by
    obtain ⟨v, vs, e1, r1, _⟩ := r
    simp at e; subst e; subst e1
    exact ⟨v, rfl, r1⟩
  | y :: ys, _, i + 1, x, r, e => by
    obtain ⟨v, vs, e1, _, r2⟩ := r
    subst e1
    obtain ⟨w, h1, h2⟩ := RepL.get (i := i) r2 (by simpa using e)
    exact ⟨w, by simpa using h1, h2⟩
end
end Mq

namespace Mq
open PySem PySem.Spec PyProof.Rows L2 Mp
section
variable {K : PySem.W.Frag} {E : ErT} {W : WX} {g g1 : Gh} {st st1 : Sta} {σ : L2.St} {H H1 : Hp}
theorem Out.of_some {α : Type} {Q : α → Gh → Sta → Hp → Prop} {o : Option α} (R : Rel K g st σ H) (h : Out K E W g st σ H Q (Rs.of o st)) : ∃ a, o = some a ∧ Q a g st H := by
  cases o with
  | none => exact h.elim
  | some a => exact ⟨a, rfl, Out.now R h⟩
end
section
variable {K : PySem.W.Frag} {g : Gh} {st : Sta} {σ : L2.St} {H : Hp} {v : SV} {x : V}
end
end Mq

namespace Mq
open PySem PySem.Spec PyProof.Rows L2 Mp
section
variable {K : PySem.W.Frag} {g : Gh} {st : Sta} {σ : L2.St} {H : Hp} {p : Addr} {o : HO}
theorem Rel.freeze (R : Rel K g st σ H) {i : Nat} {c : Cel} {w : SV} (hi : st.env[i]? = some (.box c)) (hw : c.frozen = some w) :
    ∃ o, H (g.b i) = some o ∧ Rel K (g.add (g.b i) o) { st with env := st.env.set i (.val w) } σ H ∧ Grow g st H (g.add (g.b i) o) { st with env := st.env.set i (.val w) } H ∧
      Rep K (g.add (g.b i) o).F g.c st.heap.length w (.ref (g.b i)) := by
  have hl : at? st (.box i) = some c := by
    unfold at?; simp only [hi]
    cases c <;> first | rfl | (simp [Cel.frozen] at hw)
  obtain ⟨h1, o, h2, h3⟩ := R.loc _ _ hl
  have h1 : g.F (g.b i) = none := h1
  have h2 : H (g.b i) = some o := h2
  have up := add_up (o := o) h1
  have rep : Rep K (g.add (g.b i) o).F g.c st.heap.length w (.ref (g.b i)) := by
    have fe : (g.add (g.b i) o).F (g.b i) = some o := upd_same
    cases c with
    | dead => simp [Cel.frozen] at hw
    | ins _ _ => simp [Cel.frozen] at hw
    | lst xs =>
      simp [Cel.frozen] at hw; subst hw
      obtain ⟨vs, e, r⟩ := h3
      subst e
      exact ⟨_, vs, rfl, fe, RepL.up up (fun _ _ => rfl) (Nat.le_refl _) _ _ r⟩
    | dct ks ws =>
      simp [Cel.frozen] at hw; subst hw
      rcases h3 with ⟨kvs, e1, e2, r⟩ | ⟨b, xs, vs, e1, e2, e3, r1, r⟩
      · exact ⟨_, rfl, .inl ⟨kvs, by rw [fe, e1], e2, RepL.up up (fun _ _ => rfl) (Nat.le_refl _) _ _ r⟩⟩
      · exact ⟨_, rfl, .inr ⟨b, xs, vs, by rw [fe, e1], e2, e3, RepL.up up (fun _ _ => rfl) (Nat.le_refl _) _ _ r1, RepL.up up (fun _ _ => rfl) (Nat.le_refl _) _ _ r⟩⟩
  have at_ : ∀ l, (g.add (g.b i) o).at l = g.at l := fun l => by cases l <;> rfl
  have dn : ∀ l c, at? { st with env := st.env.set i (.val w) } l = some c → at? st l = some c ∧ l ≠ .box i := fun l c h => at_set_box (fun d => by simp) h
  refine ⟨o, h2, ⟨fun a u e => ?_, fun l c h => ?_, fun l l' c c' h h' e => ?_, fun j v h => ?_, fun j c h => ?_, by simpa using R.len⟩, ⟨fun a u e _ => e, fun a u e => ⟨u, e⟩, up, fun _ _ => rfl, Nat.le_refl _, fun a h => ?_, fun a u e => ?_⟩, rep⟩
  · by_cases ha : a = g.b i
    · subst ha
      have e' : upd g.F (g.b i) o (g.b i) = some u := e
      rw [upd_same] at e'; rw [h2]; exact e'
    · have e' : upd g.F (g.b i) o a = some u := e
      rw [upd_ne ha] at e'; exact R.sub _ _ e'
  · obtain ⟨h4, h5⟩ := dn l c h
    obtain ⟨q1, u, q2, q3⟩ := R.loc l c h4
    rw [at_]
    refine ⟨?_, u, q2, CellRep.up up (fun _ _ => rfl) (Nat.le_refl _) q3⟩
    show upd g.F (g.b i) o _ = none
    rw [upd_ne (show g.at l ≠ g.b i from fun e => h5 (R.inj _ _ _ _ h4 hl e))]; exact q1
  · rw [at_, at_] at e
    exact R.inj l l' c c' (dn l c h).1 (dn l' c' h').1 e
  · by_cases hj : i = j
    · subst hj
      have hlt : i < st.env.length := (List.getElem?_eq_some_iff.mp hi).1
      have h : (st.env.set i (.val w))[i]? = some (.val v) := h
      rw [List.getElem?_set_self hlt] at h
      cases h
      exact ⟨_, R.box i c hi, rep⟩
    · have h : (st.env.set i (.val w))[j]? = some (.val v) := h
      rw [List.getElem?_set_ne hj] at h
      obtain ⟨x, q1, q2⟩ := R.slot j v h
      exact ⟨x, q1, Rep.up up (fun _ _ => rfl) (Nat.le_refl _) _ _ q2⟩
  · by_cases hj : i = j
    · subst hj
      have hlt : i < st.env.length := (List.getElem?_eq_some_iff.mp hi).1
      have h : (st.env.set i (.val w))[i]? = some (.box c) := h
      rw [List.getElem?_set_self hlt] at h
      cases h
    · have h : (st.env.set i (.val w))[j]? = some (.box c) := h
      rw [List.getElem?_set_ne hj] at h
      exact R.box j c h
  · obtain ⟨l, c, q1, q2⟩ := h
    exact .inl ⟨l, c, (dn l c q1).1, by rw [← q2, at_]⟩
  · by_cases ha : a = g.b i
    · exact .inr (.inr ⟨.box i, c, hl, ha.symm⟩)
    · have e' : upd g.F (g.b i) o a = some u := e
      rw [upd_ne ha] at e'; exact .inl e'
/-- a kept value -/
theorem solid_out {E : ErT} {W : WX} {Q : SV → Gh → Sta → Hp → Prop} {v : SV} {x : V} (R : Rel K g st σ H) (r : RepV K g st σ v x) (h : Out K E W g st σ H Q (st.solid v)) :
    ∃ w g1 st1, Grow g st H g1 st1 H ∧ Rel K g1 st1 σ H ∧ Rep K g1.F g1.c st1.heap.length w x ∧ Q w g1 st1 H := by
  cases v with
  | view i =>
    unfold Sta.solid at h
    simp only at h
    cases hs : st.env[i]? with
    | none => rw [hs] at h; exact h.elim
    | some sl =>
      rw [hs] at h
      cases sl with
      | emp => exact h.elim
      | val _ => exact h.elim
      | box c =>
        simp only at h
        cases hw : c.frozen with
        | none => rw [hw] at h; exact h.elim
        | some w =>
          rw [hw] at h
          obtain ⟨o, h2, R1, G1, rep⟩ := R.freeze hs hw
          have r : σ[i]? = some (some x) := r
          have e := R.box i _ hs
          rw [r] at e
          have e : x = .ref (g.b i) := by simpa using e
          subst e
          exact ⟨w, _, _, G1, R1, rep, h _ _ G1 R1⟩
  | _ => exact ⟨_, g, st, Grow.refl _ _ _, R, r, Out.now R h⟩
end
end Mq

namespace Mq
open PySem PySem.Spec PyProof.Rows L2 Mp
section
theorem tuple_mul1 (l : Addr) (items : Array Value) (n : Nat) (dd : Option Addr) (sl : Array (Option Value)) (x : Int) (u : Tok) (c0 : (decide (x < -(2 ^ 63)) || decide (x ≥ 2 ^ 63)) = false) (c1 : (items.isEmpty || x == 1) = true) :
    Meets (Builtin.«tuple.__mul__» ⟨[.ref l, .int x u], []⟩) (fun _ R s => s.heap.get? l = some { cls := .type "tuple", dict := dd, data := .seq items n, slots := sl } ∧
      R (.ok (.ret (Value.ref l))) s) :=
  .of_wp fun prog w A R s h => by
    obtain ⟨hp, g, d, tk, os⟩ := s
    obtain ⟨hl, h⟩ := h
    have f1 := AutoSeq1.idx_int
    wp_walk using wpAny_loadPart' hl
    repeat (first
      | (refine wpAny_ite_false (decide_eq_false (by rw [c0]; exact Bool.false_ne_true)) ?_; wp_walk using wpAny_loadPart' hl)
      | (refine wpAny_ite_true (decide_eq_true (by rw [c1])) ?_; wp_walk using wpAny_loadPart' hl))
    all_goals first | exact ⟨_, rfl, h⟩ | exact h
theorem tuple_mul0 (l : Addr) (items : Array Value) (n : Nat) (dd : Option Addr) (sl : Array (Option Value)) (x : Int) (u : Tok) (c0 : (decide (x < -(2 ^ 63)) || decide (x ≥ 2 ^ 63)) = false) (c1 : (items.isEmpty || x == 1) = false) (c2 : (decide (x ≤ 0) || items.isEmpty) = true) :
    Meets (Builtin.«tuple.__mul__» ⟨[.ref l, .int x u], []⟩) (fun _ R s => s.heap.get? l = some { cls := .type "tuple", dict := dd, data := .seq items n, slots := sl } ∧
      R (.ok (.ret (Value.ref s.heap.objs.size))) { s with heap := s.heap.push { cls := Value.type "tuple", data := Data.seq #[] }, toks := s.toks }) :=
  .of_wp fun prog w A R s h => by
    obtain ⟨hp, g, d, tk, os⟩ := s
    obtain ⟨hl, h⟩ := h
    have f1 := AutoSeq1.idx_int
    wp_walk using wpAny_loadPart' hl
    repeat (first
      | (refine wpAny_ite_false (decide_eq_false (by rw [c0]; exact Bool.false_ne_true)) ?_; wp_walk using wpAny_loadPart' hl)
      | (refine wpAny_ite_false (decide_eq_false (by rw [c1]; exact Bool.false_ne_true)) ?_; wp_walk using wpAny_loadPart' hl)
      | (refine wpAny_ite_true (decide_eq_true (by rw [c2])) ?_; wp_walk using wpAny_loadPart' hl))
    all_goals first | exact ⟨_, rfl, h⟩ | exact h
end
def rRepA (K : PySem.W.Frag) : R2 := fun x y H Q => ∃ l k xs, x = .ref l ∧ y = .int k ∧ SqT K H l xs ∧ -(2 ^ 63) ≤ k ∧ k < 2 ^ 63 ∧ xs.length * k.toNat ≤ sizeLine ∧
  (xs = [] ∨ k = 1 → Q (.ref l) H) ∧ (¬ (xs = [] ∨ k = 1) → ∀ p o, H p = none → o.dict = none → Q (.ref p) (upd H p (.frz o (.tup (List.replicate k.toNat xs).flatten))))
/-- a new tuple, known to its very object -/
theorem newTup {X : Cx} {pins : List (Addr × Obj)} {σ : L2.St} {H : Hp} {s : Shared} {t' : Nat} {vs : List V} {its : List Value} {Q : VK} (I : Inv X pins σ H s) (r : Vals vs its) (hz : vs.length ≤ sizeLine) (q : ∀ p o, H p = none → o.dict = none → Q (.ref p) (upd H p (.frz o (.tup vs)))) :
    EP X pins σ Q (.ref s.heap.objs.size) { s with heap := s.heap.push { cls := .type "tuple", data := .seq its.toArray }, toks := t' } := by
  have e := Heap.get?_push_size s.heap (o := { cls := .type "tuple", data := .seq its.toArray }) rfl
  refine ⟨.ref s.heap.objs.size, _, I.laid (o := .frz { cls := .type "tuple", data := .seq its.toArray } (.tup vs)) (fun b ob z => Heap.get?_push_of_some _ z) (Nat.le_refl _) ?_, rfl, q _ _ (I.hok.fresh (Nat.le_refl _)) rfl⟩
  exact ⟨e, hz, its, r, ⟨_, e, rfl, _, rfl⟩⟩
section
variable {X : Cx}
theorem op_repA : OpR X (binaryOp .Mult) (rRepA X.K) := by
  intro pins s σ H x y v u Q I rx ry h
  obtain ⟨l, k, xs, rfl, rfl, hT, h1, h2, hz, q1, q2⟩ := h
  cases rx
  obtain ⟨t, rfl⟩ := ry
  obtain ⟨its, r, ⟨⟨cls, dd, data, sl⟩, ho, hc, n, hd⟩, hs⟩ := I.tuple hT
  simp only at hc hd
  subst hc hd
  have hle : its.length = xs.length := r.length.symm
  have c0 : (decide (k < -(2 ^ 63)) || decide (k ≥ 2 ^ 63)) = false := by
    rw [decide_eq_false (by omega), decide_eq_false (by omega)] <;> rfl
  have he : its.toArray.isEmpty = true ↔ xs = [] := by
    constructor
    · intro e
      have : its = [] := by simpa using e
      rw [this] at hle
      exact List.eq_nil_of_length_eq_zero hle.symm
    · intro e; subst e; cases r; rfl
  by_cases hc : xs = [] ∨ k = 1
  · have c1 : (its.toArray.isEmpty || k == 1) = true := by
      rcases hc with e | e
      · rw [he.mpr e]; rfl
      · rw [e]; simp
    exact wpAny_binaryOp_repeat_ref (T := "tuple") (U := "int") (by decide) ⟨_, ho, rfl⟩ (fun s' => typeIs_int s' k t) noFill_tuple_mul F.fills_int_mul F.slot_int_rmul repeat_tuple F.slot_int_index.lookup
      (call_meets F.slot_int_rmul (typeIs_int s k t) F.entry_int_rmul (F.args_int_rmul_2 _ _) (int_rmul_tuple k t l its.toArray n dd sl)
        ⟨ho, rfl, ⟨_, ho, rfl⟩, call_meets F.slot_tuple_mul ⟨_, ho, rfl⟩ F.entry_tuple_mul (F.args_tuple_mul_2 _ _) (tuple_mul1 l its.toArray n dd sl k t c0 c1) ⟨ho, ⟨.ref l, H, I, rfl, q1 hc⟩⟩⟩)
  · have hi : its.toArray.isEmpty = false := by
      cases e : its.toArray.isEmpty with
      | false => rfl
      | true => exact absurd (.inl (he.mp e)) hc
    have c1 : (its.toArray.isEmpty || k == 1) = false := by
      rw [hi, Bool.false_or]
      exact beq_eq_false_iff_ne.mpr fun e => hc (.inr e)
    have q := q2 hc
    by_cases hk : k ≤ 0
    · have c2 : (decide (k ≤ 0) || its.toArray.isEmpty) = true := by rw [decide_eq_true hk]; rfl
      have e0 : k.toNat = 0 := by omega
      refine wpAny_binaryOp_repeat_ref (T := "tuple") (U := "int") (by decide) ⟨_, ho, rfl⟩ (fun s' => typeIs_int s' k t) noFill_tuple_mul F.fills_int_mul F.slot_int_rmul repeat_tuple F.slot_int_index.lookup
        (call_meets F.slot_int_rmul (typeIs_int s k t) F.entry_int_rmul (F.args_int_rmul_2 _ _) (int_rmul_tuple k t l its.toArray n dd sl)
          ⟨ho, rfl, ⟨_, ho, rfl⟩, call_meets F.slot_tuple_mul ⟨_, ho, rfl⟩ F.entry_tuple_mul (F.args_tuple_mul_2 _ _) (tuple_mul0 l its.toArray n dd sl k t c0 c1 c2) ⟨ho, ?_⟩⟩)
      rw [e0] at q
      exact newTup I (vs := []) (its := []) .nil (Nat.zero_le _) fun p o => q p o
    · have c2 : (decide (k ≤ 0) || its.toArray.isEmpty) = false := by
        rw [hi, Bool.or_false]
        exact decide_eq_false (by omega)
      have hsz0 : its.toArray.size = xs.length := by rw [List.size_toArray, hle]
      have flen : (List.replicate k.toNat its).flatten.length ≤ sizeLine := by
        rw [PyProof.Rows.lm_len_rep_flat, hle, Nat.mul_comm]; exact hz
      have hmul : ((its.toArray.size : Nat) : Int) * k ≤ 16777216 := by
        rw [sizeLine_eq] at hz
        have e1 : ((xs.length * k.toNat : Nat) : Int) = (xs.length : Int) * k := by
          rw [Int.natCast_mul, Int.toNat_of_nonneg (by omega)]
        rw [hsz0, ← e1]
        exact Int.ofNat_le.mpr hz
      have c4 : Builtin.Tuple.tupleTooMany (((its.toArray.size : Nat) : Int) * k) = false := by
        unfold Builtin.Tuple.tupleTooMany
        rw [sizeLine_eq]
        exact decide_eq_false (by omega)
      refine wpAny_binaryOp_repeat_ref (T := "tuple") (U := "int") (by decide) ⟨_, ho, rfl⟩ (fun s' => typeIs_int s' k t) noFill_tuple_mul F.fills_int_mul F.slot_int_rmul repeat_tuple F.slot_int_index.lookup
        (call_meets F.slot_int_rmul (typeIs_int s k t) F.entry_int_rmul (F.args_int_rmul_2 _ _) (int_rmul_tuple k t l its.toArray n dd sl)
          ⟨ho, rfl, ⟨_, ho, rfl⟩, call_meets F.slot_tuple_mul ⟨_, ho, rfl⟩ F.entry_tuple_mul (F.args_tuple_mul_2 _ _) (tuple_mulW l its.toArray n dd sl k t c0 c1 c2 (by omega) c4 (by rw [size_rep, List.size_toArray]; exact flen)) ⟨ho, ?_⟩⟩)
      rw [size_rep]
      exact newTup I (r.rep k.toNat) (by rw [PyProof.Rows.lm_len_rep_flat, Nat.mul_comm]; exact hz) q
end
end Mq

namespace Mq
open PySem PySem.Spec PyProof.Rows L2 Mp
def opOf : Bop → Operator
  | .add => .Add | .sub => .Sub | .mul => .Mult | .fdiv => .FloorDiv | .mod => .Mod | .pow => .Pow
def cmpOf : Cop → CmpOp
  | .eq => .Eq | .ne => .NotEq | .lt => .Lt | .le => .LtE | .gt => .Gt | .ge => .GtE | .isin => .In | .notin => .NotIn
theorem lim_eq : (Mp.lim : Nat) = sizeLine := by rw [sizeLine_eq]; rfl
theorem small_le {n : Nat} (h : small n = true) : n ≤ sizeLine := by rw [← lim_eq]; exact of_decide_eq_true h
section
variable {K : PySem.W.Frag} {g : Gh} {st : Sta} {σ : L2.St} {H : Hp} {Q : VK} {p : Addr}
theorem RepL.rep {F : Hp} {c : Nat → Addr} {len : Nat} {xs : List SV} {vs : List V} (h : RepL K F c len xs vs) : ∀ k : Nat, RepL K F c len (List.replicate k xs).flatten (List.replicate k vs).flatten
  | 0 => rfl
  | k + 1 => by
    rw [List.replicate_succ, List.flatten_cons, List.replicate_succ, List.flatten_cons]
    exact h.append (RepL.rep h k)
end
def rBin (K : PySem.W.Frag) (op : Bop) : R2 := fun x y H Q => ∃ g st σ a b v, Rel K g st σ H ∧ RepV K g st σ a x ∧ RepV K g st σ b y ∧ binV st op a b = some v ∧ Res K g st σ H v Q
theorem mulOk_C {i j : Int} (h : mulOk i j = true) : CMul i j := by
  unfold mulOk big at h
  simp only [Bool.or_eq_true, Bool.and_eq_true, decide_eq_true_eq] at h
  unfold CMul
  rcases h with h | h
  · left; omega
  · right; omega
theorem str_app (x y : List Nat) : (⟨(x ++ y).toArray⟩ : PySem.Str) = ⟨x.toArray⟩ ++ ⟨y.toArray⟩ := by
  show _ = PySem.Str.append _ _
  unfold PySem.Str.append
  simp
section
variable {X : Cx}
theorem op_binI {op : Bop} {pins : List (Addr × Obj)} {σ : L2.St} {H : Hp} {s : Shared} {i j k : Int} {v u : Value} {Q : VK} (I : Inv X pins σ H s) (rx : RelV (.int i) v) (ry : RelV (.int j) u) (h : binInt op i j = some k) (q : Q (.int k) H) :
    wpAny (model X.prog X.w) X.A (binaryOp (opOf op) v u) (EP X pins σ Q) X.xe s := by
  cases op with
  | add => simp [binInt] at h; subst h; exact op_add pins s σ H _ _ v u Q I rx ry ⟨i, j, rfl, rfl, q⟩
  | sub => simp [binInt] at h; subst h; exact op_sub pins s σ H _ _ v u Q I rx ry ⟨i, j, rfl, rfl, q⟩
  | mul =>
    simp only [binInt] at h
    split at h
    · rename_i c
      cases h
      exact op_mul pins s σ H _ _ v u Q I rx ry ⟨i, j, rfl, rfl, mulOk_C c, q⟩
    · cases h
  | fdiv =>
    simp only [binInt] at h
    split at h
    · rename_i c
      simp only [Bool.and_eq_true, decide_eq_true_eq] at c
      cases h
      exact op_fdivN pins s σ H _ _ v u Q I rx ry ⟨i, j, rfl, rfl, c, q⟩
    · cases h
  | mod =>
    simp only [binInt] at h
    split at h
    · rename_i c
      simp only [decide_eq_true_eq] at c
      cases h
      exact op_modN pins s σ H _ _ v u Q I rx ry ⟨i, j, rfl, rfl, c, q⟩
    · cases h
  | pow =>
    simp only [binInt] at h
    split at h
    · rename_i c
      simp only [Bool.and_eq_true, decide_eq_true_eq] at c
      cases h
      exact op_pow pins s σ H _ _ v u Q I rx ry ⟨i, j, rfl, rfl, ⟨c.1.1, c.1.2, by have := c.2; omega⟩, q⟩
    · cases h
theorem catL_some {α : Type} {xs ys zs : List α} (h : catL xs ys = some zs) : xs.length + ys.length ≤ sizeLine ∧ zs = xs ++ ys := by
  unfold catL at h
  split at h
  · rename_i c; cases h; exact ⟨small_le c, rfl⟩
  · cases h
theorem repL_some {α : Type} {xs zs : List α} {k : Int} (h : repL xs k = some zs) : -(2 ^ 63) ≤ k ∧ k < 2 ^ 63 ∧ xs.length * k.toNat ≤ sizeLine ∧ zs = (List.replicate k.toNat xs).flatten := by
  unfold repL at h
  split at h
  · rename_i c
    simp only [Bool.and_eq_true, decide_eq_true_eq] at c
    cases h
    exact ⟨by have := c.1.1; omega, by have := c.1.2; omega, small_le c.2, rfl⟩
  · cases h
/-- t + u -/
def rCatZ (K : PySem.W.Frag) : R2 := fun x y H Q => ∃ a b xs ys, x = .ref a ∧ y = .ref b ∧ SqT K H a xs ∧ SqT K H b ys ∧ xs.length + ys.length ≤ sizeLine ∧ (xs = [] → Q (.ref b) H) ∧ (xs ≠ [] → ys = [] → Q (.ref a) H) ∧
  (xs ≠ [] → ys ≠ [] → ∀ p o, H p = none → o.dict = none → Q (.ref p) (upd H p (.frz o (.tup (xs ++ ys)))))
theorem op_catZ : OpR X (binaryOp .Add) (rCatZ X.K) := by
  intro pins s σ H x y v u Q I rx ry h
  obtain ⟨a, b, xs, ys, rfl, rfl, ha, hb, hz, q0, q1, q2⟩ := h
  cases rx
  cases ry
  obtain ⟨is, ra, pa, _⟩ := I.tuple ha
  obtain ⟨js, rb, pb, _⟩ := I.tuple hb
  by_cases e : xs = []
  · subst e
    cases ra
    exact cat_tup0 pa pb ⟨.ref b, H, I, rfl, q0 rfl⟩
  · exact HT.cat_tup pa pb (fun z => e (ra.nil_iff.mp z)) (fun z => ⟨.ref a, H, I, rfl, q1 e (rb.nil_iff.mp z)⟩)
      (fun z => newTup I (ra.append rb) (by rw [List.length_append]; exact hz) (q2 e fun w => z (rb.nil_iff.mpr w))) (by rw [← ra.length, ← rb.length]; exact hz)
theorem op_listcat {pins : List (Addr × Obj)} {σ σ' : L2.St} {H : Hp} {s : Shared} {x y : V} {v u : Value} {Q : VK} {g : Gh} {st : Sta} {a b : SV} {w : SV} (I : Inv X pins σ' H s) (rx : RelV x v) (ry : RelV y u)
    (R : Rel X.K g st σ H) (ra : RepV X.K g st σ a x) (rb : RepV X.K g st σ b y) (h : ((st.list a).bind fun x => (st.list b).bind fun y => (catL x y).map SV.lst) = some w) (q : Res X.K g st σ H w Q) :
    wpAny (model X.prog X.w) X.A (binaryOp .Add v u) (EP X pins σ' Q) X.xe s := by
  cases ea : st.list a with
  | none => rw [ea] at h; cases h
  | some xs =>
    rw [ea] at h
    cases eb : st.list b with
    | none => rw [eb] at h; simp at h
    | some ys =>
      rw [eb] at h
      simp only [Option.bind_some] at h
      cases ec : catL xs ys with
      | none => rw [ec] at h; cases h
      | some zs =>
        rw [ec] at h
        cases h
        obtain ⟨hz, rfl⟩ := catL_some ec
        obtain ⟨p, vs, rfl, h1, r1⟩ := RepV.list R ra ea
        obtain ⟨p', ws, rfl, h2, r2⟩ := RepV.list R rb eb
        exact op_cat pins s σ' H _ _ v u Q I rx ry ⟨p, p', vs, ws, rfl, rfl, h1, h2, by rw [← r1.length, ← r2.length]; exact hz, fun z hz => Res.lst R q (r1.append r2) hz⟩
theorem op_listrep {pins : List (Addr × Obj)} {σ σ' : L2.St} {H : Hp} {s : Shared} {x : V} {v u : Value} {Q : VK} {g : Gh} {st : Sta} {a : SV} {k : Int} {w : SV} (I : Inv X pins σ' H s) (rx : RelV x v) (ry : RelV (.int k) u)
    (R : Rel X.K g st σ H) (ra : RepV X.K g st σ a x) (h : ((st.list a).bind fun x => (repL x k).map SV.lst) = some w) (q : Res X.K g st σ H w Q) :
    wpAny (model X.prog X.w) X.A (binaryOp .Mult v u) (EP X pins σ' Q) X.xe s := by
  cases ea : st.list a with
  | none => rw [ea] at h; cases h
  | some xs =>
    rw [ea] at h
    simp only [Option.bind_some] at h
    cases ec : repL xs k with
    | none => rw [ec] at h; cases h
    | some zs =>
      rw [ec] at h
      cases h
      obtain ⟨h1, h2, hz, rfl⟩ := repL_some ec
      obtain ⟨p, vs, rfl, h3, r1⟩ := RepV.list R ra ea
      exact op_rep pins s σ' H _ _ v u Q I rx ry ⟨p, k, vs, rfl, rfl, h3, h1, h2, by rw [← r1.length]; exact hz, fun z hz => Res.lst R q (RepL.rep r1 _) hz⟩
theorem op_tupcat {pins : List (Addr × Obj)} {σ σ' : L2.St} {H : Hp} {s : Shared} {x y : V} {v u : Value} {Q : VK} {g : Gh} {st : Sta} {a b : List SV} {w : SV} (I : Inv X pins σ' H s) (rx : RelV x v) (ry : RelV y u)
    (R : Rel X.K g st σ H) (ra : RepV X.K g st σ (.tup a) x) (rb : RepV X.K g st σ (.tup b) y) (h : (catL a b).map SV.tup = some w) (q : Res X.K g st σ H w Q) :
    wpAny (model X.prog X.w) X.A (binaryOp .Add v u) (EP X pins σ' Q) X.xe s := by
  cases ec : catL a b with
  | none => rw [ec] at h; cases h
  | some zs =>
    rw [ec] at h
    cases h
    obtain ⟨hz, rfl⟩ := catL_some ec
    have ra0 := ra
    have rb0 := rb
    obtain ⟨p, vs, rfl, h1, r1⟩ := RepV.tup R ra
    obtain ⟨p', ws, rfl, h2, r2⟩ := RepV.tup R rb
    refine op_catZ pins s σ' H _ _ v u Q I rx ry ⟨p, p', vs, ws, rfl, rfl, h1, h2, by rw [← r1.length, ← r2.length]; exact hz, fun e => ?_, fun e1 e => ?_, fun e1 e2 z o hz => Res.tup R q (r1.append r2) hz⟩
    · have : a = [] := List.eq_nil_of_length_eq_zero (by rw [r1.length, e]; rfl)
      subst this
      exact q.here R rb0
    · have : b = [] := List.eq_nil_of_length_eq_zero (by rw [r2.length, e]; rfl)
      subst this
      rw [List.append_nil] at q
      exact q.here R ra0
theorem op_tuprep {pins : List (Addr × Obj)} {σ σ' : L2.St} {H : Hp} {s : Shared} {x : V} {v u : Value} {Q : VK} {g : Gh} {st : Sta} {a : List SV} {k : Int} {w : SV} (I : Inv X pins σ' H s) (rx : RelV x v) (ry : RelV (.int k) u)
    (R : Rel X.K g st σ H) (ra : RepV X.K g st σ (.tup a) x) (h : (repL a k).map SV.tup = some w) (q : Res X.K g st σ H w Q) :
    wpAny (model X.prog X.w) X.A (binaryOp .Mult v u) (EP X pins σ' Q) X.xe s := by
  cases ec : repL a k with
  | none => rw [ec] at h; cases h
  | some zs =>
    rw [ec] at h
    cases h
    obtain ⟨h1, h2, hz, rfl⟩ := repL_some ec
    have ra0 := ra
    obtain ⟨p, vs, rfl, h3, r1⟩ := RepV.tup R ra
    refine op_repA pins s σ' H _ _ v u Q I rx ry ⟨p, k, vs, rfl, rfl, h3, h1, h2, by rw [← r1.length]; exact hz, fun e => ?_, fun _ z o hz => Res.tup R q (RepL.rep r1 _) hz⟩
    refine q.here R ?_
    have : (List.replicate k.toNat a).flatten = a := by
      rcases e with e | e
      · have : a = [] := List.eq_nil_of_length_eq_zero (by rw [r1.length, e]; rfl)
        subst this
        induction k.toNat with
        | zero => rfl
        | succ n ih => rw [List.replicate_succ, List.flatten_cons, ih]; rfl
      · subst e; simp
    rw [this]
    exact ra0
theorem op_bin {op : Bop} : OpR X (binaryOp (opOf op)) (rBin X.K op) := by
  intro pins s σ' H x y v u Q I rx ry h
  obtain ⟨g, st, σ, a, b, w, R, ra, rb, hv, q⟩ := h
  unfold binV at hv
  split at hv
  · rename_i i j
    cases e : binInt op i j with
    | none => rw [e] at hv; cases hv
    | some k =>
      rw [e] at hv; cases hv
      obtain rfl := ra.int
      obtain rfl := rb.int
      exact op_binI I rx ry e (q.here R rfl)
  · rename_i i j
    cases op <;> first | (simp at hv; done) | skip
    cases e : catL i j with
    | none => rw [e] at hv; cases hv
    | some k =>
      rw [e] at hv; cases hv
      obtain ⟨hz, rfl⟩ := catL_some e
      obtain rfl := ra.str
      obtain rfl := rb.str
      exact op_add_str pins s σ' H _ _ v u Q I rx ry ⟨_, _, rfl, rfl, by simpa [PySem.Str.length] using hz, by rw [← str_app]; exact q.here R rfl⟩
  · cases op <;> first | (simp at hv; done) | exact op_tupcat I rx ry R ra rb hv q
  · cases op <;> first | (simp at hv; done) | (obtain rfl := rb.int; exact op_tuprep I rx ry R ra hv q)
  · cases op <;> first | (simp at hv; done) | (obtain rfl := rb.int; exact op_listrep I rx ry R ra hv q)
  · cases op <;> first | (simp at hv; done) | exact op_listcat I rx ry R ra rb hv q
end
end Mq

namespace Mq
open PySem PySem.Spec PyProof.Rows L2 Mp
mutual
theorem pd_lay : ∀ (v : SV) (n : Nat), v.plainN n = true → (toPD v).canLay0 = true ∧ (toPD v).depth ≤ n
  | .non, n, _ => by simp [toPD, PyData.canLay0, PyData.depth]
  | .bl _, n, _ => by simp [toPD, PyData.canLay0, PyData.depth]
  | .int _, n, _ => by simp [toPD, PyData.canLay0, PyData.depth]
  | .str s, n, h => by
    simp only [SV.plainN] at h
    refine ⟨?_, by simp [toPD, PyData.depth]⟩
    simp only [toPD, PyData.canLay0, PyData.strOk]
    simpa [Array.all_eq_true, List.all_eq_true] using h
  | .tup xs, 0, h => by simp [SV.plainN] at h
  | .tup xs, n + 1, h => by
    have h : SV.plainsN xs n = true := by simpa [SV.plainN] using h
    obtain ⟨a, b⟩ := pds_lay xs n h
    simp only [toPD, PyData.canLay0, PyData.depth]
    exact ⟨a, by omega⟩
  | .lst xs, 0, h => by simp [SV.plainN] at h
  | .lst xs, n + 1, h => by
    have h : SV.plainsN xs n = true := by simpa [SV.plainN] using h
    obtain ⟨a, b⟩ := pds_lay xs n h
    simp only [toPD, PyData.canLay0, PyData.depth]
    exact ⟨a, by omega⟩
  | .dct _ _, n, h => by simp [SV.plainN] at h
  | .scr _, n, h => by simp [SV.plainN] at h
  | .ref _, n, h => by simp [SV.plainN] at h
  | .view _, n, h => by simp [SV.plainN] at h
theorem pds_lay : ∀ (v : List SV) (n : Nat), SV.plainsN v n = true → PyData.canLayAll0 (toPDs v) = true ∧ PyData.depthAll (toPDs v) ≤ n
  | [], n, _ => by simp [toPDs, PyData.canLayAll0, PyData.depthAll]
  | x :: xs, n, h => by
    have h : x.plainN n = true ∧ SV.plainsN xs n = true := by simpa [SV.plainsN] using h
    obtain ⟨a, b⟩ := pd_lay x n h.1
    obtain ⟨c, d⟩ := pds_lay xs n h.2
    simp only [toPDs, PyData.canLayAll0, PyData.depthAll, a, c, Bool.and_self, true_and]
    exact Nat.max_le.mpr ⟨b, d⟩
end
theorem pd_shaped {v : SV} (h : v.plain = true) : SeqAt.shaped (toPD v) = true := by
  obtain ⟨a, b⟩ := pd_lay v 50 h
  unfold SeqAt.shaped
  rw [a, decide_eq_true (by omega)]; rfl
theorem pds_shaped {v : List SV} (h : SV.plains v = true) : SeqAt.shaped (.list (toPDs v)) = true ∧ SeqAt.shaped (.tuple (toPDs v)) = true := by
  obtain ⟨a, b⟩ := pds_lay v 50 h
  unfold SeqAt.shaped
  simp only [PyData.canLay0, PyData.depth, a, Bool.true_and]
  exact ⟨decide_eq_true (by omega), decide_eq_true (by omega)⟩
section
variable {K : PySem.W.Frag} {F : Hp} {c : Nat → Addr} {len : Nat} {H : Hp}
end
mutual
theorem pd_eqv : ∀ (a b : SV) (n m : Nat), a.plainN n = true → b.plainN m = true → PyData.eqv (toPD a) (toPD b) = a.eqv b
  | .non, b, n, m, _, h => by cases b <;> simp_all [toPD, PyData.eqv, SV.eqv, SV.plainN]
  | .bl _, b, n, m, _, h => by cases b <;> simp_all [toPD, PyData.eqv, SV.eqv, SV.plainN, bInt]
  | .int _, b, n, m, _, h => by cases b <;> simp_all [toPD, PyData.eqv, SV.eqv, SV.plainN, bInt]
  | .str s, b, n, m, _, h => by
    cases b <;> first | (simp_all [toPD, PyData.eqv, SV.eqv, SV.plainN]; done) | skip
    rename_i t
    simp only [toPD, PyData.eqv, SV.eqv]
    by_cases e : s = t
    · subst e; simp
    · have : ¬ (⟨s.toArray⟩ : PySem.Str) = ⟨t.toArray⟩ := fun q => e (by have := congrArg PySem.Str.cps q; simpa using this)
      rw [beq_eq_false_iff_ne.mpr this, beq_eq_false_iff_ne.mpr e]
  | .tup xs, b, n, m, p, h => by
    cases n with
    | zero => simp [SV.plainN] at p
    | succ n =>
      cases b <;> first | (simp_all [toPD, PyData.eqv, SV.eqv, SV.plainN]; done) | skip
      rename_i ys
      cases m with
      | zero => simp [SV.plainN] at h
      | succ m =>
        simp only [toPD, PyData.eqv, SV.eqv]
        exact pds_eqv xs ys n m (by simpa [SV.plainN] using p) (by simpa [SV.plainN] using h)
  | .lst xs, b, n, m, p, h => by
    cases n with
    | zero => simp [SV.plainN] at p
    | succ n =>
      cases b <;> first | (simp_all [toPD, PyData.eqv, SV.eqv, SV.plainN]; done) | skip
      rename_i ys
      cases m with
      | zero => simp [SV.plainN] at h
      | succ m =>
        simp only [toPD, PyData.eqv, SV.eqv]
        exact pds_eqv xs ys n m (by simpa [SV.plainN] using p) (by simpa [SV.plainN] using h)
  | .dct _ _, b, n, m, p, h => by simp [SV.plainN] at p
  | .scr _, b, n, m, p, h => by simp [SV.plainN] at p
  | .ref _, b, n, m, p, h => by simp [SV.plainN] at p
  | .view _, b, n, m, p, h => by simp [SV.plainN] at p
theorem pds_eqv : ∀ (a b : List SV) (n m : Nat), SV.plainsN a n = true → SV.plainsN b m = true → PyData.eqvAll (toPDs a) (toPDs b) = SV.eqvs a b
  | [], b, n, m, _, _ => by cases b <;> simp [toPDs, PyData.eqvAll, SV.eqvs]
  | x :: xs, [], n, m, _, _ => by simp [toPDs, PyData.eqvAll, SV.eqvs]
  | x :: xs, y :: ys, n, m, p, h => by
    have p : x.plainN n = true ∧ SV.plainsN xs n = true := by simpa [SV.plainsN] using p
    have h : y.plainN m = true ∧ SV.plainsN ys m = true := by simpa [SV.plainsN] using h
    simp only [toPDs, PyData.eqvAll, SV.eqvs, pd_eqv x y n m p.1 h.1, pds_eqv xs ys n m p.2 h.2]
end
theorem any_eqv {a : SV} (ha : a.plain = true) : ∀ {xs : List SV}, SV.plains xs = true → ((toPDs xs).any fun z => PyData.eqv z (toPD a)) = xs.any fun y => y.eqv a
  | [], _ => rfl
  | x :: xs, h => by
    have h : x.plainN 50 = true ∧ SV.plainsN xs 50 = true := by simpa [SV.plains, SV.plainsN] using h
    simp only [toPDs, List.any_cons, pd_eqv x a 50 50 h.1 ha, any_eqv ha (xs := xs) h.2]
section
variable {X : Cx}
def rCmp (K : PySem.W.Frag) (op : Cop) : R2 := fun x y H Q => ∃ g st σ a b c, Rel K g st σ H ∧ RepV K g st σ a x ∧ RepV K g st σ b y ∧ cmpV st op a b = some c ∧ Q (.bl c) H
theorem sameV_some {st : Sta} {a b : SV} {c : Bool} (h : sameV st a b = some c) : ∃ x y, st.flat a = some x ∧ st.flat b = some y ∧ x.plain = true ∧ y.plain = true ∧ c = x.eqv y := by
  unfold sameV at h
  cases e1 : st.flat a with
  | none => rw [e1] at h; simp at h
  | some x =>
    cases e2 : st.flat b with
    | none => rw [e1, e2] at h; simp at h
    | some y =>
      rw [e1, e2] at h
      simp only [Option.bind_some] at h
      split at h
      · rename_i q
        simp only [Bool.and_eq_true] at q
        cases h
        exact ⟨x, y, rfl, rfl, q.1, q.2, rfl⟩
      · cases h
theorem op_sameV (hu : X.A.units + 64 < cLine) : OpR X (compareOp .Eq) (rCmp X.K .eq) := by
  intro pins s σ' H x y v u Q I rx ry h
  obtain ⟨g, st, σ, a, b, c, R, ra, rb, hc, q⟩ := h
  obtain ⟨x', y', e1, e2, p1, p2, rfl⟩ := sameV_some hc
  exact op_eqD hu pins s σ' H _ _ v u Q I rx ry ⟨_, _, ra.flat R e1 p1, rb.flat R e2 p2, pd_shaped p1, pd_shaped p2, by rw [pd_eqv _ _ 50 50 p1 p2]; exact q⟩
theorem op_neV (hu : X.A.units + 64 < cLine) : OpR X (compareOp .NotEq) (rCmp X.K .ne) := by
  intro pins s σ' H x y v u Q I rx ry h
  obtain ⟨g, st, σ, a, b, c, R, ra, rb, hc, q⟩ := h
  unfold cmpV at hc
  cases e : sameV st a b with
  | none => rw [e] at hc; cases hc
  | some d =>
    rw [e] at hc; cases hc
    obtain ⟨x', y', e1, e2, p1, p2, rfl⟩ := sameV_some e
    exact op_neD hu pins s σ' H _ _ v u Q I rx ry ⟨_, _, ra.flat R e1 p1, rb.flat R e2 p2, pd_shaped p1, pd_shaped p2, by rw [pd_eqv _ _ 50 50 p1 p2]; exact q⟩
theorem op_ltV : OpR X (compareOp .Lt) (rCmp X.K .lt) := by
  intro pins s σ' H x y v u Q I rx ry h
  obtain ⟨g, st, σ, a, b, c, R, ra, rb, hc, q⟩ := h
  unfold cmpV at hc
  cases a <;> cases b <;> first | (simp at hc; done) | skip
  cases hc
  exact op_lt pins s σ' H _ _ v u Q I rx ry ⟨_, _, ra.int, rb.int, q⟩
theorem op_leV : OpR X (compareOp .LtE) (rCmp X.K .le) := by
  intro pins s σ' H x y v u Q I rx ry h
  obtain ⟨g, st, σ, a, b, c, R, ra, rb, hc, q⟩ := h
  unfold cmpV at hc
  cases a <;> cases b <;> first | (simp at hc; done) | skip
  cases hc
  exact op_le pins s σ' H _ _ v u Q I rx ry ⟨_, _, ra.int, rb.int, q⟩
theorem op_gtV : OpR X (compareOp .Gt) (rCmp X.K .gt) := by
  intro pins s σ' H x y v u Q I rx ry h
  obtain ⟨g, st, σ, a, b, c, R, ra, rb, hc, q⟩ := h
  unfold cmpV at hc
  cases a <;> cases b <;> first | (simp at hc; done) | skip
  cases hc
  exact op_gt pins s σ' H _ _ v u Q I rx ry ⟨_, _, ra.int, rb.int, q⟩
theorem op_geV : OpR X (compareOp .GtE) (rCmp X.K .ge) := by
  intro pins s σ' H x y v u Q I rx ry h
  obtain ⟨g, st, σ, a, b, c, R, ra, rb, hc, q⟩ := h
  unfold cmpV at hc
  cases a <;> cases b <;> first | (simp at hc; done) | skip
  cases hc
  exact op_ge pins s σ' H _ _ v u Q I rx ry ⟨_, _, ra.int, rb.int, q⟩
end
end Mq

namespace Mq
open PySem PySem.Spec PyProof.Rows L2 Mp
theorem key_inj {a b : SV} {ka kb : Key} (ha : keyOf a = some ka) (hb : keyOf b = some kb) : a.eqv b = decide (ka = kb) := by
  cases a <;> first | (simp [keyOf] at ha; done) | skip
  · cases b <;> first | (simp [keyOf] at hb; done) | skip
    · simp [keyOf] at ha hb; subst ha; subst hb
      rename_i i j
      by_cases e : i = j
      · subst e; simp [SV.eqv]
      · have : ¬ (Sum.inl i : Key) = Sum.inl j := fun q => e (Sum.inl.inj q)
        simp [SV.eqv, e, this]
    · simp [keyOf] at ha hb; subst ha; subst hb; simp [SV.eqv]
  · cases b <;> first | (simp [keyOf] at hb; done) | skip
    · simp [keyOf] at ha hb; subst ha; subst hb; simp [SV.eqv]
    · simp [keyOf] at ha hb; subst ha; subst hb
      rename_i i j
      by_cases e : i = j
      · subst e; simp [SV.eqv]
      · have : ¬ (Sum.inr (⟨i.toArray⟩ : PySem.Str) : Key) = Sum.inr ⟨j.toArray⟩ := fun q => e (by have := Sum.inr.inj q; have := congrArg PySem.Str.cps this; simpa using this)
        simp [SV.eqv, e, this]
mutual
theorem nkey_inj : ∀ {a b : SV} {ka kb : NestedKey}, nkeyOf a = some ka → nkeyOf b = some kb → a.eqv b = decide (ka = kb)
  | .int i, b, _, _, ha, hb => by
    simp only [nkeyOf, Option.some.injEq] at ha; subst ha
    cases b <;> first | (simp [nkeyOf] at hb; done) | skip
    · simp only [nkeyOf, Option.some.injEq] at hb; subst hb
      rename_i j
      by_cases e : i = j
      · subst e; simp [SV.eqv]
      · simp [SV.eqv, e]
    · simp only [nkeyOf, Option.map_eq_some_iff] at hb
      obtain ⟨_, _, rfl⟩ := hb
      simp [SV.eqv]
  | .tup xs, b, _, _, ha, hb => by
    simp only [nkeyOf, Option.map_eq_some_iff] at ha
    obtain ⟨us, h1, rfl⟩ := ha
    cases b <;> first | (simp [nkeyOf] at hb; done) | skip
    · simp only [nkeyOf, Option.some.injEq] at hb; subst hb
      simp [SV.eqv]
    · simp only [nkeyOf, Option.map_eq_some_iff] at hb
      obtain ⟨vs, h2, rfl⟩ := hb
      simp only [SV.eqv, nkeys_inj h1 h2, NestedKey.tup.injEq]
  | .non, _, _, _, ha, _ => by simp [nkeyOf] at ha
  | .bl _, _, _, _, ha, _ => by simp [nkeyOf] at ha
  | .str _, _, _, _, ha, _ => by simp [nkeyOf] at ha
  | .lst _, _, _, _, ha, _ => by simp [nkeyOf] at ha
  | .dct _ _, _, _, _, ha, _ => by simp [nkeyOf] at ha
  | .scr _, _, _, _, ha, _ => by simp [nkeyOf] at ha
  | .ref _, _, _, _, ha, _ => by simp [nkeyOf] at ha
  | .view _, _, _, _, ha, _ => by simp [nkeyOf] at ha
theorem nkeys_inj : ∀ {a b : List SV} {ka kb : List NestedKey}, nkeysOf a = some ka → nkeysOf b = some kb → SV.eqvs a b = decide (ka = kb)
  | [], [], _, _, ha, hb => by simp only [nkeysOf, Option.some.injEq] at ha hb; subst ha; subst hb; simp [SV.eqvs]
  | [], y :: ys, _, _, ha, hb => by
    simp only [nkeysOf, Option.some.injEq] at ha; subst ha
    simp only [nkeysOf, Option.bind_eq_some_iff, Option.map_eq_some_iff] at hb
    obtain ⟨_, _, _, _, rfl⟩ := hb
    simp [SV.eqvs]
  | x :: xs, [], _, _, ha, hb => by
    simp only [nkeysOf, Option.some.injEq] at hb; subst hb
    simp only [nkeysOf, Option.bind_eq_some_iff, Option.map_eq_some_iff] at ha
    obtain ⟨_, _, _, _, rfl⟩ := ha
    simp [SV.eqvs]
  | x :: xs, y :: ys, _, _, ha, hb => by
    simp only [nkeysOf, Option.bind_eq_some_iff, Option.map_eq_some_iff] at ha hb
    obtain ⟨k, h1, us, h2, rfl⟩ := ha
    obtain ⟨l, h3, vs, h4, rfl⟩ := hb
    simp only [SV.eqvs, nkey_inj h1 h3, nkeys_inj h2 h4, List.cons.injEq]
    by_cases e1 : k = l
    · by_cases e2 : us = vs <;> simp [e1, e2]
    · simp [e1]
end
mutual
/-- no text in it -/
theorem nkey_hash (w w' : World) : ∀ {a : SV} {k : NestedKey}, nkeyOf a = some k → k.hash w = k.hash w'
  | .int i, _, h => by simp only [nkeyOf, Option.some.injEq] at h; subst h; rfl
  | .tup xs, _, h => by
    simp only [nkeyOf, Option.map_eq_some_iff] at h
    obtain ⟨us, h1, rfl⟩ := h
    simp only [NestedKey.hash, nkeys_hash w w' h1]
  | .non, _, ha => by simp [nkeyOf] at ha
  | .bl _, _, ha => by simp [nkeyOf] at ha
  | .str _, _, ha => by simp [nkeyOf] at ha
  | .lst _, _, ha => by simp [nkeyOf] at ha
  | .dct _ _, _, ha => by simp [nkeyOf] at ha
  | .scr _, _, ha => by simp [nkeyOf] at ha
  | .ref _, _, ha => by simp [nkeyOf] at ha
  | .view _, _, ha => by simp [nkeyOf] at ha
theorem nkeys_hash (w w' : World) : ∀ {a : List SV} {k : List NestedKey}, nkeysOf a = some k → NestedKey.hashes w k = NestedKey.hashes w' k
  | [], _, h => by simp only [nkeysOf, Option.some.injEq] at h; subst h; rfl
  | x :: xs, _, h => by
    simp only [nkeysOf, Option.bind_eq_some_iff, Option.map_eq_some_iff] at h
    obtain ⟨k, h1, us, h2, rfl⟩ := h
    simp only [NestedKey.hashes, nkey_hash w w' h1, nkeys_hash w w' h2]
end
mutual
theorem nkey_of : ∀ {a : SV} {n : Nat}, a.nkey n = true → ∃ k, nkeyOf a = some k ∧ k.depth ≤ n
  | .int i, n, _ => ⟨_, rfl, Nat.zero_le _⟩
  | .tup xs, 0, h => by simp [SV.nkey] at h
  | .tup xs, n + 1, h => by
    obtain ⟨us, h1, h2⟩ := nkeys_of (a := xs) (n := n) (by simpa [SV.nkey] using h)
    exact ⟨.tup us, by simp only [nkeyOf, h1, Option.map_some], by simp only [NestedKey.depth]; omega⟩
  | .non, _, h => by simp [SV.nkey] at h
  | .bl _, _, h => by simp [SV.nkey] at h
  | .str _, _, h => by simp [SV.nkey] at h
  | .lst _, _, h => by simp [SV.nkey] at h
  | .dct _ _, _, h => by simp [SV.nkey] at h
  | .scr _, _, h => by simp [SV.nkey] at h
  | .ref _, _, h => by simp [SV.nkey] at h
  | .view _, _, h => by simp [SV.nkey] at h
theorem nkeys_of : ∀ {a : List SV} {n : Nat}, SV.nkeys a n = true → ∃ k, nkeysOf a = some k ∧ NestedKey.depthAll k ≤ n
  | [], n, _ => ⟨[], rfl, Nat.zero_le _⟩
  | x :: xs, n, h => by
    simp only [SV.nkeys, Bool.and_eq_true] at h
    obtain ⟨k, h1, h2⟩ := nkey_of h.1
    obtain ⟨us, h3, h4⟩ := nkeys_of h.2
    exact ⟨k :: us, by simp only [nkeysOf, h1, h3, Option.bind_some, Option.map_some], by simp only [NestedKey.depthAll]; exact Nat.max_le.mpr ⟨h2, h4⟩⟩
end
theorem key_of : ∀ {k : SV}, k.key = true → (∃ kk, keyOf k = some kk ∧ ∀ xs, k ≠ .tup xs) ∨ (∃ kk xs, nkeyOf k = some kk ∧ kk.depth ≤ 8 ∧ k = .tup xs)
  | .int i, _ => .inl ⟨_, rfl, fun _ e => nomatch e⟩
  | .str s, _ => .inl ⟨_, rfl, fun _ e => nomatch e⟩
  | .tup xs, h => by
    obtain ⟨us, h1, h2⟩ := nkeys_of (a := xs) (n := 7) h
    exact .inr ⟨.tup us, xs, by simp only [nkeyOf, h1, Option.map_some], by simp only [NestedKey.depth]; omega, rfl⟩
  | .non, h => by simp [SV.key] at h
  | .bl _, h => by simp [SV.key] at h
  | .lst _, h => by simp [SV.key] at h
  | .dct _ _, h => by simp [SV.key] at h
  | .scr _, h => by simp [SV.key] at h
  | .ref _, h => by simp [SV.key] at h
  | .view _, h => by simp [SV.key] at h
section
variable {K : PySem.W.Frag} {F : Hp} {c : Nat → Addr} {len : Nat} {κ : Type} [DecidableEq κ] {kf : SV → Option κ}
theorem look_rep (hk : ∀ {a b : SV} {ka kb : κ}, kf a = some ka → kf b = some kb → a.eqv b = decide (ka = kb)) {k : SV} {kk : κ} (e : kf k = some kk) : ∀ {ks ws : List SV} {kvs : List (κ × V)}, ks.map kf = kvs.map (fun p => some p.1) → RepL K F c len ws (kvs.map (·.2)) →
    match lookD k ks ws with
    | none => valV kvs kk = none
    | some w => ∃ x, valV kvs kk = some x ∧ Rep K F c len w x
  | [], ws, [], _, r => by rw [show lookD k [] ws = none by cases ws <;> rfl]; rfl
  | [], _, _ :: _, h, _ => by simp at h
  | _ :: _, _, [], h, _ => by simp at h
  | a :: ks, ws, p :: kvs, h, r => by
    simp at h
    cases ws with
    | nil => exact absurd r (by simp [RepL])
    | cons w ws =>
      obtain ⟨y, ys, e1, r1, r2⟩ := r
      simp at e1
      obtain ⟨rfl, rfl⟩ := e1
      have q := hk h.1 e
      unfold lookD
      by_cases hp : p.1 = kk
      · rw [q, decide_eq_true hp, if_pos rfl, valV_pos hp]
        exact ⟨_, rfl, r1⟩
      · rw [q, decide_eq_false hp, if_neg (by simp), valV_neg hp]
        exact look_rep hk e h.2 r2
theorem any_rep (hk : ∀ {a b : SV} {ka kb : κ}, kf a = some ka → kf b = some kb → a.eqv b = decide (ka = kb)) {k : SV} {kk : κ} (e : kf k = some kk) : ∀ {ks : List SV} {kvs : List (κ × V)}, ks.map kf = kvs.map (fun p => some p.1) →
    (ks.any fun a => a.eqv k) = kvs.any fun kv => decide (kv.1 = kk)
  | [], [], _ => rfl
  | [], _ :: _, h => by simp at h
  | _ :: _, [], h => by simp at h
  | a :: ks, p :: kvs, h => by
    simp at h
    rw [List.any_cons, List.any_cons, hk h.1 e, any_rep hk e h.2]
theorem putVs_rep (hk : ∀ {a b : SV} {ka kb : κ}, kf a = some ka → kf b = some kb → a.eqv b = decide (ka = kb)) {k v : SV} {kk : κ} {x : V} (e : kf k = some kk) (rv : Rep K F c len v x) : ∀ {ks ws : List SV} {kvs : List (κ × V)}, ks.map kf = kvs.map (fun p => some p.1) → RepL K F c len ws (kvs.map (·.2)) →
    RepL K F c len (putVs k v ks ws) ((kvs.map fun kv => if kv.1 = kk then (kv.1, x) else kv).map (·.2))
  | [], ws, [], _, r => by rw [show putVs k v [] ws = [] by cases ws <;> rfl]; rfl
  | [], _, _ :: _, h, _ => by simp at h
  | _ :: _, _, [], h, _ => by simp at h
  | a :: ks, ws, p :: kvs, h, r => by
    simp at h
    cases ws with
    | nil => exact absurd r (by simp [RepL])
    | cons w ws =>
      obtain ⟨y, ys, e1, r1, r2⟩ := r
      simp at e1
      obtain ⟨rfl, rfl⟩ := e1
      have q := hk h.1 e
      have ih := putVs_rep hk e rv h.2 r2
      unfold putVs
      by_cases hp : p.1 = kk
      · rw [q, decide_eq_true hp, if_pos rfl]
        exact ⟨x, _, by simp [hp], rv, ih⟩
      · rw [q, decide_eq_false hp, if_neg (by simp)]
        exact ⟨p.2, _, by simp [hp], r1, ih⟩
theorem put_rep (hk : ∀ {a b : SV} {ka kb : κ}, kf a = some ka → kf b = some kb → a.eqv b = decide (ka = kb)) {k v : SV} {kk : κ} {x : V} (e : kf k = some kk) (rv : Rep K F c len v x) {ks ws : List SV} {kvs : List (κ × V)} (h : ks.map kf = kvs.map (fun p => some p.1)) (r : RepL K F c len ws (kvs.map (·.2))) :
    (putD k v ks ws).1.map kf = (putK kvs kk x).map (fun p => some p.1) ∧ RepL K F c len (putD k v ks ws).2 ((putK kvs kk x).map (·.2)) := by
  unfold putD putK
  rw [any_rep hk e h]
  split
  · refine ⟨?_, putVs_rep hk e rv h r⟩
    rw [h, List.map_map]
    refine List.map_congr_left fun p _ => ?_
    simp only [Function.comp]
    split <;> rfl
  · refine ⟨by simp [h, e], ?_⟩
    rw [List.map_append]
    exact r.append ⟨x, [], rfl, rv, rfl⟩
end
section
variable {K : PySem.W.Frag} {F : Hp} {c : Nat → Addr} {len : Nat}
theorem nx_look {k : SV} {kk : NestedKey} (e : nkeyOf k = some kk) : ∀ {ks ws : List SV} {xs : List (NestedKey × Addr × Value)} {vs : List V}, ks.map nkeyOf = xs.map (fun x => some x.1) → RepL K F c len ws vs → Vals vs (xs.map (·.2.2)) →
    match lookD k ks ws with
    | none => atKey xs kk = none
    | some w => ∃ p z, atKey xs kk = some p ∧ RelV z p.2 ∧ Rep K F c len w z
  | [], ws, [], _, _, r, _ => by rw [show lookD k [] ws = none by cases ws <;> rfl]; rfl
  | [], _, _ :: _, _, h, _, _ => by simp at h
  | _ :: _, _, [], _, h, _, _ => by simp at h
  | a :: ks, [], x :: xs, _, h, r, v => by rw [show _ = [] from r] at v; cases v
  | a :: ks, w :: ws, x :: xs, _, h, ⟨y, ys, e1, r1, r2⟩, v => by
    subst e1
    simp only [List.map_cons, List.cons.injEq] at h
    simp only [List.map_cons] at v
    cases v with
    | cons v1 v2 =>
      have q := nkey_inj h.1 e
      unfold lookD
      by_cases hp : x.1 = kk
      · rw [q, decide_eq_true hp, if_pos rfl]
        exact ⟨x.2, y, by simp [atKey, List.find?_cons, hp], v1, r1⟩
      · rw [q, decide_eq_false hp, if_neg (by simp)]
        have ih := nx_look e h.2 r2 v2
        have ea : atKey (x :: xs) kk = atKey xs kk := by simp [atKey, List.find?_cons, hp]
        rw [ea]
        exact ih
theorem nx_any {k : SV} {kk : NestedKey} (e : nkeyOf k = some kk) : ∀ {ks : List SV} {xs : List (NestedKey × Addr × Value)}, ks.map nkeyOf = xs.map (fun x => some x.1) → (ks.any fun a => a.eqv k) = (atKey xs kk).isSome
  | [], [], _ => rfl
  | [], _ :: _, h => by simp at h
  | _ :: _, [], h => by simp at h
  | a :: ks, x :: xs, h => by
    simp only [List.map_cons, List.cons.injEq] at h
    rw [List.any_cons, nkey_inj h.1 e, nx_any e h.2]
    by_cases hp : x.1 = kk
    · simp [atKey, List.find?_cons, hp]
    · simp [atKey, List.find?_cons, hp]
theorem nx_putVs {k v : SV} {kk : NestedKey} {z : V} {u : Value} (e : nkeyOf k = some kk) (rv : Rep K F c len v z) (ru : RelV z u) : ∀ {ks ws : List SV} {xs : List (NestedKey × Addr × Value)} {vs : List V}, ks.map nkeyOf = xs.map (fun x => some x.1) → RepL K F c len ws vs → Vals vs (xs.map (·.2.2)) →
    ∃ vs', RepL K F c len (putVs k v ks ws) vs' ∧ Vals vs' ((xs.map (putAt kk u)).map (·.2.2))
  | [], ws, [], _, _, r, _ => ⟨[], by rw [show putVs k v [] ws = [] by cases ws <;> rfl]; rfl, .nil⟩
  | [], _, _ :: _, _, h, _, _ => by simp at h
  | _ :: _, _, [], _, h, _, _ => by simp at h
  | a :: ks, [], x :: xs, _, h, r, v => by rw [show _ = [] from r] at v; cases v
  | a :: ks, w :: ws, x :: xs, _, h, ⟨y, ys, e1, r1, r2⟩, v => by
    subst e1
    simp only [List.map_cons, List.cons.injEq] at h
    simp only [List.map_cons] at v
    cases v with
    | cons v1 v2 =>
      have q := nkey_inj h.1 e
      obtain ⟨vs', i1, i2⟩ := nx_putVs e rv ru h.2 r2 v2
      unfold putVs
      by_cases hp : x.1 = kk
      · rw [q, decide_eq_true hp, if_pos rfl]
        exact ⟨z :: vs', ⟨z, vs', rfl, rv, i1⟩, by simp only [List.map_cons, putAt, hp, if_true]; exact .cons ru (by simpa [putAt] using i2)⟩
      · rw [q, decide_eq_false hp, if_neg (by simp)]
        exact ⟨y :: vs', ⟨y, vs', rfl, r1, i1⟩, by simp only [List.map_cons, putAt, hp, if_false]; exact .cons v1 (by simpa [putAt] using i2)⟩
theorem vals_app : ∀ {a : List V} {b : List Value} {x : V} {u : Value}, Vals a b → RelV x u → Vals (a ++ [x]) (b ++ [u])
  | _, _, _, _, .nil, r => .cons r .nil
  | _, _, _, _, .cons h t, r => .cons h (vals_app t r)
theorem nx_put {k v : SV} {kk : NestedKey} {z : V} {u : Value} {b p : Addr} {ks ws : List SV} {xs : List (NestedKey × Addr × Value)} {vs : List V} (e : nkeyOf k = some kk) (kk' : k.key = true) (rk : Rep K F c len k (.ref b)) (rv : Rep K F c len v z) (ru : RelV z u)
    (h : ks.map nkeyOf = xs.map (fun x => some x.1)) (f : xs.length < sizeLine ∧ (p == sysModules) = false ∧ (xs.map (·.1)).Nodup ∧ ks.all SV.key = true ∧ Vals vs (xs.map (·.2.2))) (r1 : RepL K F c len ks (xs.map fun x => V.ref x.2.1)) (r2 : RepL K F c len ws vs) (hn : ((storedH xs kk b u).map (·.1)).Nodup) :
    DRep K F c len (putD k v ks ws).1 (putD k v ks ws).2 (nxO p (storedH xs kk b u)) := by
  obtain ⟨f1, f2, f3, f4, f5⟩ := f
  unfold putD storedH at *
  rw [nx_any e h]
  split
  · rename_i q
    rw [if_pos q] at hn
    have hne : ks ≠ [] := fun z => by
      subst z
      cases xs with
      | nil => simp [atKey] at q
      | cons _ _ => simp at h
    obtain ⟨vs', i1, i2⟩ := nx_putVs e rv ru h r2 f5
    have e1 : (xs.map (putAt kk u)).map (fun x => some x.1) = xs.map (fun x => some x.1) := by
      rw [List.map_map]
      refine List.map_congr_left fun x _ => ?_
      simp only [Function.comp, putAt]; split <;> rfl
    have e2 : (xs.map (putAt kk u)).map (fun x => V.ref x.2.1) = xs.map (fun x => V.ref x.2.1) := by
      rw [List.map_map]
      refine List.map_congr_left fun x _ => ?_
      simp only [Function.comp, putAt]; split <;> rfl
    exact .inr ⟨p, _, vs', rfl, by rw [e1]; exact h, ⟨hne, by rw [List.length_map]; omega, f2, hn, f4, i2⟩, by rw [e2]; exact r1, i1⟩
  · rename_i q
    rw [if_neg q] at hn
    refine .inr ⟨p, _, vs ++ [z], rfl, by simp only [List.map_append, h, List.map_cons, List.map_nil, e], ⟨by simp, by simp only [List.length_append, List.length_cons, List.length_nil]; omega, f2, hn, by rw [List.all_append, f4, List.all_cons, kk']; rfl, ?_⟩, ?_, r2.append ⟨z, [], rfl, rv, rfl⟩⟩
    · rw [List.map_append]; exact vals_app f5 ru
    · rw [List.map_append]; exact r1.append ⟨_, [], rfl, rk, rfl⟩
end
/-- what stands at an address: the description can't be of another one -/
theorem nx_here {P : Program} {w : World} {H : Hp} {h : Heap} {p b : Addr} {xs : List (NestedKey × Addr × Value)} (x : ObjOk P w H h p (nxO b xs)) : b = p := by
  obtain ⟨h1, h2, h3⟩ := x
  obtain ⟨G, g1, g2⟩ := restrict h fun a => a == p
  obtain ⟨_, _, o, _, _, e, _⟩ := h3 h G h1 fun o e => by rw [g1 p (by simp)]; exact e
  by_cases hb : b = p
  · exact hb
  · rw [g2 b (by simpa using hb)] at e; cases e
theorem nx_ext {P : Program} {w : World} {H : Hp} {h : Heap} {p : Addr} {xs : List (NestedKey × Addr × Value)} (x : NxAt p xs h) : ObjOk P w H h p (nxO p xs) :=
  ⟨x, let ⟨_, _, o, _, _, e, _⟩ := x; ⟨o, e⟩, fun _ _ ⟨P', w', o, es, ep, e, r⟩ k => ⟨P', w', o, es, ep, k o e, r⟩⟩
mutual
/-- a key's tuples stand in the heap -/
theorem nested_is {X : Cx} {pins : List (Addr × Obj)} {σ : L2.St} {H : Hp} {s : Shared} (I : Inv X pins σ H s) {F : Hp} {c : Nat → Addr} {len : Nat} (hF : ∀ a o vs, F a = some (.frz o (.tup vs)) → H a = some (.frz o (.tup vs))) : ∀ {k : SV} {kk : NestedKey} {y : V} {u : Value}, nkeyOf k = some kk → Rep X.K F c len k y → RelV y u → NestedIs s.heap kk u
  | .int i, _, _, _, e, r, v => by
    simp only [nkeyOf, Option.some.injEq] at e; subst e
    obtain rfl : _ = V.int i := r
    obtain ⟨t, rfl⟩ := v
    exact .int i t
  | .tup xs, _, _, _, e, r, v => by
    simp only [nkeyOf, Option.map_eq_some_iff] at e
    obtain ⟨us, e1, rfl⟩ := e
    obtain ⟨a, o, vs, rfl, f, _, rl⟩ := r
    obtain rfl : _ = Value.ref a := v
    obtain ⟨ho, _, its, rv, o', ho', hc, n, hd⟩ := I.hok a _ (hF _ _ _ f)
    rw [ho] at ho'; cases ho'
    exact .tup ho hc hd (by rw [List.toList_toArray]; exact nested_all I hF e1 rl rv)
  | .non, _, _, _, e, _, _ => by simp [nkeyOf] at e
  | .bl _, _, _, _, e, _, _ => by simp [nkeyOf] at e
  | .str _, _, _, _, e, _, _ => by simp [nkeyOf] at e
  | .lst _, _, _, _, e, _, _ => by simp [nkeyOf] at e
  | .dct _ _, _, _, _, e, _, _ => by simp [nkeyOf] at e
  | .scr _, _, _, _, e, _, _ => by simp [nkeyOf] at e
  | .ref _, _, _, _, e, _, _ => by simp [nkeyOf] at e
  | .view _, _, _, _, e, _, _ => by simp [nkeyOf] at e
theorem nested_all {X : Cx} {pins : List (Addr × Obj)} {σ : L2.St} {H : Hp} {s : Shared} (I : Inv X pins σ H s) {F : Hp} {c : Nat → Addr} {len : Nat} (hF : ∀ a o vs, F a = some (.frz o (.tup vs)) → H a = some (.frz o (.tup vs))) : ∀ {k : List SV} {kk : List NestedKey} {y : List V} {u : List Value}, nkeysOf k = some kk → RepL X.K F c len k y → Vals y u → NestedAll s.heap kk u
  | [], _, _, _, e, r, v => by
    simp only [nkeysOf, Option.some.injEq] at e; subst e
    rw [show _ = [] from r] at v
    cases v; exact .nil
  | x :: xs, _, _, _, e, ⟨y, ys, e1, r1, r2⟩, v => by
    subst e1
    simp only [nkeysOf, Option.bind_eq_some_iff, Option.map_eq_some_iff] at e
    obtain ⟨k, h1, us, h2, rfl⟩ := e
    cases v with
    | cons v1 v2 => exact .cons (nested_is I hF h1 r1 v1) (nested_all I hF h2 r2 v2)
end
/-- an empty dict is of both kinds -/
theorem retypeN {X : Cx} {pins : List (Addr × Obj)} {σ : L2.St} {H : Hp} {s : Shared} {a : Addr} (I : Inv X pins σ H s) (e : H a = some (.dK [])) : (a == sysModules) = false ∧ Inv X pins σ (upd H a (nxO a [])) s := by
  obtain ⟨z, hd, vs, rel, o, es, ep, h1, h2, h3, h4, h5, h6⟩ := I.hok a _ e
  have : vs = [] := by cases rel; rfl
  subst this
  have he : es.toList = [] := by
    have : ∀ l : List DictEntry, Pairs (mixKind X.prog X.w) l [] → l = [] := by intro l hl; cases hl; rfl
    exact this _ h5
  exact ⟨hd, I.write (h' := s.heap) (t' := s.toks) (x := a) (e := a) (by rw [e]; exact True.intro) (.inl rfl) (fun _ _ _ q => q) ⟨_, h1⟩ (nx_ext ⟨X.prog, X.w, o, es, ep, h1, h2, h3, by rw [he]; rfl⟩)⟩
theorem retypeK {X : Cx} {pins : List (Addr × Obj)} {σ : L2.St} {H : Hp} {s : Shared} {a : Addr} (I : Inv X pins σ H s) (hd : (a == sysModules) = false) (e : H a = some (nxO a [])) : Inv X pins σ (upd H a (.dK [])) s := by
  obtain ⟨⟨P, w, o, es, ep, h1, h2, h3, h4⟩, _, _⟩ := I.hok a _ e
  have he : es = #[] := by
    have : es.toList = [] := h4
    simpa using this
  subst he
  refine I.write (h' := s.heap) (t' := s.toks) (x := a) (e := a) (by rw [e]; exact True.intro) (.inl rfl) (fun _ _ _ q => q) ⟨_, h1⟩ ⟨Nat.zero_le _, hd, [], .nil, o, #[], ep, h1, h2, h3, ?_, ?_, by simp⟩
  · intro e hi; simp at hi
  · exact .nil
end Mq

namespace Mq
open PySem PySem.Spec PyProof.Rows L2 Mp
section
variable {K : PySem.W.Frag} {F : Hp} {c : Nat → Addr} {len : Nat}
theorem kindOk_key {k : SV} {ks : List SV} (h : kindOk k ks = true) : k.key = true := by
  unfold kindOk at h
  simp only [Bool.and_eq_true] at h
  exact h.1
theorem kV_ofR {k : SV} {y : V} {kk : Key} (r : Rep K F c len k y) (e : keyOf k = some kk) : y = kV kk := by
  cases k <;> first | (cases e; done) | skip
  · cases e; exact r
  · cases e; exact r
theorem keyOf_tup {a : SV} {kk : Key} (h : keyOf a = some kk) : ∀ xs, a ≠ .tup xs := fun xs e => by subst e; simp [keyOf] at h
/-- tuple keys and others don't stand together -/
theorem kind_same {a k : SV} {ks : List SV} (h : kindOk k (a :: ks) = true) : (∃ xs, a = .tup xs) ↔ ∃ xs, k = .tup xs := by
  unfold kindOk at h
  simp only [Bool.and_eq_true] at h
  have h := h.2
  cases a <;> cases k <;> first | (simp at h; done) | simp
end
section
variable {X : Cx} {pins : List (Addr × Obj)} {σ σ' : L2.St} {H : Hp} {s : Shared} {x y : V} {v u : Value} {g : Gh} {st : Sta} {a b : SV}
theorem solidRep {k : SV} (h : k.key = true) (r : RepV X.K g st σ k y) : Rep X.K g.F g.c st.heap.length k y := by
  cases k <;> first | exact r | (simp [SV.key] at h)
/-- a dict of tuples as keys, at p -/
structure NxR (K : PySem.W.Frag) (g : Gh) (st : Sta) (ks ws : List SV) (p : Addr) (xs : List (NestedKey × Addr × Value)) (vs : List V) : Prop where
  hk : ks.map nkeyOf = xs.map (fun x => some x.1)
  f : xs.length ≤ sizeLine ∧ (p == sysModules) = false ∧ (xs.map (·.1)).Nodup ∧ ks.all SV.key = true ∧ Vals vs (xs.map (·.2.2))
  rk : RepL K g.F g.c st.heap.length ks (xs.map fun x => V.ref x.2.1)
  rw : RepL K g.F g.c st.heap.length ws vs
/-- a dict's object, of the key's kind: over a heap in which the object's kind may be retold -/
theorem dict_as {ks ws : List SV} {k : SV} (R : Rel X.K g st σ H) (ra : RepV X.K g st σ a x) (e : st.dict a = some (ks, ws)) (hk : kindOk k ks = true) (rk : RepV X.K g st σ k y) (I : Inv X pins σ' H s) :
    ∃ p o, x = .ref p ∧ H p = some o ∧ DRep X.K g.F g.c st.heap.length ks ws o ∧ ∃ o', Inv X pins σ' (upd H p o') s ∧ (∀ s', Inv X pins σ' (upd H p o') s' → Inv X pins σ' H s') ∧
      ((∃ kvs kk, o' = .dK kvs ∧ keyOf k = some kk ∧ y = kV kk ∧ ks.map keyOf = kvs.map (fun p => some p.1) ∧ RepL X.K g.F g.c st.heap.length ws (kvs.map (·.2))) ∨
       (∃ xs vs kk b, o' = nxO p xs ∧ nkeyOf k = some kk ∧ kk.depth ≤ 8 ∧ y = .ref b ∧ NxR X.K g st ks ws p xs vs)) := by
  obtain ⟨p, o, ex, ho, d⟩ := RepV.dict R ra e
  refine ⟨p, o, ex, ho, d, ?_⟩
  have same : upd H p o = H := by
    funext q
    by_cases hq : q = p
    · subst hq; rw [upd_same, ho]
    · rw [upd_ne hq]
  have rk' := solidRep (kindOk_key hk) rk
  rcases key_of (kindOk_key hk) with ⟨kk, e1, nt⟩ | ⟨kk, ys, e1, hd, rfl⟩
  · have ey := kV_ofR rk' e1
    rcases d with ⟨kvs, eo, h2, h3⟩ | ⟨b, xs, vs, eo, h2, h3, h4, h5⟩
    · subst eo
      exact ⟨_, by rw [same]; exact I, fun s' J => by rw [same] at J; exact J, .inl ⟨kvs, kk, rfl, e1, ey, h2, h3⟩⟩
    · have hb : b = p := nx_here (I.hok p _ (by rw [ho, eo]))
      subst hb
      cases ks with
      | cons a' ks =>
        exfalso
        cases xs with
        | nil => simp at h2
        | cons x' xs =>
          obtain ⟨_, _, er, r1, _⟩ := h4
          simp only [List.map_cons, List.cons.injEq] at er
          have q : ∃ zs, a' = .tup zs := by
            obtain ⟨er, _⟩ := er
            subst er
            cases a' <;> first | exact ⟨_, rfl⟩ | skip
            all_goals first | (simp only [List.map_cons, List.cons.injEq] at h2; simp [nkeyOf] at h2; done) | (cases (show V.ref _ = _ from r1); done)
          obtain ⟨zs, rfl⟩ := (kind_same hk).mp q
          exact nt zs rfl
      | nil => exact absurd rfl h3.1
  · obtain ⟨b', ob, vs', ey, hf, hod, hrl⟩ := rk'
    rcases d with ⟨kvs, eo, h2, h3⟩ | ⟨b, xs, vs, eo, h2, h3, h4, h5⟩
    · cases ks with
      | cons a' ks =>
        exfalso
        cases kvs with
        | nil => simp at h2
        | cons p' kvs =>
          simp only [List.map_cons, List.cons.injEq] at h2
          obtain ⟨zs, rfl⟩ := (kind_same hk).mpr ⟨ys, rfl⟩
          exact keyOf_tup h2.1 _ rfl
      | nil =>
        have hx : kvs = [] := by cases kvs with | nil => rfl | cons _ _ => simp at h2
        subst hx eo
        have hw : ws = [] := by
          cases ws with
          | nil => rfl
          | cons w ws => obtain ⟨_, _, z, _⟩ := h3; cases z
        subst hw
        obtain ⟨hs, J⟩ := retypeN I ho
        refine ⟨nxO p [], J, fun s' J => ?_, .inr ⟨[], [], kk, b', rfl, e1, hd, ey, rfl, ⟨Nat.zero_le _, hs, by simp, rfl, .nil⟩, rfl, rfl⟩⟩
        have := retypeK J hs upd_same
        rw [upd_upd, same] at this
        exact this
    · have hb : b = p := nx_here (I.hok p _ (by rw [ho, eo]))
      subst hb eo
      exact ⟨_, by rw [same]; exact I, fun s' J => by rw [same] at J; exact J, .inr ⟨xs, vs, kk, b', rfl, e1, hd, ey, h2, h3.2, h4, h5⟩⟩
/-- the rules of dicts with tuples as keys, made ready -/
theorem nx_of {ks ws : List SV} {p : Addr} {xs : List (NestedKey × Addr × Value)} {vs : List V} (R : Rel X.K g st σ H) {o : HO} (ho : H p = some o) (hnf : ∀ ob vs, o ≠ .frz ob (.tup vs)) (I : Inv X pins σ' (upd H p (nxO p xs)) s) (N : NxR X.K g st ks ws p xs vs) :
    s.heap.DictOfH (nestedKind X.prog X.w) p xs ∧ ∀ {k : SV} {kk : NestedKey} {b : Addr}, nkeyOf k = some kk → kk.depth ≤ 8 → Rep X.K g.F g.c st.heap.length k (.ref b) → (nestedKind X.prog X.w).is s.heap kk b := by
  have hF : ∀ a o vs, g.F a = some (.frz o (.tup vs)) → upd H p (nxO p xs) a = some (.frz o (.tup vs)) := fun a ob us e => by
    have h1 := R.sub _ _ e
    by_cases ha : a = p
    · subst ha; rw [ho] at h1; cases h1; exact absurd rfl (hnf _ _)
    · rw [upd_ne ha]; exact h1
  have isK : ∀ {k : SV} {kk : NestedKey} {b : Addr}, nkeyOf k = some kk → kk.depth ≤ 8 → Rep X.K g.F g.c st.heap.length k (.ref b) → (nestedKind X.prog X.w).is s.heap kk b :=
    fun {k kk b} e d r => ⟨nested_is I hF (u := .ref b) e r rfl, d⟩
  obtain ⟨⟨P, w, o', es, ep, h1, h2, h3, h4⟩, _, _⟩ := I.hok p _ upd_same
  obtain ⟨hks, ⟨f1, f2, f3, f4, f5⟩, hrk, hrw⟩ := N
  refine ⟨⟨o', es, ep, h1, h2, h3, ?_, fun q hq => ?_, f3⟩, isK⟩
  · rw [h4]
    refine List.map_congr_left fun q hq => ?_
    have : some q.1 ∈ ks.map nkeyOf := by rw [hks]; exact List.mem_map.mpr ⟨q, hq, rfl⟩
    obtain ⟨k, _, ek⟩ := List.mem_map.mp this
    show DictEntry.mk _ _ _ = DictEntry.mk _ _ _
    rw [show (nestedKind P w).hash q.1 = (nestedKind X.prog X.w).hash q.1 from nkey_hash w X.w ek]
  · obtain ⟨j, hj, rfl⟩ := List.mem_iff_getElem.mp hq
    have hl : ks.length = xs.length := by have := congrArg List.length hks; simpa using this
    have hj' : j < ks.length := by omega
    have ek : nkeyOf ks[j] = some xs[j].1 := by
      have := congrArg (fun l => l[j]?) hks
      simp only [List.getElem?_map, List.getElem?_eq_getElem hj, List.getElem?_eq_getElem hj', Option.map_some, Option.some.injEq] at this
      exact this
    obtain ⟨z, hz, rz⟩ := hrk.get (List.getElem?_eq_getElem hj')
    rw [List.getElem?_map, List.getElem?_eq_getElem hj] at hz
    cases hz
    have hkk := List.all_eq_true.mp f4 ks[j] (List.getElem_mem hj')
    refine isK ek ?_ rz
    rcases key_of hkk with ⟨kk, e1, nt⟩ | ⟨kk, ys, e1, hd, e2⟩
    · cases hkj : ks[j] <;> rw [hkj] at ek e1 rz nt <;> first | (simp [nkeyOf] at ek; done) | (cases (show V.ref _ = _ from rz); done) | (simp [keyOf] at e1; done)
    · rw [ek] at e1; cases e1; exact hd
theorem drep_nf {K : PySem.W.Frag} {F : Hp} {c : Nat → Addr} {len : Nat} {ks ws : List SV} {o : HO} (d : DRep K F c len ks ws o) : ∀ ob vs, o ≠ .frz ob (.tup vs) := fun ob vs e => by
  rcases d with ⟨_, h, _⟩ | ⟨_, _, _, h, _⟩ <;> rw [e] at h <;> cases h
theorem nx_room {A : Around} (hu : A.units + 65 < cLine) : (nestedKind X.prog X.w).room A.in1 := by show A.units + 1 + 8 < cLine; omega
/-- what a dict answers to a key, and what a store leaves -/
structure DOps (X : Cx) (pins : List (Addr × Obj)) (σ' : L2.St) (H : Hp) (s : Shared) (g : Gh) (st : Sta) (ks ws : List SV) (k : SV) (p : Addr) (u : Value) : Prop where
  ty : s.TypeIs (.ref p) "dict" ∧ ∃ ob, s.heap.get? p = some ob ∧ ob.dict = none
  get : ∀ (w : SV) (Q : Value → Shared → Prop) (E : Value → Shared → Prop), lookD k ks ws = some w → (∀ z w' s3, Inv X pins σ' H s3 → RelV z w' → Rep X.K g.F g.c st.heap.length w z → Q w' s3) → wpAny (model X.prog X.w) X.A (getItem (.ref p) u) Q E s
  isin : ∀ (Q : Value → Shared → Prop) (E : Value → Shared → Prop), (∀ s3, Inv X pins σ' H s3 → Q (.bool (lookD k ks ws).isSome) s3) → wpAny (model X.prog X.w) X.A (compareOp .In u (.ref p)) Q E s
  notin : ∀ (Q : Value → Shared → Prop) (E : Value → Shared → Prop), (∀ s3, Inv X pins σ' H s3 → Q (.bool (!(lookD k ks ws).isSome)) s3) → wpAny (model X.prog X.w) X.A (compareOp .NotIn u (.ref p)) Q E s
  get1 : ∀ (Q : Value → Shared → Prop) (E : Value → Shared → Prop), (∀ z w' s3, Inv X pins σ' H s3 → RelV z w' → Rep X.K g.F g.c st.heap.length ((lookD k ks ws).getD .non) z → Q w' s3) → wpAny (model X.prog X.w) X.A (call (.builtin "dict.get") [.ref p, u]) Q E s
  get2 : ∀ (d : SV) (dz : V) (r : Value) (Q : Value → Shared → Prop) (E : Value → Shared → Prop), Rep X.K g.F g.c st.heap.length d dz → RelV dz r → (∀ z w' s3, Inv X pins σ' H s3 → RelV z w' → Rep X.K g.F g.c st.heap.length ((lookD k ks ws).getD d) z → Q w' s3) → wpAny (model X.prog X.w) X.A (call (.builtin "dict.get") [.ref p, u, r]) Q E s
  put : ∀ (v : SV) (z : V) (r : Value) (Q : Unit → Shared → Prop) (E : Value → Shared → Prop), ks.length < sizeLine → Rep X.K g.F g.c st.heap.length v z → RelV z r →
    (∀ o2 s3, DRep X.K g.F g.c st.heap.length (putD k v ks ws).1 (putD k v ks ws).2 o2 → Inv X pins σ' (upd H p o2) s3 → Q () s3) → wpAny (model X.prog X.w) X.A (setItem (.ref p) u r) Q E s
theorem dict_ops (hu : X.A.units + 65 < cLine) {ks ws : List SV} {k : SV} (R : Rel X.K g st σ H) (ra : RepV X.K g st σ a x) (e : st.dict a = some (ks, ws)) (hk : kindOk k ks = true) (rk : RepV X.K g st σ k y) (I : Inv X pins σ' H s) (ry : RelV y u) :
    ∃ p o, x = .ref p ∧ H p = some o ∧ DRep X.K g.F g.c st.heap.length ks ws o ∧ DOps X pins σ' H s g st ks ws k p u := by
  have rk0 := solidRep (kindOk_key hk) rk
  obtain ⟨p, o, ex, ho, d, o', I', back, alt⟩ := dict_as R ra e hk rk I
  refine ⟨p, o, ex, ho, d, ?_⟩
  have hu1 : X.A.units + 1 < cLine := by omega
  rcases alt with ⟨kvs, kk, rfl, e1, rfl, h2, h3⟩ | ⟨xs, vs, kk, b, rfl, e1, hd, rfl, N⟩
  · have hg : DGet (upd H p (.dK kvs)) p (kV kk) (valV kvs kk) := DGet.k upd_same
    have lk := look_rep (fun {a b ka kb} h1 h2 => key_inj h1 h2) e1 h2 h3
    have hty : s.TypeIs (.ref p) "dict" ∧ ∃ ob, s.heap.get? p = some ob ∧ ob.dict = none := by
      obtain ⟨_, _, _, _, ob, _, _, q1, q2, _⟩ := I'.hok p _ upd_same
      exact ⟨⟨ob, q1, q2.1⟩, ob, q1, q2.2.1⟩
    refine ⟨hty, fun w Q E el q => ?_, fun Q E q => ?_, fun Q E q => ?_, fun Q E q => ?_, fun d' dz r Q E rd rr q => ?_, fun v z r Q E hl rz rr q => ?_⟩
    · rw [el] at lk
      obtain ⟨z, ez, rz⟩ := lk
      rw [ez] at hg
      exact d_getItem hu1 I' hg ry fun w' s3 I3 rw' => q z w' s3 (back s3 I3) rw' rz
    · have es : (valV kvs kk).isSome = (lookD k ks ws).isSome := by
        split at lk <;> rename_i heq
        · rw [heq, lk] <;> rfl
        · obtain ⟨z, ez, _⟩ := lk; rw [heq, ez]; rfl
      exact d_in hu1 I' hg ry fun s3 I3 => by rw [es]; exact q s3 (back s3 I3)
    · have es : (valV kvs kk).isSome = (lookD k ks ws).isSome := by
        split at lk <;> rename_i heq
        · rw [heq, lk] <;> rfl
        · obtain ⟨z, ez, _⟩ := lk; rw [heq, ez]; rfl
      exact d_notIn hu1 I' hg ry fun s3 I3 => by rw [es]; exact q s3 (back s3 I3)
    · refine d_get1 hu1 I' hg ry fun w' s3 I3 rw' => q _ w' s3 (back s3 I3) rw' ?_
      split at lk <;> rename_i heq
      · rw [heq, lk]; exact rfl
      · obtain ⟨z, ez, rz⟩ := lk; rw [heq, ez]; exact rz
    · refine d_get2 hu1 I' hg ry rr fun w' s3 I3 rw' => q _ w' s3 (back s3 I3) rw' ?_
      split at lk <;> rename_i heq
      · rw [heq, lk]; exact rd
      · obtain ⟨z, ez, rz⟩ := lk; rw [heq, ez]; exact rz
    · have hl' : kvs.length < sizeLine := by have := congrArg List.length h2; simp at this; omega
      obtain ⟨q1, q2⟩ := put_rep (fun {a b ka kb} h1 h2 => key_inj h1 h2) e1 rz h2 h3
      refine d_setItem hu1 I' (DPut.k upd_same hl') ry rr fun s3 I3 => ?_
      rw [upd_upd] at I3
      exact q _ s3 (.inl ⟨_, rfl, q1, q2⟩) I3
  · obtain ⟨D, isK⟩ := nx_of R ho (drep_nf d) I' N
    have hkey := isK e1 hd rk0
    have hsys := N.f.2.1
    have hr : (nestedKind X.prog X.w).room X.A.in1 := nx_room hu
    obtain rfl : u = Value.ref b := ry
    have lk := nx_look e1 N.hk N.rw N.f.2.2.2.2
    have hty : s.TypeIs (.ref p) "dict" ∧ ∃ ob, s.heap.get? p = some ob ∧ ob.dict = none := by
      obtain ⟨ob, _, _, q1, q2, _⟩ := D
      exact ⟨⟨ob, q1, q2.1⟩, ob, q1, q2.2.1⟩
    have tk : ∀ t, Inv X pins σ' H { s with toks := t } := fun t => back _ (I'.tok t)
    refine ⟨hty, fun w Q E el q => ?_, fun Q E q => ?_, fun Q E q => ?_, fun Q E q => ?_, fun d' dz r Q E rd rr q => ?_, fun v z r Q E hl rz rr q => ?_⟩
    · rw [el] at lk
      obtain ⟨pp, z, ez, rz, rw'⟩ := lk
      exact wpAny_getItem_heap hr hkey D ez (q z _ _ (tk _) rz rw')
    · have es : (atKey xs kk).isSome = (lookD k ks ws).isSome := by
        split at lk <;> rename_i heq
        · rw [heq, lk] <;> rfl
        · obtain ⟨pp, z, ez, _⟩ := lk; rw [heq, ez]; rfl
      exact wpAny_in_heap hr hkey hsys D (by rw [es]; exact q _ (tk _))
    · have es : (atKey xs kk).isSome = (lookD k ks ws).isSome := by
        split at lk <;> rename_i heq
        · rw [heq, lk] <;> rfl
        · obtain ⟨pp, z, ez, _⟩ := lk; rw [heq, ez]; rfl
      exact notIn_keyed hr hkey hsys ⟨xs, D, rfl⟩ (by rw [valueAt_pairsH, Option.isSome_map, es]; exact q _ (tk _))
    · refine call_meetsIn PySem.F.slot_dict_get D.typeIs PySem.F.entry_dict_get (PySem.F.args_dict_get_2 _ _) (meetsH_dict_get (nestedKind X.prog X.w) p b hsys) ⟨hr, kk, xs, hkey, D, ?_⟩
      split at lk <;> rename_i heq
      · exact q .non _ _ (tk _) (by rw [lk]; rfl) (by rw [heq]; exact rfl)
      · obtain ⟨pp, z, ez, rz, rw'⟩ := lk
        exact q z _ _ (tk _) (by rw [ez]; exact rz) (by rw [heq]; exact rw')
    · refine call_meetsIn PySem.F.slot_dict_get D.typeIs PySem.F.entry_dict_get (PySem.F.args_dict_get_3 _ _ _) (meetsH_dict_get_default (nestedKind X.prog X.w) p b hsys r) ⟨hr, kk, xs, hkey, D, ?_⟩
      split at lk <;> rename_i heq
      · exact q dz _ _ (tk _) (by rw [lk]; exact rr) (by rw [heq]; exact rd)
      · obtain ⟨pp, z, ez, rz, rw'⟩ := lk
        exact q z _ _ (tk _) (by rw [ez]; exact rz) (by rw [heq]; exact rw')
    · have hl' : xs.length < sizeLine := by have := congrArg List.length N.hk; simp at this; omega
      refine wpAny_setItem_heap (hsz := N.f.1) hr hkey D fun h' D' hs => ?_
      have D2 := D'
      obtain ⟨ob, es, ep, q1, q2, q3, q4, _, q5⟩ := D'
      refine q (nxO p (storedH xs kk b r)) _ (nx_put (F := g.F) (c := g.c) (len := st.heap.length) e1 (kindOk_key hk) rk0 rz rr N.hk ⟨hl', N.f.2⟩ N.rk N.rw q5) ?_
      have J := d_write (t' := s.toks + (nestedKind X.prog X.w).draws kk) (ob := nxO p (storedH xs kk b r)) I' (by rw [upd_same]; exact True.intro) hs ⟨ob, q1⟩ (nx_ext ⟨X.prog, X.w, ob, es, ep, q1, q2, q3, q4⟩)
      rw [upd_upd] at J
      exact J
def rIdx (K : PySem.W.Frag) : R2 := fun x y H Q => ∃ g st σ a b v, Rel K g st σ H ∧ RepV K g st σ a x ∧ RepV K g st σ b y ∧ idxV st a b = some v ∧ Res K g st σ H v Q
theorem atI_rep {K : PySem.W.Frag} {F : Hp} {c : Nat → Addr} {len : Nat} {xs : List SV} {vs : List V} {i : Int} {w : SV} (r : RepL K F c len xs vs) (h : Mp.atI xs i = some w) : ∃ z, L2.atI vs i = some z ∧ Rep K F c len w z := by
  unfold Mp.atI at h
  unfold L2.atI
  have e : Mp.ixN xs.length i = L2.ixN vs.length i := by rw [r.length]; rfl
  rw [← e]
  cases hj : Mp.ixN xs.length i with
  | none => rw [hj] at h; cases h
  | some j =>
    rw [hj] at h
    obtain ⟨z, h1, h2⟩ := r.get h
    exact ⟨z, h1, h2⟩
theorem ix_all (hu : X.A.units + 65 < cLine) : IxR X (rIdx X.K) := by
  intro value slice pins s σ' H x y v u Q I rx ry h hs
  obtain ⟨g, st, σ, a, b, w, R, ra, rb, hv, q⟩ := h
  have seqCase : ∀ {k : Int}, b = .int k → ((st.seq a).bind fun xs => Mp.atI xs k) = some w → wpAny (model X.prog X.w) X.A (subscriptTail value slice v u) (EP X pins σ' Q) X.xe s := fun {k} eb h => by
    subst eb
    obtain rfl := rb.int
    cases e : st.seq a with
    | none => rw [e] at h; cases h
    | some xs =>
      rw [e] at h
      obtain ⟨p, vs, rfl, hq, r⟩ := RepV.seq R ra e
      obtain ⟨z, h1, h2⟩ := atI_rep r h
      rcases hq with hq | hq
      · exact ix_list value slice pins s σ' H _ _ v u Q I rx ry ⟨p, vs, k, z, rfl, rfl, hq, h1, q.here R h2⟩ hs
      · exact ix_tup value slice pins s σ' H _ _ v u Q I rx ry ⟨p, vs, k, z, rfl, rfl, hq, h1, q.here R h2⟩ hs
  have rest : idxR st a b = some w → wpAny (model X.prog X.w) X.A (subscriptTail value slice v u) (EP X pins σ' Q) X.xe s := fun hv => by
    unfold idxR at hv
    cases e : st.dict a with
    | none =>
      rw [e] at hv
      cases b <;> first | (simp [idxS] at hv; done) | exact seqCase rfl hv
    | some p =>
      obtain ⟨ks, ws⟩ := p
      rw [e] at hv
      simp only at hv
      split at hv
      · rename_i hk
        obtain ⟨p, o, rfl, ho, d, O⟩ := dict_ops hu R ra e hk rb I ry
        obtain rfl : v = Value.ref p := rx
        exact tail_any O.ty.1 PySem.F.slot_dict_getitem.lookup (O.get _ _ _ hv fun z w' s3 I3 rz rw' => ⟨z, H, I3, rz, q.here R rw'⟩) hs
      · cases hv
  cases a with
  | str t =>
    cases b with
    | int k =>
      have hv : (if small t.length then ((Mp.ixN t.length k).bind fun j => t[j]?).map fun c => SV.str [c] else none) = some w := hv
      split at hv
      · rename_i hz
        obtain rfl := ra.str
        obtain rfl := rb.int
        cases e : (Mp.ixN t.length k).bind fun j => t[j]? with
        | none => rw [e] at hv; cases hv
        | some c =>
          rw [e] at hv
          simp at hv
          subst hv
          exact ix_str value slice pins s σ' H _ _ v u Q I rx ry ⟨⟨t.toArray⟩, k, c, rfl, rfl, by simpa [PySem.Str.length] using small_le hz, by simpa [L2.atI, Mp.ixN, L2.ixN] using e, q.here R rfl⟩ hs
      · cases hv
    | _ => cases hv
  | _ => exact rest hv
theorem plain_solid {a : SV} (ha : a.plain = true) (r : RepV X.K g st σ a x) : Rep X.K g.F g.c st.heap.length a x := by
  cases a <;> first | exact r | (simp [SV.plain, SV.plainN] at ha)
theorem in_wp {c : Bool} {neg : Bool} {Q : VK} (hu : X.A.units + 65 < cLine) (I : Inv X pins σ' H s) (rx : RelV x v) (ry : RelV y u) (R : Rel X.K g st σ H) (ra : RepV X.K g st σ a x) (rb : RepV X.K g st σ b y) (h : memV st a b = some c) (q : Q (.bl (if neg then !c else c)) H) :
    wpAny (model X.prog X.w) X.A (compareOp (if neg then .NotIn else .In) v u) (EP X pins σ' Q) X.xe s := by
  have rest : memR st a b = some c → wpAny (model X.prog X.w) X.A (compareOp (if neg then .NotIn else .In) v u) (EP X pins σ' Q) X.xe s := fun h => by
    unfold memR at h
    cases e : st.dict b with
    | some p =>
      obtain ⟨ks, ws⟩ := p
      rw [e] at h
      simp only at h
      split at h
      · rename_i hk
        cases h
        obtain ⟨p, o, rfl, ho, d, O⟩ := dict_ops hu R rb e hk ra I rx
        obtain rfl : u = Value.ref p := ry
        cases neg with
        | false => exact O.isin _ _ fun s3 I3 => ⟨.bl _, H, I3, rfl, q⟩
        | true => exact O.notin _ _ fun s3 I3 => ⟨.bl _, H, I3, rfl, q⟩
      · cases h
    | none =>
      rw [e] at h
      simp only at h
      cases e2 : st.seq b with
      | none => rw [e2] at h; cases h
      | some xs =>
        rw [e2] at h
        simp only [Option.bind_some] at h
        split at h
        · rename_i hp
          simp only [Bool.and_eq_true] at hp
          cases h
          obtain ⟨p, vs, rfl, hq, r⟩ := RepV.seq R rb e2
          have da := Rep.dp R.sub _ _ 50 (plain_solid hp.1 ra) hp.1
          have db := RepL.dp R.sub xs vs 50 r hp.2
          obtain ⟨as, r1⟩ := Dp.reads I _ x v da rx
          have hany : ((toPDs xs).any fun z => PyData.eqv z (toPD a)) = xs.any fun y => y.eqv a := any_eqv hp.1 hp.2
          rcases hq with hq | hq
          · obtain ⟨bs, r2⟩ := Dp.reads I _ _ u (Dp.lst hq db) ry
            cases neg with
            | false => exact SeqAt.in_list_reads r2 r1 (SeqAt.canLay_of_shaped (pds_shaped hp.2).1) (SeqAt.canLay_of_shaped (pd_shaped hp.1)) (room_in_shaped (pd_shaped hp.1) hu) ⟨.bl _, H, I, rfl, by rw [hany]; exact q⟩
            | true => exact SeqAt.notIn_list_reads r2 r1 (SeqAt.canLay_of_shaped (pds_shaped hp.2).1) (SeqAt.canLay_of_shaped (pd_shaped hp.1)) (room_in_shaped (pd_shaped hp.1) hu) ⟨.bl _, H, I, rfl, by rw [hany]; exact q⟩
          · obtain ⟨bs, r2⟩ := Dp.reads I _ _ u (Dp.tup hq db) ry
            cases neg with
            | false => exact SeqAt.in_tuple_reads r2 r1 (SeqAt.canLay_of_shaped (pds_shaped hp.2).1) (SeqAt.canLay_of_shaped (pd_shaped hp.1)) (room_in_shaped (pd_shaped hp.1) hu) ⟨.bl _, H, I, rfl, by rw [hany]; exact q⟩
            | true => exact SeqAt.notIn_tuple_reads r2 r1 (SeqAt.canLay_of_shaped (pds_shaped hp.2).1) (SeqAt.canLay_of_shaped (pd_shaped hp.1)) (room_in_shaped (pd_shaped hp.1) hu) ⟨.bl _, H, I, rfl, by rw [hany]; exact q⟩
        · cases h
  cases b with
  | str t =>
    cases a with
    | str s0 =>
      have h : memT t (.str s0) = some c := h
      unfold memT at h
      split at h
      · rename_i c0 heq
        cases heq
        cases h
        obtain rfl := ra.str
        obtain rfl := rb.str
        cases neg with
        | false => exact op_in_sign pins s σ' H _ _ v u Q I rx ry ⟨c0, ⟨t.toArray⟩, rfl, rfl, by simpa [List.contains_eq_mem] using q⟩
        | true => exact op_notIn_sign pins s σ' H _ _ v u Q I rx ry ⟨c0, ⟨t.toArray⟩, rfl, rfl, by simpa [List.contains_eq_mem] using q⟩
      · cases h
    | _ => cases h
  | _ => exact rest h
end
section
variable {X : Cx}
theorem op_inV (hu : X.A.units + 65 < cLine) : OpR X (compareOp .In) (rCmp X.K .isin) := by
  intro pins s σ' H x y v u Q I rx ry h
  obtain ⟨g, st, σ, a, b, c, R, ra, rb, hc, q⟩ := h
  exact in_wp (neg := false) hu I rx ry R ra rb hc q
theorem op_notinV (hu : X.A.units + 65 < cLine) : OpR X (compareOp .NotIn) (rCmp X.K .notin) := by
  intro pins s σ' H x y v u Q I rx ry h
  obtain ⟨g, st, σ, a, b, c, R, ra, rb, hc, q⟩ := h
  have hc : (memV st a b).map (fun c => !c) = some c := hc
  cases e : memV st a b with
  | none => rw [e] at hc; cases hc
  | some d =>
    rw [e] at hc; cases hc
    exact in_wp (neg := true) hu I rx ry R ra rb e q
/-- any comparison -/
theorem op_cmpV {op : Cop} (hu : X.A.units + 65 < cLine) : OpR X (compareOp (cmpOf op)) (rCmp X.K op) := by
  cases op with
  | eq => exact op_sameV (by omega)
  | ne => exact op_neV (by omega)
  | lt => exact op_ltV
  | le => exact op_leV
  | gt => exact op_gtV
  | ge => exact op_geV
  | isin => exact op_inV hu
  | notin => exact op_notinV hu
end
end Mq

namespace Mq
open PySem PySem.Spec PyProof.Rows L2
/-- a list or a tuple -/
inductive Kd where | L | T
def SqK (k : Kd) (K : PySem.W.Frag) (H : Hp) (a : Addr) (xs : List V) : Prop := match k with | .L => SqL K H a xs | .T => SqT K H a xs
def SeqK (k : Kd) (h : Heap) (a : Addr) (its : Array Value) : Prop := match k with | .L => h.IsList a its | .T => h.IsTuple a its
def ItK (k : Kd) (h : Heap) (it a : Addr) (i : Nat) : Prop := match k with | .L => h.IsListIter it a i | .T => h.IsTupleIter it a i
def objK (k : Kd) (a : Addr) : Obj := match k with
  | .L => { cls := .type "list_iterator", data := .fields #[.ref a, .int 0 0] }
  | .T => { cls := .type "tuple_iterator", data := .fields #[.ref a, .int 0 0] }
section
variable {X : Cx} {pins : List (Addr × Obj)} {σ : L2.St} {H : Hp} {s : Shared} {a it : Addr} {xs ys : List V} {k : Kd}
theorem seqK_of (I : Inv X pins σ H s) (h : SqK k X.K H a xs) : ∃ its : List Value, Vals xs its ∧ SeqK k s.heap a its.toArray ∧ xs.length ≤ sizeLine := by
  cases k with
  | L => obtain ⟨its, r, p, z⟩ := I.list h; exact ⟨its, r, p.isList, z⟩
  | T => obtain ⟨its, r, p, z⟩ := I.tuple h; exact ⟨its, r, p, z⟩
theorem seqK_inj (I : Inv X pins σ H s) (h : SqK k X.K H a xs) (h' : SqK k X.K H a ys) : xs = ys := by
  cases k with
  | L => exact I.list_inj h h'
  | T => exact I.tuple_inj h h'
theorem itK_obj {h : Heap} {i : Nat} (q : ItK k h it a i) : ∃ o, h.get? it = some o ∧ ∀ v, o.data ≠ .cell v := by
  cases k with
  | L => obtain ⟨o, e, c, d⟩ := q; exact ⟨o, e, fun v z => by rw [d] at z; cases z⟩
  | T => obtain ⟨o, e, c, d⟩ := q; exact ⟨o, e, fun v z => by rw [d] at z; cases z⟩
theorem itK_at {h h' : Heap} {i : Nat} (q : ItK k h it a i) (hk : ∀ o, h.get? it = some o → h'.get? it = some o) : ItK k h' it a i := by
  cases k with
  | L => exact Heap.IsListIter.at q hk
  | T => exact Heap.IsTupleIter.at q hk
theorem itK_new {h : Heap} (q : h.get? it = some (objK k a)) : ItK k h it a 0 := by
  cases k with
  | L => exact ⟨_, q, rfl, rfl⟩
  | T => exact ⟨_, q, rfl, rfl⟩
theorem beginsK (k : Kd) (a : Addr) (its : Array Value) : Begins (.ref a) (objK k a) fun h => SeqK k h a its := by
  cases k with
  | L => exact begins_list a its
  | T => exact begins_tuple a its
theorem drawsK {P : Program} {w : World} {A : Around} (k : Kd) (hh : A.handled = none) (it a : Addr) (hne : a ≠ it) (items : Array Value) :
    Draws P w A it [it, a] items.size (fun i v => items[i]? = some v) (fun i h => ItK k h it a i ∧ SeqK k h a items) := by
  cases k with
  | L => exact Draws.list hh it a hne items
  | T => exact Draws.tuple hh it a hne items
theorem seqK_lt {h : Heap} {its : Array Value} (q : SeqK k h a its) : ∃ o, h.get? a = some o := by
  cases k with
  | L => obtain ⟨o, e, _⟩ := q; exact ⟨o, e⟩
  | T => obtain ⟨o, e, _⟩ := q; exact ⟨o, e⟩
theorem iter_ne {h : Heap} {its : Array Value} {i : Nat} (q : SeqK k h a its) {k' : Kd} {b : Addr} (r : ItK k' h it b i) : a ≠ it := by
  rintro rfl
  cases k <;> cases k' <;>
  · obtain ⟨o, e, c, _⟩ := q
    obtain ⟨o', e', c', _⟩ := r
    rw [e] at e'; cases e'; rw [c] at c'; exact absurd (Value.type.inj c') (by decide)
end
/-- (i, x) for the items as they stand -/
def IteK (k : Kd) (K : PySem.W.Frag) (a : Addr) : It :=
  ⟨fun i H => ∃ (xs : List V) (x : V), SqK k K H a xs ∧ xs[i]? = some x, fun i H v H' => ∃ T o x, v = .ref T ∧ H T = none ∧ o.dict = none ∧ H' = upd H T (.frz o (.tup [.int (i : Nat), x])) ∧ ∀ xs, SqK k K H a xs → xs[i]? = some x, fun i H => ∃ xs : List V, SqK k K H a xs ∧ xs.length = i⟩
theorem turn_enumK {P : Program} {w : World} {K : PySem.W.Frag} {elts : List Expr} {kk : Nat} {tpos : Pos} (k : Kd) (a e it : Addr) :
    Turn P w K (.Tuple elts kk tpos) (IteK k K a) [e, it] e (fun i h => (∃ old, IsEnum h e it ((i : Nat) : Int) old) ∧ ItK k h it a i ∧ e ≠ it) where
  mem := by simp
  obj := fun i h st b hb => by
    obtain ⟨⟨old, he⟩, hi, _⟩ := st
    have e' : b = e ∨ b = it := by simpa using hb
    rcases e' with z | z
    · rw [z]; exact ⟨_, he, fun v q => nomatch q⟩
    · rw [z]; exact itK_obj hi
  keep := fun i h h' st k => let ⟨⟨old, he⟩, hi, hne⟩ := st; ⟨⟨old, k e (by simp) _ he⟩, itK_at hi fun o q => k it (by simp) o q, hne⟩
  item := by
    intro X hP hw hK hc i pins s σ H E I hf st hg
    subst hP hw hK
    obtain ⟨⟨old, he⟩, hit, hne⟩ := st
    obtain ⟨xs, x, hq, hx⟩ := hg
    obtain ⟨its, rv, p, hz⟩ := seqK_of I hq
    obtain ⟨u, hu, ru⟩ := rv.get hx
    have hel : e < s.heap.objs.size := Heap.lt_size he
    have hil : it < s.heap.objs.size := by obtain ⟨_, q, _⟩ := itK_obj hit; exact Heap.lt_size q
    have hae : e ≠ a := by
      rintro rfl
      obtain ⟨f0, _⟩ := hf e (by simp)
      cases k <;>
      · obtain ⟨o, eo, c, _⟩ := p
        rw [he] at eo; cases eo; exact absurd (Value.type.inj c) (by decide)
    have D := drawsK (P := X.prog) (w := X.w) (A := X.A.in1) k (I.ok.hd hc) it a (iter_ne p hit) its.toArray
    have hlt : i < its.toArray.size := by
      have := (List.getElem?_eq_some_iff.mp hu).1
      simpa using this
    refine wpAny_pyNext_enum_itemD D he ⟨hit, p⟩ hlt hne (by simp [hne, hae]) fun x' h' tk hx' ho st' hT hsz hk => ?_
    have ex : x' = u := by
      have : its.toArray[i]? = some u := by simpa using hu
      rw [hx'] at this; exact Option.some.inj this
    subst ex
    refine ⟨_, rfl, wpAny_letOwnedTupleGo_enum (s := { s with heap := h', toks := tk + 1 }) ho fun h'' he' sb => ?_⟩
    have hT2 : h''.get? s.heap.objs.size = some { cls := .type "tuple", data := .seq #[.int i tk, x'] } := (sb.2 _ (Nat.ne_of_gt hel)).trans hT
    have new : ObjOk X.prog X.w (upd H s.heap.objs.size (.frz { cls := .type "tuple", data := .seq #[.int i tk, x'] } (.tup [.int (i : Nat), x]))) h'' s.heap.objs.size (.frz { cls := .type "tuple", data := .seq #[.int i tk, x'] } (.tup [.int (i : Nat), x])) :=
      ⟨hT2, by show 2 ≤ sizeLine; decide, [.int i tk, x'], .cons ⟨_, rfl⟩ (.cons ru .nil), ⟨_, hT2, rfl, _, rfl⟩⟩
    have I1 : Inv X pins σ (upd H s.heap.objs.size (.frz { cls := .type "tuple", data := .seq #[.int i tk, x'] } (.tup [.int (i : Nat), x]))) { s with heap := h'', toks := tk + 1 } :=
      I.turnedNew (ch := [e, it]) (fun b ob hb q => (sb.2 b (fun z => hb (by simp [z]))).trans (hk b ob (fun z => hb (by simp [z])) (fun z => hb (by simp [z])) q)) hf (Nat.le_refl _) new
    refine ⟨.ref s.heap.objs.size, _, I1, rfl, ⟨_, _, x, rfl, I.hok.fresh (Nat.le_refl _), rfl, rfl, fun ys hy => by rw [seqK_inj I hy hq]; exact hx⟩, ⟨⟨x', ?_⟩, itK_at st'.1 fun o q => (sb.2 it (Ne.symm hne)).trans q, hne⟩, fun b hb => ?_⟩
    · have e1 : ((i + 1 : Nat) : Int) = (i : Int) + 1 := by omega
      rw [e1]; exact he'
    · have hb' : b < s.heap.objs.size := by
        have e' : b = e ∨ b = it := by simpa using hb
        rcases e' with z | z
        · rw [z]; exact hel
        · rw [z]; exact hil
      rw [upd_ne (Nat.ne_of_lt hb')]
      exact (hf b hb).1
  done := by
    intro X hP hw hK hc i pins s σ H E I hf st hg
    subst hP hw hK
    obtain ⟨⟨old, he⟩, hit, hne⟩ := st
    obtain ⟨xs, hq, hx⟩ := hg
    obtain ⟨its, rv, p, hz⟩ := seqK_of I hq
    obtain ⟨f0, f1, f2, f3, f4, f5⟩ := hf it (by simp)
    have hl := rv.length
    have D := drawsK (P := X.prog) (w := X.w) (A := X.A.in1) k (I.ok.hd hc) it a (iter_ne p hit) its.toArray
    have e : its.toArray.size = i := by rw [List.size_toArray]; omega
    exact wpAny_pyNext_enum_endD D he (by rw [e]; exact ⟨hit, p⟩) fun h' eb => ⟨rfl, I.turned (t' := s.toks) (fun b o hb q => eb b o hb q) f0 f1 f3 f4 f5⟩
  self := fun A i s Q E st h => let ⟨⟨_, he⟩, _⟩ := st; wpAny_pyIter_enum he h
def iEnumK (K : PySem.W.Frag) (ta : TA) : TI := fun σ H R => ta σ H fun vs H1 => ∃ k a xs, vs = [.ref a] ∧ SqK k K H1 a xs ∧ R (IteK k K a) H1
theorem meets_enumerate_newK {v : Value} {o : Obj} {H : Heap → Prop} (B : Begins v o H) :
    Meets (Builtin.«enumerate.__new__» ⟨[.type "enumerate", v], []⟩) (fun _ R s => H s.heap ∧
      R (.ok (.ret (.ref (s.heap.push o).objs.size))) { s with heap := (s.heap.push o).push { cls := .type "enumerate", data := .fields #[.none, .bool false, .ref s.heap.objs.size, rawInt 0, .none, .none] } }) :=
  .of_wp fun prog w A R s h => by
    obtain ⟨hp, g, d, tk, os⟩ := s; obtain ⟨h1, h⟩ := h
    have hsub := sub_enumerate
    have q1 : ∀ {A' : Around} {E : Value → Shared → Prop} {Q : Value → Shared → Prop}, Q (.ref hp.objs.size) ⟨hp.push o, g, d, tk, os⟩ → PySem.wpAny (model prog w) A' (pyIter v) Q E ⟨hp, g, d, tk, os⟩ :=
      fun q => B.iter prog w _ _ ⟨hp, g, d, tk, os⟩ _ h1 q
    wp_walk using q1
    refine wpAny_stack_any fun st => wpAny_pure ?_
    split
    · rename_i c _ _ _ _ _
      cases (c == Value.type "enumerate")
      · wp_walk using q1
        exact ⟨_, rfl, h⟩
      · wp_walk using q1
        exact ⟨_, rfl, h⟩
    · wp_walk using q1
      exact ⟨_, rfl, h⟩
theorem call_enumK {P : Program} {w : World} {A : Around} {E : Value → Shared → Prop} {s : Shared} {a : Addr} {its : Array Value} {Q : Value → Shared → Prop} (k : Kd) (p : SeqK k s.heap a its)
    (h : ∀ h', IsEnum h' (s.heap.objs.size + 1) s.heap.objs.size 0 .none → h'.get? s.heap.objs.size = some (objK k a) → h'.objs.size = s.heap.objs.size + 2 →
      (∀ b o, s.heap.get? b = some o → h'.get? b = some o) → Q (.ref (s.heap.objs.size + 1)) { s with heap := h' }) : wpAny (model P w) A (call (.type "enumerate") [.ref a]) Q E s := by
  have B := beginsK k a its
  refine callType_new F.called_enumerate (by decide) (F.typeCall_enumerate_1 _) (F.newCall_enumerate_1 _) (fun obj => F.args_object_init_2 obj _) F.entry_enumerate_new
    (meets_enumerate_newK B) ⟨p, ?_⟩
  have hz : (s.heap.push (objK k a)).objs.size = s.heap.objs.size + 1 := Heap.size_push ..
  show _ ∧ _
  rw [hz]
  have he : IsEnum ((s.heap.push (objK k a)).push { cls := .type "enumerate", data := .fields #[.none, .bool false, .ref s.heap.objs.size, rawInt 0, .none, .none] }) (s.heap.objs.size + 1) s.heap.objs.size 0 .none := by
    have := Heap.get?_push_size (s.heap.push (objK k a)) (o := { cls := .type "enumerate", data := .fields #[.none, .bool false, .ref s.heap.objs.size, rawInt 0, .none, .none] }) rfl
    rw [hz] at this; exact this
  refine ⟨⟨_, he, rfl⟩, h _ he (Heap.get?_push_of_some _ (Heap.get?_push_size _ B.free)) (by rw [Heap.size_push, hz]) fun b o x => Heap.get?_push_of_some _ (Heap.get?_push_of_some _ x)⟩
theorem pi_enumK {X : Cx} {e : Expr} {ta : TA} {p pos tpos : Pos} {elts : List Expr} {kk : Nat} (hg : Gl X "enumerate") (hm : X.mg "enumerate" = none) (ha : PA X [e] ta) (hs : starEach [e] X.env = [(false, eval e X.env)]) :
    PI X (.Tuple elts kk tpos) (.Call (.Name "enumerate" p) [e] [] pos) (iEnumK X.K ta) := by
  refine ⟨fun pins s σ H R I h => ?_⟩
  refine Call_ (ld_blt I hg hm boot_enumerate (PyProof.Rows.callWith_type1 (thn (ha.run pos pins s σ H _ I h) fun us s1 ⟨vs, H1, I1, r1, q1⟩ => ?_) hs rfl))
  obtain ⟨k, a, xs, ex, hq, q⟩ := q1
  subst ex
  cases r1 with
  | cons r rr =>
    cases rr
    cases r
    obtain ⟨its, rv, p', hz⟩ := seqK_of I1 hq
    refine call_enumK k p' fun h' he hit hsz hk => wpAny_pyIter_enum he ?_
    have I2 : Inv X pins σ H1 { s1 with heap := h' } := I1.kept (t' := s1.toks) hk
    refine ⟨s1.heap.objs.size + 1, [s1.heap.objs.size + 1, s1.heap.objs.size], _, _, H1, rfl, I2, turn_enumK k a (s1.heap.objs.size + 1) s1.heap.objs.size, ⟨⟨.none, he⟩, itK_new hit, Nat.succ_ne_self _⟩, fun b hb => ?_, q⟩
    have e' : b = s1.heap.objs.size + 1 ∨ b = s1.heap.objs.size := by simpa using hb
    have hle : s1.heap.objs.size ≤ b := by
      rcases e' with z | z
      · rw [z]; exact Nat.le_add_right _ _
      · rw [z]; exact Nat.le_refl _
    exact I1.fpOk hle (I1.hok.fresh hle)
def ItzK (k k2 : Kd) (K : PySem.W.Frag) (a b : Addr) : It :=
  ⟨fun i H => ∃ (xs ys : List V) (x y : V), SqK k K H a xs ∧ SqK k2 K H b ys ∧ xs[i]? = some x ∧ ys[i]? = some y,
    fun i H v H' => ∃ T o x y, v = .ref T ∧ H T = none ∧ o.dict = none ∧ H' = upd H T (.frz o (.tup [x, y])) ∧ (∀ xs, SqK k K H a xs → xs[i]? = some x) ∧ ∀ ys, SqK k2 K H b ys → ys[i]? = some y,
    fun i H => ∃ xs ys : List V, SqK k K H a xs ∧ SqK k2 K H b ys ∧ i ≤ xs.length ∧ i ≤ ys.length ∧ (i = xs.length ∨ i = ys.length)⟩
theorem turn_zipK {P : Program} {w : World} {K : PySem.W.Frag} {elts : List Expr} {kk : Nat} {tpos : Pos} (k k2 : Kd) {a b z TI TO i1 i2 : Addr} (S : ZipSep2 z TI TO i1 i2 [i1, a] [i2, b]) :
    Turn P w K (.Tuple elts kk tpos) (ItzK k k2 K a b) [z, TI, TO, i1, i2] z (fun i h => IsZip h z TI TO .none ∧ IsTupOf2 h TI (.ref i1) (.ref i2) ∧ (∃ x y, IsTupOf2 h TO x y) ∧ ItK k h i1 a i ∧ ItK k2 h i2 b i) where
  mem := by simp
  obj := fun i h st c hc => by
    obtain ⟨hz, hTI, ⟨x, y, hTO⟩, h1, h2⟩ := st
    have e' : c = z ∨ c = TI ∨ c = TO ∨ c = i1 ∨ c = i2 := by simpa using hc
    rcases e' with q | q | q | q | q
    · rw [q]; exact ⟨_, hz, fun v q => nomatch q⟩
    · rw [q]; exact ⟨_, hTI, fun v q => nomatch q⟩
    · rw [q]; exact ⟨_, hTO, fun v q => nomatch q⟩
    · rw [q]; exact itK_obj h1
    · rw [q]; exact itK_obj h2
  keep := fun i h h' st k => by
    obtain ⟨hz, hTI, ⟨x, y, hTO⟩, h1, h2⟩ := st
    exact ⟨k z (by simp) _ hz, k TI (by simp) _ hTI, ⟨x, y, k TO (by simp) _ hTO⟩, itK_at h1 fun o q => k i1 (by simp) o q, itK_at h2 fun o q => k i2 (by simp) o q⟩
  item := by
    intro X hP hw hK hc i pins s σ H E I hf st hg
    subst hP hw hK
    obtain ⟨hz, hTI, ⟨x0, y0, hTO⟩, h1, h2⟩ := st
    obtain ⟨xs, ys, x, y, hqx, hqy, hx, hy⟩ := hg
    obtain ⟨its, rv, p, _⟩ := seqK_of I hqx
    obtain ⟨its2, rv2, p2, _⟩ := seqK_of I hqy
    obtain ⟨u, hu, ru⟩ := rv.get hx
    obtain ⟨u2, hu2, ru2⟩ := rv2.get hy
    have hzl : z < s.heap.objs.size := Heap.lt_size hz
    have D1 := drawsK (P := X.prog) (w := X.w) (A := X.A.in1) k (I.ok.hd hc) i1 a (iter_ne p h1) its.toArray
    have D2 := drawsK (P := X.prog) (w := X.w) (A := X.A.in1) k2 (I.ok.hd hc) i2 b (iter_ne p2 h2) its2.toArray
    have l1 : i < its.toArray.size := by simpa using (List.getElem?_eq_some_iff.mp hu).1
    have l2 : i < its2.toArray.size := by simpa using (List.getElem?_eq_some_iff.mp hu2).1
    refine wpAny_pyNext_zipD2_item S D1 D2 hz hTI hTO ⟨h1, p⟩ ⟨h2, p2⟩ l1 l2 fun x1 x2 h' tk e1 e2 z' TO' h1' h2' hT hsz hk => ?_
    have ex1 : x1 = u := by
      have q : its.toArray[i]? = some u := by simpa using hu
      rw [e1] at q; exact Option.some.inj q
    have ex2 : x2 = u2 := by
      have q : its2.toArray[i]? = some u2 := by simpa using hu2
      rw [e2] at q; exact Option.some.inj q
    subst ex1 ex2
    refine ⟨_, rfl, wpAny_letOwnedTupleGo_zip (s := { s with heap := h', toks := tk }) z' fun h'' z'' sb => ?_⟩
    have hT2 : IsTupOf2 h'' s.heap.objs.size x1 x2 := (sb.2 _ (Nat.ne_of_gt hzl)).trans hT
    have new : ObjOk X.prog X.w (upd H s.heap.objs.size (.frz { cls := .type "tuple", data := .seq #[x1, x2] } (.tup [x, y]))) h'' s.heap.objs.size (.frz { cls := .type "tuple", data := .seq #[x1, x2] } (.tup [x, y])) :=
      ⟨hT2, by show 2 ≤ sizeLine; decide, [x1, x2], .cons ru (.cons ru2 .nil), ⟨_, hT2, rfl, _, rfl⟩⟩
    have I1 : Inv X pins σ (upd H s.heap.objs.size (.frz { cls := .type "tuple", data := .seq #[x1, x2] } (.tup [x, y]))) { s with heap := h'', toks := tk } :=
      I.turnedNew (ch := [z, TI, TO, i1, i2]) (fun c o hb q => (sb.2 c (fun q' => hb (by simp [q']))).trans (hk c o (fun q' => hb (by simp [q'])) (fun q' => hb (by simp [q'])) (fun q' => hb (by simp [q'])) (fun q' => hb (by simp [q'])) q)) hf (Nat.le_refl _) new
    refine ⟨.ref s.heap.objs.size, _, I1, rfl, ⟨_, _, x, y, rfl, I.hok.fresh (Nat.le_refl _), rfl, rfl, fun l hl => by rw [seqK_inj I hl hqx]; exact hx, fun l hl => by rw [seqK_inj I hl hqy]; exact hy⟩, ⟨z'', ?_, ⟨x1, x2, ?_⟩, ?_, ?_⟩, fun c hcm => ?_⟩
    · exact (sb.2 _ S.TIz).trans (hk _ _ S.TIz S.TITO S.TIi1 S.TIi2 hTI)
    · exact (sb.2 _ S.TOz).trans TO'
    · exact itK_at h1'.1 fun o q => (sb.2 _ (Ne.symm S.zi1)).trans q
    · exact itK_at h2'.1 fun o q => (sb.2 _ (Ne.symm S.zi2)).trans q
    · have hlt : c < s.heap.objs.size := by
        have e' : c = z ∨ c = TI ∨ c = TO ∨ c = i1 ∨ c = i2 := by simpa using hcm
        rcases e' with q | q | q | q | q
        · rw [q]; exact hzl
        · rw [q]; exact Heap.lt_size hTI
        · rw [q]; exact Heap.lt_size hTO
        · rw [q]; obtain ⟨_, e1, _⟩ := itK_obj h1; exact Heap.lt_size e1
        · rw [q]; obtain ⟨_, e2, _⟩ := itK_obj h2; exact Heap.lt_size e2
      rw [upd_ne (Nat.ne_of_lt hlt)]
      exact (hf c hcm).1
  done := by
    intro X hP hw hK hc i pins s σ H E I hf st hg
    subst hP hw hK
    obtain ⟨hz, hTI, ⟨x0, y0, hTO⟩, h1, h2⟩ := st
    obtain ⟨xs, ys, hqx, hqy, le1, le2, hend⟩ := hg
    obtain ⟨its, rv, p, _⟩ := seqK_of I hqx
    obtain ⟨its2, rv2, p2, _⟩ := seqK_of I hqy
    have l1 := rv.length
    have l2 := rv2.length
    have D1 := drawsK (P := X.prog) (w := X.w) (A := X.A.in1) k (I.ok.hd hc) i1 a (iter_ne p h1) its.toArray
    have D2 := drawsK (P := X.prog) (w := X.w) (A := X.A.in1) k2 (I.ok.hd hc) i2 b (iter_ne p2 h2) its2.toArray
    exact wpAny_pyNext_zipD2_end S D1 D2 hz hTI hTO ⟨h1, p⟩ ⟨h2, p2⟩ (by simp; omega) (by simp; omega) (by simp; omega) fun h' tk hk => ⟨rfl, I.turnedL (ch := [z, TI, TO, i1, i2]) (fun c o hb q =>
      hk c o (fun q' => hb (by simp [q'])) (fun q' => hb (by simp [q'])) (fun q' => hb (by simp [q'])) (fun q' => hb (by simp [q'])) q) hf⟩
  self := fun A i s Q E st h => wpAny_pyIter_zip st.1 h
def iZipK (K : PySem.W.Frag) (ta : TA) : TI := fun σ H R => ta σ H fun vs H1 => ∃ k k2 a b xs ys, vs = [.ref a, .ref b] ∧ SqK k K H1 a xs ∧ SqK k2 K H1 b ys ∧ R (ItzK k k2 K a b) H1
theorem zip_sepK {N a b : Nat} (h1 : a < N) (h2 : b < N) : ZipSep2 (N + 4) (N + 2) (N + 3) N (N + 1) [N, a] [N + 1, b] := zip_sep2 (fp1 := [a]) (fp2 := [b]) (by simpa using h1) (by simpa using h2)
theorem pi_zipK {X : Cx} {e e2 : Expr} {ta : TA} {p pos tpos : Pos} {elts : List Expr} {kk : Nat} (hg : Gl X "zip") (hm : X.mg "zip" = none) (ha : PA X [e, e2] ta)
    (hs : starEach [e, e2] X.env = (false, eval e X.env) :: starEach [e2] X.env) (hpl : (backTo pos (starEach [e2] X.env)).any (·.1) = false) :
    PI X (.Tuple elts kk tpos) (.Call (.Name "zip" p) [e, e2] [] pos) (iZipK X.K ta) := by
  refine ⟨fun pins s σ H R I h => ?_⟩
  refine Call_ (ld_blt I hg hm PyProof.Rows.boot_zip (PyProof.Rows.callWith_type1 (thn (ha.run pos pins s σ H _ I h) fun us s1 ⟨vs, H1, I1, r1, q1⟩ => ?_) hs hpl))
  obtain ⟨k, k2, a, b, xs, ys, ex, hqx, hqy, q⟩ := q1
  subst ex
  cases r1 with
  | cons r rr =>
    cases rr with
    | cons r' rr =>
      cases rr
      cases r
      cases r'
      obtain ⟨its, rv, p1, _⟩ := seqK_of I1 hqx
      obtain ⟨its2, rv2, p2, _⟩ := seqK_of I1 hqy
      have la : a < s1.heap.objs.size := let ⟨_, e⟩ := seqK_lt p1; Heap.lt_size e
      have lb : b < s1.heap.objs.size := let ⟨_, e⟩ := seqK_lt p2; Heap.lt_size e
      refine zip_begins2 (beginsK k a its.toArray) (beginsK k2 b its2.toArray) p1 p2 fun h' hz hTI hTO h1 h2 hsz hk => wpAny_pyIter_zip hz ?_
      have I2 : Inv X pins σ H1 { s1 with heap := h' } := I1.kept (t' := s1.toks) hk
      refine ⟨s1.heap.objs.size + 4, [s1.heap.objs.size + 4, s1.heap.objs.size + 2, s1.heap.objs.size + 3, s1.heap.objs.size, s1.heap.objs.size + 1], _, _, H1, rfl, I2, turn_zipK k k2 (zip_sepK la lb), ⟨hz, hTI, ⟨_, _, hTO⟩, itK_new h1, itK_new h2⟩, fun c hcm => ?_, q⟩
      have e' : c = s1.heap.objs.size + 4 ∨ c = s1.heap.objs.size + 2 ∨ c = s1.heap.objs.size + 3 ∨ c = s1.heap.objs.size ∨ c = s1.heap.objs.size + 1 := by simpa using hcm
      have hle : s1.heap.objs.size ≤ c := by
        rcases e' with z | z | z | z | z
        · rw [z]; exact Nat.le_add_right _ _
        · rw [z]; exact Nat.le_add_right _ _
        · rw [z]; exact Nat.le_add_right _ _
        · rw [z]; exact Nat.le_refl _
        · rw [z]; exact Nat.le_add_right _ _
      exact I1.fpOk hle (I1.hok.fresh hle)
end Mq

namespace Mq
open PySem PySem.Spec PyProof.Rows L2 Mp
section
variable {K : PySem.W.Frag} {E : ErT} {W : WX} {g g1 : Gh} {st st1 : Sta} {σ : L2.St} {H H1 : Hp}
theorem Rep.toV {v : SV} {x : V} (r : Rep K g.F g.c st.heap.length v x) : RepV K g st σ v x := by
  cases v <;> first | exact r | exact r.elim
/-- a kept value, by the value -/
theorem tK_of {f : Sta → Rs SV} {Q : VK} (h : tK K E W (fun s => solidB (f s)) σ H Q) : tE K E W f σ H Q := by
  obtain ⟨g, st, R, h⟩ := h
  refine ⟨g, st, R, ?_⟩
  have h : Out K E W g st σ H _ ((f st).bind fun v s => s.solid v) := h
  refine h.bind.imp fun v g1 st1 H1 ⟨G, R1, o⟩ x r => ?_
  obtain ⟨w, g2, st2, G2, R2, rw', q⟩ := solid_out R1 r o
  exact q x rw'
/-- a value that a state gives at once -/
theorem Res.of_out {o : Option SV} {Q : VK} (h : Out K E W g st σ H (fun v g' st' H' => ∀ x, RepV K g' st' σ v x → Q x H') (Rs.of o st)) : ∃ v, o = some v ∧ Res K g st σ H v Q := by
  cases o with
  | none => exact h.elim
  | some v => exact ⟨v, rfl, fun z g' H' G R r => h g' H' G R z r.toV⟩
theorem Out.valI {Q : VK} {i : Int} (R : Rel K g st σ H) (h : Out K E W g st σ H (fun v g' st' H' => ∀ x, RepV K g' st' σ v x → Q x H') (.ok (.int i) st)) : Q (.int i) H := h g H (Grow.refl _ _ _) R _ rfl
theorem Out.valB {Q : VK} {i : Bool} (R : Rel K g st σ H) (h : Out K E W g st σ H (fun v g' st' H' => ∀ x, RepV K g' st' σ v x → Q x H') (.ok (.bl i) st)) : Q (.bl i) H := h g H (Grow.refl _ _ _) R _ rfl
end
section
variable {X : Cx} {E : ErT} {W : WX} {fa fb fc : Sta → Rs SV} {ft : Sta → Rs Bool} {a b c : Expr} {pos : Pos}
theorem m_slot {i : Nat} {x : Str} (hN : X.N[i]? = some x) (hv : Vis X.env.scope x) (hd : (x == ("__debug__" : Str)) = false) (hcd : (x == ("__classdict__" : Str)) = false) :
    PE X (.Name x pos) (tE X.K E W fun s => match s.env[i]? with | some (.val v) => .ok v s | some (.box _) => .ok (.view i) s | _ => .bad) := by
  refine PE.imp (pe_var hN hv hd hcd) fun σ H Q ⟨g, st, R, h⟩ => ?_
  have h : Out X.K E W g st σ H _ (match st.env[i]? with | some (.val v) => .ok v st | some (.box _) => .ok (.view i) st | _ => .bad) := h
  cases e : st.env[i]? with
  | none => rw [e] at h; exact h.elim
  | some s =>
    rw [e] at h
    cases s with
    | emp => exact h.elim
    | val v =>
      obtain ⟨x, h1, h2⟩ := R.slot i v e
      exact ⟨x, h1, Out.now R h x h2.toV⟩
    | box c =>
      have h1 := R.box i c e
      exact ⟨_, h1, Out.now R h _ h1⟩
theorem m_int {i : Int} {j : Nat} : PE X (.Constant (.int i) j pos) (tE X.K E W fun s => .ok (.int i) s) :=
  PE.imp pe_int fun σ H Q ⟨g, st, R, h⟩ => Out.now R h _ rfl
theorem m_bl {i : Bool} {j : Nat} : PE X (.Constant (.bool i) j pos) (tE X.K E W fun s => .ok (.bl i) s) :=
  PE.imp pe_bl fun σ H Q ⟨g, st, R, h⟩ => Out.now R h _ rfl
theorem m_non {j : Nat} : PE X (.Constant .none j pos) (tE X.K E W fun s => .ok .non s) :=
  PE.imp pe_non fun σ H Q ⟨g, st, R, h⟩ => Out.now R h _ rfl
theorem m_str {t : Str} {l : List Nat} {j : Nat} (e : t = ⟨l.toArray⟩) : PE X (.Constant (.str t) j pos) (tE X.K E W fun s => .ok (.str l) s) := by
  subst e
  exact PE.imp pe_str fun σ H Q ⟨g, st, R, h⟩ => Out.now R h _ rfl
theorem m_bin {op : Bop} (ha : PE X a (tE X.K E W fa)) (hb : PE X b (tE X.K E W fb)) :
    PE X (.BinOp a (opOf op) b pos) (tE X.K E W fun s => (fa s).bind fun x s => (fb s).bind fun y s => Rs.of (binV s op x y) s) := by
  refine PE.imp (pe_op op_bin ha hb) fun σ H Q ⟨g, st, R, h⟩ => tE.seq R h fun v x g1 st1 H1 G R1 r h => tE.seq R1 h fun w y g2 st2 H2 G2 R2 r2 h => ?_
  obtain ⟨z, hz, q⟩ := Res.of_out h
  exact ⟨g2, st2, σ, v, w, z, R2, r.up G2, r2, hz, q⟩
theorem m_neg (ha : PE X a (tE X.K E W fa)) : PE X (.UnaryOp .USub a pos) (tE X.K E W fun s => (asI (fa s)).bind fun i s => .ok (.int (-i)) s) := by
  refine PE.imp (pe_un un_neg ha) fun σ H Q ⟨g, st, R, h⟩ => asI.seq R h fun i g1 st1 H1 G R1 h => ⟨i, rfl, h.valI R1⟩
theorem m_not (ha : PE X a (tE X.K E W fa)) : PE X (.UnaryOp .Not a pos) (tE X.K E W fun s => (asB (fa s)).bind fun b s => .ok (.bl (!b)) s) :=
  PE.imp (pe_not ha) fun σ H Q ⟨g, st, R, h⟩ => asB.seq R h fun i g1 st1 H1 G R1 h => ⟨i, rfl, h.valB R1⟩
theorem m_and {rest : List Expr} (ha : PE X a (tE X.K E W fa)) (hb : PE X (.BoolOp .And (b :: rest) pos) (tE X.K E W fb)) :
    PE X (.BoolOp .And (a :: b :: rest) pos) (tE X.K E W fun s => (asB (fa s)).bind fun c s => if c then fb s else .ok (.bl false) s) := by
  refine PE.imp (pe_and ha hb) fun σ H Q ⟨g, st, R, h⟩ => asB.seq R h fun i g1 st1 H1 G R1 h => ⟨i, rfl, ?_⟩
  cases i with
  | true => exact ⟨g1, st1, R1, h⟩
  | false => exact Out.valB R1 h
theorem m_or {rest : List Expr} (ha : PE X a (tE X.K E W fa)) (hb : PE X (.BoolOp .Or (b :: rest) pos) (tE X.K E W fb)) :
    PE X (.BoolOp .Or (a :: b :: rest) pos) (tE X.K E W fun s => (asB (fa s)).bind fun c s => if c then .ok (.bl true) s else fb s) := by
  refine PE.imp (pe_or ha hb) fun σ H Q ⟨g, st, R, h⟩ => asB.seq R h fun i g1 st1 H1 G R1 h => ⟨i, rfl, ?_⟩
  cases i with
  | false => exact ⟨g1, st1, R1, h⟩
  | true => exact Out.valB R1 h
theorem m_ife (ht : PT X c (tT X.K E W ft)) (ha : PE X a (tE X.K E W fa)) (hb : PE X b (tE X.K E W fb)) :
    PE X (.IfExp c a b pos) (tE X.K E W fun s => (ft s).bind fun c s => if c then fa s else fb s) := by
  refine PE.imp (pe_ifExp ht ha hb) fun σ H Q ⟨g, st, R, h⟩ => tT.seq R h fun i g1 st1 H1 G R1 h => ?_
  cases i with
  | true => exact ⟨g1, st1, R1, h⟩
  | false => exact ⟨g1, st1, R1, h⟩
theorem cmp_seq {op : Cop} {Q : VK} {Qb : Bool → Gh → Sta → Hp → Prop} {g2 : Gh} {st2 : Sta} {σ : L2.St} {H2 : Hp} {v w : SV} {x y : V} (R2 : Rel X.K g2 st2 σ H2) (r : RepV X.K g2 st2 σ v x) (r2 : RepV X.K g2 st2 σ w y)
    (h : Out X.K E W g2 st2 σ H2 Qb (Rs.of (cmpV st2 op v w) st2)) (q : ∀ c, Qb c g2 st2 H2 → Q (.bl c) H2) : rCmp X.K op x y H2 Q := by
  obtain ⟨c, hc, q'⟩ := Out.of_some R2 h
  exact ⟨g2, st2, σ, v, w, c, R2, r, r2, hc, q c q'⟩
theorem m_cmp {op : Cop} (hu : X.A.units + 65 < cLine) (ha : PE X a (tE X.K E W fa)) (hb : PE X b (tE X.K E W fb)) (hm : behindInMarks (cmpOf op) b = false) :
    PE X (.Compare a [cmpOf op] [b] pos) (tE X.K E W fun s => (fa s).bind fun x s => (fb s).bind fun y s => (Rs.of (cmpV s op x y) s).bind fun c s => .ok (.bl c) s) := by
  refine PE.imp (pe_cmpR (op_cmpV hu) ha hb hm) fun σ H Q ⟨g, st, R, h⟩ => tE.seq R h fun v x g1 st1 H1 G R1 r h => tE.seq R1 h fun w y g2 st2 H2 G2 R2 r2 h => ?_
  exact cmp_seq R2 (r.up G2) r2 h.bind fun c ⟨_, _, o⟩ => Out.valB R2 o
theorem m_cmpT {op : Cop} (hu : X.A.units + 65 < cLine) (ha : PE X a (tE X.K E W fa)) (hb : PE X b (tE X.K E W fb)) (hm : behindInMarks (cmpOf op) b = false) :
    PT X (.Compare a [cmpOf op] [b] pos) (tT X.K E W fun s => asB ((fa s).bind fun x s => (fb s).bind fun y s => (Rs.of (cmpV s op x y) s).bind fun c s => .ok (.bl c) s)) := by
  refine PT.imp (pt_cmpR (op_cmpV hu) ha hb hm) fun σ H Q ⟨g, st, R, h⟩ => ?_
  refine tE.seq (k := fun x s => (fb s).bind fun y s => (Rs.of (cmpV s op x y) s)) R (Qb := fun c g st H => Q c H) ?_ fun v x g1 st1 H1 G R1 r h => tE.seq R1 h fun w y g2 st2 H2 G2 R2 r2 h => ?_
  · dsimp only at h
    unfold asB at h
    cases e : fa st with
    | err a s => rw [e] at h; exact h
    | bad => rw [e] at h; exact h
    | ok a s =>
      rw [e] at h
      simp only [Rs.bind_ok] at h ⊢
      cases e2 : fb s with
      | err a s => rw [e2] at h; exact h
      | bad => rw [e2] at h; exact h
      | ok b s2 =>
        rw [e2] at h
        simp only [Rs.bind_ok] at h ⊢
        cases e3 : cmpV s2 op a b with
        | none => rw [e3] at h; exact h
        | some c => rw [e3] at h; exact h
  · exact cmp_seq R2 (r.up G2) r2 h fun c q => ⟨c, rfl, q⟩
end
end Mq

namespace Mq
open PySem PySem.Spec PyProof.Rows L2 Mp
section
variable {K : PySem.W.Frag} {E : ErT} {W : WX} {g g1 : Gh} {st st1 : Sta} {σ : L2.St} {H H0 H1 : Hp} {p : Addr} {o : HO} {Q : VK}
theorem Rel.lay (R : Rel K g st σ H) (hp : H p = none) : Rel K g st σ (upd H p o) ∧ Grow g st H g st (upd H p o) ∧ g.F p = none ∧ ¬ LiveA g st p := by
  have nl : ∀ l c, at? st l = some c → g.at l ≠ p := fun l c h e => by
    obtain ⟨_, u, h3, _⟩ := R.loc l c h
    rw [e, hp] at h3; cases h3
  refine ⟨⟨fun a u e => ?_, fun l c h => ?_, R.inj, R.slot, R.box, R.len⟩, ⟨fun a u e _ => ?_, fun a u e => ?_, fun _ _ e => e, fun _ _ => rfl, Nat.le_refl _, fun a h => .inl h, fun a u e => .inl e⟩, R.fresh hp, fun ⟨l, c, h, e⟩ => nl l c h e⟩
  · have := R.sub _ _ e
    rw [upd_ne (ne_of_none this hp)]; exact this
  · obtain ⟨h1, u, h2, h3⟩ := R.loc l c h
    exact ⟨h1, u, by rw [upd_ne (nl l c h)]; exact h2, h3⟩
  · rw [upd_ne (ne_of_none e hp)]; exact e
  · exact ⟨u, by rw [upd_ne (ne_of_none e hp)]; exact e⟩
def NewQ (K : PySem.W.Frag) (H0 : Hp) (Q : VK) : Cel → Gh → Sta → Hp → Prop := fun c g' st' H' => ∀ p o, H0 p = none → H' p = some o → g'.F p = none → ¬ LiveA g' st' p → CellRep K g'.F g'.c st'.heap.length c o → Q (.ref p) H'
/-- a run that makes a new thing -/
def tF (K : PySem.W.Frag) (E : ErT) (W : WX) (f : Sta → Rs Cel) : TE := fun σ H Q => ∃ g st, Rel K g st σ H ∧ Out K E W g st σ H (NewQ K H Q) (f st)
theorem tF_lay {c : Cel} (hd : ∀ a, H1 a = none → H0 a = none) (R : Rel K g1 st1 σ H1) (h : Out K E W g1 st1 σ H1 (NewQ K H0 Q) (.ok c st1)) (rc : CellRep K g1.F g1.c st1.heap.length c o) (hp : H1 p = none) : Q (.ref p) (upd H1 p o) := by
  obtain ⟨R1, G1, h1, h2⟩ := R.lay (o := o) hp
  exact h _ _ G1 R1 p o (hd p hp) upd_same h1 h2 rc
theorem tF_list {xs : List SV} {vs : List V} (hd : ∀ a, H1 a = none → H0 a = none) (R : Rel K g1 st1 σ H1) (h : Out K E W g1 st1 σ H1 (NewQ K H0 Q) (.ok (.lst xs) st1)) (rc : RepL K g1.F g1.c st1.heap.length xs vs) (hp : H1 p = none) : Q (.ref p) (upd H1 p (.lst vs)) :=
  tF_lay hd R h ⟨vs, rfl, rc⟩ hp
/-- the first part of a run, the base kept -/
theorem Out.bind0 {α β : Type} {Q : β → Gh → Sta → Hp → Prop} {r : Rs α} {k : α → Sta → Rs β} (h : Out K E W g st σ H Q (r.bind k)) :
    Out K E W g st σ H (fun a g1 st1 H1 => Grow g st H g1 st1 H1 ∧ Rel K g1 st1 σ H1 ∧ Out K E W g st σ H Q (k a st1)) r := by
  cases r with
  | ok a s => exact fun g' H' G' R => ⟨G', R, h⟩
  | err e s => exact h
  | bad => exact h
/-- a new thing that is never changed -/
theorem Rel.freezeNew (R : Rel K g st σ H) (hp : H p = some o) (hF : g.F p = none) (hl : ¬ LiveA g st p) : Rel K (g.add p o) st σ H := by
  have up := add_up (o := o) hF
  have at_ : ∀ l, (g.add p o).at l = g.at l := fun l => by cases l <;> rfl
  refine ⟨fun a u e => ?_, fun l c h => ?_, fun l l' c c' h h' e => ?_, fun i v h => ?_, fun i c h => R.box i c h, R.len⟩
  · by_cases ha : a = p
    · subst ha
      have e' : upd g.F a o a = some u := e
      rw [upd_same] at e'; rw [hp]; exact e'
    · have e' : upd g.F p o a = some u := e
      rw [upd_ne ha] at e'; exact R.sub _ _ e'
  · obtain ⟨h1, u, h2, h3⟩ := R.loc l c h
    rw [at_]
    refine ⟨?_, u, h2, CellRep.up up (fun _ _ => rfl) (Nat.le_refl _) h3⟩
    show upd g.F p o _ = none
    rw [upd_ne (fun e => hl ⟨l, c, h, e⟩)]; exact h1
  · rw [at_, at_] at e
    exact R.inj l l' c c' h h' e
  · obtain ⟨x, h1, h2⟩ := R.slot i v h
    exact ⟨x, h1, Rep.up up (fun _ _ => rfl) (Nat.le_refl _) _ _ h2⟩
theorem Grow.freezeNew (hp : H0 p = none) (hF : g.F p = none) (hl : ¬ LiveA g st p) (G : Grow g1 st1 H0 g st H) : Grow g1 st1 H0 (g.add p o) st H := by
  have up := add_up (o := o) hF
  have at_ : ∀ l, (g.add p o).at l = g.at l := fun l => by cases l <;> rfl
  refine ⟨G.keep, G.dom, fun a u e => up _ _ (G.fr a u e), G.cells, G.hlen, fun a ⟨l, c, h, e⟩ => G.live a ⟨l, c, h, by rw [← e, at_]⟩, fun a u e => ?_⟩
  by_cases ha : a = p
  · exact .inr (.inl (by rw [ha]; exact hp))
  · have e' : upd g.F p o a = some u := e
    rw [upd_ne ha] at e'; exact G.new a u e'
theorem frozen_rep {c : Cel} {w : SV} {len : Nat} {cc : Nat → Addr} (hF : g.F p = none) (hw : c.frozen = some w) (r : CellRep K g.F cc len c o) : Rep K (g.add p o).F cc len w (.ref p) := by
  have up := add_up (o := o) hF
  have fe : (g.add p o).F p = some o := upd_same
  cases c with
  | dead => simp [Cel.frozen] at hw
  | ins _ _ => simp [Cel.frozen] at hw
  | lst xs =>
    simp [Cel.frozen] at hw; subst hw
    obtain ⟨vs, e, r⟩ := r
    subst e
    exact ⟨_, vs, rfl, fe, RepL.up up (fun _ _ => rfl) (Nat.le_refl _) _ _ r⟩
  | dct ks ws =>
    simp [Cel.frozen] at hw; subst hw
    rcases r with ⟨kvs, e1, e2, r⟩ | ⟨b, xs, vs, e1, e2, e3, r1, r⟩
    · exact ⟨_, rfl, .inl ⟨kvs, by rw [fe, e1], e2, RepL.up up (fun _ _ => rfl) (Nat.le_refl _) _ _ r⟩⟩
    · exact ⟨_, rfl, .inr ⟨b, xs, vs, by rw [fe, e1], e2, e3, RepL.up up (fun _ _ => rfl) (Nat.le_refl _) _ _ r1, RepL.up up (fun _ _ => rfl) (Nat.le_refl _) _ _ r⟩⟩
/-- a new place of the heap -/
def Gh.push (g : Gh) (n : Nat) (p : Addr) : Gh := { g with c := fun k => if k = n then p else g.c k }
theorem at_push {c : Cel} {l : Pl} {d : Cel} (h : at? { st with heap := st.heap ++ [c] } l = some d) : at? st l = some d ∨ (l = .cell st.heap.length ∧ c = d) := by
  cases l with
  | box i => exact .inl h
  | cell n =>
    unfold at? at h ⊢
    simp only at h ⊢
    by_cases hn : n < st.heap.length
    · rw [List.getElem?_append_left hn] at h; exact .inl h
    · rw [List.getElem?_append_right (by omega)] at h
      by_cases h0 : n - st.heap.length = 0
      · rw [h0] at h
        simp only [List.getElem?_cons_zero, Option.bind_some] at h
        refine .inr ⟨by congr 1; omega, ?_⟩
        cases c <;> simp [live?] at h <;> exact h
      · rw [List.getElem?_eq_none (by simp; omega)] at h; cases h
theorem push_at {n : Nat} (h : ∀ m, l = .cell m → m < n) : (g.push n p).at l = g.at l := by
  cases l with
  | box i => rfl
  | cell m =>
    have := h m rfl
    show (if m = n then p else g.c m) = g.c m
    rw [if_neg (by omega)]
theorem at_lt {l : Pl} {d : Cel} (h : at? st l = some d) : ∀ m, l = .cell m → m < st.heap.length := by
  intro m e
  subst e
  unfold at? at h
  simp only at h
  cases e : st.heap[m]? with
  | none => rw [e] at h; cases h
  | some x => exact (List.getElem?_eq_some_iff.mp e).1
theorem Rel.pushNew {c : Cel} (R : Rel K g st σ H) (hp : H p = some o) (hF : g.F p = none) (hl : ¬ LiveA g st p) (rc : CellRep K g.F g.c st.heap.length c o) :
    Rel K (g.push st.heap.length p) { st with heap := st.heap ++ [c] } σ H := by
  have cc : ∀ n, n < st.heap.length → (g.push st.heap.length p).c n = g.c n := fun n h => if_neg (by omega)
  have hle : st.heap.length ≤ (st.heap ++ [c]).length := by simp
  have hnew : (g.push st.heap.length p).at (.cell st.heap.length) = p := if_pos rfl
  refine ⟨R.sub, fun l d h => ?_, fun l l' d d' h h' e => ?_, fun i v h => ?_, R.box, R.len⟩
  · rcases at_push h with h | ⟨rfl, rfl⟩
    · rw [push_at (at_lt h)]
      obtain ⟨h1, u, h2, h3⟩ := R.loc l d h
      exact ⟨h1, u, h2, CellRep.up (fun _ _ e => e) cc hle h3⟩
    · rw [hnew]
      exact ⟨hF, o, hp, CellRep.up (fun _ _ e => e) cc hle rc⟩
  · rcases at_push h with h | ⟨rfl, rfl⟩ <;> rcases at_push h' with h' | ⟨rfl, rfl⟩
    · rw [push_at (at_lt h), push_at (at_lt h')] at e
      exact R.inj l l' d d' h h' e
    · rw [push_at (at_lt h), hnew] at e
      exact absurd ⟨l, d, h, e⟩ hl
    · rw [push_at (at_lt h'), hnew] at e
      exact absurd ⟨l', d', h', e.symm⟩ hl
    · rfl
  · obtain ⟨x, h1, h2⟩ := R.slot i v h
    exact ⟨x, h1, Rep.up (fun _ _ e => e) cc hle _ _ h2⟩
theorem Grow.pushNew {c : Cel} (hp : H0 p = none) (hl : ¬ LiveA g st p) (G : Grow g1 st1 H0 g st H) : Grow g1 st1 H0 (g.push st.heap.length p) { st with heap := st.heap ++ [c] } H := by
  have cc : ∀ n, n < st.heap.length → (g.push st.heap.length p).c n = g.c n := fun n h => if_neg (by omega)
  refine ⟨G.keep, G.dom, G.fr, fun n h => (cc n (Nat.lt_of_lt_of_le h G.hlen)).trans (G.cells n h), Nat.le_trans G.hlen (by simp), fun a ⟨l, d, h, e⟩ => ?_, G.new⟩
  rcases at_push h with h | ⟨rfl, rfl⟩
  · rw [push_at (at_lt h)] at e
    exact G.live a ⟨l, d, h, e⟩
  · have : p = a := by rw [← e]; exact (if_pos rfl).symm
    subst this
    exact .inr hp
end
section
variable {X : Cx} {E : ErT} {W : WX} {fa fb fc : Sta → Rs SV} {ff : Sta → Rs Cel} {fs : Sta → Rs (List SV)} {ft : Sta → Rs Bool} {a b c e : Expr} {es : List Expr} {pos : Pos}
/-- a display that is kept as it is -/
theorem m_fr (h : PE X e (tF X.K E W ff)) : PE X e (tE X.K E W fun s => (ff s).bind fun c s => Rs.of c.frozen s) := by
  refine PE.imp h fun σ H Q ⟨g, st, R, h⟩ => ⟨g, st, R, ?_⟩
  refine h.bind0.imp fun c g1 st1 H1 ⟨G, R1, h⟩ p o hn hp hF hl rc => ?_
  cases hw : c.frozen with
  | none => rw [hw] at h; exact h.elim
  | some w =>
    rw [hw] at h
    have r := frozen_rep (o := o) hF hw rc
    exact h (g1.add p o) H1 (Grow.freezeNew hn hF hl G) (R1.freezeNew hp hF hl) (.ref p) r.toV
/-- a display that is to be changed, met by its reference -/
theorem m_new (h : PE X e (tF X.K E W ff)) : PE X e (tE X.K E W fun s => (ff s).bind fun c s => .ok (.ref s.heap.length) { s with heap := s.heap ++ [c] }) := by
  refine PE.imp h fun σ H Q ⟨g, st, R, h⟩ => ⟨g, st, R, ?_⟩
  refine h.bind0.imp fun c g1 st1 H1 ⟨G, R1, h⟩ p o hn hp hF hl rc => ?_
  refine h (g1.push st1.heap.length p) H1 (Grow.pushNew hn hl G) (R1.pushNew hp hF hl rc) (.ref p) ?_
  exact ⟨by simp, by simp [Gh.push]⟩
theorem m_as0 : PA X [] (tA X.K E W fun s => .ok [] s) := PA.imp pa_nil fun σ H Q ⟨g, st, R, h⟩ => Out.now R h _ rfl
theorem m_as1 (ha : PE X e (tE X.K E W fa)) (hr : PA X es (tA X.K E W fs)) (hs : starEach (e :: es) X.env = (false, eval e X.env) :: starEach es X.env) :
    PA X (e :: es) (tA X.K E W fun s => (fa s).bind fun v s => (fs s).bind fun vs s => .ok (v :: vs) s) := by
  refine PA.imp (pa_cons ha hr hs) fun σ H Q ⟨g, st, R, h⟩ => tE.seq R h fun v x g1 st1 H1 G R1 r h => tA.seq R1 h fun vs xs g2 st2 H2 G2 R2 r2 h => ?_
  exact Out.now R2 h _ ⟨x, xs, rfl, r.up G2, r2⟩
theorem m_es0 : PA X [] (tKs X.K E W fun s => .ok [] s) := PA.imp pa_nil fun σ H Q ⟨g, st, R, h⟩ => Out.now R h _ rfl
theorem m_es1 (ha : PE X e (tE X.K E W fa)) (hr : PA X es (tKs X.K E W fs)) (hs : starEach (e :: es) X.env = (false, eval e X.env) :: starEach es X.env) :
    PA X (e :: es) (tKs X.K E W fun s => (solidB (fa s)).bind fun v s => (fs s).bind fun vs s => .ok (v :: vs) s) := by
  refine PA.imp (pa_cons (PE.imp ha fun σ H Q h => tK_of h) hr hs) fun σ H Q ⟨g, st, R, h⟩ => tK.seq R h fun v x g1 st1 H1 G R1 r h => tKs.seq R1 h fun vs xs g2 st2 H2 G2 R2 r2 h => ?_
  exact Out.now R2 h _ ⟨x, xs, rfl, Rep.up G2.fr G2.cells G2.hlen _ _ r, r2⟩
/-- a tuple's display, known to its very object -/
theorem pe_tupZ {k} {t : TA} (h : PA X es t) : PE X (.Tuple es k pos) (fun σ H Q => t σ H fun xs H1 => xs.length ≤ sizeLine ∧ ∀ p o, H1 p = none → o.dict = none → Q (.ref p) (upd H1 p (.frz o (.tup xs)))) := by
  refine ⟨fun pins s σ H Q I hq => ?_⟩
  exact wpAny_Tuple_spliced (thn (h.run pos pins s σ H _ I hq) fun us s1 ⟨xs, H1, I1, r, z, q⟩ => ⟨by rw [← r.length]; exact z, newTup I1 r z q⟩)
theorem m_tup {k} (h : PA X es (tKs X.K E W fs)) : PE X (.Tuple es k pos) (tE X.K E W fun s => (fs s).bind fun vs s => if small vs.length then .ok (.tup vs) s else .bad) := by
  refine PE.imp (pe_tupZ h) fun σ H Q ⟨g, st, R, h⟩ => tKs.seq R h fun vs xs g1 st1 H1 G R1 r h => ?_
  split at h
  · rename_i hz
    refine ⟨by rw [← r.length]; exact small_le hz, fun p o hp ho => ?_⟩
    have h : Out X.K E W g1 st1 σ H1 (fun v g' st' H' => ∀ x, RepV X.K g' st' σ v x → Q x H') (Rs.of (some (.tup vs)) st1) := h
    obtain ⟨v, hv, q⟩ := Res.of_out h
    cases hv
    exact Res.tup R1 q r hp ho
  · exact h.elim
theorem m_lst (h : PA X es (tKs X.K E W fs)) : PE X (.List es pos) (tF X.K E W fun s => (fs s).bind fun vs s => if small vs.length then .ok (.lst vs) s else .bad) := by
  refine PE.imp (pe_lst h) fun σ H Q ⟨g, st, R, h⟩ => tKs.seq R h fun vs xs g1 st1 H1 G R1 r h => ?_
  split at h
  · rename_i hz
    exact ⟨by rw [← r.length]; exact small_le hz, fun p hp => tF_list (fun a => G.back) R1 h r hp⟩
  · exact h.elim
theorem m_isN {j : Nat} {p2 : Pos} (ha : PE X a (tE X.K E W fa)) : PE X (.Compare a [.Is] [.Constant .none j p2] pos) (tE X.K E W fun s => (fa s).bind fun x s => Rs.of (x.isNon.map fun b => .bl b) s) := by
  refine PE.imp (pe_cmp (pc_isN ha)) fun σ H Q ⟨g, st, R, h⟩ => tE.seq R h fun v x g1 st1 H1 G R1 r h => ?_
  cases ev : v.isNon with
  | none => rw [ev] at h; exact h.elim
  | some k =>
    rw [ev] at h
    rw [RepV.isNon r ev]
    exact Out.valB R1 h
theorem m_notN {j : Nat} {p2 : Pos} (ha : PE X a (tE X.K E W fa)) : PE X (.Compare a [.IsNot] [.Constant .none j p2] pos) (tE X.K E W fun s => (fa s).bind fun x s => Rs.of (x.isNon.map fun b => .bl (!b)) s) := by
  refine PE.imp (pe_cmp (pc_notN ha)) fun σ H Q ⟨g, st, R, h⟩ => tE.seq R h fun v x g1 st1 H1 G R1 r h => ?_
  cases ev : v.isNon with
  | none => rw [ev] at h; exact h.elim
  | some k =>
    rw [ev] at h
    rw [RepV.isNon r ev]
    exact Out.valB R1 h
theorem m_isB {k : Bool} {j : Nat} {p2 : Pos} (ha : PE X a (tE X.K E W fa)) : PE X (.Compare a [.Is] [.Constant (.bool k) j p2] pos) (tE X.K E W fun s => (asB (fa s)).bind fun b s => .ok (.bl (b == k)) s) := by
  refine PE.imp (pe_cmpR op_isBl ha pe_bl (nomark _)) fun σ H Q ⟨g, st, R, h⟩ => asB.seq R h fun i g1 st1 H1 G R1 h => ⟨i, k, rfl, rfl, ?_⟩
  have h := Out.valB R1 h
  rw [Bool.beq_eq_decide_eq] at h
  exact h
theorem m_notB {k : Bool} {j : Nat} {p2 : Pos} (ha : PE X a (tE X.K E W fa)) : PE X (.Compare a [.IsNot] [.Constant (.bool k) j p2] pos) (tE X.K E W fun s => (asB (fa s)).bind fun b s => .ok (.bl (!(b == k))) s) := by
  refine PE.imp (pe_cmpR op_notBl ha pe_bl (nomark _)) fun σ H Q ⟨g, st, R, h⟩ => asB.seq R h fun i g1 st1 H1 G R1 h => ⟨i, k, rfl, rfl, ?_⟩
  have h := Out.valB R1 h
  rw [Bool.beq_eq_decide_eq] at h
  exact h
theorem m_idx {i : Expr} {fi : Sta → Rs SV} (hu : X.A.units + 65 < cLine) (ha : PE X a (tE X.K E W fa)) (hi : PE X i (tE X.K E W fi)) (hs : PlainIx i) :
    PE X (.Subscript a i pos) (tE X.K E W fun s => (fa s).bind fun x s => (fi s).bind fun y s => Rs.of (idxV s x y) s) := by
  refine PE.imp (pe_ix (ix_all hu) ha hi hs) fun σ H Q ⟨g, st, R, h⟩ => tE.seq R h fun v x g1 st1 H1 G R1 r h => tE.seq R1 h fun w y g2 st2 H2 G2 R2 r2 h => ?_
  obtain ⟨z, hz, q⟩ := Res.of_out h
  exact ⟨g2, st2, σ, v, w, z, R2, r.up G2, r2, hz, q⟩
end
end Mq

namespace Mq
open PySem PySem.Spec PyProof.Rows L2 Mp
def rSlc (K : PySem.W.Frag) : V → Option Int → Option Int → Hp → VK → Prop := fun x lo hi H Q => ∃ g st σ a v, Rel K g st σ H ∧ RepV K g st σ a x ∧ slcV st a lo hi = some v ∧ Res K g st σ H v Q
theorem sIx_eq (n d : Nat) (o : Option Int) : HT.sIx n d o = Mp.sIx n d o := by cases o <;> rfl
theorem cut_rep {K : PySem.W.Frag} {F : Hp} {c : Nat → Addr} {len : Nat} {xs : List SV} {vs : List V} (r : RepL K F c len xs vs) (lo hi : Option Int) : RepL K F c len (cut xs lo hi) (cutV vs lo hi) := by
  unfold cut cutV
  rw [sIx_eq, sIx_eq, r.length]
  exact (r.drop _).take _
section
variable {X : Cx}
def rSlZ (K : PySem.W.Frag) : V → Option Int → Option Int → Hp → VK → Prop := fun x lo hi H Q => ∃ a xs, x = .ref a ∧ SqT K H a xs ∧
  (HT.sIx xs.length 0 lo = 0 ∧ HT.sIx xs.length xs.length hi = xs.length → Q (.ref a) H) ∧ (¬ (HT.sIx xs.length 0 lo = 0 ∧ HT.sIx xs.length xs.length hi = xs.length) → ∀ p o, H p = none → o.dict = none → Q (.ref p) (upd H p (.frz o (.tup (cutV xs lo hi)))))
theorem sl_tupZ {X : Cx} : SlR X (rSlZ X.K) := by
  intro pins s σ H x v vl vu lo hi sl Q I rx hs pl pu h
  obtain ⟨a, xs, rfl, hx, q1, q2⟩ := h
  cases rx
  obtain ⟨is, r, ht, hz⟩ := I.tuple hx
  have hl : is.toArray.size = xs.length := by rw [List.size_toArray]; exact r.length.symm
  refine ⟨"tuple", _, PyProof.Rows.slot_tuple_getitem.lookup, ht.typeIs, ?_⟩
  by_cases hw : HT.sIx xs.length 0 lo = 0 ∧ HT.sIx xs.length xs.length hi = xs.length
  · exact getItem_tuple_whole ht hs pl pu (by rw [hl]; exact hw) ⟨.ref a, H, I, rfl, q1 hw⟩
  · refine HT.getItem_tuple_cut ht hs pl pu (by rw [hl]; exact hw) ?_ (by rw [hl]; exact hz)
    rw [hl]
    exact newTup I ((r.drop (HT.sIx xs.length 0 lo)).take (HT.sIx xs.length xs.length hi - HT.sIx xs.length 0 lo)) (Nat.le_trans (cutV_length xs lo hi) hz) (q2 hw)
theorem sl_all : SlR X (rSlc X.K) := by
  intro pins s σ' H x v vl vu lo hi sl Q I rx hs pl pu h
  obtain ⟨g, st, σ, a, w, R, ra, hv, q⟩ := h
  have rest : (st.list a).map (fun xs => SV.lst (cut xs lo hi)) = some w →
      ∃ T id, typeLookup (.type T) "__getitem__" = pure (some (.builtin id)) ∧ s.TypeIs v T ∧ wpAny (model X.prog X.w) X.A (getItem v (.ref sl)) (EP X pins σ' Q) X.xe s := fun h => by
    cases e : st.list a with
    | none => rw [e] at h; cases h
    | some xs =>
      rw [e] at h
      cases h
      obtain ⟨p, vs, rfl, h1, r1⟩ := RepV.list R ra e
      exact sl_list pins s σ' H _ v vl vu lo hi sl Q I rx hs pl pu ⟨p, vs, rfl, SqL.of h1, fun z hz => Res.lst R q (cut_rep r1 lo hi) hz⟩
  cases a with
  | str t =>
    have hv : (if small t.length then some (SV.str (cut t lo hi)) else none) = some w := hv
    split at hv
    · rename_i hz
      cases hv
      obtain rfl := ra.str
      refine sl_str pins s σ' H _ v vl vu lo hi sl Q I rx hs pl pu ⟨_, rfl, by simpa [PySem.Str.length] using small_le hz, ?_⟩
      have e : cutS ⟨t.toArray⟩ lo hi = ⟨(cut t lo hi).toArray⟩ := by
        unfold cutS cut
        simp [sIx_eq, PySem.Str.length]
      rw [e]
      exact q.here R rfl
    · cases hv
  | tup xs =>
    have hv : some (SV.tup (cut xs lo hi)) = some w := hv
    cases hv
    have ra0 := ra
    obtain ⟨p, vs, rfl, h1, r1⟩ := RepV.tup R ra
    refine sl_tupZ pins s σ' H _ v vl vu lo hi sl Q I rx hs pl pu ⟨p, vs, rfl, h1, fun hw => ?_, fun _ z o hz => Res.tup R q (cut_rep r1 lo hi) hz⟩
    refine q.here R ?_
    have : cut xs lo hi = xs := by
      unfold cut
      rw [← sIx_eq, ← sIx_eq, r1.length, hw.1, hw.2, ← r1.length]
      simp
    rw [this]
    exact ra0
  | _ => exact rest hv
section
variable {E : ErT} {W : WX} {fa fb : Sta → Rs SV} {fl fh : Sta → Rs (Option Int)} {a b e : Expr} {lo hi : Option Expr} {pos p2 : Pos}
theorem m_o0 : PO X none (tO X.K E W fun s => .ok none s) := PO.imp po_none fun σ H Q ⟨g, st, R, h⟩ => Out.now R h
theorem m_o1 (ha : PE X e (tE X.K E W fa)) : PO X (some e) (tO X.K E W fun s => (asI (fa s)).bind fun i s => .ok (some i) s) :=
  PO.imp (po_some ha) fun σ H Q ⟨g, st, R, h⟩ => asI.seq R h fun i g1 st1 H1 G R1 h => ⟨i, rfl, Out.now R1 h⟩
theorem m_slc (ha : PE X a (tE X.K E W fa)) (hl : PO X lo (tO X.K E W fl)) (hh : PO X hi (tO X.K E W fh)) :
    PE X (.Subscript a (.Slice lo hi none p2) pos) (tE X.K E W fun s => (fa s).bind fun x s => (fl s).bind fun l s => (fh s).bind fun h s => Rs.of (slcV s x l h) s) := by
  refine PE.imp (pe_slice sl_all ha hl hh) fun σ H Q ⟨g, st, R, h⟩ => tE.seq R h fun v x g1 st1 H1 G R1 r h => tO.seq R1 h fun l g2 st2 H2 G2 R2 h => tO.seq R2 h fun u g3 st3 H3 G3 R3 h => ?_
  obtain ⟨z, hz, q⟩ := Res.of_out h
  exact ⟨g3, st3, σ, v, z, R3, (r.up G2).up G3, hz, q⟩
end
end
open PySem.W (alike alikeAll dataLt keyToksAll)
mutual
theorem pd_alk : ∀ (a b : SV) (n m : Nat), a.plainN n = true → b.plainN m = true → alike (toPD a) (toPD b) = a.alk b
  | .non, b, n, m, ha, hb => by cases b <;> first | (simp [SV.plainN] at hb; done) | simp [toPD, alike, SV.alk]
  | .bl _, b, n, m, ha, hb => by cases b <;> first | (simp [SV.plainN] at hb; done) | simp [toPD, alike, SV.alk]
  | .int _, b, n, m, ha, hb => by cases b <;> first | (simp [SV.plainN] at hb; done) | simp [toPD, alike, SV.alk]
  | .str _, b, n, m, ha, hb => by cases b <;> first | (simp [SV.plainN] at hb; done) | simp [toPD, alike, SV.alk]
  | .tup xs, b, n, m, ha, hb => by
    cases b <;> first | (simp [SV.plainN] at hb; done) | (simp only [toPD, alike, SV.alk]; done) | skip
    rename_i ys
    cases n with
    | zero => simp [SV.plainN] at ha
    | succ n =>
      cases m with
      | zero => simp [SV.plainN] at hb
      | succ m =>
        simp only [toPD, alike, SV.alk]
        exact pds_alk xs ys n m (by simpa [SV.plainN] using ha) (by simpa [SV.plainN] using hb)
  | .lst xs, b, n, m, ha, hb => by
    cases b <;> first | (simp [SV.plainN] at hb; done) | (simp only [toPD, alike, SV.alk]; done) | skip
    rename_i ys
    cases n with
    | zero => simp [SV.plainN] at ha
    | succ n =>
      cases m with
      | zero => simp [SV.plainN] at hb
      | succ m =>
        simp only [toPD, alike, SV.alk]
        exact pds_alk xs ys n m (by simpa [SV.plainN] using ha) (by simpa [SV.plainN] using hb)
  | .dct _ _, b, n, m, ha, hb => by simp [SV.plainN] at ha
  | .scr _, b, n, m, ha, hb => by simp [SV.plainN] at ha
  | .ref _, b, n, m, ha, hb => by simp [SV.plainN] at ha
  | .view _, b, n, m, ha, hb => by simp [SV.plainN] at ha
theorem pds_alk : ∀ (a b : List SV) (n m : Nat), SV.plainsN a n = true → SV.plainsN b m = true → alikeAll (toPDs a) (toPDs b) = SV.alks a b
  | [], b, n, m, ha, hb => by cases b <;> simp [toPDs, alikeAll, SV.alks]
  | x :: xs, [], n, m, ha, hb => by simp [toPDs, alikeAll, SV.alks]
  | x :: xs, y :: ys, n, m, ha, hb => by
    simp only [SV.plainsN, Bool.and_eq_true] at ha hb
    simp only [toPDs, alikeAll, SV.alks]
    rw [pd_alk x y n m ha.1 hb.1, pds_alk xs ys n m ha.2 hb.2]
end
mutual
theorem pd_lt : ∀ (a b : SV) (n m : Nat), a.plainN n = true → b.plainN m = true → a.alk b = true → dataLt (toPD a) (toPD b) = a.lt b
  | .non, b, n, m, ha, hb, h => by
    cases b <;> first | (simp [SV.alk] at h; done) | skip
    rfl
  | .bl x, b, n, m, ha, hb, h => by
    cases b <;> first | (simp [SV.alk] at h; done) | skip
    rename_i y
    simp only [toPD, SV.lt, PySem.W.dataLt_bool]
    cases x <;> cases y <;> rfl
  | .int _, b, n, m, ha, hb, h => by
    cases b <;> first | (simp [SV.alk] at h; done) | skip
    simp only [toPD, SV.lt, PySem.W.dataLt_int]
  | .str _, b, n, m, ha, hb, h => by
    cases b <;> first | (simp [SV.alk] at h; done) | skip
    simp only [toPD, SV.lt, PySem.W.dataLt_str]
  | .tup xs, b, n, m, ha, hb, h => by
    cases b <;> first | (simp [SV.alk] at h; done) | skip
    rename_i ys
    cases n with
    | zero => simp [SV.plainN] at ha
    | succ n =>
      cases m with
      | zero => simp [SV.plainN] at hb
      | succ m =>
        simp only [toPD, SV.lt, PySem.W.dataLt_tuple]
        exact pds_lt xs ys n m (by simpa [SV.plainN] using ha) (by simpa [SV.plainN] using hb) (by simpa [SV.alk] using h)
  | .lst xs, b, n, m, ha, hb, h => by
    cases b <;> first | (simp [SV.alk] at h; done) | skip
    rename_i ys
    cases n with
    | zero => simp [SV.plainN] at ha
    | succ n =>
      cases m with
      | zero => simp [SV.plainN] at hb
      | succ m =>
        simp only [toPD, SV.lt, PySem.W.dataLt_list]
        exact pds_lt xs ys n m (by simpa [SV.plainN] using ha) (by simpa [SV.plainN] using hb) (by simpa [SV.alk] using h)
  | .dct _ _, b, n, m, ha, hb, h => by simp [SV.plainN] at ha
  | .scr _, b, n, m, ha, hb, h => by simp [SV.plainN] at ha
  | .ref _, b, n, m, ha, hb, h => by simp [SV.plainN] at ha
  | .view _, b, n, m, ha, hb, h => by simp [SV.plainN] at ha
theorem pds_lt : ∀ (a b : List SV) (n m : Nat), SV.plainsN a n = true → SV.plainsN b m = true → SV.alks a b = true → PyProof.Rows.lexLt PyProof.Rows.itemOrd (keyToksAll (toPDs a)) (keyToksAll (toPDs b)) = SV.lts a b
  | [], [], n, m, ha, hb, h => by rfl
  | [], y :: ys, n, m, ha, hb, h => by
    have := PySem.W.firstLt_toks [] (toPDs (y :: ys)) (by simp [alikeAll])
    rw [toPDs] at this ⊢
    rw [toPDs, ← this]
    simp [SV.lts, PySem.SeqAt.firstLt]
  | x :: xs, [], n, m, ha, hb, h => by
    have := PySem.W.firstLt_toks (toPDs (x :: xs)) [] (by simp [alikeAll, toPDs])
    rw [toPDs] at this ⊢
    rw [toPDs, ← this]
    simp [SV.lts, PySem.SeqAt.firstLt]
  | x :: xs, y :: ys, n, m, ha, hb, h => by
    simp only [SV.plainsN, Bool.and_eq_true] at ha hb
    simp only [SV.alks, Bool.and_eq_true] at h
    have hal : alike (toPD x) (toPD y) = true := by rw [pd_alk x y n m ha.1 hb.1]; exact h.1
    have he := pd_eqv x y n m ha.1 hb.1
    simp only [toPDs, SV.lts]
    rw [PySem.W.dataLt_cons hal, he]
    by_cases e : x.eqv y = true
    · rw [if_pos e, if_pos e]; exact pds_lt xs ys n m ha.2 hb.2 h.2
    · rw [if_neg e, if_neg e]; exact pd_lt x y n m ha.1 hb.1 h.1
end
theorem toPDs_length : ∀ xs : List SV, (toPDs xs).length = xs.length
  | [] => rfl
  | x :: xs => by simp [toPDs, toPDs_length xs]
theorem toPDs_getD : ∀ (xs : List SV) (i : Nat) (h : i < xs.length), (toPDs xs).getD i .none = toPD xs[i]
  | [], i, h => by simp at h
  | x :: xs, 0, h => by simp [toPDs]
  | x :: xs, i + 1, h => by
    have := toPDs_getD xs i (by simpa using h)
    simpa [toPDs] using this
theorem mem_toPDs : ∀ {xs : List SV} {d : PyData}, d ∈ toPDs xs → ∃ x ∈ xs, d = toPD x
  | [], _, h => by simp [toPDs] at h
  | x :: xs, d, h => by
    simp only [toPDs, List.mem_cons] at h
    rcases h with h | h
    · exact ⟨x, by simp, h⟩
    · obtain ⟨y, h1, h2⟩ := mem_toPDs h
      exact ⟨y, by simp [h1], h2⟩
theorem plains_mem {n : Nat} : ∀ {xs : List SV}, SV.plainsN xs n = true → ∀ x ∈ xs, x.plainN n = true
  | y :: ys, h, x, hx => by
    simp only [SV.plainsN, Bool.and_eq_true] at h
    rcases List.mem_cons.mp hx with rfl | hx
    · exact h.1
    · exact plains_mem h.2 x hx
theorem allAlk_plains {xs : List SV} (h : allAlk xs = true) : SV.plainsN xs 50 = true ∧ ∀ x ∈ xs, ∀ y ∈ xs, x.alk y = true := by
  unfold allAlk SV.plains at h
  simp only [Bool.and_eq_true, List.all_eq_true] at h
  exact h
theorem allAlk_pd {xs : List SV} (h : allAlk xs = true) : ∀ d ∈ toPDs xs, ∀ d' ∈ toPDs xs, alike d d' = true := by
  obtain ⟨h1, h2⟩ := allAlk_plains h
  intro d hd d' hd'
  obtain ⟨x, hx, rfl⟩ := mem_toPDs hd
  obtain ⟨y, hy, rfl⟩ := mem_toPDs hd'
  rw [pd_alk x y 50 50 (plains_mem h1 x hx) (plains_mem h1 y hy)]
  exact h2 x hx y hy
end Mq

namespace Mq
open PySem PySem.Spec PyProof.Rows L2 Mp
open PySem.W (alike alikeAll dataLt minD maxD AlikeAll)
theorem RepV.seqK {K : PySem.W.Frag} {g : Gh} {st : Sta} {σ : L2.St} {H : Hp} {v : SV} {x : V} {xs : List SV} (R : Rel K g st σ H) (r : RepV K g st σ v x) (h : st.seq v = some xs) : ∃ k a vs, x = .ref a ∧ SqK k K H a vs ∧ RepL K g.F g.c st.heap.length xs vs := by
  obtain ⟨a, vs, e, s, r⟩ := RepV.seq R r h
  rcases s with s | s
  · exact ⟨.L, a, vs, e, s, r⟩
  · exact ⟨.T, a, vs, e, s, r⟩
theorem walksK {P : Program} {w : World} {A : Around} (k : Kd) (hh : A.handled = none) (I ax : Addr) (hne : ax ≠ I) (items : Array Value) :
    Walks P w A I [I, ax] [I] items.size (fun i v => items[i]? = some v) (fun i h => ItK k h I ax i ∧ SeqK k h ax items) := by
  cases k with
  | L => exact Walks.list hh I ax hne items
  | T => exact Walks.tuple hh I ax hne items
theorem repL_ints {K : PySem.W.Frag} {F : Hp} {c : Nat → Addr} {len : Nat} : ∀ {xs : List SV} {vs : List V} {ns : List Int}, RepL K F c len xs vs → Mp.intsV xs = some ns → vs = ns.map V.int
  | [], _, ns, r, h => by
    obtain rfl := (show _ = [] from r)
    cases h; rfl
  | x :: xs, _, ns, r, h => by
    obtain ⟨y, ys, rfl, r1, r2⟩ := r
    cases x <;> simp only [Mp.intsV, reduceCtorEq] at h
    rename_i i
    cases e : Mp.intsV xs with
    | none => rw [e] at h; cases h
    | some ms =>
      rw [e] at h
      cases h
      obtain rfl := (show y = .int i from r1)
      rw [repL_ints r2 e]; rfl
section
variable {X : Cx} {pins : List (Addr × Obj)} {σ' σ : L2.St} {H : Hp} {s : Shared}
theorem sum_seq {k : Kd} {a : Addr} {ns : List Int} {Q : VK} (hc : X.calm = true) (I : Inv X pins σ' H s) (hq : SqK k X.K H a (ns.map V.int)) (q : Q (.int ns.sum) H) :
    wpAny (model X.prog X.w) X.A (call (.builtin "sum") [.ref a]) (EP X pins σ' Q) X.xe s := by
  obtain ⟨its, rv, p, _⟩ := seqK_of I hq
  obtain ⟨xs, e⟩ := rv.ints.allInts.items
  have hn : numsOf (intItems xs).toList = ns := by rw [← e]; exact rv.ints.numsOf
  rw [nums_intItems] at hn
  rw [e] at p
  have hlt : a < s.heap.objs.size := let ⟨_, e⟩ := seqK_lt p; Heap.lt_size e
  have B := beginsK k a (intItems xs)
  refine PySem.call_sum_walkG (B.iter _ _ _ _ s _ p ?_)
  refine ⟨s.heap.objs.size, _, _, _, _, _, numAt xs, rfl, walksK (A := X.A.in1) k (I.ok.hd hc) s.heap.objs.size a (Nat.ne_of_lt hlt) (intItems xs), ⟨itK_new (Heap.get?_push_size _ B.free), ?_⟩, ?_, (fun _ _ => intItems_at), fun h' tk t' hk => ?_⟩
  · cases k with
    | L => exact Heap.IsList.at p fun o e => Heap.get?_push_of_some _ e
    | T => exact Heap.IsTuple.at p fun o e => Heap.get?_push_of_some _ e
  · intro b hb
    have e' : b = s.heap.objs.size ∨ b = a := by simpa using hb
    show b < (s.heap.push _).objs.size
    rw [Heap.size_push]
    rcases e' with z | z
    · rw [z]; exact Nat.lt_succ_self _
    · rw [z]; exact Nat.lt_succ_of_lt hlt
  · refine ⟨.int ns.sum, H, I.kept (h' := h') (t' := tk) (fun b o e => ?_), ?_, q⟩
    · exact hk b o (by simpa using Nat.ne_of_lt (Heap.lt_size e)) (Heap.get?_push_of_some _ e)
    · refine ⟨t', ?_⟩
      have : preSum (numAt xs) (intItems xs).size = ns.sum := by
        rw [preSum_eq, List.take_of_length_le (by simp [intItems]), hn]
      rw [this]
mutual
theorem pd_inj : ∀ (a b : SV) (n m : Nat), a.plainN n = true → b.plainN m = true → toPD a = toPD b → a = b
  | .non, b, n, m, ha, hb, e => by cases b <;> first | rfl | (simp [SV.plainN] at hb; done) | (simp [toPD] at e)
  | .bl _, b, n, m, ha, hb, e => by cases b <;> first | (simp [toPD] at e; rw [e]; done) | (simp [toPD] at e; done)
  | .int _, b, n, m, ha, hb, e => by cases b <;> first | (simp [toPD] at e; rw [e]; done) | (simp [toPD] at e; done)
  | .str s, b, n, m, ha, hb, e => by
    cases b <;> first | (simp [toPD] at e; done) | skip
    rename_i t
    simp only [toPD, PyData.str.injEq, PySem.Str.mk.injEq] at e
    have : s.toArray.toList = t.toArray.toList := by rw [e]
    have : s = t := by simpa using this
    rw [this]
  | .tup xs, b, n, m, ha, hb, e => by
    cases b <;> first | (simp [toPD] at e; done) | skip
    rename_i ys
    cases n with
    | zero => simp [SV.plainN] at ha
    | succ n =>
      cases m with
      | zero => simp [SV.plainN] at hb
      | succ m => rw [pds_inj xs ys n m (by simpa [SV.plainN] using ha) (by simpa [SV.plainN] using hb) (by simpa [toPD] using e)]
  | .lst xs, b, n, m, ha, hb, e => by
    cases b <;> first | (simp [toPD] at e; done) | skip
    rename_i ys
    cases n with
    | zero => simp [SV.plainN] at ha
    | succ n =>
      cases m with
      | zero => simp [SV.plainN] at hb
      | succ m => rw [pds_inj xs ys n m (by simpa [SV.plainN] using ha) (by simpa [SV.plainN] using hb) (by simpa [toPD] using e)]
  | .dct _ _, b, n, m, ha, hb, e => by simp [SV.plainN] at ha
  | .scr _, b, n, m, ha, hb, e => by simp [SV.plainN] at ha
  | .ref _, b, n, m, ha, hb, e => by simp [SV.plainN] at ha
  | .view _, b, n, m, ha, hb, e => by simp [SV.plainN] at ha
theorem pds_inj : ∀ (a b : List SV) (n m : Nat), SV.plainsN a n = true → SV.plainsN b m = true → toPDs a = toPDs b → a = b
  | [], [], n, m, ha, hb, e => rfl
  | [], _ :: _, n, m, ha, hb, e => by simp [toPDs] at e
  | _ :: _, [], n, m, ha, hb, e => by simp [toPDs] at e
  | x :: xs, y :: ys, n, m, ha, hb, e => by
    simp only [SV.plainsN, Bool.and_eq_true] at ha hb
    simp only [toPDs, List.cons.injEq] at e
    rw [pd_inj x y n m ha.1 hb.1 e.1, pds_inj xs ys n m ha.2 hb.2 e.2]
end
theorem minL_mem : ∀ (m : SV) (xs : List SV), minL m xs = m ∨ minL m xs ∈ xs
  | m, [] => .inl rfl
  | m, x :: xs => by
    unfold minL
    rcases minL_mem (if x.lt m then x else m) xs with h | h
    · split at h
      · rename_i c; rw [if_pos c]; exact .inr (by rw [h]; simp)
      · rename_i c; rw [if_neg c]; exact .inl h
    · exact .inr (List.mem_cons_of_mem _ h)
theorem maxL_mem : ∀ (m : SV) (xs : List SV), maxL m xs = m ∨ maxL m xs ∈ xs
  | m, [] => .inl rfl
  | m, x :: xs => by
    unfold maxL
    rcases maxL_mem (if m.lt x then x else m) xs with h | h
    · split at h
      · rename_i c; rw [if_pos c]; exact .inr (by rw [h]; simp)
      · rename_i c; rw [if_neg c]; exact .inl h
    · exact .inr (List.mem_cons_of_mem _ h)
theorem minD_pd {S : List SV} (hS : allAlk S = true) : ∀ (m : SV) (xs : List SV), m ∈ S → (∀ x ∈ xs, x ∈ S) → minD (toPD m) (toPDs xs) = toPD (minL m xs)
  | m, [], hm, hx => by simp [minD, toPDs, minL]
  | m, x :: xs, hm, hx => by
    obtain ⟨p, al⟩ := allAlk_plains hS
    have h1 : x ∈ S := hx x (by simp)
    have e : dataLt (toPD x) (toPD m) = x.lt m := pd_lt x m 50 50 (plains_mem p x h1) (plains_mem p m hm) (al x h1 m hm)
    have ih := minD_pd hS (if x.lt m then x else m) xs (by split <;> assumption) (fun y hy => hx y (List.mem_cons_of_mem _ hy))
    unfold minD at ih ⊢
    simp only [toPDs, List.foldl_cons, minL]
    rw [← ih, e]
    split <;> rfl
theorem maxD_pd {S : List SV} (hS : allAlk S = true) : ∀ (m : SV) (xs : List SV), m ∈ S → (∀ x ∈ xs, x ∈ S) → maxD (toPD m) (toPDs xs) = toPD (maxL m xs)
  | m, [], hm, hx => by simp [maxD, toPDs, maxL]
  | m, x :: xs, hm, hx => by
    obtain ⟨p, al⟩ := allAlk_plains hS
    have h1 : x ∈ S := hx x (by simp)
    have e : dataLt (toPD m) (toPD x) = m.lt x := pd_lt m x 50 50 (plains_mem p m hm) (plains_mem p x h1) (al m hm x h1)
    have ih := maxD_pd hS (if m.lt x then x else m) xs (by split <;> assumption) (fun y hy => hx y (List.mem_cons_of_mem _ hy))
    unfold maxD at ih ⊢
    simp only [toPDs, List.foldl_cons, maxL]
    rw [← ih, e]
    split <;> rfl
theorem alike_none {x : SV} (h : x.alk .non = true) : x = .non := by cases x <;> first | rfl | (simp [SV.alk] at h)
theorem notNone {m : SV} {r : List SV} (h : allAlk (m :: r) = true) (hn : m.isNone = false) : ∀ d ∈ toPDs (m :: r), d ≠ .none := by
  obtain ⟨p, al⟩ := allAlk_plains h
  intro d hd e
  obtain ⟨x, hx, rfl⟩ := mem_toPDs hd
  have px := plains_mem p x hx
  have : x = .non := by cases x <;> first | rfl | (simp [toPD] at e; done) | (simp [SV.plainN] at px)
  subst this
  have := alike_none (al m (by simp) _ hx)
  subst this
  simp [SV.isNone] at hn
/-- the item of a sequence that reads as a datum of it -/
theorem item_of {g : Gh} {xs : List SV} {vs : List V} {its : List Value} {h h' : Heap} {as bs : List Addr} {i : Nat} {v : Value} {w : SV} {len : Nat} (hS : allAlk xs = true) (r : RepL X.K g.F g.c len xs vs) (rv : Vals vs its) (rs : ReadsAll h its (toPDs xs) as)
    (hv : its.toArray[i]? = some v) (hk : ∀ b o, h.get? b = some o → h'.get? b = some o) (hr : Reads h' v (toPD w) bs) (hw : w ∈ xs) : ∃ z, RelV z v ∧ Rep X.K g.F g.c len w z := by
  obtain ⟨p, al⟩ := allAlk_plains hS
  have hv' : its[i]? = some v := by simpa using hv
  obtain ⟨bs', r1, hi, _, _⟩ := PySem.W.readsAll_at rs i v hv'
  have hlen : (toPDs xs).length = xs.length := toPDs_length xs
  have hx : xs[i]? = some xs[i] := List.getElem?_eq_getElem (by omega)
  have ed : (toPDs xs).getD i .none = toPD xs[i] := toPDs_getD xs i (by omega)
  rw [ed] at r1
  have hm : xs[i] ∈ xs := List.getElem_mem _
  have e : toPD xs[i] = toPD w := by
    refine PySem.W.alike_unique _ _ v _ _ ?_ (Reads.keeps hk r1) hr
    rw [pd_alk _ _ 50 50 (plains_mem p _ hm) (plains_mem p _ hw)]
    exact al _ hm _ hw
  have e2 := pd_inj _ _ 50 50 (plains_mem p _ hm) (plains_mem p _ hw) e
  obtain ⟨z, h1, h2⟩ := r.get hx
  obtain ⟨u, h3, h4⟩ := rv.get h1
  have : u = v := by rw [hv'] at h3; exact (Option.some.inj h3).symm
  subst this
  exact ⟨z, h4, by rw [← e2]; exact h2⟩
end
end Mq

namespace Mq
open PySem PySem.Spec PyProof.Rows L2 Mp
open PySem.W (alike alikeAll dataLt minD maxD AlikeAll)
section
variable {X : Cx} {pins : List (Addr × Obj)} {σ' σ : L2.St} {H : Hp} {s : Shared} {g : Gh} {st : Sta}
theorem best_ready {k : Kd} {a : Addr} {m : SV} {r : List SV} {vs : List V} (I : Inv X pins σ' H s) (R : Rel X.K g st σ H) (hq : SqK k X.K H a vs) (rl : RepL X.K g.F g.c st.heap.length (m :: r) vs) (hS : allAlk (m :: r) = true) :
    ∃ its as, Vals vs its ∧ SeqK k s.heap a its.toArray ∧ ReadsAll s.heap its.toArray.toList (toPD m :: toPDs r) as ∧ PyData.depthAll (toPD m :: toPDs r) ≤ 50 := by
  obtain ⟨its, rv, p, _⟩ := seqK_of I hq
  obtain ⟨hp, _⟩ := allAlk_plains hS
  have dp := RepL.dp (H := H) R.sub _ _ 50 rl hp
  obtain ⟨as, rs⟩ := Dp.readsAll I _ _ its dp rv
  exact ⟨its, as, rv, p, rs, (pds_lay _ _ hp).2⟩
theorem best_alike {m : SV} {r : List SV} (hS : allAlk (m :: r) = true) (hn : m.isNone = false) : AlikeAll (toPD m :: toPDs r) := ⟨allAlk_pd hS, notNone hS hn⟩
theorem min_seq {k : Kd} {a : Addr} {m : SV} {r : List SV} {vs : List V} {Q : VK} (hc : X.calm = true) (hu : X.A.units + 65 < cLine) (I : Inv X pins σ' H s) (R : Rel X.K g st σ H) (hq : SqK k X.K H a vs) (rl : RepL X.K g.F g.c st.heap.length (m :: r) vs)
    (hS : allAlk (m :: r) = true) (hn : m.isNone = false) (q : ∀ z, Rep X.K g.F g.c st.heap.length (minL m r) z → Q z H) : wpAny (model X.prog X.w) X.A (call (.builtin "min") [.ref a]) (EP X pins σ' Q) X.xe s := by
  obtain ⟨its, as, rv, p, rs, hd⟩ := best_ready I R hq rl hS
  have fin : ∀ (i : Nat) v h' tk bs, its.toArray[i]? = some v → Reads h' v (minD (toPD m) (toPDs r)) bs → (∀ b o, s.heap.get? b = some o → h'.get? b = some o) → EP X pins σ' Q v { s with heap := h', toks := tk } := fun i v h' tk bs hv hr hk => by
    rw [minD_pd hS m r (by simp) (fun x hx => by simp [hx])] at hr
    obtain ⟨z, h1, h2⟩ := item_of hS rl rv (by simpa [toPDs] using rs) hv hk hr (List.mem_cons.mpr (minL_mem m r))
    exact ⟨z, H, I.kept hk, h1, q z h2⟩
  cases k with
  | L => exact PySem.W.min_list_data (I.ok.hd hc) p rs (best_alike hS hn) (by omega) fin
  | T => exact PySem.W.min_tuple_data (I.ok.hd hc) p rs (best_alike hS hn) (by omega) fin
theorem max_seq {k : Kd} {a : Addr} {m : SV} {r : List SV} {vs : List V} {Q : VK} (hc : X.calm = true) (hu : X.A.units + 65 < cLine) (I : Inv X pins σ' H s) (R : Rel X.K g st σ H) (hq : SqK k X.K H a vs) (rl : RepL X.K g.F g.c st.heap.length (m :: r) vs)
    (hS : allAlk (m :: r) = true) (hn : m.isNone = false) (q : ∀ z, Rep X.K g.F g.c st.heap.length (maxL m r) z → Q z H) : wpAny (model X.prog X.w) X.A (call (.builtin "max") [.ref a]) (EP X pins σ' Q) X.xe s := by
  obtain ⟨its, as, rv, p, rs, hd⟩ := best_ready I R hq rl hS
  have fin : ∀ (i : Nat) v h' tk bs, its.toArray[i]? = some v → Reads h' v (maxD (toPD m) (toPDs r)) bs → (∀ b o, s.heap.get? b = some o → h'.get? b = some o) → EP X pins σ' Q v { s with heap := h', toks := tk } := fun i v h' tk bs hv hr hk => by
    rw [maxD_pd hS m r (by simp) (fun x hx => by simp [hx])] at hr
    obtain ⟨z, h1, h2⟩ := item_of hS rl rv (by simpa [toPDs] using rs) hv hk hr (List.mem_cons.mpr (maxL_mem m r))
    exact ⟨z, H, I.kept hk, h1, q z h2⟩
  cases k with
  | L => exact PySem.W.max_list_data (I.ok.hd hc) p rs (best_alike hS hn) (by omega) fin
  | T => exact PySem.W.max_tuple_data (I.ok.hd hc) p rs (best_alike hS hn) (by omega) fin
end
def bltF : Blt → Value
  | .len => .builtin "len" | .tuple => .type "tuple" | .sum => .builtin "sum" | .max => .builtin "max" | .min => .builtin "min" | .max2 => .builtin "max" | .max3 => .builtin "max" | .min2 => .builtin "min"
  | .abs => .builtin "abs" | .int => .type "int" | .str => .type "str" | .bool => .type "bool"
def rBlt (K : PySem.W.Frag) (b : Blt) : List V → Hp → VK → Prop := fun xs H Q => ∃ g st σ vs v, Rel K g st σ H ∧ RepVs K g st σ vs xs ∧ bltV st b vs = some v ∧ Res K g st σ H v Q
theorem repVs1 {K : PySem.W.Frag} {g : Gh} {st : Sta} {σ : L2.St} {a : SV} {xs : List V} (r : RepVs K g st σ [a] xs) : ∃ x, xs = [x] ∧ RepV K g st σ a x := by
  obtain ⟨y, ys, rfl, r1, rfl⟩ := r
  exact ⟨y, rfl, r1⟩
theorem repVs2 {K : PySem.W.Frag} {g : Gh} {st : Sta} {σ : L2.St} {a b : SV} {xs : List V} (r : RepVs K g st σ [a, b] xs) : ∃ x y, xs = [x, y] ∧ RepV K g st σ a x ∧ RepV K g st σ b y := by
  obtain ⟨y, ys, rfl, r1, z, zs, rfl, r2, rfl⟩ := r
  exact ⟨y, z, rfl, r1, r2⟩
theorem repVs3 {K : PySem.W.Frag} {g : Gh} {st : Sta} {σ : L2.St} {a b c : SV} {xs : List V} (r : RepVs K g st σ [a, b, c] xs) : ∃ x y z, xs = [x, y, z] ∧ RepV K g st σ a x ∧ RepV K g st σ b y ∧ RepV K g st σ c z := by
  obtain ⟨y, ys, rfl, r1, z, zs, rfl, r2, w, ws, rfl, r3, rfl⟩ := r
  exact ⟨y, z, w, rfl, r1, r2, r3⟩
section
variable {X : Cx}
theorem call_len_nx {p : Addr} {xs : List (NestedKey × Addr × Value)} {pins : List (Addr × Obj)} {s : Shared} {σ : L2.St} {H : Hp} {us : List Value} {Q : VK} (I : Inv X pins σ H s) (r : Vals [V.ref p] us) (hp : H p = some (nxO p xs)) (hd : (p == sysModules) = false) (hz : xs.length ≤ sizeLine) (q : Q (.int xs.length) H) :
    wpAny (model X.prog X.w) X.A (call (.builtin "len") us) (EP X pins σ Q) X.xe s := by
  obtain ⟨u, rfl, rx⟩ := vals1 r
  obtain rfl : u = .ref p := rx
  obtain ⟨⟨P, w, o, es, ep, h1, h2, h3, h4⟩, _, _⟩ := I.hok p _ hp
  have hl : es.size = xs.length := by rw [← Array.length_toList, h4, List.length_map]
  have hr : s.heap.DictRaw p es ep := ⟨o, h1, h2, h3⟩
  refine PyProof.Rows.call_len_slot (n := es.size) (T := "dict") ⟨o, h1, h2.1⟩ PySem.F.slot_dict_len (fun Q' hq => call_len_raw hd hr hq) (by omega) (by rw [sizeLine_eq] at hz; omega) ?_
  rw [hl]
  exact ⟨.int xs.length, H, I.tok _, ⟨_, rfl⟩, q⟩
theorem cr_len : CallR X (.builtin "len") (rBlt X.K .len) := by
  intro pins s σ' H xs us Q I r h
  obtain ⟨g, st, σ, vs, v, R, rr, hv, q⟩ := h
  have seqCase : ∀ {a : SV} {x : V}, xs = [x] → RepV X.K g st σ a x → (st.seq a).map (fun xs => SV.int xs.length) = some v → wpAny (model X.prog X.w) X.A (call (.builtin "len") us) (EP X pins σ' Q) X.xe s := fun {a x} ex ra h => by
    cases e : st.seq a with
    | none => rw [e] at h; cases h
    | some ys =>
      rw [e] at h; cases h
      obtain ⟨p, ws, rfl, hq, rl⟩ := RepV.seq R ra e
      exact call_len_seq pins s σ' H _ us Q I r ⟨p, ws, ex, hq, by rw [← rl.length]; exact q.here R rfl⟩
  unfold bltV at hv
  split at hv <;> first | cases hv | skip
  all_goals first | contradiction | skip
  · rename_i t _
    obtain ⟨x, rfl, ra⟩ := repVs1 rr
    split at hv
    · rename_i hz
      cases hv
      obtain rfl := ra.str
      exact call_len_str pins s σ' H _ us Q I r ⟨_, rfl, by simpa [PySem.Str.length] using small_le hz, by simpa [PySem.Str.length] using q.here R rfl⟩
    · cases hv
  · rename_i a _ _
    obtain ⟨x, rfl, ra⟩ := repVs1 rr
    cases e : st.dict a with
    | none => rw [e] at hv; exact seqCase rfl ra hv
    | some kw =>
      obtain ⟨ks, ws⟩ := kw
      rw [e] at hv; cases hv
      obtain ⟨p, o, rfl, ho, d⟩ := RepV.dict R ra e
      rcases d with ⟨kvs, rfl, h1, _⟩ | ⟨b, xs, vs, eo, h1, f, _⟩
      · have hl : kvs.length = ks.length := by simpa using (congrArg List.length h1).symm
        exact call_lenD pins s σ' H _ us Q I r ⟨p, kvs, rfl, ho, by rw [hl]; exact q.here R rfl⟩
      · have hb : b = p := nx_here (I.hok p _ (by rw [ho, eo]))
        subst hb eo
        have hl : xs.length = ks.length := by simpa using (congrArg List.length h1).symm
        exact call_len_nx I r ho f.2.2.1 f.2.1 (by rw [hl]; exact q.here R rfl)
/-- tuple(xs) -/
theorem call_tupleZ : CallR X (.type "tuple") (fun xs H Q => ∃ p ys, xs = [.ref p] ∧ ((SqL X.K H p ys ∧ ∀ l o, H l = none → o.dict = none → Q (.ref l) (upd H l (.frz o (.tup ys)))) ∨ (SqT X.K H p ys ∧ Q (.ref p) H))) := by
  intro pins s σ H xs us Q I r h
  obtain ⟨p, ys, rfl, h⟩ := h
  rcases h with ⟨hq, q⟩ | ⟨hq, q⟩
  · obtain ⟨u, rfl, rx⟩ := vals1 r
    cases rx
    obtain ⟨is, r', pl, hz⟩ := I.list hq
    have hl := r'.length
    exact call_tuple_list pl.isList (fun h' kp => newTup (I.kept (t' := s.toks) kp) r' hz q) (by simp only [List.size_toArray] <;> omega)
  · exact call_tuple_of pins s σ H _ us Q I r ⟨p, ys, rfl, .inr ⟨hq, q⟩⟩
theorem cr_tuple : CallR X (.type "tuple") (rBlt X.K .tuple) := by
  intro pins s σ' H xs us Q I r h
  obtain ⟨g, st, σ, vs, v, R, rr, hv, q⟩ := h
  unfold bltV at hv
  split at hv <;> first | cases hv | skip
  all_goals first | contradiction | skip
  rename_i a hns _
  obtain ⟨x, rfl, ra⟩ := repVs1 rr
  cases e : st.seq a with
  | none => rw [e] at hv; cases hv
  | some ys =>
    rw [e] at hv; cases hv
    have ra0 := ra
    cases a with
    | scr zs => exact absurd rfl (hns zs)
    | tup zs =>
      simp only [Sta.seq, Option.some.injEq] at e
      subst e
      obtain ⟨p, ws, rfl, h1, rl⟩ := RepV.tup R ra
      exact call_tupleZ pins s σ' H _ us Q I r ⟨p, ws, rfl, .inr ⟨h1, q.here R ra0⟩⟩
    | _ =>
      obtain ⟨p, ws, rfl, h1, rl⟩ := RepV.list (xs := ys) R ra (by simpa [Sta.seq, Sta.list] using e)
      exact call_tupleZ pins s σ' H _ us Q I r ⟨p, ws, rfl, .inl ⟨SqL.of h1, fun z o hz => Res.tup R q rl hz⟩⟩
theorem cr_sum1 (hc : X.calm = true) : CallR X (.builtin "sum") (rBlt X.K .sum) := by
  intro pins s σ' H xs us Q I r h
  obtain ⟨g, st, σ, vs, v, R, rr, hv, q⟩ := h
  unfold bltV at hv
  split at hv <;> first | cases hv | skip
  all_goals first | contradiction | skip
  rename_i a _
  obtain ⟨x, rfl, ra⟩ := repVs1 rr
  cases e : st.seq a with
  | none => rw [e] at hv; cases hv
  | some ys =>
    rw [e] at hv
    simp only [Option.bind_some] at hv
    cases e2 : Mp.intsV ys with
    | none => rw [e2] at hv; cases hv
    | some ns =>
      rw [e2] at hv; cases hv
      obtain ⟨k, p, ws, rfl, hq, rl⟩ := RepV.seqK R ra e
      obtain rfl := repL_ints rl e2
      obtain ⟨u, rfl, ru⟩ := vals1 r
      cases ru
      exact sum_seq hc I hq (q.here R rfl)
theorem cr_max1 (hc : X.calm = true) (hu : X.A.units + 65 < cLine) : CallR X (.builtin "max") (rBlt X.K .max) := by
  intro pins s σ' H xs us Q I r h
  obtain ⟨g, st, σ, vs, v, R, rr, hv, q⟩ := h
  unfold bltV at hv
  split at hv <;> first | cases hv | skip
  all_goals first | contradiction | skip
  rename_i a _
  obtain ⟨x, rfl, ra⟩ := repVs1 rr
  cases e : st.seq a with
  | none => rw [e] at hv; cases hv
  | some ys =>
    rw [e] at hv
    simp only [Option.bind_some] at hv
    cases ys with
    | nil => cases hv
    | cons m rest =>
      simp only at hv
      split at hv
      · rename_i hS
        simp only [Bool.and_eq_true, Bool.not_eq_true'] at hS
        cases hv
        obtain ⟨k, p, ws, rfl, hq, rl⟩ := RepV.seqK R ra e
        obtain ⟨u, rfl, ru⟩ := vals1 r
        cases ru
        exact max_seq hc hu I R hq rl hS.1 hS.2 fun z hz => q.here R hz
      · cases hv
theorem cr_min1 (hc : X.calm = true) (hu : X.A.units + 65 < cLine) : CallR X (.builtin "min") (rBlt X.K .min) := by
  intro pins s σ' H xs us Q I r h
  obtain ⟨g, st, σ, vs, v, R, rr, hv, q⟩ := h
  unfold bltV at hv
  split at hv <;> first | cases hv | skip
  all_goals first | contradiction | skip
  rename_i a _
  obtain ⟨x, rfl, ra⟩ := repVs1 rr
  cases e : st.seq a with
  | none => rw [e] at hv; cases hv
  | some ys =>
    rw [e] at hv
    simp only [Option.bind_some] at hv
    cases ys with
    | nil => cases hv
    | cons m rest =>
      simp only at hv
      split at hv
      · rename_i hS
        simp only [Bool.and_eq_true, Bool.not_eq_true'] at hS
        cases hv
        obtain ⟨k, p, ws, rfl, hq, rl⟩ := RepV.seqK R ra e
        obtain ⟨u, rfl, ru⟩ := vals1 r
        cases ru
        exact min_seq hc hu I R hq rl hS.1 hS.2 fun z hz => q.here R hz
      · cases hv
theorem cr_max2 (hc : X.calm = true) : CallR X (.builtin "max") (rBlt X.K .max2) := by
  intro pins s σ' H xs us Q I r h
  obtain ⟨g, st, σ, vs, v, R, rr, hv, q⟩ := h
  unfold bltV at hv
  split at hv <;> first | cases hv | skip
  all_goals first | contradiction | skip
  obtain ⟨x, y, rfl, ra, rb⟩ := repVs2 rr
  obtain rfl := ra.int
  obtain rfl := rb.int
  exact call_max2 hc pins s σ' H _ us Q I r ⟨_, _, rfl, q.here R rfl⟩
theorem cr_min2 (hc : X.calm = true) : CallR X (.builtin "min") (rBlt X.K .min2) := by
  intro pins s σ' H xs us Q I r h
  obtain ⟨g, st, σ, vs, v, R, rr, hv, q⟩ := h
  unfold bltV at hv
  split at hv <;> first | cases hv | skip
  all_goals first | contradiction | skip
  obtain ⟨x, y, rfl, ra, rb⟩ := repVs2 rr
  obtain rfl := ra.int
  obtain rfl := rb.int
  exact call_min2 hc pins s σ' H _ us Q I r ⟨_, _, rfl, q.here R rfl⟩
theorem cr_abs : CallR X (.builtin "abs") (rBlt X.K .abs) := by
  intro pins s σ' H xs us Q I r h
  obtain ⟨g, st, σ, vs, v, R, rr, hv, q⟩ := h
  unfold bltV at hv
  split at hv <;> first | cases hv | skip
  all_goals first | contradiction | skip
  obtain ⟨x, rfl, ra⟩ := repVs1 rr
  obtain rfl := ra.int
  exact call_abs pins s σ' H _ us Q I r ⟨_, rfl, q.here R rfl⟩
theorem cr_bool : CallR X (.type "bool") (rBlt X.K .bool) := by
  intro pins s σ' H xs us Q I r h
  obtain ⟨g, st, σ, vs, v, R, rr, hv, q⟩ := h
  unfold bltV at hv
  split at hv <;> first | cases hv | skip
  all_goals first | contradiction | skip
  · obtain ⟨x, rfl, ra⟩ := repVs1 rr
    obtain rfl := ra.bl
    exact call_bool1 pins s σ' H _ us Q I r (.inr ⟨_, rfl, q.here R rfl⟩)
  · obtain ⟨x, rfl, ra⟩ := repVs1 rr
    obtain rfl := ra.int
    exact call_bool1 pins s σ' H _ us Q I r (.inl ⟨_, rfl, q.here R rfl⟩)
end
end Mq

namespace Mq
open PySem PySem.Spec PyProof.Rows L2 Mp
section
variable {X : Cx}
theorem intText_digit (c : Nat) (h1 : 48 ≤ c) (h2 : c ≤ 57) : PySem.intText? ⟨[c].toArray⟩ = some ((c : Int) - 48) := by
  have : c = 48 ∨ c = 49 ∨ c = 50 ∨ c = 51 ∨ c = 52 ∨ c = 53 ∨ c = 54 ∨ c = 55 ∨ c = 56 ∨ c = 57 := by omega
  rcases this with rfl | rfl | rfl | rfl | rfl | rfl | rfl | rfl | rfl | rfl <;> decide +kernel
theorem cr_int : CallR X (.type "int") (rBlt X.K .int) := by
  intro pins s σ' H xs us Q I r h
  obtain ⟨g, st, σ, vs, v, R, rr, hv, q⟩ := h
  unfold bltV at hv
  split at hv <;> first | cases hv | skip
  all_goals first | contradiction | skip
  · obtain ⟨x, rfl, ra⟩ := repVs1 rr
    obtain rfl := ra.int
    exact call_int1 pins s σ' H _ us Q I r (.inl ⟨_, rfl, q.here R rfl⟩)
  · rename_i t _
    obtain ⟨x, rfl, ra⟩ := repVs1 rr
    obtain rfl := ra.str
    unfold digit? at hv
    split at hv
    · rename_i c
      split at hv
      · rename_i hc
        simp only [Bool.and_eq_true, decide_eq_true_eq] at hc
        cases hv
        exact call_int_str pins s σ' H _ us Q I r ⟨_, _, rfl, intText_digit c hc.1 hc.2, by show 1 ≤ 640; decide, q.here R rfl⟩
      · cases hv
    · cases hv
theorem cr_max3 (hc : X.calm = true) : CallR X (.builtin "max") (rBlt X.K .max3) := by
  intro pins s σ' H xs us Q I r h
  obtain ⟨g, st, σ, vs, v, R, rr, hv, q⟩ := h
  unfold bltV at hv
  split at hv <;> first | cases hv | skip
  all_goals first | contradiction | skip
  rename_i i j k _
  obtain ⟨x, y, z, rfl, ra, rb, rc⟩ := repVs3 rr
  obtain rfl := ra.int
  obtain rfl := rb.int
  obtain rfl := rc.int
  refine call_max3Nu hc pins s σ' H _ us Q I r ⟨_, _, _, .int (if (if i < j then j else i) < k then k else (if i < j then j else i)), rfl, ?_, ?_⟩
  · simp only [nuMax3, nuMax2, nuLt, nuCB, Option.map_some, Option.bind_some, decide_eq_true_eq]
    split <;> simp [nuCB] <;> split <;> rfl
  · have e : maxL (.int i) [.int j, .int k] = .int (if (if i < j then j else i) < k then k else (if i < j then j else i)) := by
      have e2 : ∀ a b : Int, (if (SV.int a).lt (.int b) = true then SV.int b else SV.int a) = .int (if a < b then b else a) := fun a b => by
        simp only [SV.lt, decide_eq_true_eq]; split <;> rfl
      simp only [maxL, e2]
    rw [e] at q
    exact q.here R rfl
theorem cr_blt {b : Blt} (hc : X.calm = true) (hu : X.A.units + 65 < cLine) (hb : b ≠ .str) : CallR X (bltF b) (rBlt X.K b) := by
  cases b with
  | len => exact cr_len
  | tuple => exact cr_tuple
  | sum => exact cr_sum1 hc
  | max => exact cr_max1 hc hu
  | min => exact cr_min1 hc hu
  | max2 => exact cr_max2 hc
  | max3 => exact cr_max3 hc
  | min2 => exact cr_min2 hc
  | abs => exact cr_abs
  | int => exact cr_int
  | str => exact absurd rfl hb
  | bool => exact cr_bool
end
def tyC : Ty → String
  | .int => "int" | .bool => "bool" | .tup => "tuple" | .lst => "list" | .str => "str" | .cls _ => ""
theorem kit_sv {v : SV} {t : Ty} (hv : isiOk v = true) (ht : Ty.plain t = true) : kitB (tyS v) (tyC t) = some (isTy t v) := by
  cases t <;> first | (simp [Ty.plain] at ht; done) | skip
  all_goals cases v <;> first | (simp [isiOk] at hv; done) | (simp only [tyS, tyC, isTy]; decide +kernel)
section
variable {X : Cx} {E : ErT} {W : WX} {fa fb : Sta → Rs SV} {fs : Sta → Rs (List SV)} {a b e : Expr} {es : List Expr} {pos p p2 : Pos} {x : Str}
theorem blt_imp {bb : Blt} {r : List V → Hp → VK → Prop} (hr : r = rBlt X.K bb) {σ : L2.St} {H : Hp} {Q : VK} (h : tE X.K E W (fun s => (fs s).bind fun vs s => Rs.of (bltV s bb vs) s) σ H Q) : tCB r (tA X.K E W fs) σ H Q := by
  subst hr
  obtain ⟨g, st, R, h⟩ := h
  refine tA.seq R h fun vs xs g1 st1 H1 G R1 r h => ?_
  obtain ⟨v, hv, q⟩ := Res.of_out h
  exact ⟨g1, st1, σ, vs, v, R1, r, hv, q⟩
theorem m_blt {bb : Blt} (hc : X.calm = true) (hu : X.A.units + 65 < cLine) (hb : bb ≠ .str) (hg : Gl X x) (hm : X.mg x = none) (hv : bootBuiltins x = some (bltF bb)) (ha : PA X (e :: es) (tA X.K E W fs))
    (hn : x ≠ "__name__") (hdb : (x == ("__debug__" : Str)) = false) (he : starEach (e :: es) X.env = (false, eval e X.env) :: starEach es X.env) (hpl : (backTo pos (starEach es X.env)).any (·.1) = false) :
    PE X (.Call (.Name x p) (e :: es) [] pos) (tE X.K E W fun s => (fs s).bind fun vs s => Rs.of (bltV s bb vs) s) := by
  have cr := cr_blt (X := X) (b := bb) hc hu hb
  cases bb <;> first
    | exact PE.imp (pe_callB cr hg hm hv ha hn hdb he hpl) fun σ H Q h => blt_imp rfl h
    | exact PE.imp (pe_callTy cr hg hm hv ha hn hdb he hpl) fun σ H Q h => blt_imp rfl h
/-- isinstance(x, T) -/
theorem m_isi1 {t : Ty} {c : Str} (ht : Ty.plain t = true) (hg : Gl X "isinstance") (hm : X.mg "isinstance" = none) (hgc : Gl X c) (hmc : X.mg c = none) (hvc : bootBuiltins c = some (.type (tyC t))) (hcn : c ≠ "__name__") (hcd : (c == ("__debug__" : Str)) = false)
    (ha : PE X e (tE X.K E W fa)) (he : starEach [e, .Name c p2] X.env = (false, eval e X.env) :: starEach [.Name c p2] X.env) (he2 : starEach [.Name c p2] X.env = (false, eval (.Name c p2) X.env) :: starEach [] X.env) (hpl : (backTo pos (starEach [.Name c p2] X.env)).any (·.1) = false) :
    PE X (.Call (.Name "isinstance" p) [e, .Name c p2] [] pos) (tE X.K E W fun s => (fa s).bind fun x s => (Rs.of (s.flat x) s).bind fun y s => if isiOk y then .ok (.bl ([t].any fun t => isTy t y)) s else .bad) := by
  refine PE.imp (pe_callB call_isi hg hm boot_isinstance (pa_cons ha (pa_cons (pe_bltn (v := .ty (tyC t)) hgc hmc hvc rfl hcn hcd) pa_nil he2) he) (by decide) (by decide) he hpl) fun σ H Q ⟨g, st, R, h⟩ => tE.seq R h fun v x g1 st1 H1 G R1 r h => ?_
  obtain ⟨y, hy, o⟩ := Out.of_some (Q := fun y g' st' H' => Out X.K E W g1 st1 σ H1 _ _) R1 (Out.bind0 h |>.imp fun _ _ _ _ h => h.2.2)
  split at o
  · rename_i hk
    refine ⟨x, .ty (tyC t), .type (tyS y), .type (tyC t), isTy t y, rfl, .ty _, RepV.ty R1 r hy hk, kit_ty (kit_sv hk ht), ?_⟩
    have := Out.valB R1 o
    simpa using this
  · exact o.elim
end
end Mq

namespace Mq
open PySem PySem.Spec PyProof.Rows L2 Mp
section
variable {K : PySem.W.Frag} {E : ErT} {W : WX} {g g1 : Gh} {st st1 : Sta} {σ : L2.St} {H H0 H1 : Hp}
def stPut (st : Sta) (l : Pl) (c : Cel) : Sta := match l with
  | .box i => { st with env := st.env.set i (.box c) }
  | .cell n => { st with heap := st.heap.set n c }
theorem put_some {v : SV} {c : Cel} {s : Sta} (h : st.put v c = some s) : ∃ l, plOf v = some l ∧ s = stPut st l c := by
  cases v <;> simp only [Sta.put, reduceCtorEq, Option.some.injEq] at h
  · exact ⟨_, rfl, h.symm⟩
  · exact ⟨_, rfl, h.symm⟩
theorem at_stPut {l l' : Pl} {c c0 d : Cel} (h0 : at? st l = some c0) (h : at? (stPut st l c) l' = some d) : (l' = l ∧ live? c = some d) ∨ (l' ≠ l ∧ at? st l' = some d) := by
  cases l with
  | box i =>
    cases l' with
    | cell n => exact .inr ⟨by simp, h⟩
    | box j =>
      have hi : i < st.env.length := by
        unfold at? at h0
        simp only at h0
        cases e : st.env[i]? with
        | none => rw [e] at h0; cases h0
        | some s => exact (List.getElem?_eq_some_iff.mp e).1
      unfold at? stPut at h
      simp only at h
      by_cases hj : i = j
      · subst hj
        rw [List.getElem?_set_self hi] at h
        exact .inl ⟨rfl, h⟩
      · rw [List.getElem?_set_ne hj] at h
        exact .inr ⟨fun e => hj (by cases e; rfl), h⟩
  | cell n =>
    cases l' with
    | box j => exact .inr ⟨by simp, h⟩
    | cell m =>
      have hn := at_lt h0 n rfl
      unfold at? stPut at h
      simp only at h
      by_cases hm : n = m
      · subst hm
        rw [List.getElem?_set_self hn] at h
        exact .inl ⟨rfl, h⟩
      · rw [List.getElem?_set_ne hm] at h
        exact .inr ⟨fun e => hm (by cases e; rfl), h⟩
theorem stPut_len (l : Pl) (c : Cel) : (stPut st l c).heap.length = st.heap.length := by cases l <;> simp [stPut]
theorem Rel.putAt {l : Pl} {c0 c : Cel} {o : HO} (R : Rel K g st σ H) (h0 : at? st l = some c0) (rc : CellRep K g.F g.c st.heap.length c o) (hlive : live? c = some c) :
    Rel K g (stPut st l c) σ (upd H (g.at l) o) ∧ Grow g st H g (stPut st l c) (upd H (g.at l) o) := by
  obtain ⟨hF, o0, hH, _⟩ := R.loc l c0 h0
  have hlen := stPut_len (st := st) l c
  refine ⟨⟨fun a u e => ?_, fun l' d h => ?_, fun l1 l2 c1 c2 h1 h2 e => ?_, fun i v h => ?_, fun i d h => ?_, ?_⟩, ⟨fun a u e n => ?_, fun a u e => ?_, fun _ _ e => e, fun _ _ => rfl, by rw [hlen]; exact Nat.le_refl _, fun a ⟨l', d, h, e⟩ => ?_, fun a u e => .inl e⟩⟩
  · rw [upd_ne (fun z => by rw [z, hF] at e; cases e)]; exact R.sub _ _ e
  · rw [hlen]
    rcases at_stPut h0 h with ⟨rfl, e⟩ | ⟨hne, h⟩
    · rw [hlive] at e; cases e
      exact ⟨hF, o, upd_same, rc⟩
    · obtain ⟨h1, u, h2, h3⟩ := R.loc l' d h
      exact ⟨h1, u, by rw [upd_ne (fun z => hne (R.inj _ _ _ _ h h0 z))]; exact h2, h3⟩
  · rcases at_stPut h0 h1 with ⟨e1, _⟩ | ⟨n1, k1⟩ <;> rcases at_stPut h0 h2 with ⟨e2, _⟩ | ⟨n2, k2⟩
    · rw [e1, e2]
    · subst e1; exact absurd (R.inj _ _ _ _ (by assumption) h0 e.symm) n2
    · subst e2; exact absurd (R.inj _ _ _ _ (by assumption) h0 e) n1
    · exact R.inj _ _ _ _ k1 k2 e
  · rw [hlen]
    cases l with
    | cell n => exact R.slot i v h
    | box j =>
      have h : (st.env.set j (.box c))[i]? = some (.val v) := h
      by_cases hj : j = i
      · subst hj
        rw [List.getElem?_set] at h
        simp at h
      · rw [List.getElem?_set_ne hj] at h
        exact R.slot i v h
  · cases l with
    | cell n => exact R.box i d h
    | box j =>
      have h : (st.env.set j (.box c))[i]? = some (.box d) := h
      by_cases hj : j = i
      · subst hj
        unfold at? at h0
        simp only at h0
        cases e : st.env[j]? with
        | none => rw [e] at h0; cases h0
        | some s =>
          rw [e] at h0
          cases s <;> simp only [reduceCtorEq] at h0
          exact R.box j _ e
      · rw [List.getElem?_set_ne hj] at h
        exact R.box i d h
  · cases l with
    | cell n => exact R.len
    | box j => simpa [stPut] using R.len
  · rw [upd_ne (fun z => n ⟨l, c0, h0, z.symm⟩)]; exact e
  · by_cases ha : a = g.at l
    · exact ⟨o, by rw [ha, upd_same]⟩
    · exact ⟨u, by rw [upd_ne ha]; exact e⟩
  · rcases at_stPut h0 h with ⟨rfl, _⟩ | ⟨_, h⟩
    · exact .inl ⟨_, _, h0, e⟩
    · exact .inl ⟨_, _, h, e⟩
/-- a value's place takes a new content -/
theorem Rel.putV {v : SV} {x : V} {c c' : Cel} {s : Sta} (R : Rel K g st σ H) (r : RepV K g st σ v x) (hc : st.cellOf v = some c) (hl : live? c = some c) (hp : st.put v c' = some s) (hl' : live? c' = some c') :
    ∃ a o, x = .ref a ∧ H a = some o ∧ CellRep K g.F g.c st.heap.length c o ∧ ∀ o', CellRep K g.F g.c st.heap.length c' o' → Rel K g s σ (upd H a o') ∧ Grow g st H g s (upd H a o') := by
  obtain ⟨l, h1, rfl⟩ := put_some hp
  have h2 := cell_at h1 hc hl
  obtain ⟨_, o, h3, h4⟩ := R.loc l c h2
  exact ⟨g.at l, o, ref_of R h1 h2 r, h3, h4, fun o' rc => R.putAt h2 rc hl'⟩
end
section
variable {X : Cx} {E : ErT} {W : WX} {fa fb : Sta → Rs SV} {fs : Sta → Rs (List SV)} {a b e : Expr} {es : List Expr} {pos p p2 : Pos} {x : Str}
theorem m_pop (ha : PE X a (tE X.K E W fa)) (hbase : attributeBase a "pop" X.env (eval a X.env) = eval a X.env) (hline : (p.endLine == pos.line) = true) :
    PE X (.Call (.Attribute a "pop" p) [] [] pos) (tE X.K E W fun s => (fa s).bind fun x s => match popV s x with | some (v, s) => .ok v s | none => .bad) := by
  refine PE.imp (pe_bm0 PySem.F.plainAttrs_list PySem.F.slot_list_pop PySem.F.type_list_pop mt_pop ha hbase hline) fun σ H Q ⟨g, st, R, h⟩ => tE.seq R h fun v x g1 st1 H1 G R1 r h => ?_
  cases hp : popV st1 v with
  | none => rw [hp] at h; exact h.elim
  | some q =>
    obtain ⟨w, s2⟩ := q
    rw [hp] at h
    unfold popV at hp
    cases hc : st1.cellOf v with
    | none => rw [hc] at hp; cases hp
    | some c =>
      rw [hc] at hp
      cases c <;> simp only [reduceCtorEq] at hp
      rename_i xs
      cases hl : xs[xs.length - 1]? with
      | none => rw [hl] at hp; cases hp
      | some y =>
        rw [hl] at hp
        simp only at hp
        cases hq : st1.put v (.lst xs.dropLast) with
        | none => rw [hq] at hp; cases hp
        | some s3 =>
          rw [hq] at hp
          cases hp
          obtain ⟨ad, o, rfl, h1, ⟨vs, rfl, rl⟩, fin⟩ := R1.putV r hc rfl hq rfl
          obtain ⟨z, h2, h3⟩ := rl.get hl
          have rl2 : RepL X.K g1.F g1.c st1.heap.length xs.dropLast vs.dropLast := by
            rw [List.dropLast_eq_take, List.dropLast_eq_take, rl.length]
            exact rl.take _
          obtain ⟨R2, G2⟩ := fin (.lst vs.dropLast) ⟨_, rfl, rl2⟩
          refine ⟨.inl ⟨rfl, vs, SqL.of h1⟩, ad, vs, z, rfl, rfl, h1, by rw [← rl.length]; exact h2, h g1 _ G2 R2 z ?_⟩
          exact (Rep.up (fun _ _ e => e) (fun _ _ => rfl) G2.hlen _ _ h3).toV
end
end Mq

namespace Mq
open PySem PySem.Spec PyProof.Rows L2 Mp
abbrev anyS : L2.St → Prop := fun _ => True
theorem OnlyAt.mono {L L' : List Nat} {a b : L2.St} (h : OnlyAt L a b) (k : ∀ i ∈ L, i ∈ L') : OnlyAt L' a b := ⟨h.1, fun i hi => h.2 i fun z => hi (k i z)⟩
section
variable {K : PySem.W.Frag} {E : ErT} {W : WX} {g g1 : Gh} {st st1 : Sta} {σ : L2.St} {H H0 H1 : Hp} {S : L2.St → Prop}
/-- a part that stores nothing -/
theorem OutS.bindE {α β : Type} {Q : β → Gh → Sta → L2.St → Hp → Prop} {r : Rs α} {k : α → Sta → Rs β} (hσ : S σ) (h : OutS K E W S g st H Q (r.bind k)) :
    Out K E W g st σ H (fun a g1 st1 H1 => Grow g st H g1 st1 H1 ∧ Rel K g1 st1 σ H1 ∧ OutS K E W S g1 st1 H1 Q (k a st1)) r := by
  cases r with
  | ok a s => exact fun g' H' G' R => ⟨G', R, OutS.from h G'⟩
  | err e s => exact fun g' H' cls d G' R q => h g' σ H' cls d hσ G' R q
  | bad => exact h
theorem OutS.bindE0 {α β : Type} {Q : β → Gh → Sta → L2.St → Hp → Prop} {r : Rs α} {k : α → Sta → Rs β} (hσ : S σ) (h : OutS K E W S g st H Q (r.bind k)) :
    Out K E W g st σ H (fun a g1 st1 H1 => Grow g st H g1 st1 H1 ∧ Rel K g1 st1 σ H1 ∧ OutS K E W S g st H Q (k a st1)) r := by
  cases r with
  | ok a s => exact fun g' H' G' R => ⟨G', R, h⟩
  | err e s => exact fun g' H' cls d G' R q => h g' σ H' cls d hσ G' R q
  | bad => exact h
theorem tE.seqS {f : Sta → Rs SV} {β : Type} {k : SV → Sta → Rs β} {Qb : β → Gh → Sta → L2.St → Hp → Prop} {Q : VK} (hσ : S σ) (R : Rel K g st σ H) (h : OutS K E W S g st H Qb ((f st).bind k))
    (hk : ∀ v x g1 st1 H1, Grow g st H g1 st1 H1 → Rel K g1 st1 σ H1 → RepV K g1 st1 σ v x → OutS K E W S g1 st1 H1 Qb (k v st1) → Q x H1) : tE K E W f σ H Q :=
  ⟨g, st, R, (h.bindE hσ).imp fun v g1 st1 H1 ⟨G, R1, o⟩ x r => hk v x g1 st1 H1 G R1 r o⟩
theorem tK.seqS {f : Sta → Rs SV} {β : Type} {k : SV → Sta → Rs β} {Qb : β → Gh → Sta → L2.St → Hp → Prop} {Q : VK} (hσ : S σ) (R : Rel K g st σ H) (h : OutS K E W S g st H Qb ((f st).bind k))
    (hk : ∀ v x g1 st1 H1, Grow g st H g1 st1 H1 → Rel K g1 st1 σ H1 → Rep K g1.F g1.c st1.heap.length v x → OutS K E W S g1 st1 H1 Qb (k v st1) → Q x H1) : tK K E W f σ H Q :=
  ⟨g, st, R, (h.bindE hσ).imp fun v g1 st1 H1 ⟨G, R1, o⟩ x r => hk v x g1 st1 H1 G R1 r o⟩
theorem tT.seqS {f : Sta → Rs Bool} {β : Type} {k : Bool → Sta → Rs β} {Qb : β → Gh → Sta → L2.St → Hp → Prop} {Q : Bool → Hp → Prop} (hσ : S σ) (R : Rel K g st σ H) (h : OutS K E W S g st H Qb ((f st).bind k))
    (hk : ∀ v g1 st1 H1, Grow g st H g1 st1 H1 → Rel K g1 st1 σ H1 → OutS K E W S g1 st1 H1 Qb (k v st1) → Q v H1) : tT K E W f σ H Q :=
  ⟨g, st, R, (h.bindE hσ).imp fun v g1 st1 H1 ⟨G, R1, o⟩ => hk v g1 st1 H1 G R1 o⟩
theorem Rel.boxSet {i : Nat} {c : Cel} {p : Addr} {o : HO} (R : Rel K g st σ H) (hp : H p = some o) (hF : g.F p = none) (hl : ¬ LiveA g st p) (rc : CellRep K g.F g.c st.heap.length c o) :
    Rel K (g.boxAt i p) { st with env := st.env.set i (.box c) } (σ.set i (some (.ref p))) H := by
  refine ⟨R.sub, fun l d h => ?_, fun l l' d d' h h' e => ?_, fun j w h => ?_, fun j d h => ?_, by simp [R.len]⟩
  · rcases at_boxSet h with ⟨rfl, e⟩ | ⟨n, h⟩
    · have : c = d := by cases c <;> simp [live?] at e <;> exact e
      subst this
      rw [boxAt_self]
      exact ⟨hF, o, hp, rc⟩
    · rw [boxAt_ne n]; exact R.loc l d h
  · rcases at_boxSet h with ⟨e1, _⟩ | ⟨n1, k1⟩ <;> rcases at_boxSet h' with ⟨e2, _⟩ | ⟨n2, k2⟩
    · rw [e1, e2]
    · subst e1; rw [boxAt_self, boxAt_ne n2] at e; exact absurd ⟨l', d', k2, e.symm⟩ hl
    · subst e2; rw [boxAt_self, boxAt_ne n1] at e; exact absurd ⟨l, d, k1, e⟩ hl
    · rw [boxAt_ne n1, boxAt_ne n2] at e; exact R.inj _ _ _ _ k1 k2 e
  · have h : (st.env.set i (.box c))[j]? = some (.val w) := h
    by_cases hj : i = j
    · subst hj
      rw [List.getElem?_set] at h
      simp at h
    · rw [List.getElem?_set_ne hj] at h
      obtain ⟨y, h1, h2⟩ := R.slot j w h
      exact ⟨y, by rw [List.getElem?_set_ne hj]; exact h1, h2⟩
  · have h : (st.env.set i (.box c))[j]? = some (.box d) := h
    by_cases hj : i = j
    · subst hj
      have hlt : i < st.env.length := by
        rw [List.getElem?_set] at h
        simp at h
        exact h.1
      rw [List.getElem?_set_self (by rw [← R.len]; exact hlt)]
      show some (some (V.ref p)) = some (some (V.ref (if i = i then p else g.b i)))
      rw [if_pos rfl]
    · rw [List.getElem?_set_ne hj] at h
      rw [List.getElem?_set_ne hj]
      show σ[j]? = some (some (V.ref (if j = i then p else g.b j)))
      rw [if_neg (fun e => hj e.symm)]
      exact R.box j d h
theorem Grow.boxSet {i : Nat} {c : Cel} {p : Addr} (hp : H0 p = none) (G : Grow g1 st1 H0 g st H) : Grow g1 st1 H0 (g.boxAt i p) { st with env := st.env.set i (.box c) } H := by
  refine ⟨G.keep, G.dom, G.fr, G.cells, G.hlen, fun a ⟨l, d, h, e⟩ => ?_, G.new⟩
  rcases at_boxSet h with ⟨rfl, _⟩ | ⟨n, h⟩
  · rw [boxAt_self] at e; subst e; exact .inr hp
  · rw [boxAt_ne n] at e; exact G.live a ⟨l, d, h, e⟩
end
def tG (K : PySem.W.Frag) (E : ErT) (W : WX) (L : List Nat) (f : SV → Sta → Rs Unit) : TG := fun x σ H Q => ∃ g st v, Rel K g st σ H ∧ Rep K g.F g.c st.heap.length v x ∧ OutS K E W (OnlyAt L σ) g st H (fun _ g' st' σ' H' => OnlyAt L σ σ' → Q σ' H') (f v st)
def tGs (K : PySem.W.Frag) (E : ErT) (W : WX) (L : List Nat) (f : List SV → Sta → Rs Unit) : TGs := fun xs σ H Q => ∃ g st vs, Rel K g st σ H ∧ RepL K g.F g.c st.heap.length vs xs ∧ OutS K E W (OnlyAt L σ) g st H (fun _ g' st' σ' H' => OnlyAt L σ σ' → Q σ' H') (f vs st)
section
variable {X : Cx} {E : ErT} {W : WX} {L : List Nat} {pos : Pos}
theorem g_nm {i : Nat} {x : Str} (hN : X.N.Nodup) (hi : X.N[i]? = some x) (hx : Loc X.env.scope x) (hf : X.fn x = true ∨ X.env.scope.names.lookup x = some .local) (hL : i ∈ L) :
    PG X (.Name x pos) (tG X.K E W L fun v s => .ok () (slotSet i v s)) := by
  refine PG.imp (pg_name hN hi hx hf) fun x σ H Q ⟨g, st, v, R, r, h⟩ => ?_
  obtain ⟨R1, G1⟩ := R.slotSet (i := i) r
  exact h g _ H (OnlyAt.set hL) G1 R1 (OnlyAt.set hL)
def evTs0 (vs : List SV) (s : Sta) : Rs Unit := match vs with | [] => .ok () s | _ => .bad
theorem g_nil : PGs X [] (tGs X.K E W L fun vs s => evTs0 vs s) := by
  refine PGs.imp pgs_nil fun x σ H Q ⟨g, st, v, R, r, h⟩ => ?_
  cases v with
  | nil => exact ⟨r, OutS.now (OnlyAt.refl _ _) R h (OnlyAt.refl _ _)⟩
  | cons _ _ => exact h.elim
end
end Mq

namespace Mq
open PySem PySem.Spec PyProof.Rows L2 Mp
section
variable {X : Cx} {E : ErT} {W : WX} {L : List Nat} {pos : Pos}
theorem g_cons {e : Expr} {es : List Expr} {f : SV → Sta → Rs Unit} {fs : List SV → Sta → Rs Unit} (h1 : PG X e (tG X.K E W L f)) (h2 : PGs X es (tGs X.K E W L fs))
    (hs : (assignEach (e :: es) X.env).map (·.2) = assign e X.env :: (assignEach es X.env).map (·.2)) :
    PGs X (e :: es) (tGs X.K E W L fun vs s => match vs with | v :: r => (f v s).bind fun _ s => fs r s | [] => .bad) := by
  refine PGs.imp (pgs_cons h1 h2 hs) fun x σ H Q ⟨g, st, vs, R, r, h⟩ => ?_
  cases vs with
  | nil => exact h.elim
  | cons v r' =>
    obtain ⟨y, ys, rfl, r1, r2⟩ := r
    have h : OutS X.K E W (OnlyAt L σ) g st H (fun _ g' st' σ' H' => OnlyAt L σ σ' → Q σ' H') ((f v st).bind fun _ s => fs r' s) := h
    refine ⟨y, ys, rfl, g, st, v, R, r1, h.bind.imp fun _ g1 st1 σ1 H1 ⟨hs, G, R1, o⟩ ho => ⟨g1, st1, r', R1, RepL.up G.fr G.cells G.hlen _ _ r2, ?_⟩⟩
    exact (o.sub fun z hz => ho.trans hz).imp fun _ _ _ _ _ q z => q (ho.trans z)
theorem g_tp {es : List Expr} {k : Nat} {n : Nat} {fs : List SV → Sta → Rs Unit} (hc : X.calm = true) (h : PGs X es (tGs X.K E W L fs))
    (hn : (assignEach es X.env).length = n) (hst : (assignEach es X.env).findIdx? (·.1) = none) :
    PG X (.Tuple es k pos) (tG X.K E W L fun v s => match s.seq v with | some xs => if xs.length = n then fs xs s else .bad | none => .bad) := by
  refine PG.imp (PG.or (pg_tup hc h hn hst) (pg_lst hc h hn hst)) fun x σ H Q ⟨g, st, v, R, r, h⟩ => ?_
  dsimp only at h
  cases e : st.seq v with
  | none => rw [e] at h; exact h.elim
  | some xs =>
    rw [e] at h
    obtain ⟨a, vs, rfl, hq, rl⟩ := RepV.seq R (Rep.toV r) e
    dsimp only at h
    by_cases hlen : xs.length = n
    case neg => rw [if_neg hlen] at h; exact h.elim
    rw [if_pos hlen] at h
    rcases hq with hq | hq
    · exact .inr ⟨a, vs, rfl, hq, by rw [← rl.length]; exact hlen, g, st, xs, R, rl, h⟩
    · exact .inl ⟨a, vs, rfl, hq, by rw [← rl.length]; exact hlen, g, st, xs, R, rl, h⟩
/-- o[i] = v, by values -/
def rSub (K : PySem.W.Frag) : V → V → V → Hp → (Hp → Prop) → Prop := fun o i v H Q => ∃ g st σ a b w st', Rel K g st σ H ∧ RepV K g st σ a o ∧ RepV K g st σ b i ∧ Rep K g.F g.c st.heap.length w v ∧ subSet st a b w = some st' ∧
  ∀ g' H', Grow g st H g' st' H' → Rel K g' st' σ H' → Q H'
theorem set_sub (hu : X.A.units + 65 < cLine) : PSet X (rSub X.K) := by
  intro pins s σ' H o i v ov iv u Q I ro ri rv h
  obtain ⟨g, st, σ, a, b, w, st', R, ra, rb, rw', hs, q⟩ := h
  unfold subSet at hs
  cases hc : st.cellOf a with
  | none => rw [hc] at hs; cases hs
  | some c =>
    rw [hc] at hs
    cases c <;> simp only [reduceCtorEq] at hs
    · rename_i xs
      cases b <;> simp only [reduceCtorEq] at hs
      rename_i k
      obtain rfl := rb.int
      cases hj : Mp.ixN xs.length k with
      | none => rw [hj] at hs; cases hs
      | some j =>
        rw [hj] at hs
        obtain ⟨p, ho, rfl, h1, ⟨vs, rfl, rl⟩, fin⟩ := R.putV ra hc rfl hs rfl
        obtain ⟨R2, G2⟩ := fin (.lst (vs.set j v)) ⟨_, rfl, rl.set rw'⟩
        exact set_list pins s σ' H _ _ v ov iv u Q I ro ri rv ⟨p, vs, k, j, rfl, rfl, h1, by rw [← rl.length]; exact hj, q g _ G2 R2⟩
    · rename_i ks ws
      split at hs
      · rename_i hk
        simp only [Bool.and_eq_true] at hk
        obtain ⟨p, ho, rfl, h1, rc, fin⟩ := R.putV ra hc rfl hs rfl
        obtain ⟨p', o1, e1, h1', d, O⟩ := dict_ops hu R ra (by unfold Sta.dict; rw [hc]) hk.1 rb I ri
        cases e1
        have hl : ks.length < sizeLine := by have := small_le hk.2; omega
        obtain rfl : ov = Value.ref p := ro
        refine O.put w v u _ _ hl rw' rv fun o2 s3 d2 I3 => ?_
        obtain ⟨R2, G2⟩ := fin o2 d2
        exact ⟨_, I3, q g _ G2 R2⟩
      · cases hs
theorem g_sub {a i : Expr} {fa fi : Sta → Rs SV} (hu : X.A.units + 65 < cLine) (ha : PE X a (tE X.K E W fa)) (hi : PE X i (tE X.K E W fi))
    (hq : ∀ v, assign (.Subscript a i pos) X.env v = (do
      let ov ← holding [v] (eval a X.env)
      let iv ← holding [v, ov] (eval i X.env)
      standAt pos
      holding [v, ov, iv] (setItem ov iv v)
      release [v, ov, iv] [])) :
    PG X (.Subscript a i pos) (tG X.K E W L fun v s => (fa s).bind fun x s => (fi s).bind fun y s => match subSet s x y v with | some s => .ok () s | none => .bad) := by
  refine PG.imp (pg_sub ha hi (set_sub hu) hq) fun x σ H Q ⟨g, st, w, R, r, h⟩ => tE.seqS (OnlyAt.refl _ _) R h fun v x1 g1 st1 H1 G R1 r1 h => tE.seqS (OnlyAt.refl _ _) R1 h fun v2 x2 g2 st2 H2 G2 R2 r2 h => ?_
  cases e : subSet st2 v v2 w with
  | none => rw [e] at h; exact h.elim
  | some s3 =>
    rw [e] at h
    exact ⟨g2, st2, σ, v, v2, w, s3, R2, r1.up G2, r2, Rep.up G2.fr G2.cells G2.hlen _ _ (Rep.up G.fr G.cells G.hlen _ _ r), e, fun g' H' G' R' => h g' σ H' (OnlyAt.refl _ _) G' R' (OnlyAt.refl _ _)⟩
end
def SQ (K : PySem.W.Frag) (D : Ends) : Fl → Gh → Sta → L2.St → Hp → Prop := fun f g st σ H => match f with
  | .next => D.nx σ H
  | .ret v => ∀ x, Rep K g.F g.c st.heap.length v x → D.rt x H
def tS (K : PySem.W.Frag) (E : ErT) (W : WX) (f : Sta → Rs Fl) : TS := fun D σ H => ∃ g st, Rel K g st σ H ∧ OutS K E W anyS g st H (SQ K D) (f st)
section
variable {X : Cx} {E : ErT} {W : WX} {L : List Nat} {pos : Pos} {e : Expr} {fe : Sta → Rs SV} {st : Stmt} {rest : List Stmt} {fs fr : Sta → Rs Fl}
theorem s_asg {tg : Expr} {ft : SV → Sta → Rs Unit} (he : PE X e (tE X.K E W fe)) (hg : PG X tg (tG X.K E W L ft)) (hs : swapsWithSole [tg] e pos.line X.env = pure false) (hw : swappedStores [tg] e X.env = pure none)
    (h1 : (assignEach [tg] X.env).map (·.2) = [assign tg X.env]) : PS X (.Assign [tg] e pos) (tS X.K E W fun s => (solidB (fe s)).bind fun v s => (ft v s).bind nextR) := by
  refine PS.imp (ps_asg (PE.imp he fun _ _ _ h => tK_of h) hg hs hw h1) fun D σ H ⟨g, st, R, h⟩ => tK.seqS trivial R h fun v x g1 st1 H1 G R1 r h => ⟨g1, st1, v, R1, r, ?_⟩
  refine (h.bind.sub fun _ _ => trivial).imp fun _ g2 st2 σ2 H2 ⟨_, G2, R2, o⟩ _ => ?_
  exact OutS.now (a := Fl.next) trivial R2 o
theorem s_ex (he : PE X e (tE X.K E W fe)) (hs : swapsWith e none pos.line X.env = pure false) : PS X (.Expr e pos) (tS X.K E W fun s => (fe s).bind fun _ s => .ok .next s) := by
  refine PS.imp (ps_expr he hs) fun D σ H ⟨g, st, R, h⟩ => tE.seqS trivial R h fun v x g1 st1 H1 G R1 r h => ?_
  exact OutS.now (a := Fl.next) trivial R1 h
theorem s_ret (he : PE X e (tE X.K E W fe)) : PS X (.Return (some e) pos) (tS X.K E W fun s => (solidB (fe s)).bind fun v s => .ok (.ret v) s) := by
  refine PS.imp (ps_ret (PE.imp he fun _ _ _ h => tK_of h)) fun D σ H ⟨g, st, R, h⟩ => tK.seqS trivial R h fun v x g1 st1 H1 G R1 r h => ?_
  exact OutS.now (a := Fl.ret v) trivial R1 h x r
theorem s_pass : PS X (.Pass pos) (tS X.K E W fun s => .ok .next s) := PS.imp ps_pass fun D σ H ⟨g, st, R, h⟩ => OutS.now (a := Fl.next) trivial R h
theorem s_ife {c : Expr} {a b : List Stmt} {ft : Sta → Rs Bool} {f1 f2 : Sta → Rs Fl} (hc : PT X c (tT X.K E W ft)) (ha : PSs X a (tS X.K E W f1)) (hb : PSs X b (tS X.K E W f2)) :
    PS X (.If c a b pos) (tS X.K E W fun s => (ft s).bind fun k s => if k then f1 s else f2 s) := by
  refine PS.imp (ps_if hc ha hb) fun D σ H ⟨g, st, R, h⟩ => tT.seqS trivial R h fun k g1 st1 H1 G R1 h => ?_
  cases k with
  | true => exact ⟨g1, st1, R1, h⟩
  | false => exact ⟨g1, st1, R1, h⟩
theorem s_nil : PSs X [] (tS X.K E W fun s => .ok .next s) := PSs.imp pss_nil fun D σ H ⟨g, st, R, h⟩ => OutS.now (a := Fl.next) trivial R h
theorem s_cons (h1 : PS X st (tS X.K E W fs)) (h2 : PSs X rest (tS X.K E W fr)) :
    PSs X (st :: rest) (tS X.K E W fun s => (fs s).bind fun f s => match f with | .next => fr s | .ret v => .ok (.ret v) s) := by
  refine PSs.imp (pss_cons h1 h2) fun D σ H ⟨g, st, R, h⟩ => ⟨g, st, R, h.bind.imp fun f g1 st1 σ1 H1 ⟨_, G, R1, o⟩ => ?_⟩
  cases f with
  | next => exact ⟨g1, st1, R1, o⟩
  | ret v => exact fun x r => OutS.now (a := Fl.ret v) trivial R1 o x r
/-- name = a new thing, to be changed -/
theorem s_box {i : Nat} {x : Str} {p2 : Pos} {ff : Sta → Rs Cel} (hN : X.N.Nodup) (hi : X.N[i]? = some x) (hx : Loc X.env.scope x) (he : PE X e (tF X.K E W ff)) (hs : swapsWith e (some (.Name x p2)) pos.line X.env = pure false)
    (hf : X.fn x = true ∨ X.env.scope.names.lookup x = some .local) : PS X (.Assign [.Name x p2] e pos) (tS X.K E W fun s => (ff s).bind fun c s => .ok .next { s with env := s.env.set i (.box c) }) := by
  refine PS.imp (ps_set hN hi hx he hs hf) fun D σ H ⟨g, st, R, h⟩ => ⟨g, st, R, (h.bindE0 trivial).imp fun c g1 st1 H1 ⟨G, R1, h⟩ p o hn hp hF hl rc => ?_⟩
  exact h (g1.boxAt i p) _ H1 trivial (Grow.boxSet hn G) (R1.boxSet hp hF hl rc)
end
end Mq

namespace Mq
open PySem PySem.Spec PyProof.Rows L2 Mp
section
variable {X : Cx}
theorem get_list : PGet X (rIxL X.K) := by
  intro pins s σ H x y v u Q I rx ry h
  obtain ⟨p, xs, i, z, rfl, rfl, hq, he, q⟩ := h
  cases rx
  obtain ⟨t, rfl⟩ := ry
  obtain ⟨its, r, pl, hz⟩ := I.list hq
  obtain ⟨j, h1, h2, h3, h4, h5⟩ := atI_get he
  obtain ⟨w, ew, rw'⟩ := r.get h2
  have hl := r.length
  have hn := line63
  have fin : EP X pins σ Q w s := ⟨z, H, I, rw', q⟩
  by_cases h0 : 0 ≤ i
  · have hj : i.toNat = j := by
      rw [seqIndex_of h0 h5] at h1
      exact Option.some.inj h1
    exact wpAny_getItem_list pl.isList h0 (by omega) (by rw [hj]; simpa using ew) fin
  · have hj : (i + (its.toArray.size : Int)).toNat = j := by
      rw [seqIndex_neg (by omega) h4] at h1
      rw [List.size_toArray, ← hl]
      exact Option.some.inj h1
    exact wpAny_getItem_list_neg pl.isList (by omega) (by rw [List.size_toArray] <;> omega) (by omega) (by rw [hj]; simpa using ew) fin
theorem get_tup : PGet X (rIxT X.K) := by
  intro pins s σ H x y v u Q I rx ry h
  obtain ⟨p, xs, i, z, rfl, rfl, hq, he, q⟩ := h
  cases rx
  obtain ⟨t, rfl⟩ := ry
  obtain ⟨its, r, pl, hz⟩ := I.tuple hq
  obtain ⟨j, h1, h2, h3, h4, h5⟩ := atI_get he
  obtain ⟨w, ew, rw'⟩ := r.get h2
  have hl := r.length
  have hn := line63
  exact PyProof.Rows.getItem_tuple (j := j) pl (by omega) (by omega) (by rw [List.size_toArray, ← hl]; exact h1) (by simpa using ew) ⟨z, H, I, rw', q⟩
def rGet (K : PySem.W.Frag) : R2 := fun x y H Q => ∃ g st σ a b v, Rel K g st σ H ∧ RepV K g st σ a x ∧ RepV K g st σ b y ∧ idxR st a b = some v ∧ ∀ z, Rep K g.F g.c st.heap.length v z → Q z H
theorem get_all (hu : X.A.units + 65 < cLine) : PGet X (rGet X.K) := by
  intro pins s σ' H x y v u Q I rx ry h
  obtain ⟨g, st, σ, a, b, w, R, ra, rb, hv, q⟩ := h
  unfold idxR at hv
  cases e : st.dict a with
  | none =>
    rw [e] at hv
    cases b <;> simp only [idxS, reduceCtorEq] at hv
    rename_i k
    obtain rfl := rb.int
    cases e : st.seq a with
    | none => rw [e] at hv; cases hv
    | some xs =>
      rw [e] at hv
      obtain ⟨p, vs, rfl, hq, r⟩ := RepV.seq R ra e
      obtain ⟨z, h1, h2⟩ := atI_rep r hv
      rcases hq with hq | hq
      · exact get_list pins s σ' H _ _ v u Q I rx ry ⟨p, vs, k, z, rfl, rfl, hq, h1, q z h2⟩
      · exact get_tup pins s σ' H _ _ v u Q I rx ry ⟨p, vs, k, z, rfl, rfl, hq, h1, q z h2⟩
  | some p =>
    obtain ⟨ks, ws⟩ := p
    rw [e] at hv
    simp only at hv
    split at hv
    · rename_i hk
      obtain ⟨p, o, rfl, ho, d, O⟩ := dict_ops hu R ra e hk rb I ry
      obtain rfl : v = Value.ref p := rx
      exact O.get _ _ _ hv fun z w' s3 I3 rz rw' => ⟨z, H, I3, rz, q z rw'⟩
    · cases hv
/-- in place, of intsV -/
def rIp (op : Bop) : TIp := fun x y H Q => ∃ i j k, x = .int i ∧ y = .int j ∧ binInt op i j = some k ∧ Q (.int k) H
def ipOk : Bop → Bool
  | .add => true | .sub => true | .mul => true | _ => false
theorem ip_all {op : Bop} (h : ipOk op = true) : PIp X (opOf op) (rIp op) := by
  intro pins s σ H x y v u Q I rx ry h
  obtain ⟨i, j, k, rfl, rfl, hk, q⟩ := h
  cases op <;> first | (simp [ipOk] at h; done) | skip
  · simp [binInt] at hk; subst hk
    exact ip_add pins s σ H _ _ v u Q I rx ry ⟨i, j, rfl, rfl, q⟩
  · simp [binInt] at hk; subst hk
    exact ip_sub pins s σ H _ _ v u Q I rx ry ⟨i, j, rfl, rfl, q⟩
  · simp only [binInt] at hk
    split at hk
    · rename_i c
      cases hk
      exact iop_mul pins s σ H _ _ v u Q I rx ry ⟨i, j, rfl, rfl, mulOk_C c, q⟩
    · cases hk
end
section
variable {X : Cx} {E : ErT} {W : WX} {pos p2 p : Pos} {a b i e : Expr} {es : List Expr} {fa fi fe : Sta → Rs SV}
theorem asI.seqS {K : PySem.W.Frag} {S : L2.St → Prop} {g : Gh} {st : Sta} {σ : L2.St} {H : Hp} {f : Sta → Rs SV} {β : Type} {k : Int → Sta → Rs β} {Qb : β → Gh → Sta → L2.St → Hp → Prop} {Q : VK} (hσ : S σ) (R : Rel K g st σ H) (h : OutS K E W S g st H Qb ((asI (f st)).bind k))
    (hk : ∀ i g1 st1 H1, Grow g st H g1 st1 H1 → Rel K g1 st1 σ H1 → OutS K E W S g1 st1 H1 Qb (k i st1) → Q (.int i) H1) : tE K E W f σ H Q := by
  refine tE.seqS (Qb := Qb) (k := fun v s => (match v with | .int b => Rs.ok b s | _ => .bad : Rs Int).bind k) hσ R ?_ fun v x g1 st1 H1 G R1 r o => ?_
  · unfold asI at h
    cases e : f st with
    | ok a s => rw [e] at h; exact h
    | err a s => rw [e] at h; exact h
    | bad => rw [e] at h; exact h
  · cases v <;> first | exact o.elim | skip
    obtain rfl := r.int
    exact hk _ g1 st1 H1 G R1 o
theorem s_augN {n : Nat} {x : Str} {op : Bop} (hop : ipOk op = true) (hN : X.N.Nodup) (hi : X.N[n]? = some x) (hx : Loc X.env.scope x) (he : PE X e (tE X.K E W fe)) (hf : X.fn x = true ∨ X.env.scope.names.lookup x = some .local) :
    PS X (.AugAssign (.Name x p2) (opOf op) e pos) (tS X.K E W fun s => match s.env[n]? with
      | some (.val (.int a)) => (asI (fe s)).bind fun b s => match binInt op a b with | some c => .ok .next (slotSet n (.int c) s) | none => .bad
      | _ => .bad) := by
  refine PS.imp (ps_aug hN hi hx he (ip_all hop) hf) fun D σ H ⟨g, st, R, h⟩ => ?_
  dsimp only at h
  split at h
  · rename_i i e1
    obtain ⟨y, h1, r1⟩ := R.slot n _ e1
    obtain rfl := (show y = .int i from r1)
    refine ⟨_, h1, asI.seqS trivial R h fun j g1 st1 H1 G R1 h => ?_⟩
    cases hk : binInt op i j with
    | none => rw [hk] at h; exact h.elim
    | some k =>
      rw [hk] at h
      obtain ⟨R2, G2⟩ := R1.slotSet (i := n) (v := .int k) (x := .int k) rfl
      exact ⟨i, j, k, rfl, rfl, hk, h g1 _ H1 trivial G2 R2⟩
  · exact h.elim
theorem s_augS {op : Bop} (hop : ipOk op = true) (hu : X.A.units + 65 < cLine) (ha : PE X a (tE X.K E W fa)) (hi : PE X i (tE X.K E W fi)) (he : PE X e (tE X.K E W fe))
    (hq : ∀ ov iv new, augStore i ov iv new = (do holding [new, ov, iv] (setItem ov iv new); release [new, ov, iv] []; pure .next)) :
    PS X (.AugAssign (.Subscript a i p2) (opOf op) e pos) (tS X.K E W fun s => (fa s).bind fun x s => (fi s).bind fun y s => match idxR s x y with
      | some (.int a) => (asI (fe s)).bind fun b s => match binInt op a b with | some c => nextO (subSet s x y (.int c)) | none => .bad
      | _ => .bad) := by
  refine PS.imp (ps_augS ha hi (get_all hu) he (ip_all hop) (set_sub hu) hq) fun D σ H ⟨g, st, R, h⟩ => tE.seqS trivial R h fun v x g1 st1 H1 G R1 r h => tE.seqS trivial R1 h fun w y g2 st2 H2 G2 R2 r2 h => ?_
  split at h
  · rename_i i0 e1
    refine ⟨g2, st2, σ, v, w, _, R2, r.up G2, r2, e1, fun z rz => ?_⟩
    obtain rfl := (show z = .int i0 from rz)
    refine asI.seqS trivial R2 h fun j g3 st3 H3 G3 R3 h => ?_
    cases hk : binInt op i0 j with
    | none => rw [hk] at h; exact h.elim
    | some k =>
      rw [hk] at h
      dsimp only at h
      refine ⟨i0, j, k, rfl, rfl, hk, ?_⟩
      cases hs : subSet st3 v w (.int k) with
      | none => rw [hs] at h; exact h.elim
      | some s4 =>
        rw [hs] at h
        exact ⟨g3, st3, σ, v, w, .int k, s4, R3, (r.up G2).up G3, r2.up G3, rfl, hs, fun g' H' G' R' => h g' σ H' trivial G' R'⟩
  · exact h.elim
theorem s_app (ha : PE X a (tE X.K E W fa)) (he : PE X e (tE X.K E W fe)) (hbase : attributeBase a "append" X.env (eval a X.env) = eval a X.env)
    (hfew : ((backTo pos (starEach [e] X.env)).all (fun x => !x.1) && (backToKw pos (keywordEach [] X.env)).all (fun x => x.1.isSome)
      && decide ([e].length + ([] : List Keyword).length + (if ([] : List Keyword).isEmpty then 0 else 1) < 30)) = true)
    (hline : (p.endLine == pos.line) = true) (hs : starEach [e] X.env = (false, eval e X.env) :: starEach [] X.env) (hplain : (backTo pos (starEach [] X.env)).any (·.1) = false) :
    PS X (.Expr (.Call (.Attribute a "append" p) [e] [] pos) p2) (tS X.K E W fun s => (fa s).bind fun x s => match s.list x with | some _ => (solidB (fe s)).bind fun v s => nextO (appV s x v) | none => .bad) := by
  refine PS.imp (ps_expr (pe_bm PySem.F.plainAttrs_list PySem.F.slot_list_append PySem.F.type_list_append mt_append ha (pa_cons (PE.imp he fun _ _ _ h => tK_of h) pa_nil hs) hbase hfew hline hs hplain) rfl) fun D σ H ⟨g, st, R, h⟩ => ?_
  refine tE.seqS trivial R h fun v x g1 st1 H1 G R1 r h => ?_
  cases hl : st1.list v with
  | none => rw [hl] at h; exact h.elim
  | some ys =>
    rw [hl] at h
    dsimp only at h
    obtain ⟨q, ws, rfl, hq, _⟩ := RepV.list R1 r hl
    refine ⟨.inl ⟨rfl, ws, SqL.of hq⟩, tK.seqS trivial R1 h fun w y g2 st2 H2 G2 R2 r2 h => ?_⟩
    cases ha : appV st2 v w with
    | none => rw [ha] at h; exact h.elim
    | some s3 =>
      rw [ha] at h
      unfold appV at ha
      cases hc : st2.cellOf v with
      | none => rw [hc] at ha; cases ha
      | some c =>
        rw [hc] at ha
        cases c <;> simp only [reduceCtorEq] at ha
        rename_i xs
        split at ha
        · rename_i hz
          obtain ⟨q2, o, e2, h1, ⟨vs, rfl, rl⟩, fin⟩ := R2.putV (r.up G2) hc rfl ha rfl
          have r3 : RepL X.K g2.F g2.c st2.heap.length [w] [y] := ⟨y, [], rfl, r2, rfl⟩
          obtain ⟨R3, G3⟩ := fin (.lst (vs ++ [y])) ⟨_, rfl, rl.append r3⟩
          have hz := small_le hz
          exact ⟨q2, vs, y, e2, rfl, h1, by rw [← rl.length]; omega, h g2 _ _ trivial G3 R3⟩
        · cases ha
end
end Mq

namespace Mq
open PySem PySem.Spec PyProof.Rows L2 Mp
def wk (w : Walk) (s : Sta) : Sta := match w.hid with | none => s | some v => s.hide v
section
variable {K : PySem.W.Frag} {E : ErT} {W : WX} {g g' g1 : Gh} {st st' st1 : Sta} {σ σ' : L2.St} {H H' H0 H1 : Hp}
theorem Still.grow {a : Addr} (R : Rel K g st σ H) (R' : Rel K g' st' σ' H') (G : Grow g st H g' st' H') (h : Still g st H a) : Still g' st' H' a ∧ H' a = H a := by
  rcases h with ⟨o, e⟩ | ⟨hn, hl⟩
  · have e' := G.fr _ _ e
    exact ⟨.inl ⟨o, e'⟩, by rw [R'.sub _ _ e', R.sub _ _ e]⟩
  · cases e : H a with
    | none => exact absurd e hn
    | some o =>
      have e' := G.keep a o e hl
      refine ⟨.inr ⟨by rw [e']; simp, fun z => ?_⟩, e'⟩
      rcases G.live a z with z | z
      · exact hl z
      · rw [e] at z; cases z
structure GoodIt (K : PySem.W.Frag) (g : Gh) (len : Nat) (H : Hp) (A : List Addr) (items : List SV) (J : It) : Prop where
  go : ∀ i H', i < items.length → (∀ a ∈ A, H' a = H a) → J.go i H'
  stop : ∀ H', (∀ a ∈ A, H' a = H a) → J.stop items.length H'
  yld : ∀ i x H1 H2 v, items[i]? = some v → (∀ a ∈ A, H1 a = H a) → J.yld i H1 x H2 → ∀ g1 st1 σ1, Rel K g1 st1 σ1 H1 → (∀ a o, g.F a = some o → g1.F a = some o) → (∀ n, n < len → g1.c n = g.c n) → len ≤ st1.heap.length →
    ∃ g2, Rel K g2 st1 σ1 H2 ∧ Grow g1 st1 H1 g2 st1 H2 ∧ Rep K g2.F g2.c st1.heap.length v x
def tW (K : PySem.W.Frag) (E : ErT) (W : WX) (fw : Sta → Rs Walk) : TI := fun σ H R => ∃ g st, Rel K g st σ H ∧ Out K E W g st σ H (fun w g1 st1 H1 => ∀ J A, (∀ a ∈ A, Still g1 (wk w st1) H1 a) → GoodIt K g1 st1.heap.length H1 A w.items J → R J H1) (fw st)
theorem hide_at {v : SV} {l l' : Pl} {d : Cel} (hl : plOf v = some l) (h : at? (st.hide v) l' = some d) : at? st l' = some d ∧ l' ≠ l := by
  cases v <;> simp only [plOf, reduceCtorEq, Option.some.injEq] at hl <;> subst hl
  · rename_i n
    cases l' with
    | box i => exact ⟨h, by simp⟩
    | cell m =>
      unfold at? Sta.hide at h
      unfold at?
      simp only at h ⊢
      by_cases hm : n = m
      · subst hm
        rw [List.getElem?_set] at h
        simp only [if_true] at h
        split at h <;> simp [live?] at h
      · rw [List.getElem?_set_ne hm] at h
        exact ⟨h, fun e => hm (by cases e; rfl)⟩
  · rename_i i
    have h : at? { st with env := st.env.set i .emp } l' = some d := h
    exact at_set_box (fun d => by simp) h
theorem hide_len (v : SV) : (st.hide v).heap.length = st.heap.length := by cases v <;> simp [Sta.hide]
theorem wk_len (w : Walk) : (wk w st).heap.length = st.heap.length := by
  unfold wk
  split
  · rfl
  · exact hide_len _
theorem hidOf_some {v : SV} {l : Pl} (h : plOf v = some l) : hidOf v = some v := by cases v <;> first | rfl | (simp [plOf] at h)
/-- what a walk over a list, a tuple leans on -/
theorem seq_walk {v : SV} {x : V} {xs : List SV} (R : Rel K g st σ H) (r : RepV K g st σ v x) (e : st.seq v = some xs) (hv : v.isScr = false) : ∃ (k : Kd) (a : Addr) (vs : List V) (A : List Addr), x = .ref a ∧ SqK k K H a vs ∧ RepL K g.F g.c st.heap.length xs vs ∧
    (∀ w : Walk, w.hid = hidOf v → ∀ b ∈ A, Still g (wk w st) H b) ∧ (hidOf v = none → ∀ b ∈ A, ∃ o, g.F b = some o) ∧ ∀ H', (∀ b ∈ A, H' b = H b) → SqK k K H' a vs := by
  obtain ⟨k, a, vs, rfl, hq, rl⟩ := RepV.seqK R r e
  have stay : ∀ H', (H a ≠ none → H' a = H a) → SqK k K H' a vs := fun H' h => by
    cases k with
    | L =>
      rcases hq with (hq | ⟨o, hq⟩) | hq
      · exact .inl (.inl ((h (by rw [hq]; simp)).trans hq))
      · exact .inl (.inr ⟨o, (h (by rw [hq]; simp)).trans hq⟩)
      · exact .inr hq
    | T =>
      rcases hq with (hq | ⟨o, hq⟩) | hq
      · exact .inl (.inl ((h (by rw [hq]; simp)).trans hq))
      · exact .inl (.inr ⟨o, (h (by rw [hq]; simp)).trans hq⟩)
      · exact .inr hq
  cases hp : plOf v with
  | none =>
    have hF : H a ≠ none → ∃ o, g.F a = some o := fun hn => by
      cases v with
      | tup ys => obtain ⟨b, o, ws, e1, e2, _⟩ := r; cases e1; exact ⟨_, e2⟩
      | lst ys => obtain ⟨b, ws, e1, e2, _⟩ := r; cases e1; exact ⟨_, e2⟩
      | scr ys => simp [SV.isScr] at hv
      | _ => first | (simp [Sta.seq, Sta.cellOf] at e; done) | (simp [plOf] at hp)
    by_cases hn : H a = none
    · exact ⟨k, a, vs, [], rfl, hq, rl, by simp, by simp, fun H' _ => stay H' fun z => absurd hn z⟩
    · obtain ⟨o, ho⟩ := hF hn
      exact ⟨k, a, vs, [a], rfl, hq, rl, fun w hw b hb => by simp at hb; subst hb; exact .inl ⟨o, ho⟩, fun _ b hb => by simp at hb; subst hb; exact ⟨o, ho⟩, fun H' h => stay H' fun _ => h a (by simp)⟩
  | some l =>
    have hc : ∃ c, at? st l = some c := by
      cases v <;> simp only [plOf, reduceCtorEq, Option.some.injEq] at hp <;> subst hp
      · simp only [Sta.seq, Sta.cellOf] at e
        rename_i n
        cases e1 : st.heap[n]? with
        | none => rw [e1] at e; simp at e
        | some c =>
          rw [e1] at e
          cases c <;> simp at e
          exact ⟨.lst xs, by simp [at?, e1, e, live?]⟩
      · simp only [Sta.seq, Sta.cellOf] at e
        rename_i n
        cases e1 : st.env[n]? with
        | none => rw [e1] at e; simp at e
        | some c =>
          rw [e1] at e
          cases c with
          | box c =>
            cases c <;> simp at e
            exact ⟨.lst xs, by simp [at?, e1, e, live?]⟩
          | _ => simp at e
    obtain ⟨c, hc⟩ := hc
    have hx := ref_of R hp hc r
    cases hx
    obtain ⟨_, o, ho, _⟩ := R.loc l c hc
    refine ⟨k, _, vs, [g.at l], rfl, hq, rl, fun w hw b hb => ?_, fun z => absurd ((hidOf_some hp).symm.trans z) (by simp), fun H' h => stay H' fun _ => h _ (by simp)⟩
    simp at hb; subst hb
    refine .inr ⟨by rw [ho]; simp, fun ⟨l', d, h, e⟩ => ?_⟩
    unfold wk at h
    rw [hw, hidOf_some hp] at h
    obtain ⟨h1, h2⟩ := hide_at hp h
    exact h2 (R.inj _ _ _ _ h1 hc e)
end

def ItS (k : Kd) (K : PySem.W.Frag) (a : Addr) : It := match k with | .L => Itl K a | .T => Itt K a
theorem rngL_get (a : Int) : ∀ (n i : Nat), (rngL a n)[i]? = if i < n then some (.int (a + i)) else none
  | 0, i => by simp [rngL]
  | n + 1, 0 => by simp [rngL]
  | n + 1, i + 1 => by
    have := rngL_get (a + 1) n i
    simp only [rngL, List.getElem?_cons_succ, this]
    by_cases h : i < n
    · rw [if_pos h, if_pos (by omega)]
      congr 2
      omega
    · rw [if_neg h, if_neg (by omega)]
theorem rngL_len (a : Int) : ∀ n : Nat, (rngL a n).length = n
  | 0 => rfl
  | n + 1 => by simp [rngL, rngL_len (a + 1) n]
theorem enumL_get : ∀ (xs : List SV) (k : Int) (i : Nat), (enumL k xs)[i]? = xs[i]?.map fun x => .tup [.int (k + i), x]
  | [], k, i => by simp [enumL]
  | x :: xs, k, 0 => by simp [enumL]
  | x :: xs, k, i + 1 => by
    simp only [enumL, List.getElem?_cons_succ]
    rw [enumL_get xs (k + 1) i]
    congr 1
    funext y
    congr 2
    have : k + 1 + (i : Int) = k + ((i + 1 : Nat) : Int) := by omega
    rw [this]
theorem enumL_len : ∀ (xs : List SV) (k : Int), (enumL k xs).length = xs.length
  | [], _ => rfl
  | x :: xs, k => by simp [enumL, enumL_len xs]
theorem zipL_get : ∀ (xs ys : List SV) (i : Nat) (v : SV), (zipL xs ys)[i]? = some v → ∃ x y, xs[i]? = some x ∧ ys[i]? = some y ∧ v = .tup [x, y]
  | [], _, i, v, h => by simp [zipL] at h
  | _ :: _, [], i, v, h => by simp [zipL] at h
  | x :: xs, y :: ys, 0, v, h => by simp [zipL] at h; exact ⟨x, y, rfl, rfl, h.symm⟩
  | x :: xs, y :: ys, i + 1, v, h => by
    simp only [zipL, List.getElem?_cons_succ] at h
    obtain ⟨a, b, h1, h2, h3⟩ := zipL_get xs ys i v h
    exact ⟨a, b, by simpa using h1, by simpa using h2, h3⟩
theorem zipL_len : ∀ (xs ys : List SV), (zipL xs ys).length = min xs.length ys.length
  | [], _ => by simp [zipL]
  | _ :: _, [] => by simp [zipL]
  | x :: xs, y :: ys => by simp [zipL, zipL_len xs ys] <;> omega
section
variable {K : PySem.W.Frag} {g : Gh} {len : Nat} {H : Hp} {A : List Addr}
theorem good_seq {k : Kd} {a : Addr} {xs : List SV} {vs : List V} (rl : RepL K g.F g.c len xs vs) (st : ∀ H', (∀ b ∈ A, H' b = H b) → SqK k K H' a vs) : GoodIt K g len H A xs (ItS k K a) := by
  have hl := rl.length
  have inj : ∀ {H' : Hp} {zs : List V}, SqK k K H' a vs → SqK k K H' a zs → True := fun _ _ => trivial
  refine ⟨fun i H' hi h => ?_, fun H' h => ?_, fun i x H1 H2 v hv h hy g1 st1 σ1 R hF hc hn => ?_⟩
  · have q := st H' h
    cases k with
    | L => exact ⟨vs, vs[i]'(by omega), q, List.getElem?_eq_getElem (by omega)⟩
    | T => exact ⟨vs, vs[i]'(by omega), q, List.getElem?_eq_getElem (by omega)⟩
  · have q := st H' h
    cases k with
    | L => exact ⟨vs, q, by omega⟩
    | T => exact ⟨vs, q, by omega⟩
  · have q := st H1 h
    obtain ⟨z, h1, h2⟩ := rl.get hv
    have hz : H2 = H1 ∧ vs[i]? = some x := by
      cases k with
      | L => exact ⟨hy.1, hy.2 vs q⟩
      | T => exact ⟨hy.1, hy.2 vs q⟩
    obtain ⟨rfl, e⟩ := hz
    rw [h1] at e; cases e
    exact ⟨g1, R, Grow.refl _ _ _, Rep.up hF hc hn _ _ h2⟩
theorem good_rng {a : Int} {n : Nat} : GoodIt K g len H A (rngL a n) (Itr a n) := by
  refine ⟨fun i H' hi _ => by rw [rngL_len] at hi; exact hi, fun H' _ => by rw [rngL_len]; exact Nat.le_refl _, fun i x H1 H2 v hv h hy g1 st1 σ1 R hF hc hn => ?_⟩
  obtain ⟨rfl, rfl⟩ := hy
  rw [rngL_get] at hv
  split at hv
  · cases hv; exact ⟨g1, R, Grow.refl _ _ _, rfl⟩
  · cases hv
theorem good_enum {k : Kd} {a : Addr} {xs : List SV} {vs : List V} (rl : RepL K g.F g.c len xs vs) (st : ∀ H', (∀ b ∈ A, H' b = H b) → SqK k K H' a vs) : GoodIt K g len H A (enumL 0 xs) (IteK k K a) := by
  have hl := rl.length
  refine ⟨fun i H' hi h => ?_, fun H' h => ?_, fun i x H1 H2 v hv h hy g1 st1 σ1 R hF hc hn => ?_⟩
  · rw [enumL_len] at hi
    exact ⟨vs, vs[i]'(by omega), st H' h, List.getElem?_eq_getElem (by omega)⟩
  · rw [enumL_len]
    exact ⟨vs, st H' h, by omega⟩
  · obtain ⟨T, o, y, rfl, hT, ho, rfl, hy⟩ := hy
    have e := hy vs (st H1 h)
    rw [enumL_get] at hv
    cases ex : xs[i]? with
    | none => rw [ex] at hv; cases hv
    | some w =>
      rw [ex] at hv
      cases hv
      obtain ⟨z, h1, h2⟩ := rl.get ex
      rw [h1] at e; cases e
      obtain ⟨R2, G2⟩ := R.add (o := .frz o (.tup [.int (i : Nat), y])) hT
      have r2 := Rep.up hF hc hn _ _ h2
      refine ⟨_, R2, G2, T, o, _, rfl, upd_same, ho, _, _, rfl, ?_, _, _, rfl, Rep.up G2.fr G2.cells G2.hlen _ _ r2, rfl⟩
      show V.int (i : Nat) = V.int _
      congr 1
      omega
theorem good_zip {k k2 : Kd} {a b : Addr} {xs ys : List SV} {vs ws : List V} (rl : RepL K g.F g.c len xs vs) (rl2 : RepL K g.F g.c len ys ws) (st : ∀ H', (∀ b ∈ A, H' b = H b) → SqK k K H' a vs) (st2 : ∀ H', (∀ b ∈ A, H' b = H b) → SqK k2 K H' b ws) :
    GoodIt K g len H A (zipL xs ys) (ItzK k k2 K a b) := by
  have hl := rl.length
  have hl2 := rl2.length
  refine ⟨fun i H' hi h => ?_, fun H' h => ?_, fun i x H1 H2 v hv h hy g1 st1 σ1 R hF hc hn => ?_⟩
  · rw [zipL_len] at hi
    exact ⟨vs, ws, vs[i]'(by omega), ws[i]'(by omega), st H' h, st2 H' h, List.getElem?_eq_getElem (by omega), List.getElem?_eq_getElem (by omega)⟩
  · rw [zipL_len]
    exact ⟨vs, ws, st H' h, st2 H' h, by omega, by omega, by omega⟩
  · obtain ⟨T, o, y, y2, rfl, hT, ho, rfl, hy, hy2⟩ := hy
    have e := hy vs (st H1 h)
    have e2 := hy2 ws (st2 H1 h)
    obtain ⟨w, w2, ex, ex2, rfl⟩ := zipL_get _ _ _ _ hv
    obtain ⟨z, h1, h2⟩ := rl.get ex
    obtain ⟨z2, h3, h4⟩ := rl2.get ex2
    rw [h1] at e; cases e
    rw [h3] at e2; cases e2
    obtain ⟨R2, G2⟩ := R.add (o := .frz o (.tup [y, y2])) hT
    exact ⟨_, R2, G2, T, o, _, rfl, upd_same, ho, _, _, rfl, Rep.up G2.fr G2.cells G2.hlen _ _ (Rep.up hF hc hn _ _ h2), _, _, rfl, Rep.up G2.fr G2.cells G2.hlen _ _ (Rep.up hF hc hn _ _ h4), rfl⟩
end
end Mq

namespace Mq
open PySem PySem.Spec PyProof.Rows L2 Mp
section
variable {X : Cx} {E : ErT} {W : WX} {tg a b e : Expr} {fa fb : Sta → Rs SV} {pos p tpos : Pos}
def iSeqS (K : PySem.W.Frag) (tl : TE) : TI := fun σ H R => tl σ H fun x H1 => ∃ k a, x = .ref a ∧ (∃ xs, SqK k K H1 a xs) ∧ R (ItS k K a) H1
theorem pi_seqS {l : Expr} {tl : TE} (hl : PE X l tl) : PI X tg l (iSeqS X.K tl) := by
  refine ⟨fun pins s σ H R I h => ?_⟩
  refine thn (hl.run pins s σ H _ I h) fun v s1 ⟨x, H1, I1, r1, q1⟩ => ?_
  obtain ⟨k, a, e, ⟨xs, hq⟩, q⟩ := q1
  subst e
  cases r1
  cases k with
  | L =>
    obtain ⟨its, rv, p, hz⟩ := I1.list hq
    refine wpAny_pyIter_list p.isList ?_
    refine ⟨s1.heap.objs.size, [s1.heap.objs.size], _, _, H1, rfl, I1.kept (t' := s1.toks) fun b o e => Heap.get?_push_of_some _ e, turn_list a _, ⟨_, Heap.get?_push_size _ rfl, rfl, rfl⟩, fun b hb => ?_, q⟩
    have e : b = s1.heap.objs.size := by simpa using hb
    subst e
    exact I1.fpOk (Nat.le_refl _) (I1.hok.fresh (Nat.le_refl _))
  | T =>
    obtain ⟨its, rv, p, hz⟩ := I1.tuple hq
    refine wpAny_pyIter_tuple (show s1.heap.IsTuple a its.toArray from p) ?_
    refine ⟨s1.heap.objs.size, [s1.heap.objs.size], _, _, H1, rfl, I1.kept (t' := s1.toks) fun b o e => Heap.get?_push_of_some _ e, turn_tuple a _, ⟨_, Heap.get?_push_size _ rfl, rfl, rfl⟩, fun b hb => ?_, q⟩
    have e : b = s1.heap.objs.size := by simpa using hb
    subst e
    exact I1.fpOk (Nat.le_refl _) (I1.hok.fresh (Nat.le_refl _))
theorem walk_out {K : PySem.W.Frag} {g1 : Gh} {st1 : Sta} {σ : L2.St} {H1 : Hp} {v : SV} {β : Type} {Qb : β → Gh → Sta → Hp → Prop} {k : Walk → Sta → Rs β} (h : Out K E W g1 st1 σ H1 Qb ((mkWalk st1 v).bind k)) :
    ∃ xs, v.isScr = false ∧ st1.seq v = some xs ∧ Out K E W g1 st1 σ H1 Qb (k ⟨xs, hidOf v⟩ st1) := by
  unfold mkWalk at h
  cases hs : v.isScr with
  | true => rw [hs] at h; exact h.elim
  | false =>
    rw [hs, if_neg Bool.false_ne_true] at h
    cases e : st1.seq v with
    | none => rw [e] at h; exact h.elim
    | some xs => rw [e] at h; exact ⟨xs, rfl, rfl, h⟩
theorem Out.bindR {K : PySem.W.Frag} {g : Gh} {st : Sta} {σ : L2.St} {H : Hp} {α : Type} {Q : α → Gh → Sta → Hp → Prop} {r : Rs α} (h : Out K E W g st σ H Q r) : Out K E W g st σ H Q (r.bind fun a s => .ok a s) := by
  cases r <;> exact h
theorem w_vals (ha : PE X e (tE X.K E W fa)) : PI X tg e (tW X.K E W fun s => (fa s).bind fun x s => mkWalk s x) := by
  refine PI.imp (pi_seqS ha) fun σ H R ⟨g, st, R0, h⟩ => tE.seq R0 h fun v x g1 st1 H1 G R1 r h => ?_
  obtain ⟨xs, hs, e, o⟩ := walk_out h.bindR
  obtain ⟨k, a, vs, A, rfl, hq, rl, st1', _, stay⟩ := seq_walk R1 r e hs
  exact ⟨k, a, rfl, ⟨vs, hq⟩, Out.now R1 o _ A (st1' _ rfl) (good_seq rl stay)⟩
theorem rng_ok {j : Int} (h : rngOk j = true) : -(2 ^ 62) ≤ j ∧ j < 2 ^ 62 := by
  unfold rngOk at h
  simp only [Bool.and_eq_true, decide_eq_true_eq] at h
  omega
theorem w_rng1 (hg : Gl X "range") (hm : X.mg "range" = none) (ha : PE X a (tE X.K E W fa)) (hs : starEach [a] X.env = (false, eval a X.env) :: starEach [] X.env) :
    PI X tg (.Call (.Name "range" p) [a] [] pos) (tW X.K E W fun s => (asI (fa s)).bind fun j s => if rngOk j then .ok ⟨rngL 0 j.toNat, none⟩ s else .bad) := by
  refine PI.imp (pi_range1 hg hm (pa_cons ha pa_nil hs) hs) fun σ H R ⟨g, st, R0, h⟩ => asI.seq R0 h fun j g1 st1 H1 G R1 h => ?_
  split at h
  · rename_i hj
    obtain ⟨h1, h2⟩ := rng_ok hj
    exact ⟨j, rfl, h1, h2, Out.now R1 h _ [] (by simp) good_rng⟩
  · exact h.elim
theorem w_rng2 (hg : Gl X "range") (hm : X.mg "range" = none) (ha : PE X a (tE X.K E W fa)) (hb : PE X b (tE X.K E W fb)) (hs : starEach [a, b] X.env = (false, eval a X.env) :: starEach [b] X.env) (hs2 : starEach [b] X.env = (false, eval b X.env) :: starEach [] X.env) :
    PI X tg (.Call (.Name "range" p) [a, b] [] pos) (tW X.K E W fun s => (asI (fa s)).bind fun i s => (asI (fb s)).bind fun j s => if rngOk i && rngOk j then .ok ⟨rngL i (j - i).toNat, none⟩ s else .bad) := by
  refine PI.imp (pi_range2 hg hm (pa_cons ha (pa_cons hb pa_nil hs2) hs) (by rw [hs, hs2]; rfl) (by rw [hs2]; rfl)) fun σ H R ⟨g, st, R0, h⟩ => asI.seq R0 h fun i g1 st1 H1 G R1 h => asI.seq R1 h fun j g2 st2 H2 G2 R2 h => ?_
  split at h
  · rename_i hj
    simp only [Bool.and_eq_true] at hj
    obtain ⟨h1, h2⟩ := rng_ok hj.1
    obtain ⟨h3, h4⟩ := rng_ok hj.2
    exact ⟨i, j, rfl, ⟨h1, h2, h3, h4⟩, Out.now R2 h _ [] (by simp) good_rng⟩
  · exact h.elim
theorem w_enum {elts : List Expr} {kk : Nat} (hg : Gl X "enumerate") (hm : X.mg "enumerate" = none) (ha : PE X a (tE X.K E W fa)) (hs : starEach [a] X.env = (false, eval a X.env) :: starEach [] X.env) :
    PI X (.Tuple elts kk tpos) (.Call (.Name "enumerate" p) [a] [] pos) (tW X.K E W fun s => (fa s).bind fun x s => (mkWalk s x).bind fun w s => .ok { w with items := enumL 0 w.items } s) := by
  refine PI.imp (pi_enumK hg hm (pa_cons ha pa_nil hs) hs) fun σ H R ⟨g, st, R0, h⟩ => tE.seq R0 h fun v x g1 st1 H1 G R1 r h => ?_
  obtain ⟨xs, hs, e, o⟩ := walk_out h
  obtain ⟨k, a, vs, A, rfl, hq, rl, st1', _, stay⟩ := seq_walk R1 r e hs
  exact ⟨k, a, vs, rfl, hq, Out.now R1 o _ A (st1' ⟨enumL 0 xs, hidOf v⟩ rfl) (good_enum rl stay)⟩
theorem w_zip {elts : List Expr} {kk : Nat} (hg : Gl X "zip") (hm : X.mg "zip" = none) (ha : PE X a (tE X.K E W fa)) (hb : PE X b (tE X.K E W fb)) (hs : starEach [a, b] X.env = (false, eval a X.env) :: starEach [b] X.env) (hs2 : starEach [b] X.env = (false, eval b X.env) :: starEach [] X.env)
    (hpl : (backTo pos (starEach [b] X.env)).any (·.1) = false) :
    PI X (.Tuple elts kk tpos) (.Call (.Name "zip" p) [a, b] [] pos) (tW X.K E W fun s => (fa s).bind fun x s => (fb s).bind fun y s => (mkWalk s x).bind fun w s => (mkWalk s y).bind fun w2 s => match w2.hid with
    | none => .ok ⟨zipL w.items w2.items, w.hid⟩ s
    | some h => match w.hid with
      | none => .ok ⟨zipL w.items w2.items, some h⟩ s
      | some _ => .bad) := by
  refine PI.imp (pi_zipK hg hm (pa_cons ha (pa_cons hb pa_nil hs2) hs) hs hpl) fun σ H R ⟨g, st, R0, h⟩ => tE.seq R0 h fun v x g1 st1 H1 G R1 r h => tE.seq R1 h fun v2 y g2 st2 H2 G2 R2 r2 h => ?_
  obtain ⟨xs, hs, e, o⟩ := walk_out h
  obtain ⟨ys, hs2, e2, o⟩ := walk_out o
  obtain ⟨k, a, vs, A, rfl, hq, rl, f1, n1, stay⟩ := seq_walk R2 (r.up G2) e hs
  obtain ⟨k2, a2, vs2, A2, rfl, hq2, rl2, f2, n2, stay2⟩ := seq_walk R2 r2 e2 hs2
  have good : GoodIt X.K g2 st2.heap.length H2 (A ++ A2) (zipL xs ys) (ItzK k k2 X.K a a2) := good_zip rl rl2 (fun H' h => stay H' fun b hb => h b (by simp [hb])) fun H' h => stay2 H' fun b hb => h b (by simp [hb])
  refine ⟨k, k2, a, a2, vs, vs2, rfl, hq, hq2, ?_⟩
  cases h2 : hidOf v2 with
  | none =>
    rw [h2] at o
    dsimp only at o
    refine Out.now R2 o _ (A ++ A2) (fun b hb => ?_) good
    rcases List.mem_append.mp hb with hb | hb
    · exact f1 ⟨zipL xs ys, hidOf v⟩ rfl b hb
    · exact .inl (n2 h2 b hb)
  | some u =>
    rw [h2] at o
    dsimp only at o
    cases h1 : hidOf v with
    | some _ => rw [h1] at o; exact o.elim
    | none =>
      rw [h1] at o
      refine Out.now R2 o _ (A ++ A2) (fun b hb => ?_) good
      rcases List.mem_append.mp hb with hb | hb
      · exact .inl (n1 h1 b hb)
      · exact f2 ⟨zipL xs ys, some u⟩ h2.symm b hb
end
section
variable {X : Cx} {E : ErT} {W : WX} {pos : Pos} {tg c iter : Expr} {body : List Stmt} {L : List Nat} {fw : Sta → Rs Walk} {ft : SV → Sta → Rs Unit} {fb : Sta → Rs Fl} {fc : Sta → Rs Bool}
theorem whl_succ (c : Sta → Rs Bool) (b : Sta → Rs Fl) (n : Nat) (s : Sta) : whlL c b (n + 1) s = (c s).bind fun k s1 => if k then (b s1).bind fun f s2 => (match f with | .next => whlL c b n s2 | .ret v => .ok (.ret v) s2) else .ok .next s1 := by
  rw [whlL]
  cases c s with
  | bad => rfl
  | err e s1 => rfl
  | ok k s1 =>
    cases k with
    | false => rfl
    | true =>
      simp only [Rs.bind_ok, if_true]
      cases b s1 with
      | bad => rfl
      | err e s2 => rfl
      | ok f s2 => cases f <;> rfl
theorem s_whl (n : Nat) (hp : PassesOwn (model X.prog X.w) X.A X.env X.xe) (hc : PT X c (tT X.K E W fc)) (hb : PSs X body (tS X.K E W fb)) : PS X (.While c body [] pos) (tS X.K E W fun s => whlL fc fb n s) := by
  refine PS.imp (ps_while hp hc hb) fun D σ H ⟨g, st, R, h⟩ => ?_
  refine ⟨fun m σ H => ∃ g st, Rel X.K g st σ H ∧ OutS X.K E W anyS g st H (SQ X.K D) (whlL fc fb m st), ⟨n, g, st, R, h⟩, ?_⟩
  rintro m σ H ⟨g, st, R, h⟩
  cases m with
  | zero => exact h.elim
  | succ m =>
    rw [whl_succ] at h
    refine tT.seqS trivial R h fun k g1 st1 H1 G R1 h => ?_
    cases k with
    | false => exact OutS.now (a := Fl.next) trivial R1 h
    | true =>
      refine ⟨fun σ H => ∃ g st, Rel X.K g st σ H ∧ OutS X.K E W anyS g st H (SQ X.K D) (whlL fc fb m st), fun σ' H' h => ⟨m, Nat.lt_succ_self _, h⟩, g1, st1, R1, ?_⟩
      have h : OutS X.K E W anyS g1 st1 H1 (SQ X.K D) ((fb st1).bind fun f s2 => (match f with | .next => whlL fc fb m s2 | .ret v => .ok (.ret v) s2)) := h
      refine h.bind.imp fun f g2 st2 σ2 H2 ⟨_, G2, R2, o⟩ => ?_
      cases f with
      | next => exact ⟨g2, st2, R2, o⟩
      | ret v => exact fun x r => OutS.now (a := Fl.ret v) trivial R2 o x r
theorem for_cons (b : SV → Sta → Rs Fl) (x : SV) (xs : List SV) (s : Sta) : forL b (x :: xs) s = (b x s).bind fun f s1 => (match f with | .next => forL b xs s1 | .ret v => .ok (.ret v) s1) := by
  rw [forL]
  cases b x s with
  | bad => rfl
  | err e s1 => rfl
  | ok f s1 => cases f <;> rfl
/-- a place that is walked is given up -/
theorem give_up {S : L2.St → Prop} {K : PySem.W.Frag} {g1 : Gh} {st1 : Sta} {σ : L2.St} {H1 : Hp} {w : Walk} {β : Type} {Qb : β → Gh → Sta → L2.St → Hp → Prop} {k : Unit → Sta → Rs β} (hσ : S σ) (R : Rel K g1 st1 σ H1) (h : OutS K E W S g1 st1 H1 Qb ((giveUp w st1).bind k)) :
    ∃ g2 st2, Grow g1 st1 H1 g2 st2 H1 ∧ Rel K g2 st2 σ H1 ∧ OutS K E W S g2 st2 H1 Qb (k () st2) ∧ (∀ a, Still g1 (wk w st1) H1 a → Still g2 st2 H1 a) ∧ st2.heap.length = st1.heap.length := by
  unfold giveUp at h
  cases hw : w.hid with
  | none =>
    rw [hw] at h
    refine ⟨g1, st1, Grow.refl _ _ _, R, h, fun a z => ?_, rfl⟩
    unfold wk at z
    rw [hw] at z
    exact z
  | some v =>
    rw [hw] at h
    cases v with
    | view i =>
      dsimp only at h
      unfold Sta.solid at h
      dsimp only at h
      cases hs : st1.env[i]? with
      | none => rw [hs] at h; exact h.elim
      | some sl =>
        rw [hs] at h
        cases sl with
        | emp => exact h.elim
        | val _ => exact h.elim
        | box c =>
          dsimp only at h
          cases hf : c.frozen with
          | none => rw [hf] at h; exact h.elim
          | some u =>
            rw [hf] at h
            obtain ⟨o, h2, R2, G2, _⟩ := R.freeze hs hf
            have h : OutS K E W S g1 st1 H1 Qb (k () { st1 with env := st1.env.set i (.val u) }) := h
            refine ⟨_, _, G2, R2, h.from G2, fun a z => ?_, rfl⟩
            rcases z with ⟨o', e⟩ | ⟨hn, hl⟩
            · exact .inl ⟨o', G2.fr _ _ e⟩
            · by_cases ha : a = g1.b i
              · subst ha; exact .inl ⟨o, upd_same⟩
              · refine .inr ⟨hn, fun ⟨l, d, h3, e⟩ => hl ?_⟩
                obtain ⟨h4, h5⟩ := at_set_box (fun d => by simp) h3
                have e' : g1.at l = a := by cases l <;> exact e
                refine ⟨l, d, ?_, e'⟩
                unfold wk
                rw [hw]
                cases l with
                | cell n => exact h4
                | box j =>
                  have hj : i ≠ j := fun z => h5 (by rw [z])
                  unfold at? at h4 ⊢
                  simp only [Sta.hide] at h4 ⊢
                  rw [List.getElem?_set_ne hj]
                  exact h4
    | _ => exact h.elim
theorem s_for (hp : PassesOwn (model X.prog X.w) X.A X.env X.xe) (hc : X.calm = true) (hi : PI X tg iter (tW X.K E W fw)) (hg : PG X tg (tG X.K E W L ft)) (hb : PSs X body (tS X.K E W fb)) (hs : ∀ x, foldedSetIterable iter X.env x = pure x) :
    PS X (.For tg iter body [] pos) (tS X.K E W fun s => (fw s).bind fun w s => (giveUp w s).bind fun _ s => forL (fun x s => (ft x s).bind fun _ s => fb s) w.items s) := by
  refine PS.imp (ps_for hp hc hi hg hb hs) fun D σ H ⟨g, st, R, h⟩ => ⟨g, st, R, (h.bindE trivial).imp fun w g1 st1 H1 ⟨G, R1, h⟩ J A hA good => ?_⟩
  obtain ⟨g2, st2, G2, R2, h, hst, hlen⟩ := give_up trivial R1 h
  refine ⟨fun i m σ H' => m = w.items.length - i ∧ i ≤ w.items.length ∧ ∃ g st, Rel X.K g st σ H' ∧ (∀ a o, g1.F a = some o → g.F a = some o) ∧ (∀ n, n < st1.heap.length → g.c n = g1.c n) ∧ st1.heap.length ≤ st.heap.length ∧ (∀ a ∈ A, Still g st H' a ∧ H' a = H1 a) ∧
      OutS X.K E W anyS g st H' (SQ X.K D) (forL (fun x s => (ft x s).bind fun _ s => fb s) (w.items.drop i) st),
    ⟨w.items.length, by simp, Nat.zero_le _, g2, st2, R2, G2.fr, G2.cells, G2.hlen, fun a ha => ⟨hst a (hA a ha), rfl⟩, by simpa using h⟩, ?_⟩
  rintro i m σ H' ⟨rfl, hi, g3, st3, R3, hF, hcc, hle, hA3, h⟩
  by_cases hlt : i < w.items.length
  · refine .inr ⟨good.go i H' hlt fun a ha => (hA3 a ha).2, ?_⟩
    have hd : w.items.drop i = w.items[i] :: w.items.drop (i + 1) := List.drop_eq_getElem_cons hlt
    rw [hd, for_cons] at h
    refine ⟨fun σ H' => ∃ g st, Rel X.K g st σ H' ∧ (∀ a o, g1.F a = some o → g.F a = some o) ∧ (∀ n, n < st1.heap.length → g.c n = g1.c n) ∧ st1.heap.length ≤ st.heap.length ∧ (∀ a ∈ A, Still g st H' a ∧ H' a = H1 a) ∧
      OutS X.K E W anyS g st H' (SQ X.K D) (forL (fun x s => (ft x s).bind fun _ s => fb s) (w.items.drop (i + 1)) st), fun σ' H'' z => ⟨w.items.length - (i + 1), by omega, rfl, hlt, z⟩, fun x H2 hy => ?_⟩
    obtain ⟨g4, R4, G4, r4⟩ := good.yld i x H' H2 _ (List.getElem?_eq_getElem hlt) (fun a ha => (hA3 a ha).2) hy g3 st3 σ R3 hF hcc hle
    have h4 := h.from G4
    have h4 : OutS X.K E W anyS g4 st3 H2 (SQ X.K D) (((ft w.items[i] st3).bind fun _ s => fb s).bind fun f s1 => (match f with | .next => forL (fun x s => (ft x s).bind fun _ s => fb s) (w.items.drop (i + 1)) s1 | .ret v => .ok (.ret v) s1)) := h4
    refine ⟨g4, st3, _, R4, r4, ?_⟩
    have h5 : OutS X.K E W anyS g4 st3 H2 (SQ X.K D) ((ft w.items[i] st3).bind fun _ s => (fb s).bind fun f s1 => (match f with | .next => forL (fun x s => (ft x s).bind fun _ s => fb s) (w.items.drop (i + 1)) s1 | .ret v => .ok (.ret v) s1)) := by
      cases e : ft w.items[i] st3 with
      | ok a s => rw [e] at h4; exact h4
      | err a s => rw [e] at h4; exact h4
      | bad => rw [e] at h4; exact h4
    refine (h5.bind.sub fun _ _ => trivial).imp fun _ g5 st5 σ5 H5 ⟨_, G5, R5, o5⟩ _ => ⟨g5, st5, R5, ?_⟩
    refine o5.bind.imp fun f g6 st6 σ6 H6 ⟨_, G6, R6, o6⟩ => ?_
    have GG := (G4.trans G5).trans G6
    cases f with
    | ret v => exact fun x r => OutS.now (a := Fl.ret v) trivial R6 o6 x r
    | next =>
      refine ⟨g6, st6, R6, fun a o e => GG.fr _ _ (hF a o e), fun n hn => (GG.cells n (Nat.lt_of_lt_of_le hn hle)).trans (hcc n hn), Nat.le_trans hle GG.hlen, fun a ha => ?_, o6⟩
      obtain ⟨z1, z2⟩ := (hA3 a ha).1.grow R3 R6 GG
      exact ⟨z1, z2.trans (hA3 a ha).2⟩
  · have e : i = w.items.length := by omega
    subst e
    refine .inl ⟨good.stop H' fun a ha => (hA3 a ha).2, ?_⟩
    rw [List.drop_length] at h
    exact OutS.now (a := Fl.next) trivial R3 h
end
end Mq

namespace Mq
open PySem PySem.Spec PyProof.Rows L2 Mp
theorem wipe_at {env : List Slt} {j : Nat} : ∀ {is : List Nat}, j ∉ is → (Mp.wipe env is)[j]? = env[j]?
  | [], _ => rfl
  | i :: is, h => by
    simp only [List.mem_cons, not_or] at h
    unfold Mp.wipe
    rw [List.getElem?_set_ne (fun e => h.1 e.symm)]
    exact wipe_at h.2
theorem wipeV_in {σ : L2.St} {j : Nat} : ∀ {is : List Nat}, j ∈ is → (L2.wipe σ is)[j]? = if j < σ.length then some none else none
  | i :: is, h => by
    unfold L2.wipe
    by_cases hj : i = j
    · subst hj
      rw [List.getElem?_set]
      simp [L2.wipe_length]
    · rw [List.getElem?_set_ne hj]
      exact wipeV_in ((List.mem_cons.mp h).resolve_left fun e => hj e.symm)
theorem wipeV_only {L : List Nat} {σ σ' : L2.St} (h : OnlyAt L (L2.wipe σ L) σ') : L2.wipe σ' L = L2.wipe σ L := by
  apply List.ext_getElem?
  intro j
  by_cases hj : j ∈ L
  · rw [wipeV_in hj, wipeV_in hj, h.1, L2.wipe_length]
  · rw [wipeV_at hj, h.2 j hj]
theorem back_len (env old : List Slt) : ∀ is : List Nat, (back env old is).length = env.length
  | [] => rfl
  | i :: is => by simp [back, back_len env old is]
theorem back_at {env old : List Slt} {j : Nat} : ∀ {is : List Nat}, j ∉ is → (back env old is)[j]? = env[j]?
  | [], _ => rfl
  | i :: is, h => by
    simp only [List.mem_cons, not_or] at h
    unfold back
    rw [List.getElem?_set_ne (fun e => h.1 e.symm)]
    exact back_at h.2
theorem back_in {env old : List Slt} {j : Nat} (hl : env.length = old.length) : ∀ {is : List Nat}, j ∈ is → (back env old is)[j]? = old[j]?
  | i :: is, h => by
    unfold back
    by_cases hj : i = j
    · subst hj
      rw [List.getElem?_set]
      simp only [if_true, back_len]
      by_cases hlt : i < env.length
      · rw [if_pos hlt]
        have : i < old.length := by omega
        rw [List.getElem?_eq_getElem this, List.getD_eq_getElem?_getD, List.getElem?_eq_getElem this]; rfl
      · rw [if_neg hlt, List.getElem?_eq_none (by omega)]
    · rw [List.getElem?_set_ne hj]
      exact back_in hl ((List.mem_cons.mp h).resolve_left fun e => hj e.symm)
section
variable {K : PySem.W.Frag} {E : ErT} {W : WX} {g g1 g3 : Gh} {st st1 s2 : Sta} {σ : L2.St} {H H' H0 H1 : Hp} {own : List Nat}
/-- the hidden place comes back -/
def Hid (st : Sta) (w : Walk) : Prop := ∀ v, w.hid = some v → ∃ l c, plOf v = some l ∧ at? st l = some c ∧ st.cellOf v = some c
def cfin (w : Walk) (st s2 : Sta) (own : List Nat) : Sta := match w.hid with
  | none => { s2 with env := back s2.env st.env own }
  | some v => ({ s2 with env := back s2.env (st.hide v).env own } : Sta).unhide v (st.cellOf v)
theorem ownOk_val {env : List Slt} {is : List Nat} (h : ownOk env is = true) {j : Nat} (hj : j ∈ is) : ∀ c, env[j]? ≠ some (.box c) := by
  unfold ownOk at h
  rw [List.all_eq_true] at h
  have := h j hj
  intro c e
  rw [e] at this
  cases this
theorem hide_env {v : SV} {j : Nat} (h : plOf v ≠ some (.box j)) : (st.hide v).env[j]? = st.env[j]? := by
  cases v <;> first | rfl | skip
  rename_i i
  have hj : i ≠ j := fun e => h (by rw [e]; rfl)
  exact List.getElem?_set_ne hj
theorem hide_env_len (v : SV) : (st.hide v).env.length = st.env.length := by cases v <;> simp [Sta.hide]
/-- behind a comprehension: its own slots as ahead of it, the walked place as it was -/
theorem comp_end {w : Walk} (R1 : Rel K g1 st1 σ H1) (hid : Hid st1 w) (G : Grow g1 (wk w st1) H1 g3 (wiped s2 own) H') (R3 : Rel K g3 (wiped s2 own) (L2.wipe σ own) H') (hown : ownOk (wk w st1).env own = true) :
    ∃ g', Rel K g' (cfin w st1 s2 own) σ H' ∧ Grow g1 st1 H1 g' (cfin w st1 s2 own) H' ∧ g'.F = g3.F ∧ g'.c = g3.c ∧ (cfin w st1 s2 own).heap.length = s2.heap.length ∧ ∀ a, H1 a = none → ¬ LiveA g3 (wiped s2 own) a → ¬ LiveA g' (cfin w st1 s2 own) a := by
  have hlen : s2.env.length = st1.env.length := by
    have h1 := R3.len
    rw [L2.wipe_length] at h1
    have h2 : (Mp.wipe s2.env own).length = σ.length := h1
    rw [wipe_len] at h2
    rw [h2]; exact R1.len.symm
  -- a slot that is none of the comprehension's own
  have out : ∀ {j : Nat} {s : Slt}, j ∉ own → s2.env[j]? = some s → (wiped s2 own).env[j]? = some s := fun {j s} hj e => by
    show (Mp.wipe s2.env own)[j]? = some s
    rw [wipe_at hj]; exact e
  cases hw : w.hid with
  | none =>
    have ewk : wk w st1 = st1 := by unfold wk; rw [hw]
    rw [ewk] at G hown
    have efin : cfin w st1 s2 own = { s2 with env := back s2.env st1.env own } := by unfold cfin; rw [hw]
    rw [efin]
    have at_ : ∀ l c, at? { s2 with env := back s2.env st1.env own } l = some c → at? (wiped s2 own) l = some c := fun l c h => by
      cases l with
      | cell n => exact h
      | box j =>
        unfold at? at h
        simp only at h
        by_cases hj : j ∈ own
        · rw [back_in hlen hj] at h
          cases e : st1.env[j]? with
          | none => rw [e] at h; cases h
          | some s =>
            rw [e] at h
            cases s <;> simp only [reduceCtorEq] at h
            exact absurd e (ownOk_val hown hj _)
        · rw [back_at hj] at h
          cases e : s2.env[j]? with
          | none => rw [e] at h; cases h
          | some s =>
            rw [e] at h
            cases s <;> simp only [reduceCtorEq] at h
            unfold at?
            simp only [out hj e]
            exact h
    refine ⟨g3, ⟨R3.sub, fun l c h => R3.loc l c (at_ l c h), fun l l' c c' h h' => R3.inj l l' c c' (at_ l c h) (at_ l' c' h'), fun j v h => ?_, fun j c h => ?_, ?_⟩,
      ⟨G.keep, G.dom, G.fr, G.cells, G.hlen, fun a ⟨l, c, h, e⟩ => G.live a ⟨l, c, at_ l c h, e⟩, G.new⟩, rfl, rfl, rfl, fun a _ hn ⟨l, c, h, e⟩ => hn ⟨l, c, at_ l c h, e⟩⟩
    · have h : (back s2.env st1.env own)[j]? = some (.val v) := h
      by_cases hj : j ∈ own
      · rw [back_in hlen hj] at h
        obtain ⟨x, h1, h2⟩ := R1.slot j v h
        exact ⟨x, h1, Rep.up G.fr G.cells G.hlen _ _ h2⟩
      · rw [back_at hj] at h
        obtain ⟨x, h1, h2⟩ := R3.slot j v (out hj h)
        exact ⟨x, by rw [wipeV_at hj] at h1; exact h1, h2⟩
    · have h : (back s2.env st1.env own)[j]? = some (.box c) := h
      by_cases hj : j ∈ own
      · rw [back_in hlen hj] at h
        exact absurd h (ownOk_val hown hj _)
      · rw [back_at hj] at h
        have := R3.box j c (out hj h)
        rw [wipeV_at hj] at this
        exact this
    · show (back s2.env st1.env own).length = σ.length
      rw [back_len, hlen]; exact R1.len
  | some v =>
    obtain ⟨l0, c0, hp, hat, hcell⟩ := hid v hw
    have ewk : wk w st1 = st1.hide v := by unfold wk; rw [hw]
    rw [ewk] at G hown
    have efin : cfin w st1 s2 own = ({ s2 with env := back s2.env (st1.hide v).env own } : Sta).unhide v (some c0) := by unfold cfin; rw [hw]; dsimp only; rw [hcell]
    rw [efin]
    obtain ⟨hF0, o0, hH0, rc0⟩ := R1.loc l0 c0 hat
    have nlive : ∀ {a : Addr}, LiveA g1 (st1.hide v) a → LiveA g1 st1 a := fun {a} ⟨l, c, h, e⟩ => ⟨l, c, (hide_at hp h).1, e⟩
    have n0 : ¬ LiveA g1 (st1.hide v) (g1.at l0) := fun ⟨l, c, h, e⟩ => by
      obtain ⟨h1, h2⟩ := hide_at hp h
      exact h2 (R1.inj _ _ _ _ h1 hat e)
    have hH3 : H' (g1.at l0) = some o0 := G.keep _ _ hH0 n0
    have n3 : ¬ LiveA g3 (Mq.wiped s2 own) (g1.at l0) := fun z => by
      rcases G.live _ z with z | z
      · exact n0 z
      · rw [hH0] at z; cases z
    have hF3 : g3.F (g1.at l0) = none := by
      cases e : g3.F (g1.at l0) with
      | none => rfl
      | some o =>
        rcases G.new _ _ e with z | z | z
        · rw [hF0] at z; cases z
        · rw [hH0] at z; cases z
        · exact absurd z n0
    have hle : st1.heap.length ≤ s2.heap.length := by
      have := G.hlen
      rw [hide_len] at this
      exact this
    have cc : ∀ n, n < st1.heap.length → g3.c n = g1.c n := fun n h => G.cells n (by rw [hide_len]; exact h)
    have rc3 : CellRep K g3.F g3.c s2.heap.length c0 o0 := CellRep.up G.fr cc hle rc0
    have hb0 : ∀ {j : Nat}, j ∈ own → ∀ c, (st1.hide v).env[j]? ≠ some (.box c) := fun {j} hj => ownOk_val hown hj
    -- what stands at the end
    have key : ∀ (fin : Sta) (g' : Gh), g'.F = g3.F → g'.c = g3.c → fin.heap.length = s2.heap.length → fin.env.length = st1.env.length →
        g'.at l0 = g1.at l0 → at? fin l0 = some c0 →
        (∀ l c, at? fin l = some c → l = l0 ∧ c = c0 ∨ l ≠ l0 ∧ at? (Mq.wiped s2 own) l = some c ∧ g'.at l = g3.at l) →
        (∀ j u, fin.env[j]? = some (.val u) → (j ∈ own ∧ st1.env[j]? = some (.val u)) ∨ (j ∉ own ∧ s2.env[j]? = some (.val u))) →
        (∀ j c, fin.env[j]? = some (.box c) → l0 = .box j ∨ (l0 ≠ .box j ∧ j ∉ own ∧ s2.env[j]? = some (.box c) ∧ g'.b j = g3.b j)) →
        (∀ j, l0 = .box j → σ[j]? = some (some (.ref (g'.b j)))) →
        Rel K g' fin σ H' ∧ Grow g1 st1 H1 g' fin H' ∧ ∀ a, H1 a = none → ¬ LiveA g3 (Mq.wiped s2 own) a → ¬ LiveA g' fin a := fun fin g' eF ec eh ee ea hat' hloc hval hbox hb => by
      refine ⟨⟨fun a o e => R3.sub a o (by rw [← eF]; exact e), fun l c h => ?_, fun l l' c c' h h' e => ?_, fun j u h => ?_, fun j c h => ?_, by rw [ee]; exact R1.len⟩,
        ⟨fun a o e n => G.keep a o e (fun z => n (nlive z)), G.dom, fun a o e => by rw [eF]; exact G.fr a o e, fun n h => by rw [ec]; exact cc n h, by rw [eh]; exact hle, fun a ⟨l, c, h, e⟩ => ?_, fun a o e => ?_⟩, fun a hn hl ⟨l, c, h, e⟩ => ?_⟩
      · rcases hloc l c h with ⟨rfl, rfl⟩ | ⟨n, h1, h2⟩
        · rw [ea, eF, ec, eh]; exact ⟨hF3, o0, hH3, rc3⟩
        · rw [h2, eF, ec, eh]; exact R3.loc l c h1
      · rcases hloc l c h with ⟨rfl, rfl⟩ | ⟨n, h1, h2⟩ <;> rcases hloc l' c' h' with ⟨rfl, rfl⟩ | ⟨n', h1', h2'⟩
        · rfl
        · rw [ea, h2'] at e; exact absurd ⟨l', c', h1', e.symm⟩ n3
        · rw [ea, h2] at e; exact absurd ⟨l, c, h1, e⟩ n3
        · rw [h2, h2'] at e; exact R3.inj _ _ _ _ h1 h1' e
      · rw [eF, ec, eh]
        rcases hval j u h with ⟨hj, h1⟩ | ⟨hj, h1⟩
        · obtain ⟨x, h2, h3⟩ := R1.slot j u h1
          exact ⟨x, h2, Rep.up G.fr cc hle _ _ h3⟩
        · obtain ⟨x, h2, h3⟩ := R3.slot j u (out hj h1)
          exact ⟨x, by rw [wipeV_at hj] at h2; exact h2, h3⟩
      · rcases hbox j c h with e | ⟨n, hj, h1, h2⟩
        · exact hb j e
        · have := R3.box j c (out hj h1)
          rw [wipeV_at hj] at this
          rw [h2]; exact this
      · rcases hloc l c h with ⟨rfl, rfl⟩ | ⟨n, h1, h2⟩
        · rw [ea] at e; exact .inl ⟨_, _, hat, e⟩
        · rw [h2] at e
          rcases G.live a ⟨l, c, h1, e⟩ with z | z
          · exact .inl (nlive z)
          · exact .inr z
      · rw [eF] at e
        rcases G.new a o e with z | z | z
        · exact .inl z
        · exact .inr (.inl z)
        · exact .inr (.inr (nlive z))
      · rcases hloc l c h with ⟨rfl, rfl⟩ | ⟨n, h1, h2⟩
        · rw [ea] at e; rw [← e, hH0] at hn; cases hn
        · rw [h2] at e; exact hl ⟨l, c, h1, e⟩
    cases v <;> simp only [plOf, reduceCtorEq, Option.some.injEq] at hp <;> subst hp
    · -- a place of the heap
      rename_i n
      have hn := at_lt hat n rfl
      have elen : (back s2.env (st1.hide (.ref n)).env own).length = st1.env.length := by rw [back_len]; exact hlen
      have hlenr : s2.env.length = (st1.hide (.ref n)).env.length := hlen
      have hn2 : n < s2.heap.length := Nat.lt_of_lt_of_le hn hle
      have hlive : live? c0 = some c0 := by
        unfold at? at hat
        simp only at hat
        cases e : st1.heap[n]? with
        | none => rw [e] at hat; cases hat
        | some d => rw [e] at hat; cases d <;> simp [live?] at hat <;> subst hat <;> rfl
      refine ⟨g3, ?_⟩
      have K1 := key ({ s2 with env := back s2.env (st1.hide (.ref n)).env own, heap := s2.heap.set n c0 } : Sta) g3 rfl rfl (by simp) elen (cc n hn) (by unfold at?; simp only [List.getElem?_set_self hn2, Option.bind_some]; exact hlive) (fun l c h => ?_) (fun j u h => ?_) (fun j c h => ?_) (fun j e => by cases e)
      · exact ⟨K1.1, K1.2.1, rfl, rfl, by simp [Sta.unhide], K1.2.2⟩
      · cases l with
        | cell m =>
          unfold at? at h
          simp only at h
          by_cases hm : n = m
          · subst hm
            rw [List.getElem?_set_self hn2] at h
            simp only [Option.bind_some, hlive, Option.some.injEq] at h
            exact .inl ⟨rfl, h.symm⟩
          · rw [List.getElem?_set_ne hm] at h
            exact .inr ⟨fun e => hm (by cases e; rfl), h, rfl⟩
        | box j =>
          refine .inr ⟨by simp, ?_, rfl⟩
          unfold at? at h
          simp only at h
          by_cases hj : j ∈ own
          · rw [back_in hlenr hj] at h
            cases e : (st1.hide (.ref n)).env[j]? with
            | none => rw [e] at h; cases h
            | some s =>
              rw [e] at h
              cases s <;> simp only [reduceCtorEq] at h
              exact absurd e (hb0 hj _)
          · rw [back_at hj] at h
            cases e : s2.env[j]? with
            | none => rw [e] at h; cases h
            | some s =>
              rw [e] at h
              cases s <;> simp only [reduceCtorEq] at h
              unfold at?
              simp only [out hj e]
              exact h
      · have h : (back s2.env (st1.hide (.ref n)).env own)[j]? = some (.val u) := h
        by_cases hj : j ∈ own
        · rw [back_in hlenr hj] at h; exact .inl ⟨hj, h⟩
        · rw [back_at hj] at h; exact .inr ⟨hj, h⟩
      · have h : (back s2.env (st1.hide (.ref n)).env own)[j]? = some (.box c) := h
        by_cases hj : j ∈ own
        · rw [back_in hlenr hj] at h; exact absurd h (hb0 hj _)
        · rw [back_at hj] at h; exact .inr ⟨by simp, hj, h, rfl⟩
    · -- a box
      rename_i n
      obtain ⟨s, hs, hb⟩ : ∃ c, st1.env[n]? = some (.box c) ∧ live? c = some c0 := by
        unfold at? at hat
        simp only at hat
        cases e : st1.env[n]? with
        | none => rw [e] at hat; cases hat
        | some s =>
          rw [e] at hat
          cases s <;> simp only [reduceCtorEq] at hat
          exact ⟨_, rfl, hat⟩
      have hn : n < st1.env.length := (List.getElem?_eq_some_iff.mp hs).1
      have hlive : live? c0 = some c0 := by cases s <;> simp [live?] at hb <;> subst hb <;> rfl
      have elen : ((back s2.env (st1.hide (.view n)).env own).set n (.box c0)).length = st1.env.length := by rw [List.length_set, back_len]; exact hlen
      have hlen2 : s2.env.length = (st1.hide (.view n)).env.length := by rw [hide_env_len]; exact hlen
      have hn2 : n < (back s2.env (st1.hide (.view n)).env own).length := by rw [back_len, hlen]; exact hn
      refine ⟨{ g3 with b := fun k => if k = n then g1.b n else g3.b k }, ?_⟩
      have K1 := key ({ s2 with env := (back s2.env (st1.hide (.view n)).env own).set n (.box c0) } : Sta) { g3 with b := fun k => if k = n then g1.b n else g3.b k } rfl rfl rfl elen (if_pos rfl) (by unfold at?; simp only [List.getElem?_set_self hn2]; exact hlive) (fun l c h => ?_) (fun j u h => ?_) (fun j c h => ?_) (fun j e => ?_)
      · exact ⟨K1.1, K1.2.1, rfl, rfl, rfl, K1.2.2⟩
      · cases l with
        | cell m => exact .inr ⟨by simp, h, rfl⟩
        | box j =>
          unfold at? at h
          simp only at h
          by_cases hjn : n = j
          · subst hjn
            rw [List.getElem?_set_self hn2] at h
            simp only [hlive, Option.some.injEq] at h
            exact .inl ⟨rfl, h.symm⟩
          · rw [List.getElem?_set_ne hjn] at h
            refine .inr ⟨fun e => hjn (by cases e; rfl), ?_, if_neg (fun e => hjn e.symm)⟩
            by_cases hj : j ∈ own
            · rw [back_in hlen2 hj] at h
              cases e : (st1.hide (.view n)).env[j]? with
              | none => rw [e] at h; cases h
              | some s =>
                rw [e] at h
                cases s <;> simp only [reduceCtorEq] at h
                exact absurd e (hb0 hj _)
            · rw [back_at hj] at h
              cases e : s2.env[j]? with
              | none => rw [e] at h; cases h
              | some s =>
                rw [e] at h
                cases s <;> simp only [reduceCtorEq] at h
                unfold at?
                simp only [out hj e]
                exact h
      · have h : ((back s2.env (st1.hide (.view n)).env own).set n (.box c0))[j]? = some (.val u) := h
        by_cases hjn : n = j
        · subst hjn
          rw [List.getElem?_set_self hn2] at h
          cases h
        · rw [List.getElem?_set_ne hjn] at h
          by_cases hj : j ∈ own
          · rw [back_in hlen2 hj] at h
            rw [hide_env (by simp [plOf]; exact hjn)] at h
            exact .inl ⟨hj, h⟩
          · rw [back_at hj] at h; exact .inr ⟨hj, h⟩
      · have h : ((back s2.env (st1.hide (.view n)).env own).set n (.box c0))[j]? = some (.box c) := h
        by_cases hjn : n = j
        · subst hjn; exact .inl rfl
        · rw [List.getElem?_set_ne hjn] at h
          by_cases hj : j ∈ own
          · rw [back_in hlen2 hj] at h; exact absurd h (hb0 hj _)
          · rw [back_at hj] at h; exact .inr ⟨fun e => hjn (by cases e; rfl), hj, h, if_neg (fun e => hjn e.symm)⟩
      · cases e
        show σ[n]? = some (some (.ref (if n = n then g1.b n else g3.b n)))
        rw [if_pos rfl]
        exact R1.box n _ hs
end
end Mq

namespace Mq
open PySem PySem.Spec PyProof.Rows L2 Mp
theorem compL_len (b : SV → Sta → Rs (Option SV)) : ∀ (xs acc : List SV) (s : Sta) (vs : List SV) (s2 : Sta), compL b xs acc s = .ok vs s2 → acc.length ≤ vs.length
  | [], acc, s, vs, s2, h => by simp only [compL, Rs.ok.injEq] at h; rw [← h.1]; simp
  | x :: xs, acc, s, vs, s2, h => by
    rw [compL] at h
    cases e : b x s with
    | bad => rw [e] at h; cases h
    | err a s1 => rw [e] at h; cases h
    | ok o s1 =>
      rw [e] at h
      cases o with
      | none => exact compL_len b xs acc s1 vs s2 h
      | some v => have := compL_len b xs (v :: acc) s1 vs s2 h; simp at this; omega
theorem compL_noerr (b : SV → Sta → Rs (Option SV)) (a : Er) (s' : Sta) : ∀ (xs acc : List SV) (s : Sta), compL b xs acc s ≠ .err a s'
  | [], acc, s, h => by simp [compL] at h
  | x :: xs, acc, s, h => by
    rw [compL] at h
    cases e : b x s with
    | bad => rw [e] at h; cases h
    | err _ _ => rw [e] at h; cases h
    | ok o s1 =>
      rw [e] at h
      cases o with
      | none => exact compL_noerr b a s' xs acc s1 h
      | some v => exact compL_noerr b a s' xs (v :: acc) s1 h
abbrev noW : WX := fun _ _ _ _ => False
/-- one turn of a comprehension -/
def cturn (is : List Nat) (ft : SV → Sta → Rs Unit) (fc : Sta → Rs Bool) (fe : Sta → Rs SV) : SV → Sta → Rs (Option SV) := fun x s => (ft x { s with env := Mp.wipe s.env is }).bind fun _ s => (fc s).bind fun k s =>
  if k then (solidB (fe s)).bind fun v s => .ok (some v) s else .ok none s
def cin (is : List Nat) (items : List SV) (ft : SV → Sta → Rs Unit) (fc : Sta → Rs Bool) (fe : Sta → Rs SV) : Sta → Rs Cel := fun s1 => if ownOk s1.env is then
      (compL (cturn is ft fc fe) items [] s1).bind fun vs s2 => if small vs.length then .ok (.lst vs) { s2 with env := back s2.env s1.env is } else .bad
      else .bad
def crun (is : List Nat) (fw : Sta → Rs Walk) (ft : SV → Sta → Rs Unit) (fc : Sta → Rs Bool) (fe : Sta → Rs SV) : Sta → Rs Cel := fun s => (fw s).bind fun w s0 => walking w s0 (cin is w.items ft fc fe)
theorem cin_cases (is : List Nat) (items : List SV) (ft : SV → Sta → Rs Unit) (fc : Sta → Rs Bool) (fe : Sta → Rs SV) (s1 : Sta) : cin is items ft fc fe s1 = .bad ∨ (ownOk s1.env is = true ∧ ∃ vs s2, compL (cturn is ft fc fe) items [] s1 = .ok vs s2 ∧ small vs.length = true ∧ cin is items ft fc fe s1 = .ok (.lst vs) { s2 with env := back s2.env s1.env is }) := by
  unfold cin
  split
  · rename_i hk
    cases e : compL (cturn is ft fc fe) items [] s1 with
    | bad => exact .inl rfl
    | err a s => exact absurd e (compL_noerr _ _ _ _ _ _)
    | ok vs s2 =>
      by_cases hs : small vs.length = true
      · exact .inr ⟨hk, vs, s2, rfl, hs, by simp [hs]⟩
      · exact .inl (by simp [hs])
  · exact .inl rfl
theorem Rel.wk {K : PySem.W.Frag} {g : Gh} {st : Sta} {σ : L2.St} {H : Hp} {w : Walk} (R : Rel K g st σ H) (hid : Hid st w) : Rel K g (wk w st) σ H ∧ Grow g st H g (wk w st) H := by
  unfold Mq.wk
  cases hw : w.hid with
  | none => exact ⟨R, Grow.refl _ _ _⟩
  | some v =>
    obtain ⟨l0, c0, hp, -, -⟩ := hid v hw
    have at_ : ∀ l c, at? (st.hide v) l = some c → at? st l = some c := fun l c h => (hide_at hp h).1
    have hle := hide_len (st := st) v
    refine ⟨⟨R.sub, fun l c h => ?_, fun l l' c c' h h' => R.inj l l' c c' (at_ l c h) (at_ l' c' h'), fun j u h => ?_, fun j c h => ?_, ?_⟩,
      ⟨fun _ _ e _ => e, fun _ o e => ⟨o, e⟩, fun _ _ e => e, fun _ _ => rfl, by rw [hle]; exact Nat.le_refl _, fun a ⟨l, c, h, e⟩ => .inl ⟨l, c, at_ l c h, e⟩, fun _ _ e => .inl e⟩⟩
    · rw [hle]; exact R.loc l c (at_ l c h)
    · rw [hle]
      cases v <;> first | exact R.slot j u h | skip
      rename_i i
      have h : (st.env.set i .emp)[j]? = some (.val u) := h
      by_cases hj : i = j
      · subst hj; rw [List.getElem?_set] at h; simp at h
      · rw [List.getElem?_set_ne hj] at h; exact R.slot j u h
    · cases v <;> first | exact R.box j c h | skip
      rename_i i
      have h : (st.env.set i .emp)[j]? = some (.box c) := h
      by_cases hj : i = j
      · subst hj; rw [List.getElem?_set] at h; simp at h
      · rw [List.getElem?_set_ne hj] at h; exact R.box j c h
    · rw [hide_env_len]; exact R.len
/-- a walk's hidden place is a place -/
def HidW (fw : Sta → Rs Walk) : Prop := ∀ s w s1, fw s = .ok w s1 → Hid s1 w
theorem crun_out {K : PySem.W.Frag} {E : ErT} {W : WX} {g : Gh} {st st1 : Sta} {σ : L2.St} {H : Hp} {Qb : Cel → Gh → Sta → Hp → Prop} {w : Walk} {is : List Nat} {ft : SV → Sta → Rs Unit} {fc : Sta → Rs Bool} {fe : Sta → Rs SV}
    (h : Out K E W g st σ H Qb (walking w st1 (cin is w.items ft fc fe))) :
    ownOk (wk w st1).env is = true ∧ ∃ vs s2, compL (cturn is ft fc fe) w.items [] (wk w st1) = .ok vs s2 ∧ small vs.length = true ∧ Out K E W g st σ H Qb (.ok (.lst vs) (cfin w st1 s2 is)) := by
  unfold walking at h
  unfold wk cfin
  cases hh : w.hid with
  | none =>
    rw [hh] at h
    rcases cin_cases is w.items ft fc fe st1 with e | ⟨h1, vs, s2, h2, h3, e⟩
    · dsimp only at h; rw [e] at h; exact h.elim
    · dsimp only at h; rw [e] at h; exact ⟨h1, vs, s2, h2, h3, h⟩
  | some v =>
    rw [hh] at h
    rcases cin_cases is w.items ft fc fe (st1.hide v) with e | ⟨h1, vs, s2, h2, h3, e⟩
    · dsimp only at h; rw [e] at h; exact h.elim
    · dsimp only at h; rw [e] at h; exact ⟨h1, vs, s2, h2, h3, h⟩
section
variable {X : Cx} {E : ErT} {W : WX} {tg elt iter : Expr} {ifs : List Expr} {scope : Scope} {own : List (Str × Nat)} {fw : Sta → Rs Walk} {ft : SV → Sta → Rs Unit} {fc : Sta → Rs Bool} {fe : Sta → Rs SV} {pos : Pos}
theorem lc_read {K : PySem.W.Frag} {is : List Nat} (hw : HidW fw) {σ : L2.St} {H : Hp} {Q : VK} (h : tF K E W (crun is fw ft fc fe) σ H Q) :
    tLc (tW K E W fw) (tG K E noW is ft) (tT K E noW fc) (tK K E noW fun s => solidB (fe s)) is σ H Q := by
  obtain ⟨g, st, R, h⟩ := h
  refine ⟨g, st, R, ?_⟩
  have hb : Out K E W g st σ H (NewQ K H Q) ((fw st).bind fun w s0 => walking w s0 (cin is w.items ft fc fe)) := h
  cases ef : fw st with
  | bad => rw [ef] at hb; exact hb.elim
  | err a s => rw [ef] at hb; exact hb
  | ok w st1 =>
  rw [ef] at hb
  have hid := hw st w st1 ef
  refine fun g1 H1 G1 R1 J A hA good D hD => ?_
  obtain ⟨hok, vsF, sF, hrun, hsm, hfin⟩ := crun_out hb
  have hlW : (wk w st1).heap.length = st1.heap.length := wk_len w
  -- the state that is walked from
  obtain ⟨RW, GW⟩ := (R1.wk hid).1.wiped (own := is)
  obtain ⟨RD, GD, hFD, hLD⟩ := RW.lay (o := .lst []) hD
  refine ⟨fun i m H' => m = w.items.length - i ∧ i ≤ w.items.length ∧ ∃ g3 st3 accS accV, Rel K g3 (wiped st3 is) (L2.wipe σ is) H' ∧ Grow g1 (wk w st1) H1 g3 (wiped st3 is) H' ∧ (∀ a ∈ A, Still g3 (wiped st3 is) H' a ∧ H' a = H1 a) ∧
      H' D = some (.lst accV) ∧ g3.F D = none ∧ ¬ LiveA g3 (wiped st3 is) D ∧ RepL K g3.F g3.c st3.heap.length accS.reverse accV ∧ compL (cturn is ft fc fe) (w.items.drop i) accS st3 = .ok vsF sF,
    ⟨w.items.length, by simp, Nat.zero_le _, g1, wk w st1, [], [], RD, GW.trans GD, fun a ha => ?_, upd_same, hFD, hLD, RepL.nil, by simpa using hrun⟩, ?_⟩
  · have hne : a ≠ D := by
      rcases hA a ha with ⟨o, e⟩ | ⟨hn, _⟩
      · exact fun z => by subst z; rw [R1.sub _ _ e] at hD; cases hD
      · exact fun z => hn (by rw [z]; exact hD)
    refine ⟨?_, upd_ne hne⟩
    rcases hA a ha with ⟨o, e⟩ | ⟨hn, hl⟩
    · exact .inl ⟨o, e⟩
    · refine .inr ⟨by rw [upd_ne hne]; exact hn, fun ⟨l, c, z, e⟩ => hl ⟨l, c, (at_wiped z).1, e⟩⟩
  · rintro i m H' ⟨rfl, hi, g3, st3, accS, accV, R3, G3, hA3, hHD, hF3, hL3, hacc, hr⟩
    by_cases hlt : i < w.items.length
    · refine .inr ⟨good.go i H' hlt fun a ha => (hA3 a ha).2, ?_⟩
      have hd : w.items.drop i = w.items[i] :: w.items.drop (i + 1) := List.drop_eq_getElem_cons hlt
      rw [hd, compL] at hr
      refine ⟨fun H' => ∃ g3 st3 accS accV, Rel K g3 (wiped st3 is) (L2.wipe σ is) H' ∧ Grow g1 (wk w st1) H1 g3 (wiped st3 is) H' ∧ (∀ a ∈ A, Still g3 (wiped st3 is) H' a ∧ H' a = H1 a) ∧
        H' D = some (.lst accV) ∧ g3.F D = none ∧ ¬ LiveA g3 (wiped st3 is) D ∧ RepL K g3.F g3.c st3.heap.length accS.reverse accV ∧ compL (cturn is ft fc fe) (w.items.drop (i + 1)) accS st3 = .ok vsF sF,
        fun H'' z => ⟨w.items.length - (i + 1), by omega, rfl, hlt, z⟩, fun x H2 hy => ?_⟩
      have hle : st1.heap.length ≤ (wiped st3 is).heap.length := by have := G3.hlen; rw [hlW] at this; exact this
      obtain ⟨g4, R4, G4, r4⟩ := good.yld i x H' H2 _ (List.getElem?_eq_getElem hlt) (fun a ha => (hA3 a ha).2) hy g3 (wiped st3 is) _ R3 G3.fr (fun n hn => G3.cells n (by rw [hlW]; exact hn)) hle
      refine ⟨g4, wiped st3 is, _, R4, r4, ?_⟩
      -- the turn's run
      cases et : ft w.items[i] (wiped st3 is) with
      | bad =>
        have et' : ft w.items[i] { st3 with env := Mp.wipe st3.env is } = .bad := et
        unfold cturn at hr; rw [et'] at hr; cases hr
      | err a s =>
        have et' : ft w.items[i] { st3 with env := Mp.wipe st3.env is } = .err a s := et
        unfold cturn at hr; rw [et'] at hr; cases hr
      | ok u st5 =>
      have et' : ft w.items[i] { st3 with env := Mp.wipe st3.env is } = .ok u st5 := et
      refine fun g5 σ5 H5 hs5 G5 R5 only => ⟨wipeV_only only, ?_⟩
      refine ⟨g5, st5, R5, ?_⟩
      cases ec : fc st5 with
      | bad => exfalso; unfold cturn at hr; simp only [et', Rs.bind_ok, ec] at hr; cases hr
      | err a s => exfalso; unfold cturn at hr; simp only [et', Rs.bind_ok, ec] at hr; cases hr
      | ok b st6 =>
      refine fun g6 H6 G6 R6 => ?_
      dsimp only
      have GG : Grow g3 (wiped st3 is) H' g6 st6 H6 := (G4.trans G5).trans G6
      cases b with
      | false =>
        have er : cturn is ft fc fe w.items[i] st3 = .ok none st6 := by unfold cturn; simp [et', ec]
        rw [er] at hr
        rw [if_neg Bool.false_ne_true]
        obtain ⟨R7, G7⟩ := R6.wiped (own := is)
        have e7 : L2.wipe σ5 is = L2.wipe σ is := wipeV_only only
        rw [e7] at R7
        have G8 := GG.trans G7
        refine ⟨g6, st6, accS, accV, R7, G3.trans G8, fun a ha => ?_, ?_, ?_, ?_, RepL.up G8.fr G8.cells G8.hlen _ _ hacc, hr⟩
        · obtain ⟨z1, z2⟩ := (hA3 a ha).1.grow R3 R7 G8
          exact ⟨z1, z2.trans (hA3 a ha).2⟩
        · exact G8.keep _ _ hHD hL3
        · cases e : g6.F D with
          | none => rfl
          | some o =>
            rcases G8.new _ _ e with z | z | z
            · rw [hF3] at z; cases z
            · rw [hHD] at z; cases z
            · exact absurd z hL3
        · intro z
          rcases G8.live _ z with z | z
          · exact hL3 z
          · rw [hHD] at z; cases z
      | true =>
        rw [if_pos rfl]
        refine ⟨g6, st6, R6, ?_⟩
        show Out K E noW g6 st6 σ5 H6 _ (solidB (fe st6))
        cases ev : solidB (fe st6) with
        | bad => exfalso; unfold cturn at hr; simp only [et', Rs.bind_ok, ec, ev, if_true] at hr; cases hr
        | err a s => exfalso; unfold cturn at hr; simp only [et', Rs.bind_ok, ec, ev, if_true] at hr; cases hr
        | ok v st7 =>
        have er : cturn is ft fc fe w.items[i] st3 = .ok (some v) st7 := by unfold cturn; simp [et', ec, ev]
        rw [er] at hr
        refine fun g7 H7 G7 R7 y ry => ?_
        obtain ⟨R8, G8⟩ := R7.wiped (own := is)
        have e7 : L2.wipe σ5 is = L2.wipe σ is := wipeV_only only
        rw [e7] at R8
        have G9 := (GG.trans G7).trans G8
        have hD7 : H7 D = some (.lst accV) := G9.keep _ _ hHD hL3
        have hF7 : g7.F D = none := by
          cases e : g7.F D with
          | none => rfl
          | some o =>
            rcases G9.new _ _ e with z | z | z
            · rw [hF3] at z; cases z
            · rw [hHD] at z; cases z
            · exact absurd z hL3
        have hL7 : ¬ LiveA g7 (wiped st7 is) D := fun z => by
          rcases G9.live _ z with z | z
          · exact hL3 z
          · rw [hHD] at z; cases z
        have hlen := compL_len _ _ _ _ _ _ hr
        have hz := small_le hsm
        have hacc7 := RepL.up G9.fr G9.cells G9.hlen _ _ hacc
        have hal := hacc.length
        refine ⟨accV, hD7, by simp at hlen hal; omega, ?_⟩
        -- the list has grown
        have nl : ∀ l c, at? (wiped st7 is) l = some c → g7.at l ≠ D := fun l c z e => hL7 ⟨l, c, z, e⟩
        have R9 : Rel K g7 (wiped st7 is) (L2.wipe σ is) (upd H7 D (.lst (accV ++ [y]))) := ⟨fun a o e => by
            rw [upd_ne (fun z => by rw [z, hF7] at e; cases e)]; exact R8.sub a o e,
          fun l c z => by
            obtain ⟨h1, u, h2, h3⟩ := R8.loc l c z
            exact ⟨h1, u, by rw [upd_ne (nl l c z)]; exact h2, h3⟩, R8.inj, R8.slot, R8.box, R8.len⟩
        have GX : Grow g1 (wk w st1) H1 g7 (wiped st7 is) (upd H7 D (.lst (accV ++ [y]))) := by
          have GT := G3.trans G9
          refine ⟨fun a o e n => ?_, fun a o e => ?_, GT.fr, GT.cells, GT.hlen, GT.live, GT.new⟩
          · rw [upd_ne (fun z => by rw [z, hD] at e; cases e)]; exact GT.keep a o e n
          · by_cases ha : a = D
            · exact ⟨_, by rw [ha, upd_same]⟩
            · obtain ⟨o', e'⟩ := GT.dom a o e
              exact ⟨o', by rw [upd_ne ha]; exact e'⟩
        refine ⟨g7, st7, v :: accS, accV ++ [y], R9, GX, fun a ha => ?_, upd_same, hF7, hL7, ?_, hr⟩
        · obtain ⟨z1, z2⟩ := (hA3 a ha).1.grow R3 R8 G9
          have hne : a ≠ D := fun z => by
            subst z
            have := (hA3 _ ha).2
            rw [hHD, hD] at this; cases this
          refine ⟨?_, by rw [upd_ne hne]; exact z2.trans (hA3 a ha).2⟩
          rcases z1 with ⟨o, e⟩ | ⟨hn, hl⟩
          · exact .inl ⟨o, e⟩
          · exact .inr ⟨by rw [upd_ne hne]; exact hn, hl⟩
        · rw [List.reverse_cons]
          exact hacc7.append ⟨y, [], rfl, ry, rfl⟩
    · have e : i = w.items.length := by omega
      subst e
      refine .inl ⟨good.stop H' fun a ha => (hA3 a ha).2, ?_⟩
      rw [List.drop_length, compL] at hr
      cases hr
      obtain ⟨g', R', G', eF, ec, eh, hl'⟩ := comp_end R1 hid G3 R3 hok
      refine hfin g' H' (G1.trans G') R' D (.lst accV) (G1.back hD) hHD (by rw [eF]; exact hF3) (hl' D hD hL3) ⟨accV, rfl, ?_⟩
      rw [eF, ec, eh]
      exact hacc
end
end Mq

namespace Mq
open PySem PySem.Spec PyProof.Rows L2 Mp
theorem hid_mk {s : Sta} {v : SV} {w : Walk} {s1 : Sta} (h : mkWalk s v = .ok w s1) : s1 = s ∧ Hid s w ∧ w.hid = hidOf v := by
  unfold mkWalk at h
  by_cases hz : v.isScr = true
  · rw [if_pos hz] at h; cases h
  · rw [if_neg hz] at h
    clear hz
    cases e : s.seq v with
    | none => rw [e] at h; cases h
    | some xs =>
      rw [e] at h
      simp only [Rs.ok.injEq] at h
      obtain ⟨rfl, rfl⟩ := h
      refine ⟨rfl, fun u hu => ?_, rfl⟩
      have hu : hidOf v = some u := hu
      cases v <;> simp only [hidOf, reduceCtorEq, Option.some.injEq] at hu <;> subst hu
      · simp only [Sta.seq, Sta.cellOf] at e
        rename_i n
        cases e1 : s.heap[n]? with
        | none => rw [e1] at e; simp at e
        | some c =>
          rw [e1] at e
          cases c <;> simp at e
          exact ⟨.cell n, .lst xs, rfl, by simp [at?, e1, e, live?], by simp [Sta.cellOf, e1, e]⟩
      · simp only [Sta.seq, Sta.cellOf] at e
        rename_i n
        cases e1 : s.env[n]? with
        | none => rw [e1] at e; simp at e
        | some c =>
          rw [e1] at e
          cases c with
          | box c =>
            cases c <;> simp at e
            exact ⟨.box n, .lst xs, rfl, by simp [at?, e1, e, live?], by simp [Sta.cellOf, e1, e]⟩
          | _ => simp at e
theorem Rs.bind_is {α β : Type} {x : Rs α} {f : α → Sta → Rs β} {b : β} {s1 : Sta} (h : x.bind f = .ok b s1) : ∃ a s, x = .ok a s ∧ f a s = .ok b s1 := by
  cases x with
  | ok a s => exact ⟨a, s, rfl, h⟩
  | err e s => cases h
  | bad => cases h
theorem hidW_vals {fa : Sta → Rs SV} : HidW fun s => (fa s).bind fun x s => mkWalk s x := fun s w s1 h => by
  obtain ⟨x, s2, _, h⟩ := Rs.bind_is h
  obtain ⟨rfl, h, _⟩ := hid_mk h
  exact h
theorem hidW_none {fw : Sta → Rs Walk} (h : ∀ s w s1, fw s = .ok w s1 → w.hid = none) : HidW fw := fun s w s1 e v hv => by rw [h s w s1 e] at hv; cases hv
theorem hidW_enum {fa : Sta → Rs SV} : HidW fun s => (fa s).bind fun x s => (mkWalk s x).bind fun w s => .ok { w with items := enumL 0 w.items } s := fun s w s1 h => by
  obtain ⟨x, s2, _, k1⟩ := Rs.bind_is h
  obtain ⟨w0, s3, k2, k3⟩ := Rs.bind_is k1
  simp only [Rs.ok.injEq] at k3
  obtain ⟨rfl, rfl⟩ := k3
  obtain ⟨e, k4, _⟩ := hid_mk k2
  rw [e]
  exact k4
theorem hidW_zip {fa fb : Sta → Rs SV} : HidW fun s => (fa s).bind fun x s => (fb s).bind fun y s => (mkWalk s x).bind fun w s => (mkWalk s y).bind fun w2 s => match w2.hid with
    | none => .ok ⟨zipL w.items w2.items, w.hid⟩ s
    | some h => match w.hid with
      | none => .ok ⟨zipL w.items w2.items, some h⟩ s
      | some _ => .bad := fun s w s1 h => by
  obtain ⟨x, s2, _, k1⟩ := Rs.bind_is h
  obtain ⟨y, s3, _, k2⟩ := Rs.bind_is k1
  obtain ⟨w1, s4, k3, k4⟩ := Rs.bind_is k2
  obtain ⟨w2, s5, k5, k6⟩ := Rs.bind_is k4
  obtain ⟨e1, p1, _⟩ := hid_mk k3
  obtain ⟨e2, p2, _⟩ := hid_mk k5
  clear h k1 k2 k3 k4 k5
  cases q2 : w2.hid with
  | none =>
    rw [q2] at k6
    simp only [Rs.ok.injEq] at k6
    obtain ⟨rfl, rfl⟩ := k6
    rw [e2, e1]
    exact p1
  | some u =>
    rw [q2] at k6
    cases q1 : w1.hid with
    | some _ => rw [q1] at k6; cases k6
    | none =>
      rw [q1] at k6
      simp only [Rs.ok.injEq] at k6
      obtain ⟨rfl, rfl⟩ := k6
      intro v hv
      rw [e2]
      exact p2 v (by rw [q2]; exact hv)
section
variable {X : Cx} {E : ErT} {W : WX} {tg elt iter c : Expr} {ifs : List Expr} {scope : Scope} {own : List (Str × Nat)} {fw : Sta → Rs Walk} {ft : SV → Sta → Rs Unit} {fc : Sta → Rs Bool} {fe : Sta → Rs SV} {pos : Pos}
theorem ts_nil {X : Cx} : PTs X [] (tT X.K E W fun s => .ok true s) := PTs.imp pts_nil fun σ H Q ⟨g, st, R, h⟩ => Out.now R h
theorem ts_one {X : Cx} (h : PT X c (tT X.K E W fc)) : PTs X [c] (tT X.K E W fc) := pts_one h
theorem m_comp (hc : X.calm = true) (hN : X.N.Nodup) (hi : PI X tg iter (tW X.K E W fw)) (hw : HidW fw) (ok : BlkOk X.N X.env.scope scope own)
    (hg : ∀ (s : Shared) (H : Hp) (C : Addr) (cl : List (Str × Addr)) (fp : List Addr), PG (X.blk s H scope (compEnvC scope cl C X.env) fp) tg (tG X.K E noW (own.map (·.2)) ft))
    (ht : ∀ (s : Shared) (H : Hp) (C : Addr) (cl : List (Str × Addr)) (fp : List Addr), PTs (X.blk s H scope (compEnvC scope cl C X.env) fp) ifs (tT X.K E noW fc))
    (he : ∀ (s : Shared) (H : Hp) (C : Addr) (cl : List (Str × Addr)) (fp : List Addr), PE (X.blk s H scope (compEnvC scope cl C X.env) fp) elt (tE X.K E noW fe)) (hs : ∀ x, foldedSetIterable iter X.env x = pure x) :
    PE X (.ListComp elt [⟨tg, iter, ifs, 0⟩] scope pos) (tF X.K E W (crun (own.map (·.2)) fw ft fc fe)) :=
  PE.imp (pe_lc hc hN hi ok hg ht (fun s H C cl fp => PE.imp (he s H C cl fp) fun _ _ _ h => tK_of h) hs) fun σ H Q h => lc_read hw h
/-- name = [..] on one line, the name a local: as a box; as a kept list -/
theorem s_boxC {i : Nat} {y : Str} {py spos : Pos} (hc : X.calm = true) (hN : X.N.Nodup) (hy : X.N[i]? = some y) (hyl : X.env.scope.names.lookup y = some .local)
    (hsw : swapsWith (.ListComp elt [⟨tg, iter, ifs, 0⟩] scope pos) (some (.Name y py)) spos.line X.env = pure true) (hi : PI X tg iter (tW X.K E W fw)) (hw : HidW fw) (ok : BlkOk X.N X.env.scope scope own)
    (hg : ∀ (s : Shared) (H : Hp) (C : Addr) (cl : List (Str × Addr)) (fp : List Addr), PG (X.blk s H scope (compEnvC scope cl C X.env) fp) tg (tG X.K E noW (own.map (·.2)) ft))
    (ht : ∀ (s : Shared) (H : Hp) (C : Addr) (cl : List (Str × Addr)) (fp : List Addr), PTs (X.blk s H scope (compEnvC scope cl C X.env) fp) ifs (tT X.K E noW fc))
    (he : ∀ (s : Shared) (H : Hp) (C : Addr) (cl : List (Str × Addr)) (fp : List Addr), PE (X.blk s H scope (compEnvC scope cl C X.env) fp) elt (tE X.K E noW fe)) (hs : ∀ x, foldedSetIterable iter X.env x = pure x) :
    PS X (.Assign [.Name y py] (.ListComp elt [⟨tg, iter, ifs, 0⟩] scope pos) spos) (tS X.K E W fun s => (crun (own.map (·.2)) fw ft fc fe s).bind fun c s => .ok .next { s with env := s.env.set i (.box c) }) := by
  refine PS.imp (ps_setLc (i := i) hc hN hy hyl hsw hi ok hg ht (fun s H C cl fp => PE.imp (he s H C cl fp) fun _ _ _ h => tK_of h) hs) fun D σ H ⟨g, st, R, h⟩ => lc_read hw ⟨g, st, R, (h.bindE0 trivial).imp fun c g1 st1 H1 ⟨G, R1, h⟩ p o hn hp hF hl rc => ?_⟩
  exact h (g1.boxAt i p) _ H1 trivial (Grow.boxSet hn G) (R1.boxSet hp hF hl rc)
theorem s_asgC {i : Nat} {y : Str} {py spos : Pos} (hc : X.calm = true) (hN : X.N.Nodup) (hy : X.N[i]? = some y) (hyl : X.env.scope.names.lookup y = some .local)
    (hsw : swapsWith (.ListComp elt [⟨tg, iter, ifs, 0⟩] scope pos) (some (.Name y py)) spos.line X.env = pure true) (hi : PI X tg iter (tW X.K E W fw)) (hw : HidW fw) (ok : BlkOk X.N X.env.scope scope own)
    (hg : ∀ (s : Shared) (H : Hp) (C : Addr) (cl : List (Str × Addr)) (fp : List Addr), PG (X.blk s H scope (compEnvC scope cl C X.env) fp) tg (tG X.K E noW (own.map (·.2)) ft))
    (ht : ∀ (s : Shared) (H : Hp) (C : Addr) (cl : List (Str × Addr)) (fp : List Addr), PTs (X.blk s H scope (compEnvC scope cl C X.env) fp) ifs (tT X.K E noW fc))
    (he : ∀ (s : Shared) (H : Hp) (C : Addr) (cl : List (Str × Addr)) (fp : List Addr), PE (X.blk s H scope (compEnvC scope cl C X.env) fp) elt (tE X.K E noW fe)) (hs : ∀ x, foldedSetIterable iter X.env x = pure x) :
    PS X (.Assign [.Name y py] (.ListComp elt [⟨tg, iter, ifs, 0⟩] scope pos) spos) (tS X.K E W fun s => (solidB ((crun (own.map (·.2)) fw ft fc fe s).bind fun c s => Rs.of c.frozen s)).bind fun v s => (Rs.ok () (slotSet i v s)).bind nextR) := by
  refine PS.imp (ps_setLc (i := i) hc hN hy hyl hsw hi ok hg ht (fun s H C cl fp => PE.imp (he s H C cl fp) fun _ _ _ h => tK_of h) hs) fun D σ H ⟨g, st, R, h⟩ => ?_
  refine lc_read hw ⟨g, st, R, ?_⟩
  have h : OutS X.K E W anyS g st H (SQ X.K D) ((crun (own.map (·.2)) fw ft fc fe st).bind fun c s => (solidB (Rs.of c.frozen s)).bind fun v s => (Rs.ok () (slotSet i v s)).bind nextR) := by
    dsimp only at h
    cases e : crun (own.map (·.2)) fw ft fc fe st with
    | ok c s => rw [e] at h; exact h
    | err a s => rw [e] at h; exact h
    | bad => rw [e] at h; exact h
  refine (h.bindE0 trivial).imp fun c g1 st1 H1 ⟨G, R1, h⟩ p o hn hp hF hl rc => ?_
  cases hf : c.frozen with
  | none => rw [hf] at h; exact h.elim
  | some v =>
    rw [hf] at h
    have r := frozen_rep (o := o) hF hf rc
    have R2 := R1.freezeNew hp hF hl
    have G2 := Grow.freezeNew (o := o) hn hF hl G
    have sv : st1.solid v = .ok v st1 := by cases v <;> first | rfl | exact r.elim
    have h : OutS X.K E W anyS g st H (SQ X.K D) ((st1.solid v).bind fun v s => (Rs.ok () (slotSet i v s)).bind nextR) := h
    rw [sv] at h
    obtain ⟨R3, G3⟩ := R2.slotSet (i := i) (v := v) (x := .ref p) r
    exact h _ _ H1 trivial (G2.trans G3) R3
end
end Mq

namespace Mq
open PySem PySem.Spec PyProof.Rows L2 Mp
section
variable {K : PySem.W.Frag} {g g1 : Gh} {st st1 : Sta} {σ : L2.St} {H H' : Hp}
theorem set_get {α : Type} {l : List α} {i j : Nat} {a b : α} (h : (l.set i a)[j]? = some b) : (i = j ∧ a = b ∧ i < l.length) ∨ (i ≠ j ∧ l[j]? = some b) := by
  by_cases hj : i = j
  · subst hj
    by_cases hlt : i < l.length
    · rw [List.getElem?_set_self hlt] at h
      exact .inl ⟨rfl, Option.some.inj h, hlt⟩
    · rw [List.getElem?_eq_none (by simp; omega)] at h; cases h
  · rw [List.getElem?_set_ne hj] at h
    exact .inr ⟨hj, h⟩
/-- a box becomes a place of the heap for a while -/
theorem Rel.lendOne {i : Nat} {c : Cel} (R : Rel K g st σ H) (hi : st.env[i]? = some (.box c)) :
    Rel K (g.push st.heap.length (g.b i)) { env := st.env.set i .emp, heap := st.heap ++ [c] } σ H ∧ Grow g st H (g.push st.heap.length (g.b i)) { env := st.env.set i .emp, heap := st.heap ++ [c] } H := by
  have cc : ∀ n, n < st.heap.length → (g.push st.heap.length (g.b i)).c n = g.c n := fun n h => if_neg (by omega)
  have hle : st.heap.length ≤ (st.heap ++ [c]).length := by simp
  have at_ : ∀ {l d}, at? { env := st.env.set i .emp, heap := st.heap ++ [c] } l = some d → (l = .cell st.heap.length ∧ at? st (.box i) = some d) ∨ (at? st l = some d ∧ l ≠ .box i ∧ (g.push st.heap.length (g.b i)).at l = g.at l) := fun {l d} h => by
    rcases at_push (st := { st with env := st.env.set i .emp }) h with h | ⟨rfl, rfl⟩
    · obtain ⟨h1, h2⟩ := at_set_box (fun d => by simp) h
      exact .inr ⟨h1, h2, push_at (at_lt h1)⟩
    · refine .inl ⟨rfl, ?_⟩
      unfold at? at h ⊢
      simp only [hi]
      simp only [List.getElem?_append_right (Nat.le_refl _), Nat.sub_self, List.getElem?_cons_zero, Option.bind_some] at h
      exact h
  have hb : (g.push st.heap.length (g.b i)).at (.cell st.heap.length) = g.b i := if_pos rfl
  refine ⟨⟨R.sub, fun l d h => ?_, fun l l' d d' h h' e => ?_, fun j v h => ?_, fun j d h => ?_, by simpa using R.len⟩,
    ⟨fun _ _ e _ => e, fun _ o e => ⟨o, e⟩, fun _ _ e => e, cc, hle, fun a ⟨l, d, h, e⟩ => ?_, fun _ _ e => .inl e⟩⟩
  · rcases at_ h with ⟨rfl, k⟩ | ⟨k, _, e⟩
    · rw [hb]
      obtain ⟨h1, o, h2, h3⟩ := R.loc _ _ k
      exact ⟨h1, o, h2, CellRep.up (fun _ _ e => e) cc hle h3⟩
    · rw [e]
      obtain ⟨h1, o, h2, h3⟩ := R.loc _ _ k
      exact ⟨h1, o, h2, CellRep.up (fun _ _ e => e) cc hle h3⟩
  · rcases at_ h with ⟨rfl, k⟩ | ⟨k, n1, e1⟩ <;> rcases at_ h' with ⟨rfl, k'⟩ | ⟨k', n2, e2⟩
    · rfl
    · rw [hb, e2] at e
      exact absurd (R.inj _ _ _ _ k' k e.symm) n2
    · rw [hb, e1] at e
      exact absurd (R.inj _ _ _ _ k k' e) n1
    · rw [e1, e2] at e
      exact R.inj _ _ _ _ k k' e
  · rcases set_get (show (st.env.set i .emp)[j]? = some (.val v) from h) with ⟨_, e, _⟩ | ⟨_, h⟩
    · cases e
    · obtain ⟨x, h1, h2⟩ := R.slot j v h
      exact ⟨x, h1, Rep.up (fun _ _ e => e) cc hle _ _ h2⟩
  · rcases set_get (show (st.env.set i .emp)[j]? = some (.box d) from h) with ⟨_, e, _⟩ | ⟨_, h⟩
    · cases e
    · exact R.box j d h
  · rcases at_ h with ⟨rfl, k⟩ | ⟨k, _, e1⟩
    · rw [hb] at e; exact .inl ⟨.box i, d, k, e⟩
    · rw [e1] at e; exact .inl ⟨l, d, k, e⟩
def LendOk (K : PySem.W.Frag) (σ : L2.St) (H : Hp) (g : Gh) (st : Sta) (us : List SV) (xs : List V) (s1 : Sta) (m : List (Nat × Nat)) : Prop :=
    ∃ g1, Rel K g1 s1 σ H ∧ Grow g st H g1 s1 H ∧ g1.F = g.F ∧ g1.b = g.b ∧ RepL K g1.F g1.c s1.heap.length us xs ∧
      (∀ i n, (i, n) ∈ m → (∃ c, st.env[i]? = some (.box c)) ∧ st.heap.length ≤ n ∧ n < s1.heap.length ∧ g1.c n = g.b i ∧ s1.env[i]? = some .emp) ∧
      (∀ j, (∀ n, (j, n) ∉ m) → s1.env[j]? = st.env[j]?) ∧ (m = [] → s1 = st) ∧ (m.map (·.1)).Nodup ∧ ∀ i j n, (i, n) ∈ m → (j, n) ∈ m → i = j
theorem lend_ok : ∀ (vs : List SV) (xs : List V) {g : Gh} {st : Sta} {us : List SV} {s1 : Sta} {m : List (Nat × Nat)}, lend vs st = some (us, s1, m) → Rel K g st σ H → RepVs K g st σ vs xs → LendOk K σ H g st us xs s1 m
  | [], xs, g, st, us, s1, m, h, R, r => by
    simp only [lend, Option.some.injEq, Prod.mk.injEq] at h
    obtain ⟨rfl, rfl, rfl⟩ := h
    exact ⟨g, R, Grow.refl _ _ _, rfl, rfl, r, by simp, fun j _ => rfl, fun _ => rfl, by simp, by simp⟩
  | v :: vs, xs, g, st, us, s1, m, h, R, r => by
    obtain ⟨y, ys, rfl, r1, r2⟩ := r
    have plain : (∀ i, v ≠ .view i) → (match lend vs st with | some (vs, s1, m) => some (v :: vs, s1, m) | none => none) = some (us, s1, m) → LendOk K σ H g st us (y :: ys) s1 m := fun hv h => by
      cases e : lend vs st with
      | none => rw [e] at h; cases h
      | some p =>
        obtain ⟨us', s1', m'⟩ := p
        rw [e] at h
        simp only [Option.some.injEq, Prod.mk.injEq] at h
        obtain ⟨rfl, rfl, rfl⟩ := h
        obtain ⟨g1, R1, G1, eF, eb, rl, hm, hout, hnil, hnd, hinj⟩ := lend_ok vs ys e R r2
        have rv : Rep K g.F g.c st.heap.length v y := by cases v <;> first | exact r1 | exact absurd rfl (hv _)
        exact ⟨g1, R1, G1, eF, eb, ⟨y, ys, rfl, Rep.up G1.fr G1.cells G1.hlen _ _ rv, rl⟩, hm, hout, hnil, hnd, hinj⟩
    cases v with
    | view i =>
      simp only [lend] at h
      cases hi : st.env[i]? with
      | none => rw [hi] at h; cases h
      | some s =>
        rw [hi] at h
        cases s with
        | box c =>
          dsimp only at h
          cases e : lend vs { env := st.env.set i .emp, heap := st.heap ++ [c] } with
          | none => rw [e] at h; cases h
          | some p =>
            obtain ⟨us', s1', m'⟩ := p
            rw [e] at h
            simp only [Option.some.injEq, Prod.mk.injEq] at h
            obtain ⟨rfl, rfl, rfl⟩ := h
            obtain ⟨R0, G0⟩ := R.lendOne hi
            obtain ⟨g1, R1, G1, eF, eb, rl, hm, hout, hnil, hnd, hinj⟩ := lend_ok vs ys e R0 (RepVs.up G0 r2)
            have hil : i < st.env.length := (List.getElem?_eq_some_iff.mp hi).1
            have hin : ∀ n, (i, n) ∉ m' := fun n z => by
              obtain ⟨⟨c', q⟩, _⟩ := hm i n z
              rcases set_get (show (st.env.set i .emp)[i]? = some (.box c') from q) with ⟨_, e, _⟩ | ⟨e, _⟩
              · cases e
              · exact e rfl
            have hc1 : g1.c st.heap.length = g.b i := by
              rw [G1.cells _ (by simp)]
              exact if_pos rfl
            have hlt1 : st.heap.length < s1'.heap.length := by have := G1.hlen; simp at this; omega
            have hxy : y = .ref (g.b i) := by
              have e1 := R.box i c hi
              have r1 : σ[i]? = some (some y) := r1
              rw [r1] at e1
              simpa using e1
            refine ⟨g1, R1, G0.trans G1, eF, eb, ⟨y, ys, rfl, ⟨hlt1, by rw [hc1]; exact hxy⟩, rl⟩, fun j n hjn => ?_, fun j hj => ?_, fun z => by simp at z, ?_, ?_⟩
            · rcases List.mem_cons.mp hjn with e | hjn
              · cases e
                refine ⟨⟨c, hi⟩, Nat.le_refl _, hlt1, hc1, ?_⟩
                rw [hout i hin]
                exact List.getElem?_set_self hil
              · obtain ⟨⟨c', q⟩, h2, h3, h4, h5⟩ := hm j n hjn
                rcases set_get (show (st.env.set i .emp)[j]? = some (.box c') from q) with ⟨_, e, _⟩ | ⟨_, q⟩
                · cases e
                · exact ⟨⟨c', q⟩, by simp at h2; omega, h3, h4, h5⟩
            · rw [hout j fun n z => hj n (List.mem_cons_of_mem _ z)]
              exact List.getElem?_set_ne fun z => hj st.heap.length (by rw [z]; exact List.mem_cons_self)
            · rw [List.map_cons, List.nodup_cons]
              refine ⟨fun z => ?_, hnd⟩
              obtain ⟨p, hp, e⟩ := List.mem_map.mp z
              obtain ⟨a, b⟩ := p
              simp only at e
              subst e
              exact hin b hp
            · have nh : ∀ j, (j, st.heap.length) ∉ m' := fun j z => by
                have h2 := (hm j _ z).2.1
                simp at h2
                omega
              intro j k n h1 h2
              rcases List.mem_cons.mp h1 with e1 | e1 <;> rcases List.mem_cons.mp h2 with e2 | e2
              · cases e1; cases e2; rfl
              · cases e1; exact absurd e2 (nh _)
              · cases e2; exact absurd e1 (nh _)
              · exact hinj j k n e1 e2
        | _ => cases h
    | _ => exact plain (by simp) h
end
end Mq

namespace Mq
open PySem PySem.Spec PyProof.Rows L2 Mp
def EConst (E : ErT) : Prop := ∀ e g st g' st' cls d H, E e g st cls d H → E e g' st' cls d H
section
variable {K : PySem.W.Frag} {E : ErT} {W : WX} {g g1 g' : Gh} {st st1 : Sta} {σ : L2.St} {H H' : Hp} {h h2 : List Cel}
theorem Rel.onlyHeap (R : Rel K g st σ H) : Rel K g ⟨[], st.heap⟩ [] H :=
  ⟨R.sub, fun l c q => R.loc l c (at_heap q).1, fun l l' c c' q q' => R.inj l l' c c' (at_heap q).1 (at_heap q').1, fun i v q => by simp at q, fun i v q => by simp at q, rfl⟩
theorem unlend_out : ∀ {m : List (Nat × Nat)} {env : List Slt} {j : Nat}, (∀ n, (j, n) ∉ m) → (unlend h env m)[j]? = env[j]?
  | [], _, _, _ => rfl
  | (i, n) :: m, env, j, q => by
    unfold unlend
    rw [List.getElem?_set_ne fun e => q n (by rw [e]; exact List.mem_cons_self)]
    exact unlend_out fun k z => q k (List.mem_cons_of_mem _ z)
theorem unlend_len : ∀ {m : List (Nat × Nat)} {env : List Slt}, (unlend h env m).length = env.length
  | [], _ => rfl
  | (i, n) :: m, env => by unfold unlend; rw [List.length_set]; exact unlend_len
def lentS (h : List Cel) (n : Nat) : Slt := match h[n]? with | some .dead => .emp | some c => .box c | none => .emp
theorem unlend_in : ∀ {m : List (Nat × Nat)} {env : List Slt} {j n : Nat}, (j, n) ∈ m → (m.map (·.1)).Nodup → j < env.length → (unlend h env m)[j]? = some (lentS h n)
  | [], _, _, _, q, _, _ => by simp at q
  | (i, k) :: m, env, j, n, q, nd, hl => by
    rw [List.map_cons, List.nodup_cons] at nd
    unfold unlend
    rcases List.mem_cons.mp q with e | q
    · cases e
      rw [List.getElem?_set_self (by rw [unlend_len]; exact hl)]
      rfl
    · have hne : i ≠ j := fun e => nd.1 (List.mem_map.mpr ⟨(j, n), q, e.symm⟩)
      rw [List.getElem?_set_ne hne]
      exact unlend_in q nd.2 hl
theorem lent_box {n : Nat} {d : Cel} (q : lentS h n = .box d) : at? ⟨[], h⟩ (.cell n) = some d := by
  unfold lentS at q
  unfold at?
  cases e : h[n]? with
  | none => rw [e] at q; cases q
  | some c =>
    rw [e] at q
    cases c <;> first | (cases q; done) | (cases q; simp [e, live?])
theorem at_live {l : Pl} {d : Cel} (q : at? st l = some d) : live? d = some d := by
  cases l with
  | cell n =>
    unfold at? at q
    cases e : st.heap[n]? with
    | none => simp only [e] at q; cases q
    | some c => simp only [e] at q; cases c <;> (simp [live?] at q; try subst q) <;> first | rfl | skip
  | box i =>
    unfold at? at q
    cases e : st.env[i]? with
    | none => simp only [e] at q; cases q
    | some s =>
      simp only [e] at q
      cases s with
      | box c => cases c <;> (simp [live?] at q; try subst q) <;> first | rfl | skip
      | _ => cases q
theorem box_at {i : Nat} {d : Cel} (q : st.env[i]? = some (.box d)) (hd : live? d = some d) : at? st (.box i) = some d := by
  unfold at?; simp only [q]; exact hd
theorem at_box {i : Nat} {d : Cel} (q : at? st (.box i) = some d) : st.env[i]? = some (.box d) := by
  unfold at? at q
  cases e : st.env[i]? with
  | none => simp only [e] at q; cases q
  | some s =>
    simp only [e] at q
    cases s with
    | box c => cases c <;> (simp [live?] at q; try subst q) <;> first | rfl | skip
    | _ => cases q
/-- behind a call: what was lent is back -/
theorem Rel.fromCall {s1 : Sta} {m : List (Nat × Nat)} (R : Rel K g st σ H) {g2 : Gh} (R2 : Rel K g2 s1 σ H) (G2 : Grow g st H g2 s1 H) (eF : g2.F = g.F) (eb : g2.b = g.b)
    (hm : ∀ i n, (i, n) ∈ m → (∃ c, st.env[i]? = some (.box c)) ∧ st.heap.length ≤ n ∧ n < s1.heap.length ∧ g2.c n = g.b i ∧ s1.env[i]? = some .emp) (hout : ∀ j, (∀ n, (j, n) ∉ m) → s1.env[j]? = st.env[j]?)
    (hnd : (m.map (·.1)).Nodup) (hinj : ∀ i j n, (i, n) ∈ m → (j, n) ∈ m → i = j)
    (R' : Rel K g' ⟨[], h⟩ [] H') (G' : Grow g2 ⟨[], s1.heap⟩ H g' ⟨[], h⟩ H') (Rh : Rel K g' ⟨[], h2⟩ [] H') (hsub : ∀ l d, at? ⟨[], h2⟩ l = some d → at? ⟨[], h⟩ l = some d) (hlen : st.heap.length ≤ h2.length)
    (hchk : ∀ i n, (i, n) ∈ m → ∀ d o, h[n]? = some d → CellRep K g'.F g'.c h.length d o → CellRep K g'.F g'.c h2.length d o) (hnc : ∀ l d, at? ⟨[], h2⟩ l = some d → ∀ i n, (i, n) ∈ m → l ≠ .cell n) :
    Rel K { g' with b := g.b } ⟨unlend h s1.env m, h2⟩ σ H' ∧ Grow g st H { g' with b := g.b } ⟨unlend h s1.env m, h2⟩ H' := by
  have cells : ∀ n, n < s1.heap.length → g'.c n = g2.c n := G'.cells
  have cc : ∀ n, n < st.heap.length → g'.c n = g.c n := fun n hn => (cells n (Nat.lt_of_lt_of_le hn G2.hlen)).trans (G2.cells n hn)
  have fr : ∀ a o, g.F a = some o → g'.F a = some o := fun a o e => G'.fr a o (by rw [eF]; exact e)
  have l1 : s1.env.length = st.env.length := by rw [R2.len, R.len]
  -- the slots
  have slot : ∀ {j : Nat} {s : Slt}, (unlend h s1.env m)[j]? = some s → (∃ n c, (j, n) ∈ m ∧ s = lentS h n ∧ st.env[j]? = some (.box c)) ∨ ((∀ n, (j, n) ∉ m) ∧ s1.env[j]? = some s ∧ st.env[j]? = some s) := fun {j s} e => by
    by_cases hj : ∃ n, (j, n) ∈ m
    · obtain ⟨n, hn⟩ := hj
      obtain ⟨⟨c, hc⟩, _⟩ := hm j n hn
      have hjl : j < s1.env.length := by rw [l1]; exact (List.getElem?_eq_some_iff.mp hc).1
      rw [unlend_in hn hnd hjl] at e
      exact .inl ⟨n, c, hn, (Option.some.inj e).symm, hc⟩
    · have hj : ∀ n, (j, n) ∉ m := fun n z => hj ⟨n, z⟩
      rw [unlend_out hj] at e
      exact .inr ⟨hj, e, by rw [← hout j hj]; exact e⟩
  -- a place: in the callee's heap, or a box that was not lent
  have pl : ∀ {l : Pl} {d : Cel}, at? ⟨unlend h s1.env m, h2⟩ l = some d → (∃ k, at? ⟨[], h⟩ (.cell k) = some d ∧ (Gh.at { g' with b := g.b } l) = g'.c k ∧ ((l = .cell k ∧ at? ⟨[], h2⟩ l = some d) ∨ ∃ j, l = .box j ∧ (j, k) ∈ m)) ∨ (∃ j, l = .box j ∧ at? s1 l = some d ∧ at? st l = some d) := fun {l d} q => by
    cases l with
    | cell k =>
      have q : at? ⟨[], h2⟩ (.cell k) = some d := q
      exact .inl ⟨k, hsub _ _ q, rfl, .inl ⟨rfl, q⟩⟩
    | box j =>
      have ql := at_live q
      rcases slot (at_box q) with ⟨n, c, hn, e, hc⟩ | ⟨hj, e1, e2⟩
      · refine .inl ⟨n, lent_box e.symm, ?_, .inr ⟨j, rfl, hn⟩⟩
        obtain ⟨_, _, h3, h4, _⟩ := hm j n hn
        show g.b j = g'.c n
        rw [cells n h3, h4]
      · exact .inr ⟨j, rfl, box_at e1 ql, box_at e2 ql⟩
  have gat : ∀ j, g2.at (.box j) = g.b j := fun j => by show g2.b j = g.b j; rw [eb]
  have apart : ∀ {j : Nat} {d : Cel}, at? s1 (.box j) = some d → ¬ LiveA g2 ⟨[], s1.heap⟩ (g.b j) := fun {j d} q ⟨l, d', h1, h2⟩ => by
    obtain ⟨h3, n, rfl⟩ := at_heap h1
    have := R2.inj _ _ _ _ h3 q (by rw [gat]; exact h2)
    cases this
  have there : ∀ {j : Nat} {d : Cel}, at? st (.box j) = some d → H (g.b j) ≠ none := fun {j d} q => (R.there (LiveA.of q)).1
  have far : ∀ {j k : Nat} {d d' : Cel}, at? s1 (.box j) = some d → at? st (.box j) = some d → at? ⟨[], h⟩ (.cell k) = some d' → g'.c k ≠ g.b j := fun {j k d d'} q1 q2 q3 e => by
    rcases G'.live _ ⟨_, _, q3, show g'.c k = g.b j from e⟩ with z | z
    · exact apart q1 z
    · exact there q2 z
  refine ⟨⟨R'.sub, fun l d q => ?_, fun l l' d d' q q' e => ?_, fun i v q => ?_, fun i c q => ?_, ?_⟩, ⟨fun a o e n => ?_, G'.dom, fr, cc, hlen, fun a ⟨l, d, q, e⟩ => ?_, fun a o e => ?_⟩⟩
  · rcases pl q with ⟨k, q1, e, q2⟩ | ⟨j, rfl, q1, q2⟩
    · rw [e]
      rcases q2 with ⟨rfl, q2⟩ | ⟨j, rfl, hn⟩
      · exact Rh.loc _ _ q2
      · obtain ⟨h3, o, h4, h5⟩ := R'.loc _ _ q1
        refine ⟨h3, o, h4, hchk j k hn d o ?_ h5⟩
        have := q1
        unfold at? at this
        cases ee : h[k]? with
        | none => simp only [ee] at this; cases this
        | some c => simp only [ee] at this; cases c <;> (simp [live?] at this; try subst this) <;> first | rfl | skip
    · obtain ⟨h3, o, h4, h5⟩ := R.loc _ _ q2
      refine ⟨?_, o, G'.keep _ o h4 (apart q1), CellRep.up fr cc hlen h5⟩
      show g'.F (g.b j) = none
      cases e : g'.F (g.b j) with
      | none => rfl
      | some u =>
        rcases G'.new _ u e with z | z | z
        · rw [eF, show g.F (g.b j) = none from h3] at z; cases z
        · exact absurd z (there q2)
        · exact absurd z (apart q1)
  · rcases pl q with ⟨k, q1, e1, q2⟩ | ⟨j, rfl, q1, q2⟩ <;> rcases pl q' with ⟨k', q1', e1', q2'⟩ | ⟨j', rfl, q1', q2'⟩
    · have hk : Pl.cell k = Pl.cell k' := R'.inj _ _ _ _ q1 q1' (by rw [e1, e1'] at e; exact e)
      cases hk
      rcases q2 with ⟨rfl, q2⟩ | ⟨j, rfl, hn⟩ <;> rcases q2' with ⟨rfl, q2'⟩ | ⟨j', rfl, hn'⟩
      · rfl
      · exact absurd rfl (hnc _ _ q2 _ _ hn')
      · exact absurd rfl (hnc _ _ q2' _ _ hn)
      · rw [hinj j j' k hn hn']
    · rw [e1] at e; exact absurd e (far q1' q2' q1)
    · rw [e1'] at e; exact absurd e.symm (far q1 q2 q1')
    · exact R.inj _ _ _ _ q2 q2' e
  · rcases slot q with ⟨n, c, hn, e, hc⟩ | ⟨hj, e1, e2⟩
    · exfalso
      unfold lentS at e
      split at e <;> cases e
    · obtain ⟨x, h3, h4⟩ := R.slot i v e2
      exact ⟨x, h3, Rep.up fr cc hlen _ _ h4⟩
  · rcases slot q with ⟨n, c', hn, e, hc⟩ | ⟨hj, e1, e2⟩
    · exact R.box i c' hc
    · exact R.box i c e2
  · show (unlend h s1.env m).length = σ.length
    rw [unlend_len, R2.len]
  · refine G'.keep a o e fun z => ?_
    rcases G2.live a z.heap with z | z
    · exact n z
    · rw [e] at z; cases z
  · rcases pl q with ⟨k, q1, e1, q2⟩ | ⟨j, rfl, q1, q2⟩
    · rcases G'.live a ⟨_, _, q1, by rw [← e, e1]; rfl⟩ with z | z
      · exact G2.live a z.heap
      · exact .inr z
    · exact .inl ⟨_, _, q2, e⟩
  · rcases G'.new a o e with z | z | z
    · exact .inl (by rw [← eF]; exact z)
    · exact .inr (.inl z)
    · rcases G2.live a z.heap with z | z
      · exact .inr (.inr z)
      · exact .inr (.inl z)
end
end Mq

namespace Mq
open PySem PySem.Spec PyProof.Rows L2 Mp
section
variable {X : Cx} {E : ErT} {W : WX} {pos p : Pos} {e : Expr} {es : List Expr} {fs : Sta → Rs (List SV)} {k : Nat} {f : Addr} {fd : FuncData} {ps : List Str} {x : Str} {P : Prog} {fi : Nat}
/-- what a call needs, from what it gives -/
theorem call_sp {K : PySem.W.Frag} (hE : EConst E) {σ : L2.St} {Q : VK} {g1 : Gh} {st1 : Sta} {H1 : Hp} {vs : List SV} {xs : List V} (R1 : Rel K g1 st1 σ H1) (r : RepVs K g1 st1 σ vs xs)
    (h : Out K E W g1 st1 σ H1 (fun v g' st' H' => ∀ x, RepV K g' st' σ v x → Q x H') (callR P fi vs st1)) : spF K E (P.run fi) xs H1 Q (WE W σ) := by
  unfold callR at h
  cases el : lend vs st1 with
  | none => rw [el] at h; exact h.elim
  | some t =>
    obtain ⟨us, s1, m⟩ := t
    rw [el] at h
    dsimp only at h
    obtain ⟨g2, R2, G2, eF, eb, rl, hm, hout, hnil, hnd, hinj⟩ := lend_ok vs xs el R1 r
    refine ⟨g2, us, s1.heap, R2.onlyHeap, rl, ?_⟩
    cases er : P.run fi us s1.heap with
    | bad => rw [er] at h; exact h.elim
    | err e hh =>
      rw [er] at h
      dsimp only at h
      intro g' H' cls d G' R' he
      cases m with
      | cons _ _ => exact h.elim
      | nil =>
        obtain rfl := hnil rfl
        obtain ⟨R3, G3⟩ := Rel.fromCall (m := []) (h2 := hh) R1 R2 G2 eF eb hm hout hnd hinj R' G' R' (fun _ _ q => q) G'.hlen (fun _ _ z => by simp at z) (fun _ _ _ _ _ z => by simp at z)
        exact h _ H' cls d G3 R3 (hE _ _ _ _ _ _ _ _ he)
    | ok v hh =>
      rw [er] at h
      dsimp only at h
      intro g' H' G' R' z rz
      cases m with
      | nil =>
        obtain rfl := hnil rfl
        obtain ⟨R3, G3⟩ := Rel.fromCall (m := []) (h2 := hh) R1 R2 G2 eF eb hm hout hnd hinj R' G' R' (fun _ _ q => q) G'.hlen (fun _ _ z => by simp at z) (fun _ _ _ _ _ z => by simp at z)
        exact h _ H' G3 R3 z (Rep.toV rz)
      | cons m0 mr =>
        dsimp only at h
        split at h
        · rename_i hall
          cases et : trim st1.heap.length v hh with
          | none => rw [et] at h; exact h.elim
          | some h2 =>
            rw [et] at h
            dsimp only at h
            have hle : st1.heap.length ≤ (Sta.mk [] hh).heap.length := Nat.le_trans G2.hlen G'.hlen
            obtain ⟨R4, l4, sub4, rep4⟩ := R'.trim et hle
            have hchk : ∀ i n, (i, n) ∈ m0 :: mr → ∀ d o, hh[n]? = some d → CellRep K g'.F g'.c hh.length d o → CellRep K g'.F g'.c h2.length d o := fun i n hn d o hd rc => by
              have := List.all_eq_true.mp hall (i, n) hn
              simp only [hd] at this
              rw [l4]
              exact rc.down this
            have hnc : ∀ l d, at? ⟨[], h2⟩ l = some d → ∀ i n, (i, n) ∈ m0 :: mr → l ≠ .cell n := fun l d q i n hn e => by
              have h1 := at_lt q n e
              have h1 : n < h2.length := h1
              have := (hm i n hn).2.1
              omega
            obtain ⟨R3, G3⟩ := Rel.fromCall R1 R2 G2 eF eb hm hout hnd hinj R' G' R4 sub4 (by rw [l4]; exact Nat.le_refl _) hchk hnc
            refine h _ H' G3 R3 z (Rep.toV ?_)
            have := rep4 z rz
            rw [← l4] at this
            exact this
        · exact h.elim
/-- f(e, ..) -/
theorem m_call (hE : EConst E) (tk : Takes X W) (F : FnOk X.prog X.w X.K X.mg X.base (L2.CX X.prog X.w) k f fd ps (spF X.K E (P.run fi))) (hr : Room k X.A) (hg : Gl X x) (hm : X.mg x = some (.ref f)) (hk : PySem.W.keepIn X.K (.ref f) = true) (hb : Binds X.K fd ps [])
    (ha : PA X (e :: es) (tA X.K E W fs)) (hdb : (x == ("__debug__" : Str)) = false) (he : starEach (e :: es) X.env = (false, eval e X.env) :: starEach es X.env) (hpl : (backTo pos (starEach es X.env)).any (·.1) = false) :
    PE X (.Call (.Name x p) (e :: es) [] pos) (tE X.K E W fun s => (fs s).bind fun vs s => callR P fi vs s) := by
  refine PE.imp (pe_callS F hr hg hm hk hb (passAt tk) ha hdb he hpl) fun σ H Q ⟨g, st, R, h⟩ => tA.seq R h fun vs xs g1 st1 H1 G R1 r h => call_sp hE R1 r h
/-- f() -/
theorem m_call0 (hE : EConst E) (tk : Takes X W) (F : FnOk X.prog X.w X.K X.mg X.base (L2.CX X.prog X.w) k f fd ps (spF X.K E (P.run fi))) (hr : Room k X.A) (hg : Gl X x) (hm : X.mg x = some (.ref f)) (hk : PySem.W.keepIn X.K (.ref f) = true) (hb : Binds X.K fd ps [])
    (hdb : (x == ("__debug__" : Str)) = false) : PE X (.Call (.Name x p) [] [] pos) (tE X.K E W fun s => callR P fi [] s) := by
  refine ⟨fun pins s σ H Q I ⟨g, st, R, h⟩ => ?_⟩
  refine wpAny_Call_Name_kw (ld_glob I hg hm ?_ hdb)
  exact PySem.W.callWith_K0 I.kIn hk (run_fnS (us := []) F hr hb (passAt tk σ) I .nil (call_sp hE R (show RepVs X.K g st σ [] [] from rfl) h))
end
section
variable {K : PySem.W.Frag} {E : ErT} {EX : XK} {g : Gh} {H : Hp} {h : List Cel}
def beginS (f : Fn) (vs : List SV) (h : List Cel) : Sta := { env := vs.map .val ++ List.replicate (f.slots - f.pars) .emp, heap := h }
theorem begin_get {f : Fn} {us : List SV} {i : Nat} {s : Slt} (q : (beginS f us h).env[i]? = some s) : (∃ v, us[i]? = some v ∧ s = .val v) ∨ s = .emp := by
  have q : (us.map Slt.val ++ List.replicate (f.slots - f.pars) .emp)[i]? = some s := q
  by_cases hi : i < us.length
  · rw [List.getElem?_append_left (by simpa using hi), List.getElem?_map] at q
    cases e : us[i]? with
    | none => rw [e] at q; cases q
    | some v => rw [e] at q; exact .inl ⟨v, rfl, (Option.some.inj q).symm⟩
  · rw [List.getElem?_append_right (by simp; omega), List.getElem?_replicate] at q
    split at q
    · exact .inr (Option.some.inj q).symm
    · cases q
theorem begin_at {f : Fn} {us : List SV} {l : Pl} {d : Cel} (q : at? (beginS f us h) l = some d) : at? ⟨[], h⟩ l = some d := by
  cases l with
  | cell n => exact q
  | box i => rcases begin_get (at_box q) with ⟨_, _, e⟩ | e <;> cases e
theorem LiveA.begin {f : Fn} {us : List SV} {a : Addr} (q : LiveA g (beginS f us h) a) : LiveA g ⟨[], h⟩ a := by
  obtain ⟨l, d, h1, h2⟩ := q
  exact ⟨l, d, begin_at h1, h2⟩
theorem Rel.begin {f : Fn} {N : List Str} {us : List SV} {xs : List V} (R : Rel K g ⟨[], h⟩ [] H) (r : RepL K g.F g.c h.length us xs) (hl : us.length = f.pars) (hN : N.length = f.slots) : Rel K g (beginS f us h) (L2.start N xs) H := by
  refine ⟨R.sub, fun l c q => R.loc l c (begin_at q), fun l l' c c' q q' => R.inj l l' c c' (begin_at q) (begin_at q'), fun i v q => ?_, fun i c q => ?_, ?_⟩
  · rcases begin_get q with ⟨w, e1, e2⟩ | e
    · cases e2
      obtain ⟨y, h1, h2⟩ := r.get e1
      refine ⟨y, ?_, h2⟩
      unfold L2.start
      rw [List.getElem?_append_left (by rw [List.length_map]; exact (List.getElem?_eq_some_iff.mp h1).1), List.getElem?_map, h1]
      rfl
    · cases e
  · rcases begin_get q with ⟨w, e1, e2⟩ | e2 <;> cases e2
  · show (us.map Slt.val ++ List.replicate (f.slots - f.pars) Slt.emp).length = (L2.start N xs).length
    unfold L2.start
    simp only [List.length_append, List.length_map, List.length_replicate, hN, ← r.length, hl]
/-- a def: its body's reading is its promise -/
theorem fn_sound {P0 : Program} {w : World} {mg : Str → Option Value} {base : Heap} {k : Nat} {f : Addr} {fn : Fn} {P : Prog} {name qual : Str} {params : Arguments} {body : List Stmt} {scope : Scope} {dV kV doc pm cdv ct oc : Value} {an od : Option Addr}
    {osl : Array (Option Value)} {N ps : List Str} (hE : EConst E) (lk : K.lookup f = some ⟨oc, od, .func (PySem.W.fnOf name qual params body scope dV kV doc pm an cdv ct), osl⟩) (hcd : PySem.W.codeIn K cdv qual = true) (S : FnScope N ps scope)
    (hps : ps.length = fn.pars) (hN : N.length = fn.slots)
    (hbody : ∀ (A : Around) (outer : List Env) (s : Shared) (H : Hp) (EX : XK), Room k (A.deeper (envOfC qual scope s.heap.objs.size f cdv)) →
      Takes (cxOf (L2.CX P0 w) P0 w K mg base N qual scope f cdv A outer s H EX) (fun cls d _ H' => EX cls d H') →
      PSs (cxOf (L2.CX P0 w) P0 w K mg base N qual scope f cdv A outer s H EX) body (tS K E (fun cls d _ H' => EX cls d H') (evB P fn.body))) :
    FnOk P0 w K mg base (L2.CX P0 w) (k + 1) f (PySem.W.fnOf name qual params body scope dV kV doc pm an cdv ct) ps (spF K E (runB P fn)) := by
  have lenU : ∀ us h, runB P fn us h ≠ .bad → us.length = fn.pars := fun us h hb => by
    unfold runB at hb
    split at hb
    · rename_i e; exact e
    · exact absurd rfl hb
  refine fn_of lk hcd S (fun vs H Q EX ⟨g, us, h, R, r, o⟩ => ?_) fun A outer s H vs Q EX hr ⟨g, us, h, R, r, o⟩ => ⟨_, hbody A outer s H EX hr (takes_of rfl rfl rfl rfl), ?_⟩
  · rw [hps, ← lenU us h (fun e => by rw [e] at o; exact o), r.length]
  · have hl : us.length = fn.pars := lenU us h (fun e => by rw [e] at o; exact o)
    refine ⟨g, beginS fn us h, R.begin r hl hN, ?_⟩
    unfold runB at o
    rw [if_pos hl] at o
    have toG : ∀ {g' : Gh} {s' : Sta} {H' : Hp} {h2 : List Cel}, Grow g (beginS fn us h) H g' s' H' → h.length ≤ h2.length → (∀ l d, at? ⟨[], h2⟩ l = some d → at? s' l = some d) → Grow g ⟨[], h⟩ H g' ⟨[], h2⟩ H' := fun G hle hs =>
      ⟨fun a o e n => G.keep a o e fun z => n z.begin, G.dom, G.fr, G.cells, hle, fun a ⟨l, d, q, e⟩ => (G.live a ⟨l, d, hs l d q, e⟩).imp LiveA.begin id, fun a o e => (G.new a o e).imp id (Or.imp id LiveA.begin)⟩
    have fin : ∀ {v : SV} {s' : Sta} {Q' : Gh → L2.St → Hp → Prop},
        OutR K E EX g ⟨[], h⟩ H Q (if fn.keep then RC.ok v s'.heap else match trim h.length v s'.heap with | some h2 => .ok v h2 | none => .bad) →
        (∀ g' σ' H', (∀ x, Rep K g'.F g'.c s'.heap.length v x → Q x H') → Q' g' σ' H') →
        ∀ g' σ' H', Grow g (beginS fn us h) H g' s' H' → Rel K g' s' σ' H' → Q' g' σ' H' := fun {v s' Q'} o hq g' σ' H' G' R' => by
      refine hq g' σ' H' fun x rx => ?_
      split at o
      · exact o g' H' (toG G' G'.hlen fun l d q => (at_heap q).1) R'.onlyHeap x rx
      · cases et : trim h.length v s'.heap with
        | none => rw [et] at o; exact o.elim
        | some h2 =>
          rw [et] at o
          obtain ⟨R4, l4, sub4, rep4⟩ := R'.trim et G'.hlen
          refine o g' H' (toG G' (by rw [l4]; exact Nat.le_refl _) sub4) R4 x ?_
          have := rep4 x rx
          rw [← l4] at this
          exact this
    have o : OutR K E EX g ⟨[], h⟩ H Q (match evB P fn.body (beginS fn us h) with
      | .ok fl s => match fl with
        | .next => if fn.keep then .ok .non s.heap else match trim h.length .non s.heap with | some h2 => .ok .non h2 | none => .bad
        | .ret v => if fn.keep then .ok v s.heap else match trim h.length v s.heap with | some h2 => .ok v h2 | none => .bad
      | .err e s => match trim h.length .non s.heap with | some h2 => .err e h2 | none => .bad
      | .bad => .bad) := o
    cases ev : evB P fn.body (beginS fn us h) with
    | bad => rw [ev] at o; exact o.elim
    | ok fl s' =>
      rw [ev] at o
      cases fl with
      | next => exact fun g' σ' H' _ => fin (Q' := fun g' σ' H' => Q .non H') o (fun g' σ' H' q => q _ rfl) g' σ' H'
      | ret v => exact fun g' σ' H' _ => fin (Q' := fun g' σ' H' => ∀ x, Rep K g'.F g'.c s'.heap.length v x → Q x H') o (fun g' σ' H' q => q) g' σ' H'
    | err e s' =>
      rw [ev] at o
      intro g' σ' H' cls d _ G' R' he
      dsimp only at o
      cases et : trim h.length .non s'.heap with
      | none => rw [et] at o; exact o.elim
      | some h2 =>
        rw [et] at o
        obtain ⟨R4, l4, sub4, rep4⟩ := R'.trim et G'.hlen
        exact o g' H' cls d (toG G' (by rw [l4]; exact Nat.le_refl _) sub4) R4 (hE _ _ _ _ _ _ _ _ he)
end
end Mq

namespace Mq
open PySem PySem.Spec PyProof.Rows L2 Mp
section
variable {K : PySem.W.Frag} {E : ErT} {W : WX} {g g1 g0 : Gh} {st st1 st0 : Sta} {σ : L2.St} {H H1 H0 : Hp}
def tR (K : PySem.W.Frag) (E : ErT) (W : WX) (f : Sta → Rs (List RV)) : TA := fun σ H Q => ∃ g st, Rel K g st σ H ∧ Out K E W g st σ H (fun v g' st' H' => ∀ xs ps, RVr K g' st' H' v xs ps → (∀ p ∈ ps, H p = none) → Q xs H') (f st)
theorem none_back (G : Grow g st H g1 st1 H1) {p : Addr} (h : H1 p = none) : H p = none := by
  cases e : H p with
  | none => rfl
  | some o => obtain ⟨o', e'⟩ := G.dom p o e; rw [h] at e'; cases e'
end
section
variable {X : Cx} {E : ErT} {W : WX} {a b c e : Expr} {es : List Expr} {pos : Pos} {fa : Sta → Rs SV} {ff : Sta → Rs Cel} {fr : Sta → Rs (List RV)}
theorem r_nil : PA X [] (tR X.K E W fun s => .ok [] s) := PA.imp pa_nil fun σ H Q ⟨g, st, R, h⟩ => Out.now R h _ _ ⟨rfl, rfl⟩ (by simp)
theorem r_v (ha : PE X e (tE X.K E W fa)) (hr : PA X es (tR X.K E W fr)) (hs : starEach (e :: es) X.env = (false, eval e X.env) :: starEach es X.env) :
    PA X (e :: es) (tR X.K E W fun s => (solidB (fa s)).bind fun v s => (fr s).bind fun vs s => .ok (.v v :: vs) s) := by
  refine PA.imp (pa_cons (PE.imp ha fun σ H Q h => tK_of h) hr hs) fun σ H Q ⟨g, st, R, h⟩ => tK.seq R h fun v x g1 st1 H1 G R1 r h => ⟨g1, st1, R1, ?_⟩
  refine h.bind.imp fun vs g2 st2 H2 ⟨G2, R2, h⟩ xs ps rv hn => ?_
  exact Out.now R2 h _ ps ⟨x, xs, rfl, Rep.up G2.fr G2.cells G2.hlen _ _ r, rv⟩ fun p hp => none_back G (hn p hp)
theorem r_c (ha : PE X e (tF X.K E W ff)) (hr : PA X es (tR X.K E W fr)) (hs : starEach (e :: es) X.env = (false, eval e X.env) :: starEach es X.env) :
    PA X (e :: es) (tR X.K E W fun s => (ff s).bind fun c s => (fr s).bind fun vs s => .ok (.c c :: vs) s) := by
  refine PA.imp (pa_cons ha hr hs) fun σ H Q ⟨g, st, R, h⟩ => ⟨g, st, R, ?_⟩
  refine h.bind.imp fun c g1 st1 H1 ⟨G, R1, h⟩ p o hn hp hF hl rc => ⟨g1, st1, R1, ?_⟩
  refine h.bind.imp fun vs g2 st2 H2 ⟨G2, R2, h⟩ xs ps rv hn2 => ?_
  have f : Flt X.K g1 st1 H1 p c := ⟨⟨o, hp, rc⟩, hF, hl⟩
  refine Out.now R2 h _ (p :: ps) ⟨p, xs, ps, rfl, rfl, f.up G2, fun z => ?_, rv⟩ fun q hq => ?_
  · have := hn2 p z; rw [hp] at this; cases this
  · rcases List.mem_cons.mp hq with rfl | hq
    · exact hn
    · exact none_back G (hn2 q hq)
def stN : List Nat → List RV → Sta → Rs Unit
  | [], [], s => .ok () s
  | i :: is, .v v :: r, s => (Rs.ok () (slotSet i v s)).bind fun _ s => stN is r s
  | i :: is, .c c :: r, s => stN is r { s with env := s.env.set i (.box c) }
  | _, _, _ => .bad
def setN : L2.St → List Nat → List V → L2.St
  | σ, i :: is, x :: xs => setN (σ.set i (some x)) is xs
  | σ, _, _ => σ
/-- a box takes a floating thing -/
theorem flt_box {K : PySem.W.Frag} {g g0 : Gh} {st st0 : Sta} {σ : L2.St} {H H0 : Hp} {p : Addr} {c : Cel} {i : Nat} (f : Flt K g st H p c) (hn : H0 p = none) (R : Rel K g st σ H) (G : Grow g0 st0 H0 g st H) :
    Rel K (g.boxAt i p) { st with env := st.env.set i (.box c) } (σ.set i (some (.ref p))) H ∧ Grow g0 st0 H0 (g.boxAt i p) { st with env := st.env.set i (.box c) } H := by
  obtain ⟨⟨o, ho, rc⟩, hF, hl⟩ := f
  exact ⟨R.boxSet ho hF hl rc, Grow.boxSet hn G⟩
theorem stN_out {K : PySem.W.Frag} {D : Ends} {g0 : Gh} {st0 : Sta} {H0 : Hp} : ∀ (is : List Nat) (rs : List RV) {xs : List V} {ps : List Addr} {g : Gh} {st : Sta} {σ : L2.St} {H : Hp}, Rel K g st σ H → RVr K g st H rs xs ps → (∀ p ∈ ps, H0 p = none) → Grow g0 st0 H0 g st H →
    OutS K E W anyS g0 st0 H0 (SQ K D) ((stN is rs st).bind nextR) → xs.length = is.length ∧ D.nx (setN σ is xs) H
  | [], [], xs, ps, g, st, σ, H, R, r, hn, G, h => by
    obtain ⟨rfl, _⟩ := r
    exact ⟨rfl, h g σ H trivial G R⟩
  | [], .v _ :: _, _, _, _, _, _, _, _, _, _, _, h => h.elim
  | [], .c _ :: _, _, _, _, _, _, _, _, _, _, _, h => h.elim
  | _ :: _, [], _, _, _, _, _, _, _, _, _, _, h => h.elim
  | i :: is, .v v :: rs, xs, ps, g, st, σ, H, R, ⟨y, ys, e, r1, r2⟩, hn, G, h => by
    subst e
    obtain ⟨R1, G1⟩ := R.slotSet (i := i) r1
    obtain ⟨e, q⟩ := stN_out is rs R1 (r2.up G1) hn (G.trans G1) h
    exact ⟨by simp [e], q⟩
  | i :: is, .c c :: rs, xs, ps, g, st, σ, H, R, ⟨p, ys, qs, e1, e2, f, hp, r2⟩, hn, G, h => by
    subst e1 e2
    obtain ⟨R1, G1⟩ := flt_box (i := i) f (hn p List.mem_cons_self) R G
    obtain ⟨e, q⟩ := stN_out is rs R1 (r2.box hp) (fun q hq => hn q (List.mem_cons_of_mem _ hq)) G1 h
    exact ⟨by simp [e], q⟩
/-- x, y = a, b -/
theorem s_par2 {i j : Nat} {x y : Str} {px py pt pt2 : Pos} {kt k2} (hc : X.calm = true) (hN : X.N.Nodup) (hi : X.N[i]? = some x) (hj : X.N[j]? = some y) (hij : i ≠ j) (hx : X.env.scope.names.lookup x = some .local) (hy : X.env.scope.names.lookup y = some .local)
    (ha : PA X [a, b] (tR X.K E W fr)) (hw : swappedStores [.Tuple [.Name x px, .Name y py] kt pt] (.Tuple [a, b] k2 pt2) X.env = pure (some [x, y]))
    (hs : swapsWithSole [.Tuple [.Name x px, .Name y py] kt pt] (.Tuple [a, b] k2 pt2) pos.line X.env = pure false) :
    PS X (.Assign [.Tuple [.Name x px, .Name y py] kt pt] (.Tuple [a, b] k2 pt2) pos) (tS X.K E W fun s => (fr s).bind fun vs s => (stN [i, j] vs s).bind nextR) := by
  refine PS.imp (ps_par hc hN hi hj hij hx hy ha hw hs) fun D σ H ⟨g, st, R, h⟩ => ⟨g, st, R, ?_⟩
  refine (h.bindE0 trivial).imp fun rs g1 st1 H1 ⟨G, R1, h⟩ xs ps rv hn => ?_
  obtain ⟨hl, q⟩ := stN_out [i, j] rs R1 rv hn G h
  match xs, hl, q with
  | [v, w], _, q => exact ⟨v, w, rfl, q⟩
/-- x, y, z = a, b, c -/
theorem s_par3 {i j l : Nat} {x y z : Str} {px py pz pt pt2 : Pos} {kt k2} (hc : X.calm = true) (hN : X.N.Nodup) (hi : X.N[i]? = some x) (hj : X.N[j]? = some y) (hl : X.N[l]? = some z) (hij : i ≠ j) (hil : i ≠ l) (hjl : j ≠ l)
    (hx : X.env.scope.names.lookup x = some .local) (hy : X.env.scope.names.lookup y = some .local) (hz : X.env.scope.names.lookup z = some .local) (ha : PA X [a, b, c] (tR X.K E W fr))
    (hw : swappedStores [.Tuple [.Name x px, .Name y py, .Name z pz] kt pt] (.Tuple [a, b, c] k2 pt2) X.env = pure (some [x, y, z]))
    (hs : swapsWithSole [.Tuple [.Name x px, .Name y py, .Name z pz] kt pt] (.Tuple [a, b, c] k2 pt2) pos.line X.env = pure false) :
    PS X (.Assign [.Tuple [.Name x px, .Name y py, .Name z pz] kt pt] (.Tuple [a, b, c] k2 pt2) pos) (tS X.K E W fun s => (fr s).bind fun vs s => (stN [i, j, l] vs s).bind nextR) := by
  refine PS.imp (ps_par3 hc hN hi hj hl hij hil hjl hx hy hz ha hw hs) fun D σ H ⟨g, st, R, h⟩ => ⟨g, st, R, ?_⟩
  refine (h.bindE0 trivial).imp fun rs g1 st1 H1 ⟨G, R1, h⟩ xs ps rv hn => ?_
  obtain ⟨hl, q⟩ := stN_out [i, j, l] rs R1 rv hn G h
  match xs, hl, q with
  | [v, w, u], _, q => exact ⟨v, w, u, rfl, q⟩
end
end Mq

namespace Mq
open PySem PySem.Spec PyProof.Rows L2 Mp
def tGR (K : PySem.W.Frag) (E : ErT) (W : WX) (f : List RV → Sta → Rs Unit) : TGs := fun xs σ H Q => ∃ g st rs ps g0 st0 H0, Rel K g st σ H ∧ RVr K g st H rs xs ps ∧ (∀ p ∈ ps, H0 p = none) ∧ Grow g0 st0 H0 g st H ∧
  OutS K E W anyS g0 st0 H0 (fun _ g' st' σ' H' => Q σ' H') (f rs st)
theorem OutS.bind0 {K : PySem.W.Frag} {E : ErT} {W : WX} {S : L2.St → Prop} {g : Gh} {st : Sta} {H : Hp} {α β : Type} {Q : β → Gh → Sta → L2.St → Hp → Prop} {r : Rs α} {k : α → Sta → Rs β} (h : OutS K E W S g st H Q (r.bind k)) :
    OutS K E W S g st H (fun a g1 st1 σ1 H1 => S σ1 ∧ Grow g st H g1 st1 H1 ∧ Rel K g1 st1 σ1 H1 ∧ OutS K E W S g st H Q (k a st1)) r := by
  cases r with
  | ok a s => exact fun g' σ' H' hs G' R => ⟨hs, G', R, h⟩
  | err e s => exact h
  | bad => exact h
section
variable {X : Cx} {E : ErT} {W : WX} {L : List Nat} {e : Expr} {es : List Expr} {pos : Pos} {ft : SV → Sta → Rs Unit} {fts : List RV → Sta → Rs Unit} {fr : Sta → Rs (List RV)}
def gr0 : List RV → Sta → Rs Unit | [], s => .ok () s | _, _ => .bad
def gr1 (ft : SV → Sta → Rs Unit) (fts : List RV → Sta → Rs Unit) : List RV → Sta → Rs Unit | .v v :: r, s => (ft v s).bind fun _ s => fts r s | _, _ => .bad
def grN (i : Nat) (fts : List RV → Sta → Rs Unit) : List RV → Sta → Rs Unit
  | .v v :: r, s => (Rs.ok () (slotSet i v s)).bind fun _ s => fts r s
  | .c c :: r, s => fts r { s with env := s.env.set i (.box c) }
  | _, _ => .bad
theorem r_g0 : PGs X [] (tGR X.K E W gr0) := by
  refine PGs.imp pgs_nil fun x σ H Q ⟨g, st, rs, ps, g0, st0, H0, R, r, hn, G, h⟩ => ?_
  cases rs with
  | nil => exact ⟨r.1, h g σ H trivial G R⟩
  | cons _ _ => exact h.elim
theorem r_g1 (h1 : PG X e (tG X.K E W L ft)) (h2 : PGs X es (tGR X.K E W fts)) (hs : (assignEach (e :: es) X.env).map (·.2) = assign e X.env :: (assignEach es X.env).map (·.2)) :
    PGs X (e :: es) (tGR X.K E W (gr1 ft fts)) := by
  refine PGs.imp (pgs_cons h1 h2 hs) fun x σ H Q ⟨g, st, rs, ps, g0, st0, H0, R, r, hn, G, h⟩ => ?_
  match rs, r, h with
  | [], _, h => exact h.elim
  | .c _ :: _, _, h => exact h.elim
  | .v v :: r', ⟨y, ys, e, r1, r2⟩, h =>
    subst e
    have h : OutS X.K E W anyS g0 st0 H0 (fun _ g' st' σ' H' => Q σ' H') ((ft v st).bind fun _ s => fts r' s) := h
    refine ⟨y, ys, rfl, g, st, v, R, r1, ?_⟩
    have k : OutS X.K E W (OnlyAt L σ) g st H _ (ft v st) := (h.bind0.sub fun _ _ => trivial).from G
    cases ef : ft v st with
    | bad => rw [ef] at k; exact k.elim
    | err a s => rw [ef] at k; exact k
    | ok a s =>
      rw [ef] at k
      intro g' σ' H' hs' G' R' _
      obtain ⟨_, _, _, o⟩ := k g' σ' H' hs' G' R'
      exact ⟨g', s, r', ps, g0, st0, H0, R', r2.up G', hn, G.trans G', o⟩
theorem r_gN {i : Nat} {x : Str} (hN : X.N.Nodup) (hi : X.N[i]? = some x) (hx : Loc X.env.scope x) (hf : X.fn x = true ∨ X.env.scope.names.lookup x = some .local) (h2 : PGs X es (tGR X.K E W fts))
    (hs : (assignEach (.Name x pos :: es) X.env).map (·.2) = assign (.Name x pos) X.env :: (assignEach es X.env).map (·.2)) : PGs X (.Name x pos :: es) (tGR X.K E W (grN i fts)) := by
  refine PGs.imp (pgs_cons (pg_name hN hi hx hf) h2 hs) fun x σ H Q ⟨g, st, rs, ps, g0, st0, H0, R, r, hn, G, h⟩ => ?_
  match rs, r, h with
  | [], _, h => exact h.elim
  | .v v :: r', ⟨y, ys, e, r1, r2⟩, h =>
    subst e
    obtain ⟨R1, G1⟩ := R.slotSet (i := i) r1
    exact ⟨y, ys, rfl, g, _, r', ps, g0, st0, H0, R1, r2.up G1, hn, G.trans G1, h⟩
  | .c c :: r', ⟨p, ys, qs, e1, e2, f, hp, r2⟩, h =>
    subst e1 e2
    obtain ⟨R1, G1⟩ := flt_box (i := i) f (hn p List.mem_cons_self) R G
    exact ⟨_, ys, rfl, _, _, r', qs, g0, st0, H0, R1, r2.box hp, fun q hq => hn q (List.mem_cons_of_mem _ hq), G1, h⟩
theorem s_many {ts : List Expr} {n kt k2 : Nat} {pt pt2 : Pos} (hc : X.calm = true) (ha : PA X es (tR X.K E W fr)) (hg : PGs X ts (tGR X.K E W fts)) (hn : n ≤ 1000)
    (hn2 : (assignEach ts X.env).length = n) (hst : (assignEach ts X.env).findIdx? (·.1) = none)
    (hs : swapsWithSole [.Tuple ts kt pt] (.Tuple es k2 pt2) pos.line X.env = pure false) (hw : swappedStores [.Tuple ts kt pt] (.Tuple es k2 pt2) X.env = pure none)
    (h1 : (assignEach [.Tuple ts kt pt] X.env).map (·.2) = [assign (.Tuple ts kt pt) X.env]) :
    PS X (.Assign [.Tuple ts kt pt] (.Tuple es k2 pt2) pos) (tS X.K E W fun s => (fr s).bind fun rs s => if rs.length = n then (fts rs s).bind nextR else .bad) := by
  refine PS.imp (ps_asg (pe_tup ha) (pg_tup hc hg hn2 hst) hs hw h1) fun D σ H ⟨g, st, R, h⟩ => ⟨g, st, R, ?_⟩
  refine (h.bindE0 trivial).imp fun rs g1 st1 H1 ⟨G, R1, h⟩ xs ps rv hnp => ?_
  by_cases hlen : rs.length = n
  case neg => rw [if_neg hlen] at h; exact h.elim
  rw [if_pos hlen] at h
  have hxn : xs.length = n := by rw [← rv.length]; exact hlen
  refine ⟨by rw [hxn]; exact Nat.le_trans hn (by decide), fun p hp => ?_⟩
  obtain ⟨R2, G2⟩ := R1.add (o := .tup xs) hp
  refine ⟨p, xs, rfl, SqT.of upd_same, hxn, _, st1, rs, ps, g, st, H, R2, rv.up G2, hnp, G.trans G2, ?_⟩
  refine h.bind0.imp fun _ g3 st3 σ3 H3 ⟨_, G3, R3, o⟩ => ?_
  exact o g3 σ3 H3 trivial G3 R3
end
end Mq

namespace Mq
open PySem PySem.Spec PyProof.Rows L2 Mp
section
variable {X : Cx} {E : ErT} {W : WX} {a b c e : Expr} {es : List Expr} {pos p p2 : Pos} {fa fb fc : Sta → Rs SV} {fw : Sta → Rs Walk}
theorem freshC_some {K : PySem.W.Frag} {W : WX} {g : Gh} {st : Sta} {σ : L2.St} {H H0 : Hp} {Q : VK} {o : Option (List SV)} (h : Out K E W g st σ H (NewQ K H0 Q) (freshC o st)) : ∃ zs, o = some zs ∧ Out K E W g st σ H (NewQ K H0 Q) (.ok (.lst zs) st) := by
  cases o with
  | none => exact h.elim
  | some zs => exact ⟨zs, rfl, h⟩
theorem m_addF (ha : PE X a (tE X.K E W fa)) (hb : PE X b (tE X.K E W fb)) :
    PE X (.BinOp a .Add b pos) (tF X.K E W fun s => (fa s).bind fun x s => (fb s).bind fun y s => freshC ((s.list x).bind fun xs => (s.list y).bind fun ys => catL xs ys) s) := by
  refine PE.imp (pe_op op_cat ha hb) fun σ H Q ⟨g, st, R, h⟩ => tE.seq R h fun v x g1 st1 H1 G R1 r h => tE.seq R1 h fun w y g2 st2 H2 G2 R2 r2 h => ?_
  obtain ⟨zs, ez, h⟩ := freshC_some h
  cases e1 : st2.list v with
  | none => rw [e1] at ez; cases ez
  | some xs =>
    rw [e1] at ez
    cases e2 : st2.list w with
    | none => rw [e2] at ez; cases ez
    | some ys =>
      rw [e2] at ez
      obtain ⟨hz, rfl⟩ := catL_some ez
      obtain ⟨pa, us, rfl, h1, ru⟩ := RepV.list R2 (r.up G2) e1
      obtain ⟨pb, ws, rfl, h2, rw'⟩ := RepV.list R2 r2 e2
      exact ⟨pa, pb, us, ws, rfl, rfl, h1, h2, by rw [← ru.length, ← rw'.length]; exact hz, fun p hp => tF_list (fun a q => none_back (G.trans G2) q) R2 h (ru.append rw') hp⟩
theorem m_mulF (ha : PE X a (tE X.K E W fa)) (hb : PE X b (tE X.K E W fb)) :
    PE X (.BinOp a .Mult b pos) (tF X.K E W fun s => (fa s).bind fun x s => (asI (fb s)).bind fun k s => freshC ((s.list x).bind fun xs => repL xs k) s) := by
  refine PE.imp (pe_op op_rep ha hb) fun σ H Q ⟨g, st, R, h⟩ => tE.seq R h fun v x g1 st1 H1 G R1 r h => asI.seq R1 h fun k g2 st2 H2 G2 R2 h => ?_
  obtain ⟨zs, ez, h⟩ := freshC_some h
  cases e1 : st2.list v with
  | none => rw [e1] at ez; cases ez
  | some xs =>
    rw [e1] at ez
    obtain ⟨hk1, hk2, hz, rfl⟩ := repL_some ez
    obtain ⟨pa, us, rfl, h1, ru⟩ := RepV.list R2 (r.up G2) e1
    exact ⟨pa, k, us, rfl, rfl, h1, hk1, hk2, by rw [← ru.length]; exact hz, fun p hp => tF_list (fun a q => none_back (G.trans G2) q) R2 h (ru.rep _) hp⟩
/-- list(e), e a list or a tuple -/
theorem m_listF (hg : Gl X "list") (hm : X.mg "list" = none) (ha : PE X a (tE X.K E W fa)) (hs : starEach [a] X.env = (false, eval a X.env) :: starEach [] X.env) :
    PE X (.Call (.Name "list" p) [a] [] pos) (tF X.K E W fun s => (fa s).bind fun x s => (mkWalk s x).bind fun w s => .ok (.lst w.items) s) := by
  refine PE.imp (pe_callTy call_list_of hg hm (by decide +kernel) (m_as1 ha m_as0 hs) (he := hs)) fun σ H Q ⟨g, st, R, h⟩ => ?_
  have h : Out X.K E W g st σ H (NewQ X.K H Q) ((fa st).bind fun x s => (mkWalk s x).bind fun w s => .ok (.lst w.items) s) := h
  refine ⟨g, st, R, ?_⟩
  have key : Out X.K E W g st σ H (fun v g' st' H' => ∀ x, RepV X.K g' st' σ v x → ∃ p ys, x = .ref p ∧ (SqL X.K H' p ys ∨ SqT X.K H' p ys) ∧ ∀ l, H' l = none → Q (.ref l) (upd H' l (.lst ys))) (fa st) := by
    refine h.bind.imp fun v g1 st1 H1 ⟨G, R1, h⟩ x r => ?_
    unfold mkWalk at h
    split at h
    · exact h.elim
    · cases e : st1.seq v with
      | none => rw [e] at h; exact h.elim
      | some xs =>
        rw [e] at h
        obtain ⟨q, ys, rfl, hq, ry⟩ := RepV.seq R1 r e
        exact ⟨q, ys, rfl, hq, fun l hl => tF_list (fun a q => none_back G q) R1 h ry hl⟩
  show Out X.K E W g st σ H _ ((fa st).bind fun v s => (Rs.ok [] s).bind fun vs s => .ok (v :: vs) s)
  cases ef : fa st with
  | bad => rw [ef] at key; exact key.elim
  | err er s1 => rw [ef] at key; exact key
  | ok v s1 =>
    rw [ef] at key
    intro g' H' G' R' xs rv
    obtain ⟨x, rfl, rx⟩ := repVs1 rv
    obtain ⟨p, ys, rfl, hq, q⟩ := key g' H' G' R' x rx
    exact ⟨p, ys, rfl, hq, q⟩
/-- a op1 b op2 c -/
theorem m_cmp2 {op1 op2 : Cop} (hu : X.A.units + 65 < cLine) (ha : PE X a (tE X.K E W fa)) (hb : PE X b (tE X.K E W fb)) (hc : PE X c (tE X.K E W fc)) (hm : lastMarks [cmpOf op1, cmpOf op2] [b, c] = false) :
    PE X (.Compare a [cmpOf op1, cmpOf op2] [b, c] pos) (tE X.K E W fun s => (fa s).bind fun x s => (fb s).bind fun y s => (Rs.of (cmpV s op1 x y) s).bind fun k s =>
      if k then (fc s).bind fun z s => (Rs.of (cmpV s op2 y z) s).bind fun k s => .ok (.bl k) s else .ok (.bl false) s) := by
  refine PE.imp (pe_chain (op_cmpV hu) (op_cmpV hu) ha hb hc hm) fun σ H Q ⟨g, st, R, h⟩ => tE.seq R h fun v x g1 st1 H1 G R1 r h => tE.seq R1 h fun w y g2 st2 H2 G2 R2 r2 h => ?_
  refine cmp_seq R2 (r.up G2) r2 h.bind fun k ⟨_, _, h⟩ => ⟨k, rfl, ?_⟩
  cases k with
  | false => exact Out.valB R2 h
  | true =>
    rw [if_pos rfl]
    refine tE.seq R2 h fun z zz g3 st3 H3 G3 R3 r3 h => ?_
    exact cmp_seq R3 (r2.up G3) r3 h.bind fun c ⟨_, _, o⟩ => Out.valB R3 o
theorem kitAny_tys {K : PySem.W.Frag} {y : SV} (hy : isiOk y = true) : ∀ {ts : List Ty}, (∀ t ∈ ts, Ty.plain t = true) → PySem.W.kitAny K (.type (tyS y)) (ts.map fun t => .type (tyC t)) = some (ts.any fun t => isTy t y)
  | [], _ => rfl
  | t :: ts, h => by
    have h1 : PySem.W.kitOne K (.type (tyS y)) (.type (tyC t)) = some (isTy t y) := kit_ty (kit_sv hy (h t List.mem_cons_self))
    have ih := kitAny_tys (K := K) hy fun t' ht => h t' (List.mem_cons_of_mem _ ht)
    rw [List.map_cons, List.any_cons]
    unfold PySem.W.kitAny
    rw [h1]
    cases isTy t y with
    | true => rfl
    | false => exact ih
/-- isinstance(x, (A, B)) -/
theorem m_isi2 {t1 t2 : Ty} {c1 c2 : Str} {q1 q2 q3 : Pos} {k : Nat} (ht1 : Ty.plain t1 = true) (ht2 : Ty.plain t2 = true) (hg : Gl X "isinstance") (hm : X.mg "isinstance" = none)
    (hg1 : Gl X c1) (hm1 : X.mg c1 = none) (hv1 : bootBuiltins c1 = some (.type (tyC t1))) (hn1 : c1 ≠ "__name__") (hd1 : (c1 == ("__debug__" : Str)) = false)
    (hg2 : Gl X c2) (hm2 : X.mg c2 = none) (hv2 : bootBuiltins c2 = some (.type (tyC t2))) (hn2 : c2 ≠ "__name__") (hd2 : (c2 == ("__debug__" : Str)) = false)
    (ha : PE X e (tE X.K E W fa)) (he : starEach [e, .Tuple [.Name c1 q1, .Name c2 q2] k q3] X.env = (false, eval e X.env) :: starEach [.Tuple [.Name c1 q1, .Name c2 q2] k q3] X.env) :
    PE X (.Call (.Name "isinstance" p) [e, .Tuple [.Name c1 q1, .Name c2 q2] k q3] [] pos) (tE X.K E W fun s => (fa s).bind fun x s => (Rs.of (s.flat x) s).bind fun y s => if isiOk y then .ok (.bl ([t1, t2].any fun t => isTy t y)) s else .bad) := by
  refine PE.imp (pe_callB call_isiT hg hm boot_isinstance (pa_cons ha (pa_cons (pe_tup (pa_cons (pe_bltn (v := .ty (tyC t1)) hg1 hm1 hv1 rfl hn1 hd1) (pa_cons (pe_bltn (v := .ty (tyC t2)) hg2 hm2 hv2 rfl hn2 hd2) pa_nil rfl) rfl)) pa_nil rfl) he) (by decide) (by decide) he rfl) fun σ H Q ⟨g, st, R, h⟩ => tE.seq R h fun v x g1 st1 H1 G R1 r h => ?_
  obtain ⟨y, hy, o⟩ := Out.of_some (Q := fun y g' st' H' => Out X.K E W g1 st1 σ H1 _ _) R1 (Out.bind0 h |>.imp fun _ _ _ _ h => h.2.2)
  split at o
  · rename_i hk
    refine ⟨by show 2 ≤ sizeLine; decide, fun tp hp => ?_⟩
    obtain ⟨R2, G2, _, _⟩ := R1.lay (o := .tup [.ty (tyC t1), .ty (tyC t2)]) hp
    refine ⟨x, tp, [.ty (tyC t1), .ty (tyC t2)], .type (tyS y), [t1, t2].map fun t => .type (tyC t), _, rfl, upd_same, .cons (.ty _) (.cons (.ty _) .nil), RepV.ty R2 (r.up G2) hy hk,
      kitAny_tys hk (fun t ht => by rcases List.mem_cons.mp ht with rfl | ht; exact ht1; rcases List.mem_cons.mp ht with rfl | ht; exact ht2; cases ht), ?_⟩
    exact o g1 _ G2 R2 _ rfl
  · exact o.elim
/-- { } -/
theorem m_dct0 : PE X (.Dict [] [] pos) (tF X.K E W fun s => .ok (.dct [] []) s) := by
  refine PE.imp pe_dnewK fun σ H Q ⟨g, st, R, h⟩ => fun p hp => ?_
  exact tF_lay (fun _ e => e) R h (.inl ⟨[], rfl, rfl, rfl⟩) hp
end
end Mq

namespace Mq
open PySem PySem.Spec PyProof.Rows L2 Mp
section
variable {α : Type} {le : α → α → Bool}
def isIns (le : α → α → Bool) (x : α) : List α → List α
  | [] => [x]
  | y :: ys => if le x y then x :: y :: ys else y :: isIns le x ys
def isort (le : α → α → Bool) : List α → List α
  | [] => []
  | x :: xs => isIns le x (isort le xs)
theorem isIns_mem {x z : α} : ∀ {ys : List α}, z ∈ isIns le x ys ↔ z = x ∨ z ∈ ys
  | [] => by simp [isIns]
  | y :: ys => by
    unfold isIns
    split
    · simp
    · simp only [List.mem_cons, isIns_mem (ys := ys)]
      exact ⟨fun h => by rcases h with h | h | h <;> simp [h], fun h => by rcases h with h | h | h <;> simp [h]⟩
theorem isort_mem {z : α} : ∀ {ys : List α}, z ∈ isort le ys ↔ z ∈ ys
  | [] => by simp [isort]
  | y :: ys => by unfold isort; rw [isIns_mem, isort_mem, List.mem_cons]
theorem isIns_pair (T : PySem.W.TotalLe le) {x : α} : ∀ {ys : List α}, ys.Pairwise (fun a b => le a b = true) → (isIns le x ys).Pairwise (fun a b => le a b = true)
  | [], _ => by simp [isIns]
  | y :: ys, h => by
    have h2 := List.pairwise_cons.mp h
    unfold isIns
    split
    · rename_i hxy
      refine List.pairwise_cons.mpr ⟨fun z hz => ?_, h⟩
      rcases List.mem_cons.mp hz with rfl | hz
      · exact hxy
      · exact T.trans _ _ _ hxy (h2.1 z hz)
    · rename_i hxy
      refine List.pairwise_cons.mpr ⟨fun z hz => ?_, isIns_pair T h2.2⟩
      rcases isIns_mem.mp hz with rfl | hz
      · rcases T.total z y with q | q
        · exact absurd q hxy
        · exact q
      · exact h2.1 z hz
theorem isort_pair (T : PySem.W.TotalLe le) : ∀ ys : List α, (isort le ys).Pairwise (fun a b => le a b = true)
  | [] => List.Pairwise.nil
  | y :: ys => isIns_pair T (isort_pair T ys)
theorem isIns_filter (T : PySem.W.TotalLe le) (c x : α) : ∀ ys : List α, (isIns le x ys).filter (PySem.W.sameRank le c) = (x :: ys).filter (PySem.W.sameRank le c)
  | [] => rfl
  | y :: ys => by
    unfold isIns
    split
    · rfl
    · rename_i hxy
      have ih := isIns_filter T c x ys
      by_cases hx : PySem.W.sameRank le c x = true
      · by_cases hy : PySem.W.sameRank le c y = true
        · exfalso
          unfold PySem.W.sameRank at hx hy
          simp only [Bool.and_eq_true] at hx hy
          exact hxy (T.trans _ _ _ hx.2 hy.1)
        · rw [List.filter_cons_of_neg hy, ih, List.filter_cons_of_pos hx, List.filter_cons_of_pos hx, List.filter_cons_of_neg hy]
      · rw [List.filter_cons_of_neg hx]
        by_cases hy : PySem.W.sameRank le c y = true
        · rw [List.filter_cons_of_pos hy, ih, List.filter_cons_of_neg hx, List.filter_cons_of_pos hy]
        · rw [List.filter_cons_of_neg hy, ih, List.filter_cons_of_neg hx, List.filter_cons_of_neg hy]
theorem isort_filter (T : PySem.W.TotalLe le) (c : α) : ∀ ys : List α, (isort le ys).filter (PySem.W.sameRank le c) = ys.filter (PySem.W.sameRank le c)
  | [] => rfl
  | y :: ys => by
    unfold isort
    rw [isIns_filter T]
    by_cases hy : PySem.W.sameRank le c y = true
    · rw [List.filter_cons_of_pos hy, List.filter_cons_of_pos hy, isort_filter T c ys]
    · rw [List.filter_cons_of_neg hy, List.filter_cons_of_neg hy, isort_filter T c ys]
theorem isort_eq (T : PySem.W.TotalLe le) (ys : List α) : isort le ys = ys.mergeSort le := PySem.W.sort_unique T (isort_pair T ys) (isort_filter T · ys)
theorem insBy_eq {k : SV → SV} {le : SV → SV → Bool} {x : SV} : ∀ {ys : List SV}, (∀ y ∈ ys, le x y = !(k y).lt (k x)) → insBy k x ys = isIns le x ys
  | [], _ => rfl
  | y :: ys, h => by
    unfold insBy isIns
    rw [h y List.mem_cons_self]
    cases (k y).lt (k x) with
    | true => simp only [if_true, Bool.not_true, Bool.false_eq_true, if_false]; rw [insBy_eq fun z hz => h z (List.mem_cons_of_mem _ hz)]
    | false => simp
theorem sortBy_eq {k : SV → SV} {le : SV → SV → Bool} : ∀ {ys : List SV}, (∀ x ∈ ys, ∀ y ∈ ys, le x y = !(k y).lt (k x)) → sortBy k ys = isort le ys
  | [], _ => rfl
  | y :: ys, h => by
    unfold sortBy isort
    rw [sortBy_eq fun x hx z hz => h x (List.mem_cons_of_mem _ hx) z (List.mem_cons_of_mem _ hz)]
    exact insBy_eq fun z hz => h y List.mem_cons_self z (List.mem_cons_of_mem _ (isort_mem.mp hz))
theorem sortBy_merge {xs : List SV} (hS : allAlk xs = true) : sortBy (fun x => x) xs = xs.mergeSort (PySem.W.dataLe false toPD) := by
  have hp := allAlk_plains hS
  rw [sortBy_eq (le := PySem.W.dataLe false toPD) fun x hx y hy => ?_]
  · exact isort_eq (PySem.W.sortLe_total (PyProof.Rows.listOrd PyProof.Rows.itemOrd) false _) xs
  · have h1 := plains_mem hp.1
    show (!PySem.W.dataLt (toPD y) (toPD x)) = _
    rw [pd_lt y x 50 50 (h1 y hy) (h1 x hx) (hp.2 y hy x hx)]
end

theorem sortable_of {xs : List SV} (h : (xs.all SV.isTup1 || xs.all SV.notTup) = true) : PySem.W.Sortable (xs.map toPD) := by
  rcases Bool.or_eq_true_iff.mp h with h | h
  · refine .inl fun d hd => ?_
    obtain ⟨x, hx, rfl⟩ := List.mem_map.mp hd
    have := List.all_eq_true.mp h x hx
    cases x <;> first | (simp [SV.isTup1] at this; done) | skip
    rename_i ys
    cases ys with
    | nil => simp [SV.isTup1] at this
    | cons y ys => exact ⟨_, _, rfl⟩
  · refine .inr fun d hd => ?_
    obtain ⟨x, hx, rfl⟩ := List.mem_map.mp hd
    have := List.all_eq_true.mp h x hx
    cases x <;> first | (cases this; done) | exact ⟨fun e => (by cases e), fun xs e => (by cases e)⟩
theorem map_toPD : ∀ xs : List SV, xs.map toPD = toPDs xs
  | [] => rfl
  | x :: xs => by rw [List.map_cons, map_toPD xs]; rfl
/-- values that stand for items -/
theorem each_of {F : Hp} {K : PySem.W.Frag} {c : Nat → Addr} {len : Nat} : ∀ {xs : List SV} {vs : List V} {us : List Value}, RepL K F c len xs vs → Vals vs us → PySem.W.EachIs (fun u x => ∃ v, RelV v u ∧ Rep K F c len x v) us xs
  | [], _, _, r, v => by rw [show _ = [] from r] at v; cases v; exact .nil
  | x :: xs, _, _, ⟨y, ys, e, r1, r2⟩, v => by
    subst e
    cases v with
    | cons h t => exact .cons ⟨y, h, r1⟩ (each_of r2 t)
theorem of_each {F : Hp} {K : PySem.W.Frag} {c : Nat → Addr} {len : Nat} : ∀ {xs : List SV} {us : List Value}, PySem.W.EachIs (fun u x => ∃ v, RelV v u ∧ Rep K F c len x v) us xs → ∃ vs, RepL K F c len xs vs ∧ Vals vs us
  | [], _, h => by cases h; exact ⟨[], rfl, .nil⟩
  | x :: xs, _, h => by
    cases h with
    | cons h t =>
      obtain ⟨v, h1, h2⟩ := h
      obtain ⟨vs, h3, h4⟩ := of_each t
      exact ⟨v :: vs, ⟨v, vs, rfl, h2, h3⟩, .cons h1 h4⟩
theorem each_reads {h : Heap} : ∀ {xs : List SV} {us : List Value} {as : List Addr}, ReadsAll h us (toPDs xs) as → PySem.W.EachIs (fun v b => ∃ as, Reads h v (toPD b) as) us xs
  | [], _, _, r => by cases r; exact .nil
  | x :: xs, _, _, r => by
    cases r with
    | cons h1 h2 => exact .cons ⟨_, h1⟩ (each_reads h2)
theorem plain_units {x : SV} {A : Around} (hu : A.units + 65 < cLine) (h : x.plainN 50 = true) : A.units + 2 + (toPD x).depth < cLine := by
  have := (pd_lay x 50 h).2
  omega
section
variable {X : Cx} {E : ErT} {W : WX} {a : Expr} {pos p : Pos} {fa : Sta → Rs SV}
def rSrt (K : PySem.W.Frag) : List V → Hp → VK → Prop := fun xs H Q => ∃ g st σ v ys x, xs = [x] ∧ Rel K g st σ H ∧ RepV K g st σ v x ∧ st.list v = some ys ∧ ∃ zs, sortT ys = some zs ∧
  ∀ vs p, RepL K g.F g.c st.heap.length zs vs → H p = none → Q (.ref p) (upd H p (.lst vs))
theorem cr_srt (hu : X.A.units + 65 < cLine) : CallR X (.builtin "sorted") (rSrt X.K) := by
  intro pins s σ' H xs us Q I r h
  obtain ⟨g, st, σ, v, ys, x, rfl, R, rv, hl, zs, hz, q⟩ := h
  obtain ⟨u, rfl, rx⟩ := vals1 r
  obtain ⟨pa, vs, rfl, hH, rl⟩ := RepV.list R rv hl
  cases rx
  unfold sortT at hz
  split at hz
  · rename_i hc
    simp only [Bool.and_eq_true] at hc
    obtain ⟨⟨hS, hk⟩, hsm⟩ := hc
    cases hz
    have hp := allAlk_plains hS
    obtain ⟨its, r', pl, hz⟩ := I.list (SqL.of hH)
    obtain ⟨as, hr⟩ := Dp.readsAll I _ _ its (RepL.dp R.sub ys vs 50 rl hp.1) r'
    have er : PySem.W.EachIs (fun v b => ∃ as, Reads s.heap v (toPD b) as) its ys := each_reads hr
    refine PySem.W.sorted_data (enc := toPD) (R := fun u x => ∃ v, RelV v u ∧ Rep X.K g.F g.c st.heap.length x v) pl.isList (each_of rl r') er (by rw [map_toPD]; exact allAlk_pd hS) (sortable_of hk) (small_le hsm) (fun b hb => plain_units hu (plains_mem hp.1 b hb)) fun out hlo he => ?_
    rw [← sortBy_merge hS] at he
    obtain ⟨ws, h1, h2⟩ := of_each he
    have hp' : H (s.heap.objs.size + 1) = none := I.hok.fresh (Nat.le_succ _)
    obtain ⟨e, hat⟩ := sortedAll_at s.heap its out.toArray
    have hlw : ws.length ≤ sizeLine := by rw [h2.length, hlo]; exact small_le hsm
    exact ⟨.ref (s.heap.objs.size + 1), _, I.laid (t' := s.toks) (h' := sortedAll s.heap its out.toArray) (fun b o q => sortedAll_old q) (Nat.le_succ _) (show ObjOk X.prog X.w _ _ _ (.lst ws) from ⟨hlw, out, e, h2, hat⟩), rfl, q ws _ h1 hp'⟩
  · cases hz
end
end Mq

namespace Mq
open PySem PySem.Spec PyProof.Rows L2 Mp
theorem rng3L_get (a : Int) : ∀ (n i : Nat), (rng3L a (-1) n)[i]? = if i < n then some (.int (a + (i : Nat) * (-1))) else none
  | 0, i => by simp [rng3L]
  | n + 1, 0 => by simp [rng3L]
  | n + 1, i + 1 => by
    have := rng3L_get (a + (-1)) n i
    simp only [rng3L, List.getElem?_cons_succ, this]
    by_cases h : i < n
    · rw [if_pos h, if_pos (by omega)]
      congr 2
      omega
    · rw [if_neg h, if_neg (by omega)]
theorem rng3L_len (a c : Int) : ∀ n : Nat, (rng3L a c n).length = n
  | 0 => rfl
  | n + 1 => by simp [rng3L, rng3L_len (a + c) c n]
section
variable {K : PySem.W.Frag} {g : Gh} {len : Nat} {H : Hp} {A : List Addr}
theorem good_rng3 {a : Int} {n : Nat} : GoodIt K g len H A (rng3L a (-1) n) (Itc a (-1) n) := by
  refine ⟨fun i H' hi _ => by rw [rng3L_len] at hi; exact hi, fun H' _ => by rw [rng3L_len]; exact Nat.le_refl _, fun i x H1 H2 v hv h hy g1 st1 σ1 R hF hc hn => ?_⟩
  obtain ⟨rfl, rfl⟩ := hy
  rw [rng3L_get] at hv
  split at hv
  · cases hv; exact ⟨g1, R, Grow.refl _ _ _, rfl⟩
  · cases hv
end
theorem rgC_down {i j : Int} (hi : rngOk i = true) (hj : rngOk j = true) : RgC i j (-1) (i - j).toNat :=
  RgC.neg (rng_ok hi).1 (rng_ok hi).2 (rng_ok hj).1 (rng_ok hj).2
section
variable {X : Cx} {E : ErT} {W : WX} {tg a b c e : Expr} {fa fb fc : Sta → Rs SV} {p pos : Pos}
theorem w_rng3 (hg : Gl X "range") (hm : X.mg "range" = none) (ha : PE X a (tE X.K E W fa)) (hb : PE X b (tE X.K E W fb)) (hc : PE X c (tE X.K E W fc)) (hs : starEach [a, b, c] X.env = (false, eval a X.env) :: starEach [b, c] X.env)
    (hs2 : starEach [b, c] X.env = (false, eval b X.env) :: starEach [c] X.env) (hs3 : starEach [c] X.env = (false, eval c X.env) :: starEach [] X.env) (hpl : (backTo pos (starEach [b, c] X.env)).any (·.1) = false) :
    PI X tg (.Call (.Name "range" p) [a, b, c] [] pos) (tW X.K E W fun s => (asI (fa s)).bind fun i s => (asI (fb s)).bind fun j s => (asI (fc s)).bind fun c s => if rngOk i && rngOk j && decide (c = -1) then .ok ⟨rng3L i c (i - j).toNat, none⟩ s else .bad) := by
  refine PI.imp (pi_range3 hg hm (pa_cons ha (pa_cons hb (pa_cons hc pa_nil hs3) hs2) hs) hs hpl) fun σ H R ⟨g, st, R0, h⟩ => asI.seq R0 h fun i g1 st1 H1 G R1 h => asI.seq R1 h fun j g2 st2 H2 G2 R2 h => asI.seq R2 h fun k g3 st3 H3 G3 R3 h => ?_
  split at h
  · rename_i hj
    simp only [Bool.and_eq_true, decide_eq_true_eq] at hj
    obtain ⟨⟨h1, h2⟩, rfl⟩ := hj
    exact ⟨i, j, -1, _, rfl, rgC_down h1 h2, Out.now R3 h _ [] (by simp) good_rng3⟩
  · exact h.elim
end
theorem indexOf_at (x : SV) : ∀ (ys : List SV) (k n : Nat), indexOf x ys k = some n → ∃ (j : Nat) (y : SV), n = k + j ∧ ys[j]? = some y ∧ y.eqv x = true ∧ ∀ (m : Nat) (z : SV), m < j → ys[m]? = some z → z.eqv x = false
  | [], k, n, h => by cases h
  | y :: ys, k, n, h => by
    unfold indexOf at h
    split at h
    · rename_i e
      cases h
      exact ⟨0, y, rfl, rfl, e, fun m z hm => absurd hm (Nat.not_lt_zero _)⟩
    · rename_i e
      obtain ⟨j, w, h1, h2, h3, h4⟩ := indexOf_at x ys (k + 1) n h
      refine ⟨j + 1, w, by omega, by simpa using h2, h3, fun m z hm hz => ?_⟩
      cases m with
      | zero => simp at hz; subst hz; simpa using e
      | succ m => exact h4 m z (by omega) (by simpa using hz)
theorem toPDs_at : ∀ (ys : List SV) (j : Nat), (toPDs ys)[j]? = ys[j]?.map toPD
  | [], j => by simp [toPDs]
  | y :: ys, 0 => by simp [toPDs]
  | y :: ys, j + 1 => by simp [toPDs, toPDs_at ys j]
theorem repV_dp {K : PySem.W.Frag} {g : Gh} {st : Sta} {σ : L2.St} {H : Hp} {v : SV} {x : V} (R : Rel K g st σ H) (r : RepV K g st σ v x) (p : v.plain = true) : Dp K H x (toPD v) := by
  cases v with
  | view i => simp [SV.plain, SV.plainN] at p
  | _ => exact Rep.dp (c := g.c) (len := st.heap.length) R.sub _ _ 50 r p
theorem plains_at {ys : List SV} (h : SV.plains ys = true) {m : Nat} {z : SV} (hz : ys[m]? = some z) : z.plain = true := plains_mem h z (List.mem_of_getElem? hz)
section
variable {X : Cx} {E : ErT} {W : WX} {a b c e : Expr} {fa fb fc : Sta → Rs SV} {fs : Sta → Rs (List SV)} {p pos : Pos}
theorem Rs.bind_bind {α β γ : Type} (x : Rs α) (f : α → Sta → Rs β) (k : β → Sta → Rs γ) : (x.bind f).bind k = x.bind fun a s => (f a s).bind k := by cases x <;> rfl
end
theorem scal_key {k : SV} (h : k.scal = true) : ∃ kk, keyOf k = some kk := by
  cases k <;> first | (cases h; done) | exact ⟨_, rfl⟩
theorem kV_of {K : PySem.W.Frag} {F : Hp} {c : Nat → Addr} {len : Nat} {k : SV} {y : V} {kk : Key} (r : Rep K F c len k y) (e : keyOf k = some kk) : y = kV kk := by
  cases k <;> first | (cases e; done) | skip
  · cases e; exact r
  · cases e; exact r
theorem pairs_rep {K : PySem.W.Frag} {F H : Hp} {c : Nat → Addr} {len : Nat} (hs : ∀ a o, F a = some o → H a = some o) : ∀ {xs : List SV} {vs : List V} {ks ws ks' ws' : List SV} {kvs0 : List (Key × V)}, RepL K F c len xs vs → pairsD xs ks ws = some (ks', ws') →
    ks.map keyOf = kvs0.map (fun p => some p.1) → RepL K F c len ws (kvs0.map (·.2)) →
    ∃ (ps : List Addr) (kvs : List (Key × V)), vs = ps.map V.ref ∧ Paired (fun p kv => SqT K H p [kV kv.1, kv.2]) ps kvs ∧ ks'.map keyOf = (mergeK kvs0 kvs).map (fun p => some p.1) ∧ RepL K F c len ws' ((mergeK kvs0 kvs).map (·.2))
  | [], _, ks, ws, ks', ws', kvs0, r, e, h1, h2 => by
    cases e
    exact ⟨[], [], r, .nil, h1, h2⟩
  | x :: xs, _, ks, ws, ks', ws', kvs0, ⟨y, ys, e1, r1, r2⟩, e, h1, h2 => by
    subst e1
    unfold pairsD at e
    split at e
    · rename_i q; cases q
    · rename_i k v r0 _ _ q
      cases q
      split at e
      · rename_i hk
        simp only [Bool.and_eq_true] at hk
        obtain ⟨⟨hsc, hkk⟩, _⟩ := hk
        obtain ⟨kk, ek⟩ := scal_key hsc
        obtain ⟨p, ob, us, rfl, hp, _, y1, ys1, eu, rk, y2, ys2, eu2, rv, eu3⟩ := r1
        obtain rfl := eu3
        subst eu2
        subst eu
        obtain ⟨g1, g2⟩ := put_rep (kf := keyOf) (F := F) (fun {a b ka kb} h1 h2 => key_inj h1 h2) ek rv h1 h2
        obtain ⟨ps, kvs, rfl, hp2, h3, h4⟩ := pairs_rep hs r2 e g1 g2
        exact ⟨p :: ps, (kk, y2) :: kvs, rfl, .cons (by have := kV_of rk ek; subst this; exact SqT.frz (hs _ _ hp)) hp2, h3, h4⟩
      · cases e
    · cases e
section
variable {X : Cx} {E : ErT} {W : WX} {a b c e : Expr} {fa fb fc : Sta → Rs SV} {p pos : Pos}
theorem m_dict (hc : X.calm = true) (hg : Gl X "dict") (hm : X.mg "dict" = none) (ha : PE X a (tE X.K E W fa)) (hs : starEach [a] X.env = (false, eval a X.env) :: starEach [] X.env) :
    PE X (.Call (.Name "dict" p) [a] [] pos) (tF X.K E W fun s => (fa s).bind fun x s => match (s.list x).bind fun xs => pairsD xs [] [] with
    | some (ks, vs) => .ok (.dct ks vs) s
    | none => .bad) := by
  refine PE.imp (pe_callTy (call_dictP hc) hg hm (by decide +kernel) (m_as1 ha m_as0 hs) (he := hs)) fun σ H Q ⟨g, st, R, h⟩ => ?_
  have h : Out X.K E W g st σ H (NewQ X.K H Q) ((fa st).bind fun x s => match (s.list x).bind fun xs => pairsD xs [] [] with
    | some (ks, vs) => .ok (.dct ks vs) s
    | none => .bad) := h
  refine ⟨g, st, R, ?_⟩
  have key : Out X.K E W g st σ H (fun v g' st' H' => ∀ x, RepV X.K g' st' σ v x → ∃ (a : Addr) (ps : List Addr) (kvs : List (Key × V)), x = .ref a ∧ SqL X.K H' a (ps.map V.ref) ∧ Paired (fun p kv => SqT X.K H' p [kV kv.1, kv.2]) ps kvs ∧
      ∀ p, H' p = none → Q (.ref p) (upd H' p (.dK (mergeK [] kvs)))) (fa st) := by
    refine h.bind.imp fun v g1 st1 H1 ⟨G, R1, h⟩ x r => ?_
    cases e : st1.list v with
    | none => rw [e] at h; exact h.elim
    | some xs =>
      rw [e] at h
      simp only [Option.bind_some] at h
      cases ep : pairsD xs [] [] with
      | none => rw [ep] at h; exact h.elim
      | some q =>
        obtain ⟨ks, vs⟩ := q
        rw [ep] at h
        obtain ⟨ad, us, rfl, hH, rl⟩ := RepV.list R1 r e
        obtain ⟨ps, kvs, rfl, hp, h1, h2⟩ := pairs_rep (kvs0 := []) R1.sub rl ep rfl rfl
        exact ⟨ad, ps, kvs, rfl, SqL.of hH, hp, fun l hl => tF_lay (fun a q => none_back G q) R1 h (.inl ⟨_, rfl, h1, h2⟩) hl⟩
  show Out X.K E W g st σ H _ ((fa st).bind fun v s => (Rs.ok [] s).bind fun vs s => .ok (v :: vs) s)
  cases ef : fa st with
  | bad => rw [ef] at key; exact key.elim
  | err er s1 => rw [ef] at key; exact key
  | ok v s1 =>
    rw [ef] at key
    intro g' H' G' R' xs rv
    obtain ⟨x, rfl, rx⟩ := repVs1 rv
    obtain ⟨ad, ps, kvs, rfl, q⟩ := key g' H' G' R' x rx
    exact ⟨ad, ps, kvs, rfl, q⟩
end
end Mq

namespace Mq
open PySem PySem.Spec PyProof.Rows L2 Mp
open PySem.Calls
section
variable {prog : Program} {w : World} {A : Around} {E : Value → Shared → Prop} {s : Shared} {r : Addr} {Q : Bool → Shared → Prop}
theorem hint_set (hT : s.TypeIs (.ref r) "set") (h : Q false s) : wpAny (model prog w) A (Builtin.List.listLengthHint (.ref r)) Q E s := by
  unfold Builtin.List.listLengthHint
  refine wpAny_bind (wpAny_specialOf hT PySem.F.slot_set_len.lookup ?_)
  generalize hid : ("set.__len__" : String) = id0
  wp_delta
  rw [show splitId id0 = some ("set", "__len__") from by subst hid; decide +kernel]
  subst hid
  refine wpAny_bind (wpAny_isInstance (T := "set") (b := true) hT (by rw [isSubtype_type]; kernel_rfl) ?_)
  refine wpAny_ite_split (fun hab => absurd hab (by decide)) (fun _ => ?_)
  refine wpAny_ite_split (fun _ => ?_) (fun hab => absurd (by decide +kernel) hab)
  refine wpAny_bind (wpAny_typeOf hT ?_)
  exact wpAny_pure h
end
section
variable {P : Program} {w : World} {A : Around} {E : Value → Shared → Prop} {s : Shared} {a : Addr} {es : Array (Int × Value)} {ep : Nat} {t : SetTable}
theorem set_extend {R : Result → Shared → Prop} (hh : A.handled = none) (ha : SetAt s.heap a es ep t) (hf : t.fits es.size = true) (hsz : es.size < scanBound) (hr : Ris t.place.toList) (hl : w.params.followText "set-order" = true ∨ t.led = true)
    (S : Addr) (hSa : S ≠ a) (res : Value) (c₀ : Nat) (hS : s.heap.get? S = some { cls := .type "list", data := .seq #[] c₀ })
    (hR : ∀ (s' : Shared) (out : List Value) c', s'.gens = s.gens → s'.os = s.os → (∀ b o, b ≠ S → s.heap.get? b = some o → s'.heap.get? b = some o) → s'.heap.get? S = some { cls := .type "list", dict := none, data := .seq out.toArray c', slots := #[] } → out.Perm (es.toList.map (·.2)) → R (.ok (.ret res)) s') :
    wpAny (model P w) A.in1 (Builtin.List.listExtendWith (.ref S) (.ref a) res)
      (fun fin s' => match fin with | .done f => R (.ok f) s' | .again c' => c'.quiet = true ∧ codeAny (model P w) A c' R s') (fun e s' => R (.error e) s') s := by
  have hTa : s.TypeIs (.ref a) "set" := let ⟨o, ho, hc, _⟩ := ha; ⟨o, ho, hc⟩
  have hlS : S < s.heap.objs.size := Heap.lt_size hS
  unfold Builtin.List.listExtendWith
  refine wpAny_bind (wpAny_typeOf (T := "set") hTa ?_)
  have h1 : Builtin.List.listSameRef (.ref S) (.ref a) = false := by simp [Builtin.List.listSameRef, hSa]
  have h2 : (Value.type "set" == Value.type "list") = false := by decide
  have h3 : (Value.type "set" == Value.type "tuple") = false := by decide
  simp only [h1, h2, h3, Bool.or_false, Bool.false_eq_true, if_false]
  refine wpAny_bind (iter_set2 ha hf hsz hr hl fun s₂ I hit => ?_)
  obtain ⟨fp, St, out, Pv, k2, g2, o2, tk2, hI, hfp, hperm, W, hP, si, ob, mem, st0⟩ := hit
  have hn : out.length ≤ sizeLine := by rw [hperm.length_eq, List.length_map, Array.length_toList]; exact fits_of_scanBound hsz
  have hSf : S ∉ fp := fun z => by
    rcases hfp S z with q | q
    · exact hSa q
    · exact Nat.lt_irrefl _ (Nat.lt_of_lt_of_le hlS q)
  have key : ∀ (h : Heap) (c₁ tk : Nat), St 0 h → (∀ b o, b ≠ S → s.heap.get? b = some o → h.get? b = some o) →
      h.get? S = some { cls := .type "list", data := .seq #[] c₁ } → codeAny (model P w) A (.builtin "list.extend.loop" ⟨[.ref S, .ref I, res], []⟩) R { s₂ with heap := h, toks := tk } := by
    intro h c₁ tk hst hk hS₁
    refine codeAny_extend_loopS (W A.in1 hh).toS hn S hSf res out.length 0 _ #[] c₁ rfl (Nat.zero_le _) hst hS₁ (ItemsOf.nil _) fun s' acc' c' hm hS' hacc => ?_
    rw [Moved.eq_with hm]
    have eo : acc' = out.toArray := by
      refine Array.ext (by rw [List.size_toArray]; exact hacc.1) fun i hi1 hi2 => ?_
      have q := hP i acc'[i] (hacc.2 i _ (Array.getElem?_eq_getElem hi1))
      have := (List.getElem?_eq_some_iff.mp q).2
      simpa using this.symm
    subst eo
    refine hR _ out c' g2 o2 (fun b o hb e => hm.heap b o (fun hmem => ?_) (hk b o hb e)) hS' hperm
    rcases List.mem_cons.mp hmem with e' | hmem
    · exact hb e'
    · have := Heap.lt_size e
      rw [List.mem_singleton.mp hmem] at this
      exact Nat.lt_irrefl _ (Nat.lt_of_lt_of_le this hI)
  have hS₁ : s₂.heap.get? S = some { cls := .type "list", data := .seq #[] c₀ } := k2 _ _ hS
  have hTa2 : s₂.TypeIs (.ref a) "set" := let ⟨o, ho, hc⟩ := hTa; ⟨o, k2 _ _ ho, hc⟩
  refine wpAny_bind (wpAny_holding (hint_set hTa2 ?_))
  refine wpAny_ite_split (fun _ => ?_) (fun _ => wpAny_pure ⟨plainId_quiet PySem.F.plain_extend_loop _, key _ c₀ _ st0 (fun b o _ e => k2 _ _ e) hS₁⟩)
  refine wpAny_bind (wpAny_rule ?_)
  refine wpAny_bind ?_
  show wpAny _ _ (updateSeq S (·.push .none) >>= fun _ => updateSeq S (·.pop)) _ _ _
  refine wpAny_bind (wpAny_updateSeq hS₁ rfl ?_)
  have hS₂ := Heap.get?_update_self (Obj.mapSeq (·.push Value.none)) hS₁ rfl
  refine wpAny_updateSeq (hz := by seq_fits) hS₂ rfl ?_
  have hS₃ := Heap.get?_update_self (Obj.mapSeq (·.pop)) hS₂ rfl
  refine wpAny_pure ⟨plainId_quiet PySem.F.plain_extend_loop _, key _ _ _ ?_ (fun b o hb e => ?_) hS₃⟩
  · refine (W A.in1 hh).frame 0 _ _ st0 fun b hb o e => ?_
    have hbS : b ≠ S := fun h => hSf (h ▸ hb)
    exact (Heap.get?_update_other _ _ (Ne.symm hbS)).trans ((Heap.get?_update_other _ _ (Ne.symm hbS)).trans e)
  · exact (Heap.get?_update_other _ _ (Ne.symm hb)).trans ((Heap.get?_update_other _ _ (Ne.symm hb)).trans (k2 _ _ e))
end
section
variable {P : Program} {w : World} {A : Around} {E : Value → Shared → Prop} {s : Shared} {a : Addr} {es : Array (Int × Value)} {ep : Nat} {t : SetTable}
theorem set_collect {R : List Value → Shared → Prop} (hh : A.handled = none) (ha : SetAt s.heap a es ep t) (hf : t.fits es.size = true) (hsz : es.size < scanBound) (hr : Ris t.place.toList) (hl : w.params.followText "set-order" = true ∨ t.led = true)
    (h : ∀ (s' : Shared) (out : List Value), s'.gens = s.gens → s'.os = s.os → (∀ b o, s.heap.get? b = some o → s'.heap.get? b = some o) → s.heap.objs.size ≤ s'.heap.objs.size → out.Perm (es.toList.map (·.2)) → R out s') :
    wpAny (model P w) A (collect (.ref a)) R E s := by
  have hlt : a < s.heap.objs.size := let ⟨o, ho, _⟩ := ha; Heap.lt_size ho
  unfold collect
  refine wpAny_bind (wpAny_runValue (codeAny_builtin entry_proto_collect' ?_))
  rw [Around.under_plainId PySem.F.plain_proto_collect _]
  show wpAny _ A.in1 (newList [] >>= fun l => again (.builtin "list.__iadd__" ⟨[l, .ref a], []⟩)) _ _ s
  refine wpAny_bind (wpAny_newObj_type ?_)
  refine wpAny_pure ⟨plainId_quiet PySem.F.plain_list_iadd _, codeAny_builtin entry_list_iadd' ?_⟩
  rw [Around.under_plainId PySem.F.plain_list_iadd _]
  have hS₁ : (s.heap.push { cls := .type "list", data := .seq ([] : List Value).toArray }).get? s.heap.objs.size = some { cls := .type "list", data := .seq #[] } := Heap.get?_push_size _ rfl
  show wpAny _ A.in1 (Builtin.List.listExtendWith (.ref s.heap.objs.size) (.ref a) (.ref s.heap.objs.size)) _ _ _
  have ha' : SetAt (s.heap.push { cls := .type "list", data := .seq ([] : List Value).toArray }) a es ep t := let ⟨o, ho, x⟩ := ha; ⟨o, Heap.get?_push_of_some _ ho, x⟩
  have key := set_extend (P := P) (w := w) (A := A) (s := { s with heap := s.heap.push { cls := .type "list", data := .seq ([] : List Value).toArray } })
    (R := fun (q : Result) (s' : Shared) => ∃ (out : List Value) (c' : Nat), q = .ok (.ret (.ref s.heap.objs.size)) ∧ s'.gens = s.gens ∧ s'.os = s.os ∧
      (∀ b o, s.heap.get? b = some o → s'.heap.get? b = some o) ∧ s'.heap.get? s.heap.objs.size = some { cls := .type "list", dict := none, data := .seq out.toArray c', slots := #[] } ∧ out.Perm (es.toList.map (·.2)))
    hh ha' hf hsz hr hl s.heap.objs.size (Nat.ne_of_gt hlt) (.ref s.heap.objs.size) 0 hS₁
    (fun s' out c' g o hk hS' hp => ⟨out, c', rfl, g, o, fun b o e => hk b o (Nat.ne_of_lt (Heap.lt_size e)) (Heap.get?_push_of_some _ e), hS', hp⟩)
  refine wpAny_mono key (fun fin s' x => ?_) fun e s' x => ?_
  · cases fin with
    | done f =>
      obtain ⟨out, c', e, g, o, hk, hS', hp⟩ := x
      cases e
      show wpAny _ A (load s.heap.objs.size >>= _) _ _ _
      refine wpAny_bind (wpAny_load hS' ?_)
      exact wpAny_pure (by simpa using h s' out g o hk (Nat.le_of_lt (Heap.lt_size hS')) hp)
    | again c₁ =>
      refine ⟨x.1, codeAny_mono x.2 fun q s₂ y => ?_⟩
      obtain ⟨out, c', rfl, g, o, hk, hS', hp⟩ := y
      show wpAny _ A (load s.heap.objs.size >>= _) _ _ _
      refine wpAny_bind (wpAny_load hS' ?_)
      exact wpAny_pure (by simpa using h s₂ out g o hk (Nat.le_of_lt (Heap.lt_size hS')) hp)
  · obtain ⟨_, _, e', _⟩ := x
    cases e'
theorem set_sorted {S : Int → Bool} {n : Nat} {Q : Value → Shared → Prop} (hh : A.handled = none) (hu : A.units + 2 < cLine) (hR : SetR w s.heap a S n)
    (h : ∀ (s' : Shared) (ns : List Int) (out : List Value) (D c : Nat), s'.gens = s.gens → s'.os = s.os → (∀ b o, s.heap.get? b = some o → s'.heap.get? b = some o) → s'.heap.get? D = some { cls := .type "list", dict := none, data := .seq out.toArray c, slots := #[] } → s.heap.objs.size ≤ D →
      ns.Nodup → (∀ k, k ∈ ns ↔ S k = true) → ns.length = n → PySem.W.EachIs (fun v k => ∃ t, v = Value.int k t) out (ns.mergeSort fun a b => decide (a ≤ b)) → Q (.ref D) s') :
    wpAny (model P w) A (call (.builtin "sorted") [.ref a]) Q E s := by
  obtain ⟨o, es, ep, t, ho, hex, hdt, g, nd, hm2, hb, hf, hn, hr, hl2⟩ := hR
  refine call_function_entry kind_sorted plain_sorted entry_sorted (args_sorted1 _) ?_
  unfold Builtin.«sorted»
  refine wpAny_bind (m := checkCount "sorted" 1 1 _) (wpAny_pure ?_)
  refine wpAny_bind (set_collect (A := A.in1) hh ⟨o, ho, hex.1, hdt⟩ hf hb hr hl2 fun s1 out g1 o1 k1 hsz1 hp => ?_)
  have hlen : out.length ≤ sizeLine := by rw [hp.length_eq, List.length_map, Array.length_toList]; exact fits_of_scanBound hb
  refine wpAny_bind (wpAny_newList ?_ hlen)
  have hv : ∀ v ∈ out, ∃ k t, v = Value.int k t := fun v hv => by
    obtain ⟨e, he, ev⟩ := List.mem_map.mp (hp.mem_iff.mp hv)
    obtain ⟨kk, tt, e2, _⟩ := g e he
    exact ⟨kk, tt, ev.symm.trans e2⟩
  have hpk : (out.map L2.vInt).Perm (es.toList.map L2.keyOf) := by
    have z := hp.map L2.vInt
    rw [List.map_map] at z
    have ee : es.toList.map (L2.vInt ∘ fun x => x.2) = es.toList.map L2.keyOf := List.map_congr_left fun e _ => (key_vInt e).symm
    rw [ee] at z
    exact z
  have each : ∀ (l : List Value), (∀ v ∈ l, ∃ k t, v = Value.int k t) → PySem.W.EachIs (fun v k => ∃ t, v = Value.int k t) l (l.map L2.vInt) := by
    intro l
    induction l with
    | nil => intro _; exact .nil
    | cons v l ih =>
      intro h
      obtain ⟨k, t, rfl⟩ := h v List.mem_cons_self
      exact .cons ⟨t, rfl⟩ (ih fun v hv => h v (List.mem_cons_of_mem _ hv))
  have e1 := each out hv
  have hD : (s1.heap.push { cls := .type "list", data := .seq out.toArray }).get? s1.heap.objs.size = some (seqObj "list" out.toArray 0) := Heap.get?_push_size _ rfl
  refine wpAny_bind (wpAny_holding (PySem.W.list_sort_data (s := { s1 with heap := s1.heap.push { cls := .type "list", data := .seq out.toArray } }) (bs := out.map L2.vInt) (enc := PyData.int) hD e1
    (e1.mono fun v k ⟨t, ev⟩ => ⟨[], ev ▸ .int k t, by simp⟩) (PySem.W.AllAlike.of fun b b' => rfl) (PySem.W.Sortable.others fun b => ⟨by simp, fun xs => by simp⟩) (by rw [List.length_map]; exact hlen) (fun b _ => by show A.units + 1 + 1 + 0 < cLine; omega) fun out' ho' he => ?_))
  obtain ⟨c, hc⟩ := sortedHeap_at (h := s1.heap.push { cls := .type "list", data := .seq out.toArray }) (a := s1.heap.objs.size) (vs := out) (n := 0) (out := out'.toArray) hD
  have hlt1 : ∀ b o, s.heap.get? b = some o → b < s1.heap.objs.size := fun b o q => Heap.lt_size (k1 b o q)
  have q1 : ∀ b o, s.heap.get? b = some o → (sortedHeap (s1.heap.push { cls := .type "list", data := .seq out.toArray }) s1.heap.objs.size out out'.toArray).get? b = some o := fun b o q =>
    (sortedHeap_old (Nat.ne_of_lt (hlt1 b o q)) (by rw [size_push']; exact Nat.lt_succ_of_lt (hlt1 b o q))).trans (Heap.get?_push_of_some _ (k1 b o q))
  have ed : PySem.W.dataLe false PyData.int = fun a b : Int => decide (a ≤ b) := PySem.W.dataLe_int (fun k : Int => k)
  rw [ed] at he
  have q3 := h { s1 with heap := sortedHeap (s1.heap.push { cls := .type "list", data := .seq out.toArray }) s1.heap.objs.size out out'.toArray } (out.map L2.vInt) out' s1.heap.objs.size c g1 o1 q1 hc hsz1 (hpk.nodup_iff.mpr nd) (fun k => by rw [hpk.mem_iff, hm2 k]) (by rw [List.length_map, hp.length_eq, List.length_map, Array.length_toList, hn]) he
  exact wpAny_pure ⟨_, rfl, q3⟩
end

theorem addI_mem {x k : Int} : ∀ {l : List Int}, k ∈ addI x l ↔ k = x ∨ k ∈ l
  | [] => by simp [addI]
  | y :: ys => by
    unfold addI
    split
    · simp
    · split
      · rename_i e; subst e; simp
      · rw [List.mem_cons, addI_mem, List.mem_cons]
        constructor
        · rintro (h | h | h)
          · exact .inr (.inl h)
          · exact .inl h
          · exact .inr (.inr h)
        · rintro (h | h | h)
          · exact .inr (.inl h)
          · exact .inl h
          · exact .inr (.inr h)
theorem addI_up {x : Int} : ∀ {l : List Int}, l.Pairwise (· < ·) → (addI x l).Pairwise (· < ·)
  | [], _ => by simp [addI]
  | y :: ys, h => by
    obtain ⟨h1, h2⟩ := List.pairwise_cons.mp h
    unfold addI
    split
    · rename_i hx
      exact List.pairwise_cons.mpr ⟨fun z hz => by rcases List.mem_cons.mp hz with e | e; exact e ▸ hx; exact Int.lt_trans hx (h1 z e), h⟩
    · split
      · exact h
      · rename_i h3 h4
        refine List.pairwise_cons.mpr ⟨fun z hz => ?_, addI_up h2⟩
        rcases addI_mem.mp hz with e | e
        · subst e; omega
        · exact h1 z e
theorem addAll_mem {k : Int} : ∀ {l : List Int}, k ∈ l.foldr addI [] ↔ k ∈ l
  | [] => by simp
  | x :: xs => by rw [List.foldr_cons, addI_mem, addAll_mem, List.mem_cons]
theorem addAll_up : ∀ (l : List Int), (l.foldr addI []).Pairwise (· < ·)
  | [] => by simp
  | x :: xs => by rw [List.foldr_cons]; exact addI_up (addAll_up xs)
theorem addI_len {x : Int} : ∀ {l : List Int}, (addI x l).length ≤ l.length + 1
  | [] => by simp [addI]
  | y :: ys => by
    unfold addI
    split
    · simp
    · split
      · simp
      · have := addI_len (x := x) (l := ys); simp; omega
theorem addAll_len : ∀ l : List Int, (l.foldr addI []).length ≤ l.length
  | [] => by simp
  | x :: xs => by
    rw [List.foldr_cons]
    have := addI_len (x := x) (l := xs.foldr addI [])
    have := addAll_len xs
    simp
    omega
theorem up_unique : ∀ {l m : List Int}, l.Pairwise (· < ·) → m.Pairwise (· < ·) → (∀ k, k ∈ l ↔ k ∈ m) → l = m
  | [], [], _, _, _ => rfl
  | [], y :: ys, _, _, h => absurd ((h y).mpr List.mem_cons_self) (by simp)
  | x :: xs, [], _, _, h => absurd ((h x).mp List.mem_cons_self) (by simp)
  | x :: xs, y :: ys, h1, h2, h => by
    obtain ⟨a1, a2⟩ := List.pairwise_cons.mp h1
    obtain ⟨b1, b2⟩ := List.pairwise_cons.mp h2
    have e : x = y := by
      rcases List.mem_cons.mp ((h x).mp List.mem_cons_self) with e | e
      · exact e
      · rcases List.mem_cons.mp ((h y).mpr List.mem_cons_self) with e' | e'
        · exact e'.symm
        · have := a1 y e'; have := b1 x e; omega
    subst e
    rw [up_unique a2 b2 fun k => ?_]
    constructor
    · intro hk
      rcases List.mem_cons.mp ((h k).mp (List.mem_cons_of_mem _ hk)) with e | e
      · have := a1 k hk; omega
      · exact e
    · intro hk
      rcases List.mem_cons.mp ((h k).mpr (List.mem_cons_of_mem _ hk)) with e | e
      · have := b1 k hk; omega
      · exact e
theorem sorted_set {ns ms : List Int} (nd : ns.Nodup) (hm : ∀ k, k ∈ ns ↔ k ∈ ms) : ns.mergeSort (fun a b => decide (a ≤ b)) = ms.foldr addI [] := by
  have hp := List.mergeSort_perm ns (fun a b => decide (a ≤ b))
  refine up_unique ?_ (addAll_up ms) fun k => by rw [hp.mem_iff, hm, addAll_mem]
  have h1 : (ns.mergeSort (fun a b => decide (a ≤ b))).Pairwise fun a b => decide (a ≤ b) = true := List.pairwise_mergeSort (by intro a b c; simp; omega) (by intro a b; simp; omega) ns
  have h2 : (ns.mergeSort (fun a b => decide (a ≤ b))).Nodup := hp.nodup_iff.mpr nd
  refine (h1.and h2).imp fun {a b} h => ?_
  have := h.1; have := h.2
  simp at *
  omega
theorem ints_rep {K : PySem.W.Frag} {F : Hp} {c : Nat → Addr} {len : Nat} : ∀ {xs : List SV} {vs : List V} {ns : List Int}, RepL K F c len xs vs → intsV xs = some ns → vs = ns.map V.int
  | [], _, ns, r, e => by cases e; exact r
  | x :: xs, _, ns, ⟨y, ys, e1, r1, r2⟩, e => by
    subst e1
    cases x <;> first | (cases e; done) | skip
    rename_i i
    unfold intsV at e
    cases q : intsV xs with
    | none => rw [q] at e; cases e
    | some ms =>
      rw [q] at e
      cases e
      rw [ints_rep r2 q, show y = .int i from r1]
      rfl
theorem ints_repL {K : PySem.W.Frag} {F : Hp} {c : Nat → Addr} {len : Nat} : ∀ ns : List Int, RepL K F c len (ns.map .int) (ns.map V.int)
  | [] => rfl
  | n :: r => ⟨_, _, rfl, rfl, ints_repL r⟩
theorem each_vals : ∀ {out : List Value} {ns : List Int}, PySem.W.EachIs (fun v k => ∃ t, v = Value.int k t) out ns → Vals (ns.map V.int) out
  | _, _, .nil => .nil
  | _, _, .cons h t => .cons h (each_vals t)
section
variable {X : Cx} {E : ErT} {W : WX} {a : Expr} {fa : Sta → Rs SV} {p p2 pos pos2 : Pos}
def SetHO (w : World) (p : Addr) (ns : List Int) (c : Nat) : HO := .ext fun h => SetR w h p (fun j => decide (j ∈ ns)) c
theorem cr_setI (hc : X.calm = true) : CallR X (.type "set") fun xs H Q => ∃ (b : Addr) (ns : List Int), xs = [.ref b] ∧ SqT X.K H b (ns.map V.int) ∧ ns.length ≤ 1000 ∧ ∀ p c, H p = none → Q (.ref p) (upd H p (SetHO X.w p ns c)) := by
  intro pins s σ H xs us Q I r q
  obtain ⟨b, ns, ex, hq, hl, q⟩ := q
  subst ex
  obtain ⟨u, eu, rx⟩ := vals1 r
  subst eu
  cases rx
  obtain ⟨its, rv, pt, hz⟩ := I.tuple hq
  have hi : IntsAre its.toArray.toList ns := ints_of_vals rv
  refine call_set_tupI ns (I.ok.hd hc) (show s.heap.IsTuple b its.toArray from pt) hi (by unfold scanBound; omega) fun h' tk c R1 hcn k => ?_
  have hp := I.hok.fresh (Nat.le_refl s.heap.objs.size)
  refine ⟨.ref s.heap.objs.size, _, I.laid (t' := tk) (o := SetHO X.w s.heap.objs.size ns c) k (Nat.le_refl _) ⟨R1, let ⟨o, _, _, _, ho, _⟩ := R1; ⟨o, ho⟩, fun h1 h2 x y => x.at y⟩, rfl, q _ c hp⟩
theorem cr_sortset (hc : X.calm = true) (hu : X.A.units + 65 < cLine) : CallR X (.builtin "sorted") fun xs H Q => ∃ (b : Addr) (ns : List Int) (c : Nat), xs = [.ref b] ∧ H b = some (SetHO X.w b ns c) ∧ ns.length ≤ 1000 ∧ ∀ p, H p = none → Q (.ref p) (upd H p (.lst ((ns.foldr addI []).map V.int))) := by
  intro pins s σ H xs us Q I r q
  obtain ⟨b, ns, c, ex, hb, hl, q⟩ := q
  subst ex
  obtain ⟨u, eu, rx⟩ := vals1 r
  subst eu
  cases rx
  have hok := I.hok _ _ hb
  obtain ⟨hR, _, _⟩ := hok
  refine set_sorted (I.ok.hd hc) (by omega) hR fun s' ms out D n g1 o1 k1 hD hDn nd hm hln he => ?_
  have em : ms.mergeSort (fun a b => decide (a ≤ b)) = ns.foldr addI [] := sorted_set nd fun k => by rw [hm k, decide_eq_true_eq]
  rw [em] at he
  have hv := each_vals he
  have hsz : ((ns.foldr addI []).map V.int).length ≤ sizeLine := by rw [List.length_map]; have := addAll_len ns; have := sizeLine_eq; omega
  have hDH := I.hok.fresh hDn
  exact ⟨.ref D, _, I.call' (ch := []) o1 (Un.laid k1 hDn hDH) (I.hok.laid k1 hDn (show ObjOk X.prog X.w (upd H D (.lst ((ns.foldr addI []).map V.int))) s'.heap D (.lst ((ns.foldr addI []).map V.int)) from ⟨hsz, out, n, hv, hD⟩)) (by rw [g1]; exact I.bare) (fun _ z => nomatch z), rfl, q _ hDH⟩
theorem m_setl (hc : X.calm = true) (hu : X.A.units + 65 < cLine) (hg : Gl X "sorted") (hm : X.mg "sorted" = none) (hg2 : Gl X "set") (hm2 : X.mg "set" = none) (ha : PE X a (tE X.K E W fa)) (hs : starEach [a] X.env = (false, eval a X.env) :: starEach [] X.env) :
    PE X (.Call (.Name "sorted" p) [.Call (.Name "set" p2) [a] [] pos2] [] pos) (tF X.K E W fun s => (fa s).bind fun x s => freshC ((tupInts x).map fun ns => (ns.foldr addI []).map .int) s) := by
  refine PE.imp (pe_callB (cr_sortset hc hu) hg hm (by decide +kernel) (pa_cons (pe_callTy (cr_setI hc) hg2 hm2 (by decide +kernel) (m_as1 ha m_as0 hs) (he := hs)) pa_nil)) fun σ H Q ⟨g, st, R, h⟩ => ?_
  have h : Out X.K E W g st σ H (NewQ X.K H Q) ((fa st).bind fun x s => freshC ((tupInts x).map fun ns => (ns.foldr addI []).map .int) s) := h
  refine ⟨g, st, R, ?_⟩
  have key : Out X.K E W g st σ H (fun v g' st' H' => ∀ x, RepV X.K g' st' σ v x → ∃ (b : Addr) (ns : List Int), x = .ref b ∧ SqT X.K H' b (ns.map V.int) ∧ ns.length ≤ 1000 ∧ ∀ p c, H' p = none → ∀ q, upd H' p (SetHO X.w p ns c) q = none → Q (.ref q) (upd (upd H' p (SetHO X.w p ns c)) q (.lst ((ns.foldr addI []).map V.int)))) (fa st) := by
    refine h.bind.imp fun v g1 st1 H1 ⟨G, R1, h⟩ x r => ?_
    obtain ⟨zs, ez, h2⟩ := freshC_some h
    cases e : tupInts v with
    | none => rw [e] at ez; cases ez
    | some ns =>
      rw [e] at ez
      cases ez
      unfold tupInts at e
      cases v <;> first | (cases e; done) | skip
      rename_i xs
      simp only at e
      split at e
      · rename_i hl
        obtain ⟨b, vs, rfl, hb, rl⟩ := RepV.tup R1 r
        have ev := ints_rep rl e
        subst ev
        have hlen : ns.length ≤ 1000 := by have := rl.length; rw [List.length_map] at this; rw [← this]; exact of_decide_eq_true hl
        refine ⟨b, ns, rfl, hb, hlen, fun p c hp q hq => ?_⟩
        obtain ⟨R2, G2⟩ := R1.add (o := SetHO X.w p ns c) hp
        exact tF_list (g1 := g1.add p (SetHO X.w p ns c)) (fun a q => none_back (G.trans G2) q) R2 (h2.from G2) (ints_repL _) hq
      · cases e
  show Out X.K E W g st σ H _ ((fa st).bind fun v s => (Rs.ok [] s).bind fun vs s => .ok (v :: vs) s)
  cases ef : fa st with
  | bad => rw [ef] at key; exact key.elim
  | err er s1 => rw [ef] at key; exact key
  | ok v s1 =>
    rw [ef] at key
    intro g' H' G' R' xs rv
    obtain ⟨x, rfl, rx⟩ := repVs1 rv
    obtain ⟨b, ns, rfl, h1, h2, q⟩ := key g' H' G' R' x rx
    exact ⟨b, ns, rfl, h1, h2, fun p c hp => ⟨p, ns, c, rfl, upd_same, h2, fun q' hq => q p c hp q' hq⟩⟩
end
end Mq

namespace Mq
open PySem PySem.Spec PyProof.Rows L2 Mp
theorem fldN_inj : ∀ {a b : Nat}, a ≤ 8 → b ≤ 8 → fldN a = fldN b → a = b := by
  intro a b ha hb h
  have key : ∀ i j : Fin 9, fldN i.1 = fldN j.1 → i = j := by decide +kernel
  have := key ⟨a, by omega⟩ ⟨b, by omega⟩ h
  exact congrArg Fin.val this
section
variable {K : PySem.W.Frag} {F : Hp} {c : Nat → Addr} {len : Nat}
theorem getF_rep {f : Nat} {v : SV} (hf : f ≤ 8) : ∀ {fs : List (Nat × SV)} {fv : List (Str × V)}, fv.map (·.1) = fs.map (fun p => fldN p.1) → RepL K F c len (fs.map (·.2)) (fv.map (·.2)) → (∀ p ∈ fs, p.1 ≤ 8) → getF f fs = some v →
    ∃ x, fv.lookup (fldN f) = some x ∧ Rep K F c len v x
  | [], _, _, _, _, h => by cases h
  | (g, w) :: fs, [], e, _, _, _ => by simp at e
  | (g, w) :: fs, (n, y) :: fv, e, r, hb, h => by
    simp only [List.map_cons, List.cons.injEq] at e
    obtain ⟨rfl, e⟩ := e
    obtain ⟨y', ys, e2, r1, r2⟩ := r
    simp only [List.map_cons, List.cons.injEq] at e2
    obtain ⟨rfl, rfl⟩ := e2
    unfold getF at h
    by_cases hg : g = f
    · subst hg
      rw [if_pos rfl] at h
      cases h
      exact ⟨y, by rw [List.lookup_cons, beq_self_eq_true], r1⟩
    · rw [if_neg hg] at h
      have hne : (fldN f == fldN g) = false := beq_eq_false_iff_ne.mpr fun z => hg (fldN_inj (hb _ List.mem_cons_self) hf z.symm)
      rw [List.lookup_cons, hne]
      exact getF_rep hf e r2 (fun p hp => hb p (List.mem_cons_of_mem _ hp)) h
theorem putF_rep {f : Nat} {v : SV} {x : V} (hf : f ≤ 8) (rv : Rep K F c len v x) : ∀ {fs : List (Nat × SV)} {fv : List (Str × V)}, fv.map (·.1) = fs.map (fun p => fldN p.1) → RepL K F c len (fs.map (·.2)) (fv.map (·.2)) → (∀ p ∈ fs, p.1 ≤ 8) →
    (L2.putF (fldN f) x fv).map (·.1) = (Mp.putF f v fs).map (fun p => fldN p.1) ∧ RepL K F c len ((Mp.putF f v fs).map (·.2)) ((L2.putF (fldN f) x fv).map (·.2))
  | [], [], _, _, _ => ⟨rfl, ⟨x, [], rfl, rv, rfl⟩⟩
  | [], _ :: _, e, _, _ => by simp at e
  | (g, w) :: fs, [], e, _, _ => by simp at e
  | (g, w) :: fs, (n, y) :: fv, e, r, hb => by
    simp only [List.map_cons, List.cons.injEq] at e
    obtain ⟨rfl, e⟩ := e
    obtain ⟨y', ys, e2, r1, r2⟩ := r
    simp only [List.map_cons, List.cons.injEq] at e2
    obtain ⟨rfl, rfl⟩ := e2
    unfold Mp.putF L2.putF
    by_cases hg : g = f
    · subst hg
      rw [if_pos rfl, if_pos rfl]
      exact ⟨by simp [e], ⟨x, _, rfl, rv, r2⟩⟩
    · have hne : fldN g ≠ fldN f := fun z => hg (fldN_inj (hb _ List.mem_cons_self) hf z)
      rw [if_neg hg, if_neg hne]
      obtain ⟨i1, i2⟩ := putF_rep hf rv e r2 fun p hp => hb p (List.mem_cons_of_mem _ hp)
      exact ⟨by simp [i1], ⟨y, _, rfl, r1, i2⟩⟩
theorem getF_mem {f : Nat} {v : SV} : ∀ {fs : List (Nat × SV)}, getF f fs = some v → (f, v) ∈ fs
  | [], h => by cases h
  | (g, w) :: fs, h => by
    unfold getF at h
    split at h
    · rename_i e; subst e; cases h; exact List.mem_cons_self
    · exact List.mem_cons_of_mem _ (getF_mem h)
theorem putF_mem {f : Nat} {v : SV} {p : Nat × SV} : ∀ {fs : List (Nat × SV)}, p ∈ Mp.putF f v fs → p.1 = f ∨ ∃ q ∈ fs, q.1 = p.1
  | [], h => by simp [Mp.putF] at h; exact .inl (by rw [h])
  | (g, w) :: fs, h => by
    unfold Mp.putF at h
    split at h
    · rename_i e
      rcases List.mem_cons.mp h with h | h
      · exact .inl (by rw [h]; exact e)
      · exact .inr ⟨p, List.mem_cons_of_mem _ h, rfl⟩
    · rcases List.mem_cons.mp h with h | h
      · exact .inr ⟨_, List.mem_cons_self, by rw [h]⟩
      · rcases putF_mem h with h | ⟨q, h1, h2⟩
        · exact .inl h
        · exact .inr ⟨q, List.mem_cons_of_mem _ h1, h2⟩
end
section
variable {K : PySem.W.Frag} {g : Gh} {st : Sta} {σ : L2.St} {H : Hp} {v : SV} {x : V}
theorem ins_pl {k : Nat} {fs : List (Nat × SV)} (h : st.cellOf v = some (.ins k fs)) : ∃ l, plOf v = some l := by
  cases v <;> first | (simp [Sta.cellOf] at h; done) | exact ⟨_, rfl⟩
end
theorem names_no {fs : List (Nat × SV)} {fv : List (Str × V)} {m : Str} (e : fv.map (·.1) = fs.map (fun p => fldN p.1)) (hm : ∀ f, fldN f ≠ m) : fv.lookup m = none := by
  have : ∀ p ∈ fv, p.1 ≠ m := fun p hp => by
    have h1 : p.1 ∈ fv.map (·.1) := List.mem_map.mpr ⟨p, hp, rfl⟩
    rw [e] at h1
    obtain ⟨q, _, h2⟩ := List.mem_map.mp h1
    rw [← h2]
    exact hm q.1
  clear e
  induction fv with
  | nil => rfl
  | cons p fv ih =>
    obtain ⟨n, y⟩ := p
    rw [List.lookup_cons, beq_eq_false_iff_ne.mpr (fun z => this _ List.mem_cons_self z.symm)]
    exact ih fun q hq => this q (List.mem_cons_of_mem _ hq)
section
variable {X : Cx} {E : ErT} {W : WX} {o e : Expr} {es : List Expr} {fo fe : Sta → Rs SV} {fs : Sta → Rs (List SV)} {pos p pos' tpos apos : Pos} {f : Nat}
theorem m_fld (ho : PE X o (tE X.K E W fo)) (hb : attributeBase o (fldN f) X.env (eval o X.env) = eval o X.env) (hf : f ≤ 8) : PE X (.Attribute o (fldN f) pos) (tE X.K E W fun s => (fo s).bind fun x s => Rs.of (fldGet s x f) s) := by
  refine PE.imp (pe_fld ho hb) fun σ H Q ⟨g, st, R, h⟩ => tE.seq R h fun v x g1 st1 H1 G R1 r h => ?_
  obtain ⟨y, e, h⟩ := Out.of_some R1 h
  unfold fldGet at e
  cases hc : st1.cellOf v with
  | none => rw [hc] at e; cases e
  | some c =>
    rw [hc] at e
    cases c <;> simp only [reduceCtorEq] at e
    rename_i k fs
    obtain ⟨a, ob, rfl, hH, ⟨dx, fv, rfl, e2, rl⟩, hcl, hna⟩ := RepV.cell R1 r (ins_pl hc) hc rfl
    obtain ⟨z, h1, h2⟩ := getF_rep hf e2 rl (fun p hp => (hna p hp).1) e
    exact ⟨a, _, dx, fv, z, rfl, hH, hcl, (hna _ (getF_mem e)).2, h1, h z (Rep.toV h2)⟩
theorem fv_len {K : PySem.W.Frag} {fs : List (Nat × SV)} {fv : List (Str × V)} (e : fv.map (·.1) = fs.map (fun p => fldN p.1)) : fv.length = fs.length := by
  have := congrArg List.length e
  simpa using this
/-- self.f = e -/
theorem s_fld {k : Nat} (ho : PE X o (tE X.K E W fo)) (he : PE X e (tE X.K E W fe)) (hs : swapsWith e (some (.Attribute o (fldN f) pos')) pos.line X.env = pure false) (hn : NoAttr X.K (He.ga X.K (clsN k)) (fldN f)) :
    PS X (.Assign [.Attribute o (fldN f) pos'] e pos) (tS X.K E W fun s => (solidB (fe s)).bind fun v s => ((fo s).bind fun x s => match fldPut s x k f v with | some s => .ok () s | none => .bad : Rs Unit).bind nextR) := by
  refine PS.imp (ps_fld ho (PE.imp he fun _ _ _ h => tK_of h) hs) fun D σ H ⟨g, st, R, h⟩ => tK.seqS trivial R h fun v y g1 st1 H1 G R1 ry h => ?_
  have h : OutS X.K E W anyS g1 st1 H1 (SQ X.K D) ((fo st1).bind fun x s => (match fldPut s x k f v with | some s => .ok () s | none => .bad : Rs Unit).bind nextR) := by
    cases ef : fo st1 with
    | bad => rw [ef] at h; exact h
    | err _ _ => rw [ef] at h; exact h
    | ok x s => rw [ef] at h; exact h
  refine tE.seqS trivial R1 h fun w x g2 st2 H2 G2 R2 r2 hh => ?_
  cases hp : fldPut st2 w k f v with
  | none => rw [hp] at hh; exact hh.elim
  | some st3 =>
    rw [hp] at hh
    unfold fldPut at hp
    cases hc : st2.cellOf w with
    | none => rw [hc] at hp; cases hp
    | some c =>
      rw [hc] at hp
      cases c <;> simp only [reduceCtorEq] at hp
      rename_i k' fs
      split at hp
      · rename_i hk
        simp only [Bool.and_eq_true, decide_eq_true_eq] at hk
        obtain ⟨⟨rfl, hf⟩, hlen⟩ := hk
        obtain ⟨a, ob, rfl, hH, ⟨⟨dx, fv, rfl, e2, rl⟩, hcl, hna⟩, fin⟩ := R2.putV r2 hc rfl hp rfl
        obtain ⟨i1, i2⟩ := putF_rep hf (Rep.up G2.fr G2.cells G2.hlen _ _ ry) e2 rl fun p hp => (hna p hp).1
        obtain ⟨R3, G3⟩ := fin (.ins (He.ga X.K (clsN k')) dx (L2.putF (fldN f) y fv)) ⟨⟨dx, _, rfl, i1, i2⟩, hcl, fun p hp => by
          rcases putF_mem hp with q | ⟨q, h1, h2⟩
          · rw [q]; exact ⟨hf, hn⟩
          · rw [← h2]; exact hna q h1⟩
        refine ⟨a, _, dx, fv, rfl, hH, hcl, hn, by rw [fv_len (K := X.K) e2]; omega, ?_⟩
        exact OutS.now (a := Fl.next) trivial R3 (hh.from G3)
      · cases hp
/-- self.f op= e -/
theorem s_fldaug {op : Bop} {rd : V → V → Hp → VK → Prop} (ho : PE X o (tE X.K E W fo)) (he : PE X e (tE X.K E W fe)) (hop : InOp X (opOf op) rd) (hrd : ∀ i j c H Q, binInt op i j = some c → Q (.int c) H → rd (.int i) (.int j) H Q) (hf : f ≤ 8) :
    PS X (.AugAssign (.Attribute o (fldN f) tpos) (opOf op) e pos) (tS X.K E W fun s => (fo s).bind fun x s => match insF s x f with
    | some (k, a) => (asI (fe s)).bind fun b s => match binInt op a b with
      | some c => nextO (fldPut s x k f (.int c))
      | none => .bad
    | none => .bad) := by
  refine PS.imp (ps_fldaug ho he hop) fun D σ H ⟨g, st, R, h⟩ => tE.seqS trivial R h fun v x g1 st1 H1 G R1 r h => ?_
  cases e : insF st1 v f with
  | none => rw [e] at h; exact h.elim
  | some q =>
    obtain ⟨k, a0⟩ := q
    rw [e] at h
    dsimp only at h
    unfold insF at e
    cases hc : st1.cellOf v with
    | none => rw [hc] at e; cases e
    | some c =>
      rw [hc] at e
      cases c <;> simp only [reduceCtorEq] at e
      rename_i k fs
      cases eg : getF f fs with
      | none => rw [eg] at e; cases e
      | some w =>
      rw [eg] at e
      cases w <;> first | (cases e; done) | skip
      cases e
      obtain ⟨a, ob, rfl, hH, ⟨dx, fv, rfl, e2, rl⟩, hcl, hna⟩ := RepV.cell R1 r (ins_pl hc) hc rfl
      obtain ⟨z, h1, h2⟩ := getF_rep hf e2 rl (fun p hp => (hna p hp).1) eg
      obtain rfl : z = .int a0 := h2
      refine ⟨a, _, dx, fv, _, rfl, hH, hcl, (hna _ (getF_mem eg)).2, h1, asI.seqS trivial R1 h fun j g2 st2 H2 G2 R2 hh => ?_⟩
      cases eb : binInt op a0 j with
      | none => rw [eb] at hh; exact hh.elim
      | some cc =>
        rw [eb] at hh
        refine hrd _ _ _ _ _ eb ?_
        dsimp only at hh
        cases hp : fldPut st2 v k f (.int cc) with
        | none => rw [hp] at hh; exact hh.elim
        | some st3 =>
          rw [hp] at hh
          unfold fldPut at hp
          cases hc2 : st2.cellOf v with
          | none => rw [hc2] at hp; cases hp
          | some c2 =>
            rw [hc2] at hp
            cases c2 <;> simp only [reduceCtorEq] at hp
            rename_i k2 fs2
            split at hp
            · rename_i hk
              simp only [Bool.and_eq_true, decide_eq_true_eq] at hk
              obtain ⟨⟨rfl, _⟩, hlen⟩ := hk
              obtain ⟨a2, ob2, ea, hH2, ⟨⟨dx2, fv2, rfl, e3, rl2⟩, hcl2, hna2⟩, fin⟩ := R2.putV (r.up G2) hc2 rfl hp rfl
              cases ea
              have rc : Rep X.K g2.F g2.c st2.heap.length (.int cc) (.int cc) := rfl
              obtain ⟨i1, i2⟩ := putF_rep hf rc e3 rl2 fun p hp => (hna2 p hp).1
              obtain ⟨R3, G3⟩ := fin (.ins (He.ga X.K (clsN k2)) dx2 (L2.putF (fldN f) (.int cc) fv2)) ⟨⟨dx2, _, rfl, i1, i2⟩, hcl2, fun p hp => by
                rcases putF_mem hp with q | ⟨q, h1, h2⟩
                · rw [q]; exact ⟨hf, (hna _ (getF_mem eg)).2⟩
                · rw [← h2]; exact hna2 q h1⟩
              refine ⟨dx2, fv2, hH2, by rw [fv_len (K := X.K) e3]; omega, ?_⟩
              exact OutS.now (a := Fl.next) trivial R3 (hh.from G3)
            · cases hp
end
section
variable {X : Cx} {E : ErT} {W : WX} {o e : Expr} {es : List Expr} {fo fe : Sta → Rs SV} {fs : Sta → Rs (List SV)} {pos p apos : Pos} {k c mi : Nat} {m x : Str} {f : Addr} {fd : FuncData} {ps : List Str} {P : Prog}
theorem m_own {pl : Sem Bool} (hE : EConst E) (tk : Takes X W) (F : FnOk X.prog X.w X.K X.mg X.base (L2.CX X.prog X.w) k f fd ps (spF X.K E (P.run mi))) (hr : Room k X.A) (hm : Meth X.K (He.ga X.K (clsN c)) m f) (hb : Binds X.K fd ps []) (hno : ∀ i, fldN i ≠ m)
    (ho : PE X o (tE X.K E W fo)) (ha : PA X (e :: es) (tA X.K E W fs)) (hst : starEach (e :: es) X.env = (false, eval e X.env) :: starEach es X.env) (hpl : (backTo pos (starEach es X.env)).any (·.1) = false)
    (ht : eval (.Call (.Attribute o m apos) (e :: es) [] pos) X.env = (do
      let ov ← eval o X.env
      standAt apos.atName
      let (f, first) ← holding [ov] (getMethod ov m pl)
      callWith pos f first (backTo pos (starEach (e :: es) X.env)) (backToKw pos (keywordEach [] X.env)))) :
    PE X (.Call (.Attribute o m apos) (e :: es) [] pos) (tE X.K E W fun s => (fo s).bind fun x s => match s.cellOf x with
    | some (.ins d _) => if c = d then (fs s).bind fun vs s => callR P mi (x :: vs) s else .bad
    | _ => .bad) := by
  refine ⟨fun pins s σ H Q I ⟨g, st, R, h⟩ => ?_⟩
  have key : tE X.K E W fo σ H fun x H1 => ∃ a dx fv, x = .ref a ∧ H1 a = some (.ins (He.ga X.K (clsN c)) dx fv) ∧ Cls X.K (He.ga X.K (clsN c)) ∧ fv.lookup m = none ∧ tA X.K E W fs σ H1 fun xs H2 => spF X.K E (P.run mi) (.ref a :: xs) H2 Q (WE W σ) := by
    refine tE.seq R h fun v x g1 st1 H1 G R1 r h => ?_
    cases hc : st1.cellOf v with
    | none => rw [hc] at h; exact h.elim
    | some cl =>
      rw [hc] at h
      cases cl <;> first | exact h.elim | skip
      rename_i d fds
      dsimp only at h
      split at h
      · rename_i q
        subst q
        obtain ⟨a, ob, rfl, hH, ⟨dx, fv, rfl, e2, rl⟩, hcl, hna⟩ := RepV.cell R1 r (ins_pl hc) hc rfl
        refine ⟨a, dx, fv, rfl, hH, hcl, names_no e2 hno, tA.seq R1 h fun vs xs g2 st2 H2 G2 R2 r2 h => ?_⟩
        exact call_sp hE R2 (vs := v :: vs) ⟨.ref a, xs, rfl, r.up G2, r2⟩ h
      · exact h.elim
  refine PySem.W.methodCall_KW (pl := pl) (thn (ho.run pins s σ H _ I key) fun u s1 ⟨x, H1, I1, rx, a, dx, fv, ex, ea, hcl, l, q⟩ => ?_) ht
  subst ex
  obtain rfl : u = Value.ref a := rx
  refine getmeth_ok I1 ea hcl hm l ?_
  refine PySem.W.callWith_K (first := [.ref a]) (h₀ := X.base) I.ok.mod.kin hm.kp (thn (ha.run pos pins s1 σ H1 _ I1 q) fun us s2 ⟨vs, H2, I2, r, q2⟩ => ⟨I2.kIn, ?_⟩) hst hpl
  exact run_fnS (us := .ref a :: us) (vs := .ref a :: vs) F hr hb (passAt tk σ) I2 (.cons rfl r) q2
theorem m_own0 {pl : Sem Bool} (hE : EConst E) (tk : Takes X W) (F : FnOk X.prog X.w X.K X.mg X.base (L2.CX X.prog X.w) k f fd ps (spF X.K E (P.run mi))) (hr : Room k X.A) (hm : Meth X.K (He.ga X.K (clsN c)) m f) (hb : Binds X.K fd ps []) (hno : ∀ i, fldN i ≠ m)
    (ho : PE X o (tE X.K E W fo))
    (ht : eval (.Call (.Attribute o m apos) [] [] pos) X.env = (do
      let ov ← eval o X.env
      standAt apos.atName
      let (f, first) ← holding [ov] (getMethod ov m pl)
      callWith pos f first (backTo pos (starEach [] X.env)) (backToKw pos (keywordEach [] X.env)))) :
    PE X (.Call (.Attribute o m apos) [] [] pos) (tE X.K E W fun s => (fo s).bind fun x s => match s.cellOf x with
    | some (.ins d _) => if c = d then callR P mi [x] s else .bad
    | _ => .bad) := by
  refine ⟨fun pins s σ H Q I ⟨g, st, R, h⟩ => ?_⟩
  have key : tE X.K E W fo σ H fun x H1 => ∃ a dx fv, x = .ref a ∧ H1 a = some (.ins (He.ga X.K (clsN c)) dx fv) ∧ Cls X.K (He.ga X.K (clsN c)) ∧ fv.lookup m = none ∧ spF X.K E (P.run mi) [.ref a] H1 Q (WE W σ) := by
    refine tE.seq R h fun v x g1 st1 H1 G R1 r h => ?_
    cases hc : st1.cellOf v with
    | none => rw [hc] at h; exact h.elim
    | some cl =>
      rw [hc] at h
      cases cl <;> first | exact h.elim | skip
      rename_i d fds
      dsimp only at h
      split at h
      · rename_i q
        subst q
        obtain ⟨a, ob, rfl, hH, ⟨dx, fv, rfl, e2, rl⟩, hcl, hna⟩ := RepV.cell R1 r (ins_pl hc) hc rfl
        exact ⟨a, dx, fv, rfl, hH, hcl, names_no e2 hno, call_sp hE R1 (vs := [v]) ⟨.ref a, [], rfl, r, rfl⟩ h⟩
      · exact h.elim
  refine PySem.W.methodCall_KW (pl := pl) (thn (ho.run pins s σ H _ I key) fun u s1 ⟨x, H1, I1, rx, a, dx, fv, ex, ea, hcl, l, q⟩ => ?_) ht
  subst ex
  obtain rfl : u = Value.ref a := rx
  refine getmeth_ok I1 ea hcl hm l ?_
  exact PySem.W.callWith_K0 (first := [.ref a]) I1.kIn hm.kp (run_fnS (us := [.ref a]) (vs := [.ref a]) F hr hb (passAt tk σ) I1 (.cons rfl .nil) q)
theorem run_makeS {C : Addr} {sp : Sp} {EX : L2.St → XK} {pins : List (Addr × Obj)} {σ : L2.St} {H : Hp} {s : Shared} {Q : VK} {us : List Value} {vs : List V} (M : Mk X.K C f) (F : FnOk X.prog X.w X.K X.mg X.base (L2.CX X.prog X.w) k f fd ps sp) (hr : Room (k + 1) X.A) (hb : Binds X.K fd ps [])
    (hx : PassesAt (L2.CX X.prog X.w) X σ (EX σ)) (I : Inv X pins σ H s) (r : Vals vs us)
    (h : ∀ x dx, H x = none → H dx = none → dx ≠ x → sp (.ref x :: vs) (upd (upd H dx (.own x)) x (.ins C dx [])) (fun v H2 => v = .non ∧ Q (.ref x) H2) (EX σ)) :
    wpAny (model X.prog X.w) X.A (call (.ref C) us) (EP X pins σ Q) X.xe s := by
  have hq := h (s.heap.objs.size + 1) s.heap.objs.size (I.hok.fresh (Nat.le_succ _)) (I.hok.fresh (Nat.le_refl _)) (Nat.ne_of_lt (Nat.lt_succ_self _))
  have I2 := Inv.made (C := C) I
  have r2 : Vals (V.ref (s.heap.objs.size + 1) :: vs) (Value.ref (s.heap.objs.size + 1) :: us) := .cons rfl r
  have hl : (Value.ref (s.heap.objs.size + 1) :: us).length = ps.length := by
    have e := r2.length
    rw [F.len _ _ _ _ hq] at e
    exact e.symm
  have b := hb _ (Value.ref (s.heap.objs.size + 1) :: us) I2.kIn (by rw [List.append_nil]; exact hl)
  rw [List.append_nil] at b
  refine wpAny_call (make_map (f := f) I.kIn M.makes M.init (beq_iff_eq.mp M.fn) (codeAny_mono (F.run _ X.stack _ _ ⟨Value.ref (s.heap.objs.size + 1) :: us, []⟩ (Value.ref (s.heap.objs.size + 1) :: us) _ _ (EX σ) (hr.make C us [])
    (I2.env0.make C us []) b r2 hq) fun r s' hq' => ?_))
  cases r with
  | error e => exact hx pins _ _ e s' I2 hq'
  | ok fl =>
    cases fl with
    | ret u =>
      obtain ⟨v, H', I3, rv, ev, q3⟩ := I2.after hq'
      subst ev
      exact ⟨rv, ⟨V.ref (s.heap.objs.size + 1), H', I3, rfl, q3⟩⟩
    | next => exact False.elim hq'
    | brk => exact False.elim hq'
    | cont => exact False.elim hq'
/-- C(e, ..) -/
theorem m_make (hE : EConst E) (tk : Takes X W) (hcl : Cls X.K (He.ga X.K (clsN c))) (hmk : (∀ vs h, P.mk_ mi vs h = .bad) ∨ ∃ f fd ps k, Mk X.K (He.ga X.K (clsN c)) f ∧ FnOk X.prog X.w X.K X.mg X.base (L2.CX X.prog X.w) k f fd ps (spF X.K E (P.mk_ mi)) ∧ Room (k + 1) X.A ∧ Binds X.K fd ps []) (kp : PySem.W.keepIn X.K (.ref (He.ga X.K (clsN c))) = true)
    (hg : Gl X x) (hm : X.mg x = some (.ref (He.ga X.K (clsN c)))) (ha : PA X (e :: es) (tA X.K E W fs)) (hdb : (x == ("__debug__" : Str)) = false) (hst : starEach (e :: es) X.env = (false, eval e X.env) :: starEach es X.env) (hpl : (backTo pos (starEach es X.env)).any (·.1) = false) :
    PE X (.Call (.Name x p) (e :: es) [] pos) (tE X.K E W fun s => (fs s).bind fun vs s => (callR P.init mi (.ref s.heap.length :: vs) { s with heap := s.heap ++ [.ins c []] }).bind fun v s1 => match v with
        | .non => .ok (.ref s.heap.length) s1
        | _ => .bad) := by
  refine ⟨fun pins s σ H Q I ⟨g, st, R, h⟩ => ?_⟩
  have key : tA X.K E W fs σ H fun xs H1 => ∀ y dx, H1 y = none → H1 dx = none → dx ≠ y → spF X.K E (P.mk_ mi) (.ref y :: xs) (upd (upd H1 dx (.own y)) y (.ins (He.ga X.K (clsN c)) dx [])) (fun v H2 => v = .non ∧ Q (.ref y) H2) (WE W σ) := by
    refine tA.seq R h fun vs xs g1 st1 H1 G R1 r h => fun y dx hy hd hne => ?_
    obtain ⟨Ra, Ga, _, _⟩ := R1.lay (o := .own y) hd
    have hy2 : upd H1 dx (.own y) y = none := by rw [upd_ne (fun z => hne z.symm)]; exact hy
    obtain ⟨Rb, Gb, hF, hl⟩ := Ra.lay (o := .ins (He.ga X.K (clsN c)) dx []) hy2
    have rc : CellRep X.K g1.F g1.c st1.heap.length (.ins c []) (.ins (He.ga X.K (clsN c)) dx []) := ⟨⟨dx, [], rfl, rfl, rfl⟩, hcl, fun p hp => by cases hp⟩
    have Rc := Rb.pushNew (p := y) upd_same hF hl rc
    have Gc : Grow g1 st1 H1 (g1.push st1.heap.length y) { st1 with heap := st1.heap ++ [.ins c []] } (upd (upd H1 dx (.own y)) y (.ins (He.ga X.K (clsN c)) dx [])) := Grow.pushNew hy hl (Ga.trans Gb)
    refine call_sp (P := P.init) hE Rc (vs := .ref st1.heap.length :: vs) ⟨.ref y, xs, rfl, ⟨by simp, by simp [Gh.push]⟩, r.up Gc⟩ ?_
    have h2 := (h.from Gc).bind
    refine h2.imp fun v g2 st2 H2 ⟨G2, R2, h⟩ z rz => ?_
    cases v <;> first | exact h.elim | skip
    obtain rfl : z = .non := rz
    refine ⟨rfl, Out.now R2 h _ ?_⟩
    have hc : g2.c st1.heap.length = (g1.push st1.heap.length y).c st1.heap.length := G2.cells _ (by simp)
    have hlt : st1.heap.length < st2.heap.length := Nat.lt_of_lt_of_le (by simp) G2.hlen
    exact ⟨hlt, by rw [hc]; simp [Gh.push]⟩
  refine wpAny_Call_Name_kw (ld_glob I hg hm ?_ hdb)
  refine PySem.W.callWith_K (h₀ := X.base) I.ok.mod.kin kp (thn (ha.run pos pins s σ H _ I key) fun us s1 ⟨vs, H1, I1, r, q⟩ => ⟨I1.kIn, ?_⟩) hst hpl
  rcases hmk with hbad | ⟨f, fd, ps, k, M, F, hr, hb⟩
  · have := q (s1.heap.objs.size + 1) s1.heap.objs.size (I1.hok.fresh (Nat.le_succ _)) (I1.hok.fresh (Nat.le_refl _)) (Nat.ne_of_lt (Nat.lt_succ_self _))
    obtain ⟨g', us', h', _, _, o⟩ := this
    rw [hbad] at o
    exact o.elim
  · exact run_makeS M F hr hb (passAt tk σ) I1 r q
end
end Mq

namespace Mq
open PySem PySem.Spec PyProof.Rows L2 Mp
def mthN : Mth → Str
  | .index => "index" | .count => "count" | .get1 => "get" | .get2 => "get" | .join => "join" | .replace => "replace"
def mthT : Mth → String | .index => "tuple.index" | _ => "tuple.count"
def mthL : Mth → String | .index => "list.index" | _ => "list.count"
section
variable {X : Cx} {pins pins' : List (Addr × Obj)} {σ σ1 σ2 : L2.St} {H H1 H2 : Hp} {s s2 : Shared} {g g2 : Gh} {st st2 : Sta}
/-- the items of a list or a tuple, read -/
theorem items_read {a : Addr} {xs : List SV} {vs : List V} {its : List Value} (R : Rel X.K g st σ1 H) (I : Inv X pins σ H s) (rl : RepL X.K g.F g.c st.heap.length xs vs) (rv : Vals vs its) (hp : SV.plains xs = true) :
    ∃ as, ReadsAll s.heap its.toArray.toList (toPDs xs) as ∧ its.map (SeqAt.readOf s.heap) = toPDs xs := by
  obtain ⟨as, h⟩ := Dp.readsAll I _ _ its (RepL.dp R.sub xs vs 50 rl hp) rv
  exact ⟨as, by simpa using h, SeqAt.readsAll_map _ its as (SeqAt.canLay_of_shaped (pds_shaped hp).1) h⟩
theorem countP_pd {w : SV} (hw : w.plain = true) : ∀ {xs : List SV}, SV.plains xs = true → (toPDs xs).countP (fun y => PyData.eqv y (toPD w)) = (xs.filter fun y => y.eqv w).length
  | [], _ => rfl
  | x :: xs, h => by
    have h : x.plainN 50 = true ∧ SV.plainsN xs 50 = true := by simpa [SV.plains, SV.plainsN] using h
    rw [toPDs, List.countP_cons, List.filter_cons, pd_eqv x w 50 50 h.1 hw, countP_pd hw h.2]
    cases x.eqv w <;> simp
theorem mthV_index {v w z : SV} (h : mthV st .index v [w] = some z) : ∃ ys j y, st.seq v = some ys ∧ w.plain = true ∧ SV.plains ys = true ∧ z = .int ((j : Nat) : Int) ∧ ys[j]? = some y ∧ y.eqv w = true ∧ ∀ (m : Nat) (u : SV), m < j → ys[m]? = some u → u.eqv w = false := by
  unfold mthV at h
  simp only at h
  cases es : st.seq v with
  | none => rw [es] at h; cases h
  | some ys =>
    rw [es] at h
    simp only [Option.bind_some] at h
    split at h
    · rename_i hp
      rw [Bool.and_eq_true] at hp
      cases ei : indexOf w ys 0 with
      | none => rw [ei] at h; cases h
      | some n =>
        rw [ei] at h; cases h
        obtain ⟨j, y, rfl, h1, h2, h3⟩ := indexOf_at w ys 0 n ei
        exact ⟨ys, j, y, rfl, hp.1, hp.2, by simp, h1, h2, h3⟩
    · cases h
theorem mthV_count {v w z : SV} (h : mthV st .count v [w] = some z) : ∃ ys, st.seq v = some ys ∧ w.plain = true ∧ SV.plains ys = true ∧ z = .int ((ys.filter fun y => y.eqv w).length : Nat) := by
  unfold mthV at h
  simp only at h
  cases es : st.seq v with
  | none => rw [es] at h; cases h
  | some ys =>
    rw [es] at h
    simp only [Option.bind_some] at h
    split at h
    · rename_i hp
      rw [Bool.and_eq_true] at hp
      cases h
      exact ⟨ys, rfl, hp.1, hp.2, rfl⟩
    · cases h
/-- .index and .count of a tuple, of a list -/
theorem tup_call (hu : X.A.units + 65 < cLine) {m : Mth} (hm : m = .index ∨ m = .count) {xs : List SV} {a : Addr} {o : Obj} {vs : List V} {w z : SV} {y : V} {u : Value} {Q : VK} (I : Inv X pins σ H s) (R : Rel X.K g st σ1 H)
    (ho : H a = some (.frz o (.tup vs))) (rl : RepL X.K g.F g.c st.heap.length xs vs) (rw' : RepV X.K g st σ1 w y) (ru : RelV y u) (h : mthV st m (.tup xs) [w] = some z) (q : Res X.K g st σ1 H z Q) :
    wpAny (model X.prog X.w) X.A (call (.builtin (mthT m)) [.ref a, u]) (EP X pins σ Q) X.xe s := by
  obtain ⟨hob, _, its, rv, ob', ho', hc, n, hd⟩ := I.hok a _ ho
  rw [hob] at ho'; cases ho'
  obtain ⟨cls, dd, data, sl⟩ := o
  simp only at hc hd
  subst hc hd
  rcases hm with rfl | rfl
  · obtain ⟨ys, j, y0, e, hw, hys, rfl, h1, h2, h3⟩ := mthV_index h
    cases (show some xs = some ys from e)
    obtain ⟨as, hr, hmap⟩ := items_read (a := a) R I rl rv hys
    obtain ⟨bs, hy⟩ := Dp.reads I _ y u (repV_dp R rw' hw) ru
    have lay := SeqAt.canLay_of_shaped (pds_shaped hys).1
    have hroom : X.A.units + 1 + min (PyData.depthAll (toPDs xs)) (toPD w).depth < cLine := room_in_shaped (pd_shaped hw) hu
    have hlen : its.length = xs.length := by rw [← rv.length, ← rl.length]
    have hj : j < its.toArray.size := by rw [List.size_toArray, hlen]; exact (List.getElem?_eq_some_iff.mp h1).1
    have at_ : ∀ (m : Nat) (hm : m < its.toArray.size) (z' : SV), xs[m]? = some z' → SeqAt.readOf s.heap its.toArray[m] = toPD z' := by
      intro m hm z' hz'
      have e1 := congrArg (fun l => l[m]?) hmap
      have hm' : m < its.length := by simpa using hm
      rw [List.getElem?_map, List.getElem?_eq_getElem hm', toPDs_at, hz'] at e1
      simpa using e1
    refine call_meets PySem.F.slot_tuple_index ⟨_, hob, rfl⟩ PySem.F.entry_tuple_index (PySem.F.args_tuple_index_2 _ _)
      (SeqAt.tuple_index2_found a its.toArray n dd sl u (fun k => if hk : k < its.toArray.size then PyData.eqv (SeqAt.readOf s.heap its.toArray[k]) (toPD w) else false) j hj (Nat.zero_le _) hj ?_ ?_)
      ⟨hob, fun k hk => ?_, ?_⟩
    · rw [dif_pos hj, at_ j hj y0 h1, pd_eqv _ _ 50 50 (plains_at hys h1) hw]; exact h2
    · intro k hk _ hkj
      have hkx : k < xs.length := by rw [← hlen]; simpa using hk
      rw [dif_pos hk, at_ k hk _ (List.getElem?_eq_getElem hkx), pd_eqv _ _ 50 50 (plains_at hys (List.getElem?_eq_getElem hkx)) hw]
      exact h3 k _ hkj (List.getElem?_eq_getElem hkx)
    · rw [dif_pos hk]
      exact SeqAt.items_eqAt (vs := its.toArray) hr hy lay (SeqAt.canLay_of_shaped (pd_shaped hw)) hroom _ (Array.getElem_mem hk)
    · exact ⟨.int (j : Nat), H, I.tok _, ⟨_, rfl⟩, q.here R rfl⟩
  · obtain ⟨ys, e, hw, hys, rfl⟩ := mthV_count h
    cases (show some xs = some ys from e)
    obtain ⟨as, hr, hmap⟩ := items_read (a := a) R I rl rv hys
    obtain ⟨bs, hy⟩ := Dp.reads I _ y u (repV_dp R rw' hw) ru
    have lay := SeqAt.canLay_of_shaped (pds_shaped hys).1
    have hroom : X.A.units + 1 + min (PyData.depthAll (toPDs xs)) (toPD w).depth < cLine := room_in_shaped (pd_shaped hw) hu
    refine call_meets PySem.F.slot_tuple_count ⟨_, hob, rfl⟩ PySem.F.entry_tuple_count (PySem.F.args_tuple_count_2 _ _) (SeqAt.tuple_countAt a its.toArray n dd sl u fun y => PyData.eqv (SeqAt.readOf s.heap y) (toPD w))
      ⟨hob, SeqAt.items_eqAt (vs := its.toArray) hr hy lay (SeqAt.canLay_of_shaped (pd_shaped hw)) hroom, ?_⟩
    have e2 : its.toArray.toList.countP (fun y => PyData.eqv (SeqAt.readOf s.heap y) (toPD w)) = (xs.filter fun y => y.eqv w).length := by
      rw [List.toList_toArray, ← countP_pd hw hys, ← hmap, List.countP_map]; rfl
    rw [e2]
    exact ⟨.int _, H, I.tok _, ⟨_, rfl⟩, q.here R rfl⟩
theorem lst_call (hu : X.A.units + 65 < cLine) {m : Mth} (hm : m = .index ∨ m = .count) {v : SV} {xs : List SV} {a : Addr} {vs : List V} {w z : SV} {y : V} {u : Value} {Q : VK} (I : Inv X pins σ H s) (R : Rel X.K g st σ1 H)
    (ho : H a = some (.lst vs)) (hs : st.seq v = some xs) (rl : RepL X.K g.F g.c st.heap.length xs vs) (rw' : RepV X.K g st σ1 w y) (ru : RelV y u) (h : mthV st m v [w] = some z) (q : Res X.K g st σ1 H z Q) :
    wpAny (model X.prog X.w) X.A (call (.builtin (mthL m)) [.ref a, u]) (EP X pins σ Q) X.xe s := by
  rcases hm with rfl | rfl
  · obtain ⟨ys, j, y0, e, hw, hys, rfl, h1, h2, h3⟩ := mthV_index h
    cases hs.symm.trans e
    refine mt_indexD hu pins s σ H (.ref a) [y] (.ref a) [u] Q I rfl (.cons ru .nil) ⟨a, y, toPD w, toPDs xs, j, toPD y0, rfl, rfl, .lst (SqL.of ho) (RepL.dp R.sub xs vs 50 rl hys), repV_dp R rw' hw, (pds_shaped hys).1, pd_shaped hw,
      by rw [toPDs_at, h1]; rfl, by rw [pd_eqv _ _ 50 50 (plains_at hys h1) hw]; exact h2, fun m z' hm hz => ?_, q.here R rfl⟩
    rw [toPDs_at] at hz
    cases ez : xs[m]? with
    | none => rw [ez] at hz; cases hz
    | some z0 =>
      rw [ez] at hz
      cases hz
      rw [pd_eqv _ _ 50 50 (plains_at hys ez) hw]
      exact h3 m z0 hm ez
  · obtain ⟨ys, e, hw, hys, rfl⟩ := mthV_count h
    cases hs.symm.trans e
    obtain ⟨its, rv, pl, hz⟩ := I.list (SqL.of (K := X.K) ho)
    obtain ⟨⟨cls, dd, data, sl⟩, n, hob, hc, _, hd⟩ := pl
    simp only at hc hd
    subst hc hd
    obtain ⟨as, hr, hmap⟩ := items_read (a := a) R I rl rv hys
    obtain ⟨bs, hy⟩ := Dp.reads I _ y u (repV_dp R rw' hw) ru
    have lay := SeqAt.canLay_of_shaped (pds_shaped hys).1
    have hroom : X.A.units + 1 + min (PyData.depthAll (toPDs xs)) (toPD w).depth < cLine := room_in_shaped (pd_shaped hw) hu
    refine call_meets PySem.F.slot_list_count ⟨_, hob, rfl⟩ PySem.F.entry_list_count (PySem.F.args_list_count_2 _ _) (SeqAt.list_countAt a its.toArray n dd sl u fun y => PyData.eqv (SeqAt.readOf s.heap y) (toPD w))
      ⟨hob, SeqAt.items_eqAt (vs := its.toArray) hr hy lay (SeqAt.canLay_of_shaped (pd_shaped hw)) hroom, ?_⟩
    have e2 : its.toArray.toList.countP (fun y => PyData.eqv (SeqAt.readOf s.heap y) (toPD w)) = (xs.filter fun y => y.eqv w).length := by
      rw [List.toList_toArray, ← countP_pd hw hys, ← hmap, List.countP_map]; rfl
    rw [e2]
    exact ⟨.int _, H, I.tok _, ⟨_, rfl⟩, q.here R rfl⟩
theorem join_tl (sep : List Nat) : ∀ ts : List (List Nat), TL.tl (Str.join ⟨sep.toArray⟩ (ts.map fun t => ⟨t.toArray⟩)) = joinS sep ts
  | [] => rfl
  | [x] => by simp [Str.join, joinS, TL.tl]
  | x :: y :: r => by
    have ih := join_tl sep (y :: r)
    simp only [List.map_cons] at ih
    rw [List.map_cons, List.map_cons]
    unfold Str.join joinS
    rw [TL.tl_append, TL.tl_append, ih]
theorem strs_rep {K : PySem.W.Frag} {F : Hp} {c : Nat → Addr} {len : Nat} : ∀ {xs : List SV} {ts : List (List Nat)} {vs : List V}, strsV xs = some ts → RepL K F c len xs vs → vs = (ts.map fun t => (⟨t.toArray⟩ : Str)).map V.str
  | [], ts, vs, h, r => by cases h; exact r
  | x :: xs, ts, vs, h, ⟨y, ys, e, r1, r2⟩ => by
    cases x <;> first | (cases h; done) | skip
    rename_i t
    simp only [strsV, Option.map_eq_some_iff] at h
    obtain ⟨us, h1, rfl⟩ := h
    subst e
    rw [strs_rep h1 r2, show y = V.str ⟨t.toArray⟩ from r1]
    rfl
theorem join_call {sep : List Nat} {w z : SV} {y : V} {u v : Value} {Q : VK} (I : Inv X pins σ H s) (R : Rel X.K g st σ1 H) (rx : RelV (.str ⟨sep.toArray⟩) v) (rw' : RepV X.K g st σ1 w y) (ru : RelV y u) (h : mthV st .join (.str sep) [w] = some z) (q : Res X.K g st σ1 H z Q) :
    wpAny (model X.prog X.w) X.A (call (.builtin "str.join") [v, u]) (EP X pins σ Q) X.xe s := by
  unfold mthV at h
  simp only at h
  cases e : st.list w with
  | none => rw [e] at h; cases h
  | some ys =>
    rw [e] at h
    simp only [Option.bind_some] at h
    cases e2 : strsV ys with
    | none => rw [e2] at h; cases h
    | some ts =>
      rw [e2] at h
      simp only [Option.bind_some] at h
      split at h
      · rename_i hz
        cases h
        obtain ⟨p, vs, rfl, hp, rl⟩ := RepV.list R rw' e
        have ev := strs_rep e2 rl
        subst ev
        have hz' := small_le hz
        rw [sizeLine_eq] at hz'
        refine mt_join pins s σ H _ [_] v [u] Q I rx (.cons ru .nil) ⟨⟨sep.toArray⟩, p, ts.map fun t => ⟨t.toArray⟩, rfl, rfl, .inl (SqL.of hp), ?_, ?_⟩
        · have e3 : ((ts.map fun t => (⟨t.toArray⟩ : Str)).map (·.length)).sum = (ts.map List.length).sum := by
            rw [List.map_map]; congr 1
          rw [e3, List.length_map]
          exact hz'
        · have e4 : Txt.join ⟨sep.toArray⟩ (ts.map fun t => ⟨t.toArray⟩) = ⟨(joinS sep ts).toArray⟩ := by
            rw [TL.join_eq]
            refine TL.ext_tl ?_
            rw [join_tl]
          rw [e4]
          exact q.here R rfl
      · cases h
theorem seqList {v : SV} {xs : List SV} (h : st.seq v = some xs) (h1 : v.isScr = false) (h2 : ∀ ys, v ≠ .tup ys) : st.list v = some xs := by
  unfold Sta.seq at h
  cases v with
  | tup ys => exact absurd rfl (h2 ys)
  | scr _ => cases h1
  | _ => exact h
theorem tyL {a : Addr} {vs : List V} (I : Inv X pins σ H s) (h : H a = some (.lst vs)) : s.TypeIs (.ref a) "list" ∧ ∀ b, Value.ref a = .ref b → ∃ ob, s.heap.get? b = some ob ∧ ob.dict = none :=
  tyV_is (X := X) (x := .ref a) I rfl (.inl ⟨rfl, vs, SqL.of h⟩)
def MthGo (X : Cx) (m : Mth) (v1 : SV) (x : V) (v : Value) (s : Shared) : Prop :=
    ∃ T id, PlainAttrs T ∧ Slot T (mthN m) id ∧ typeOf (.builtin id) = pure (.type "method_descriptor") ∧ s.TypeIs v T ∧ (∀ a, v = .ref a → ∃ ob, s.heap.get? a = some ob ∧ ob.dict = none) ∧
      ∀ {pins' : List (Addr × Obj)} {σ' σ2 : L2.St} {H2 : Hp} {s2 : Shared} {g2 : Gh} {st2 : Sta} {vs : List SV} {xs : List V} {us : List Value} {w : SV} {Q : VK}, Inv X pins' σ' H2 s2 → Rel X.K g2 st2 σ2 H2 → RepV X.K g2 st2 σ2 v1 x → RepVs X.K g2 st2 σ2 vs xs → Vals xs us →
        mthV st2 m v1 vs = some w → Res X.K g2 st2 σ2 H2 w Q → wpAny (model X.prog X.w) X.A (call (.builtin id) (v :: us)) (EP X pins' σ' Q) X.xe s2
theorem mth_of (hu : X.A.units + 65 < cLine) {m : Mth} {v1 : SV} {x : V} {v : Value} (I : Inv X pins σ H s) (R : Rel X.K g st σ1 H) (r : RepV X.K g st σ1 v1 x) (rv : RelV x v) (hk : mthOk st m v1 = true) (hm : m ≠ .replace) :
    MthGo X m v1 x v s := by
  have seqCase : ∀ (hm : m = .index ∨ m = .count), (!v1.isScr && (st.seq v1).isSome) = true → MthGo X m v1 x v s := fun hm hk => by
    rw [Bool.and_eq_true, Bool.not_eq_true'] at hk
    obtain ⟨h1, h2⟩ := hk
    obtain ⟨ys, hs⟩ := Option.isSome_iff_exists.mp h2
    have one : ∀ {st2 : Sta} {vs : List SV} {w : SV}, mthV st2 m v1 vs = some w → ∃ u, vs = [u] := fun {st2 vs w} h => by
      rcases hm with rfl | rfl
      all_goals
        cases vs with
        | nil => simp [mthV] at h
        | cons u vs =>
          cases vs with
          | nil => exact ⟨u, rfl⟩
          | cons _ _ => simp [mthV] at h
    cases ht : (v1 matches .tup _) with
    | true =>
      cases v1 <;> first | (simp at ht; done) | skip
      rename_i zs
      obtain ⟨a, o, us, rfl, ha, hod, _⟩ := r.tupZ R
      obtain rfl : v = Value.ref a := rv
      obtain ⟨hob, _, its, _, ob', ho', hc, _, _⟩ := I.hok a _ ha
      rw [hob] at ho'; cases ho'
      refine ⟨"tuple", mthT m, PySem.F.plainAttrs_tuple, ?_, ?_, ⟨o, hob, hc⟩, fun b e => by cases e; exact ⟨o, hob, hod⟩, ?_⟩
      · rcases hm with rfl | rfl
        · exact PySem.F.slot_tuple_index
        · exact PySem.F.slot_tuple_count
      · rcases hm with rfl | rfl
        · exact PySem.F.type_tuple_index
        · exact PySem.F.type_tuple_count
      · intro pins' σ' σ2 H2 s2 g2 st2 vs xs us w Q I2 R2 r2 rs hv he q
        obtain ⟨u, rfl⟩ := one he
        obtain ⟨y, rfl, r3⟩ := repVs1 rs
        obtain ⟨uu, rfl, ru⟩ := vals1 hv
        obtain ⟨a', o', us', e1, ha', _, rl'⟩ := r2.tupZ R2
        cases e1
        exact tup_call hu hm I2 R2 ha' rl' r3 ru he q
    | false =>
      have nt : ∀ ys, v1 ≠ .tup ys := fun ys e => by subst e; simp at ht
      obtain ⟨a, us, rfl, ha, _⟩ := RepV.list R r (seqList hs h1 nt)
      obtain rfl : v = Value.ref a := rv
      obtain ⟨t1, t2⟩ := tyL I ha
      refine ⟨"list", mthL m, PySem.F.plainAttrs_list, ?_, ?_, t1, t2, ?_⟩
      · rcases hm with rfl | rfl
        · exact PySem.F.slot_list_index
        · exact PySem.F.slot_list_count
      · rcases hm with rfl | rfl
        · exact PySem.F.type_list_index
        · exact PySem.F.type_list_count
      · intro pins' σ' σ2 H2 s2 g2 st2 vs xs us w Q I2 R2 r2 rs hv he q
        obtain ⟨u, rfl⟩ := one he
        obtain ⟨y, rfl, r3⟩ := repVs1 rs
        obtain ⟨uu, rfl, ru⟩ := vals1 hv
        have hs2 : ∃ ys, st2.seq v1 = some ys := by
          rcases hm with rfl | rfl
          · obtain ⟨ys, _, _, e, _⟩ := mthV_index he; exact ⟨ys, e⟩
          · obtain ⟨ys, e, _⟩ := mthV_count he; exact ⟨ys, e⟩
        obtain ⟨ys, hs2⟩ := hs2
        obtain ⟨a', us', e1, ha', rl'⟩ := RepV.list R2 r2 (seqList hs2 h1 nt)
        cases e1
        exact lst_call hu hm I2 R2 ha' hs2 rl' r3 ru he q
  have dctCase : ∀ (hm : m = .get1 ∨ m = .get2), (st.dict v1).isSome = true → MthGo X m v1 x v s := fun hm hk => by
    obtain ⟨⟨ks, ws⟩, hd⟩ := Option.isSome_iff_exists.mp hk
    obtain ⟨a, o, rfl, ho, d⟩ := RepV.dict R r hd
    obtain rfl : v = Value.ref a := rv
    have hty : ∃ ob, s.heap.get? a = some ob ∧ ob.cls = .type "dict" ∧ ob.dict = none := by
      rcases d with ⟨kvs, rfl, _, _⟩ | ⟨b, xs, vs, rfl, _⟩
      · obtain ⟨_, _, _, _, ob, _, _, q1, q2, _⟩ := I.hok a _ ho
        exact ⟨ob, q1, q2.1, q2.2.1⟩
      · obtain rfl : b = a := nx_here (I.hok a _ ho)
        obtain ⟨⟨_, _, ob, _, _, q1, q2, _⟩, _⟩ := I.hok b _ ho
        exact ⟨ob, q1, q2.1, q2.2.1⟩
    obtain ⟨ob, q1, q2, q3⟩ := hty
    refine ⟨"dict", "dict.get", PySem.F.plainAttrs_dict, ?_, PySem.F.type_dict_get, ⟨ob, q1, q2⟩, fun b e => by cases e; exact ⟨ob, q1, q3⟩, ?_⟩
    · rcases hm with rfl | rfl <;> exact PySem.F.slot_dict_get
    · intro pins' σ' σ2 H2 s2 g2 st2 vs xs us w Q I2 R2 r2 rs hv he q
      rcases hm with rfl | rfl
      · unfold mthV at he
        split at he <;> first | (cases he; done) | contradiction | skip
        rename_i k _
        cases ed : st2.dict v1 with
        | none => rw [ed] at he; cases he
        | some kw =>
          obtain ⟨ks2, ws2⟩ := kw
          rw [ed] at he
          simp only [Option.bind_some] at he
          split at he
          · rename_i hkk
            cases he
            obtain ⟨y, rfl, r3⟩ := repVs1 rs
            obtain ⟨uu, rfl, ru⟩ := vals1 hv
            obtain ⟨p, o2, e1, ho2, d2, O⟩ := dict_ops hu R2 r2 ed hkk r3 I2 ru
            cases e1
            exact O.get1 _ _ fun z w' s3 I3 rz rw' => ⟨z, H2, I3, rz, q.here R2 rw'⟩
          · cases he
      · unfold mthV at he
        split at he <;> first | (cases he; done) | contradiction | skip
        rename_i k dd _
        cases ed : st2.dict v1 with
        | none => rw [ed] at he; cases he
        | some kw =>
          obtain ⟨ks2, ws2⟩ := kw
          rw [ed] at he
          simp only [Option.bind_some] at he
          split at he
          · rename_i hkk
            simp only [Bool.and_eq_true] at hkk
            cases he
            obtain ⟨y, z0, rfl, r3, r4⟩ := repVs2 rs
            obtain ⟨uu, uw, rfl, ru, ru2⟩ := Vals.two hv
            obtain ⟨p, o2, e1, ho2, d2, O⟩ := dict_ops hu R2 r2 ed hkk.1 r3 I2 ru
            cases e1
            have rd : Rep X.K g2.F g2.c st2.heap.length dd z0 := by
              cases dd <;> first | exact r4 | (simp [SV.isView] at hkk)
            exact O.get2 dd z0 uw _ _ rd ru2 fun z w' s3 I3 rz rw' => ⟨z, H2, I3, rz, q.here R2 rw'⟩
          · cases he
  cases m with
  | index => exact seqCase (.inl rfl) hk
  | count => exact seqCase (.inr rfl) hk
  | get1 => exact dctCase (.inl rfl) hk
  | get2 => exact dctCase (.inr rfl) hk
  | replace => exact absurd rfl hm
  | join =>
    cases v1 <;> first | (cases (show false = true from hk); done) | skip
    rename_i sep
    obtain rfl := r.str
    obtain ⟨t, rfl⟩ := rv
    refine ⟨"str", "str.join", PySem.F.plainAttrs_str, PySem.F.slot_str_join, PySem.F.type_str_join, typeIs_str s _ t, (fun _ e => nomatch e), ?_⟩
    intro pins' σ' σ2 H2 s2 g2 st2 vs xs us w Q I2 R2 r2 rs hv he q
    have one : ∃ u, vs = [u] := by
      cases vs with
      | nil => simp [mthV] at he
      | cons u vs =>
        cases vs with
        | nil => exact ⟨u, rfl⟩
        | cons _ _ => simp [mthV] at he
    obtain ⟨u, rfl⟩ := one
    obtain ⟨y, rfl, r3⟩ := repVs1 rs
    obtain ⟨uu, rfl, ru⟩ := vals1 hv
    exact join_call I2 R2 ⟨t, rfl⟩ r3 ru he q
end
section
variable {X : Cx} {E : ErT} {W : WX} {a b c e : Expr} {es : List Expr} {fa fb fc : Sta → Rs SV} {fs : Sta → Rs (List SV)} {p pos : Pos}
/-- a.m(e, ..) -/
theorem m_mth {m : Mth} (hm : m ≠ .replace) (hu : X.A.units + 65 < cLine) (ha : PE X a (tE X.K E W fa)) (hb : PA X (e :: es) (tA X.K E W fs)) (hbase : attributeBase a (mthN m) X.env (eval a X.env) = eval a X.env) (hline : (p.endLine == pos.line) = true)
    (hfew : ((backTo pos (starEach (e :: es) X.env)).all (fun x => !x.1) && (backToKw pos (keywordEach [] X.env)).all (fun x => x.1.isSome)
      && decide ((e :: es).length + ([] : List Keyword).length + (if ([] : List Keyword).isEmpty then 0 else 1) < 30)) = true)
    (hs : starEach (e :: es) X.env = (false, eval e X.env) :: starEach es X.env) (hpl : (backTo pos (starEach es X.env)).any (·.1) = false) :
    PE X (.Call (.Attribute a (mthN m) p) (e :: es) [] pos) (tE X.K E W fun s => (fa s).bind fun x s => if mthOk s m x then (fs s).bind fun vs s => Rs.of (mthV s m x vs) s else .bad) := by
  refine ⟨fun pins s σ H Q I ⟨g, st, R, h⟩ => ?_⟩
  have key : tE X.K E W fa σ H fun x H1 => ∃ v1 g1 st1, Rel X.K g1 st1 σ H1 ∧ RepV X.K g1 st1 σ v1 x ∧ mthOk st1 m v1 = true ∧ tA X.K E W fs σ H1 fun xs H2 => ∃ g2 st2 vs w, Rel X.K g2 st2 σ H2 ∧ RepV X.K g2 st2 σ v1 x ∧ RepVs X.K g2 st2 σ vs xs ∧ mthV st2 m v1 vs = some w ∧ Res X.K g2 st2 σ H2 w Q := by
    refine tE.seq R h fun v x g1 st1 H1 G R1 r h => ?_
    split at h
    · rename_i hk
      refine ⟨v, g1, st1, R1, r, hk, tA.seq R1 h fun ws ys g2 st2 H2 G2 R2 r2 h => ?_⟩
      obtain ⟨z, hz, q⟩ := Res.of_out h
      exact ⟨g2, st2, ws, z, R2, r.up G2, r2, hz, q⟩
    · exact h.elim
  refine wpAny_Call_method_late hbase hfew hline rfl (thn (ha.run pins s σ H _ I key) fun v s1 ⟨x, H1, I1, rx, v1, g1, st1, R1, r, hk, q1⟩ => ?_)
  obtain ⟨T, id, pa, slot, hty, h1, h2, fin⟩ := mth_of hu I1 R1 r rx hk hm
  refine ⟨T, id, pa, slot, hty, h1, h2, ?_⟩
  have hA := hb.run pos pins s1 σ H1 _ I1 q1
  rw [hs] at hA ⊢
  refine Calls.callWith_builtin (by show (false || (backTo pos (starEach es X.env)).any (·.1)) = false; rw [hpl] <;> rfl) (Calls.evalArgs_plain ?_)
  exact thn hA fun us s2 ⟨vs, H2, I2, r2, g2, st2, ws, w, R2, r3, r4, he, q⟩ => fin I2 R2 r3 r4 r2 he q
theorem digits_num : ∀ (k n : Nat) (acc : List Nat), n < 10 ^ k → digits k n acc = (if k = 0 then acc else TL.numL n ++ acc)
  | 0, _, _, _ => rfl
  | k + 1, n, acc, h => by
    rw [if_neg (Nat.succ_ne_zero k)]
    unfold digits
    by_cases hn : n < 10
    · rw [if_pos hn, TL.numL_lt hn]; rfl
    · rw [if_neg hn]
      have hk : k ≠ 0 := fun z => by subst z; omega
      have h10 : n / 10 < 10 ^ k := by rw [Nat.pow_succ] at h; exact Nat.div_lt_of_lt_mul (by rw [Nat.mul_comm]; exact h)
      rw [digits_num k (n / 10) _ h10, if_neg hk, TL.numL_step (n := n) (Nat.not_lt.mp hn), List.append_assoc]; rfl
theorem cr_str : CallR X (.type "str") (rBlt X.K .str) := by
  intro pins s σ' H xs us Q I r h
  obtain ⟨g, st, σ, vs, v, R, rr, hv, q⟩ := h
  unfold bltV at hv
  split at hv <;> first | (cases hv; done) | contradiction | skip
  rename_i i _
  split at hv
  · rename_i hi
    simp only [Bool.and_eq_true, decide_eq_true_eq] at hi
    cases hv
    obtain ⟨x, rfl, ra⟩ := repVs1 rr
    obtain rfl := ra.int
    refine call_str_int pins s σ' H _ us Q I r ⟨i, rfl, ?_, ?_⟩
    · by_cases h0 : i.natAbs = 0
      · rw [h0]; decide
      · rw [Nat.log2_lt h0]
        exact Nat.lt_of_lt_of_le hi.2 (Nat.le_trans (by decide : 10000000000 ≤ 2 ^ 64) (Nat.pow_le_pow_right (by decide) (by decide)))
    · obtain ⟨n, rfl⟩ := Int.eq_ofNat_of_zero_le hi.1
      have e : (toString ((n : Nat) : Int) : Str) = ⟨(strI (n : Nat)).toArray⟩ := by
        refine TL.ext_tl ?_
        show TL.tl (Str.ofString (toString ((n : Nat) : Int))) = strI (n : Nat)
        rw [TL.tl_num]
        unfold strI
        rw [if_neg (by omega), digits_num 12 _ _ (by have := hi.2; simp at this; omega)]
        simp
      rw [e]
      exact q.here R rfl
  · cases hv
/-- f(e, ..), any of them -/
theorem m_bltA {bb : Blt} {x : Str} (hc : X.calm = true) (hu : X.A.units + 65 < cLine) (hg : Gl X x) (hm : X.mg x = none) (hv : bootBuiltins x = some (bltF bb)) (ha : PA X (e :: es) (tA X.K E W fs))
    (hn : x ≠ "__name__") (hdb : (x == ("__debug__" : Str)) = false) (he : starEach (e :: es) X.env = (false, eval e X.env) :: starEach es X.env) (hpl : (backTo pos (starEach es X.env)).any (·.1) = false) :
    PE X (.Call (.Name x p) (e :: es) [] pos) (tE X.K E W fun s => (fs s).bind fun vs s => Rs.of (bltV s bb vs) s) := by
  by_cases hb : bb = .str
  · subst hb
    exact PE.imp (pe_callTy cr_str hg hm hv ha hn hdb he hpl) fun σ H Q h => blt_imp rfl h
  · exact m_blt hc hu hb hg hm hv ha hn hdb he hpl
end
end Mq

namespace Mq
open PySem PySem.Spec PyProof.Rows L2 Mp
section
variable {prog : Program} {w : World} {A : Around} {E : Value → Shared → Prop} {s : Shared}
theorem applied_rev {sl : Addr} {vs : Value} {n : Nat} {Q : Int × Int × Nat → Shared → Prop} (hs : s.heap.IsSliceOf sl .none .none vs) (ps : IsPart vs (some (-1)))
    (h : Q ((n : Int) - 1, -1, n) s) : wpAny (model prog w) A (Builtin.Slice.sliceApplied (.ref sl) (pure (n : Int))) Q E s := by
  obtain ⟨ob, hob, hc, hd⟩ := id hs
  unfold Builtin.Slice.sliceApplied Builtin.Slice.sliceFields
  refine wpAny_bind (wpAny_bind (wpAny_field hob hd (x := .none) rfl (wpAny_bind (wpAny_field hob hd (x := .none) rfl (wpAny_bind (wpAny_field hob hd (x := vs) rfl (wpAny_pure ?_)))))))
  refine wpAny_bind (HT.slicePart_ ps ?_)
  show wpAny _ _ (if ((-1 : Int) == 0) = true then _ else _) _ _ s
  rw [if_neg (by decide)]
  refine wpAny_bind (HT.slicePart_ .none (wpAny_bind (HT.slicePart_ .none (wpAny_bind (wpAny_pure ?_)))))
  have e : Builtin.Slice.sliceAdjust none none (-1) (n : Int) = ((n : Int) - 1, -1) := by simp [Builtin.Slice.sliceAdjust]
  show wpAny _ _ (match Builtin.Slice.sliceAdjust none none (-1) (n : Int) with | (lo, hi) => pure (lo, (-1 : Int), Builtin.Slice.slicePlaces lo hi (-1))) _ _ s
  rw [e]
  have e2 : Builtin.Slice.slicePlaces ((n : Int) - 1) (-1) (-1) = n := by
    unfold Builtin.Slice.slicePlaces
    rw [if_neg (by decide)]
    cases n with
    | zero => decide
    | succ k =>
      rw [if_pos (by omega)]
      simp only [Int.neg_neg, Int.ediv_one]
      omega
  show wpAny _ _ (pure ((n : Int) - 1, (-1 : Int), Builtin.Slice.slicePlaces ((n : Int) - 1) (-1) (-1))) _ _ s
  rw [e2]
  exact wpAny_pure h
theorem fm_congr {f g : Nat → Option Value} : ∀ {l : List Nat}, (∀ m ∈ l, f m = g m) → l.filterMap f = l.filterMap g
  | [], _ => rfl
  | a :: l, h => by
    rw [List.filterMap_cons, List.filterMap_cons, h a List.mem_cons_self, fm_congr fun m hm => h m (List.mem_cons_of_mem _ hm)]
theorem pick_rev (l : List Value) : (List.range l.length).filterMap (fun (m : Nat) => l.toArray[((l.length : Int) - 1 + (m : Int) * (-1)).toNat]?) = l.reverse := by
  have e : (List.range l.length).filterMap (fun (m : Nat) => l.toArray[((l.length : Int) - 1 + (m : Int) * (-1)).toNat]?) = (List.range l.length).filterMap fun m => l.reverse[m]? := by
    refine fm_congr fun m hm => ?_
    rw [List.mem_range] at hm
    have : ((l.length : Int) - 1 + (m : Int) * (-1)).toNat = l.length - 1 - m := by omega
    rw [this, List.getElem?_toArray, List.getElem?_reverse hm]
  rw [e]
  have : ∀ (r : List Value), (List.range r.length).filterMap (fun m => r[m]?) = r := fun r => by
    induction r with
    | nil => rfl
    | cons a r ih =>
      rw [List.length_cons, List.range_succ_eq_map, List.filterMap_cons, List.filterMap_map]
      simp only [List.getElem?_cons_zero]
      congr 1
  have h := this l.reverse
  rw [List.length_reverse] at h
  exact h
theorem getItem_rev {t sl : Addr} {its : List Value} {vs : Value} {Q : Value → Shared → Prop} (ht : IsTup s.heap t its.toArray) (hs : s.heap.IsSliceOf sl .none .none vs) (ps : IsPart vs (some (-1)))
    (h : Q (.ref s.heap.objs.size) { s with heap := s.heap.push { cls := .type "tuple", data := .seq its.reverse.toArray } }) (hsz : its.length ≤ sizeLine) : wpAny (model prog w) A (getItem (.ref t) (.ref sl)) Q E s := by
  have hz : sizeOk (.seq its.reverse.toArray) := by
    show its.reverse.toArray.size ≤ sizeLine
    rw [List.size_toArray, List.length_reverse]; exact hsz
  obtain ⟨ob, hob, hc, hd⟩ := id hs
  have hTs : s.TypeIs (.ref sl) "slice" := ⟨ob, hob, hc⟩
  unfold getItem
  try with_reducible refine wpAny_holding ?_
  first | refine wpAny_bind (wpAny_pure ?_) | skip
  refine wpAny_bind (wpAny_sequenceKey ht.typeIs (by decide) ?_)
  refine wpAny_bind (wpAny_callSpecial?_slot (name := Str.ofString "__getitem__") ht.typeIs PyProof.Rows.slot_tuple_getitem (wpAny_call_entry PyProof.Rows.slot_tuple_getitem ht.typeIs entry_tuple_getitem ?_ (args_tuple_getitem _ _)))
  show wpAny _ _ (Builtin.Tuple.tupleItemsOf (.ref t) >>= _) _ _ s
  refine wpAny_bind (tupleItemsOf_ ht ?_)
  refine wpAny_bind (wpAny_typeOf hTs ?_)
  rw [if_pos (by decide)]
  refine wpAny_bind (applied_rev hs ps ?_)
  have hno : ¬ ((((its.toArray.size : Nat) : Int) - 1 == 0 && (-1 : Int) == 1 && its.toArray.size == its.toArray.size) = true) := by simp
  show wpAny _ _ (if (((its.toArray.size : Nat) : Int) - 1 == 0 && (-1 : Int) == 1 && its.toArray.size == its.toArray.size) = true then _ else _) _ _ s
  rw [if_neg hno]
  have e : ((List.range its.toArray.size).filterMap fun (k : Nat) => its.toArray[(((its.toArray.size : Nat) : Int) - 1 + (k : Int) * (-1)).toNat]?).toArray = its.reverse.toArray := by
    rw [List.size_toArray, pick_rev]
  rw [e]
  first
    | exact wpAny_bind (m := Builtin.Tuple.tupleExact _) (wpAny_newObj_type (wpAny_pure ⟨_, rfl, wpAny_pure h⟩) hz)
    | exact wpAny_bind (m := Builtin.Tuple.tupleExact _) (wpAny_newObj_type (wpAny_bind (wpAny_pure (wpAny_pure ⟨_, rfl, wpAny_pure h⟩))) hz)
    | exact wpAny_bind (wpAny_bind (m := Builtin.Tuple.tupleExact _) (wpAny_newObj_type (wpAny_pure (wpAny_pure ⟨_, rfl, wpAny_pure h⟩)) hz))
    | exact wpAny_bind (wpAny_bind (m := Builtin.Tuple.tupleExact _) (wpAny_newObj_type (wpAny_pure ⟨_, rfl, wpAny_pure h⟩) hz))
end
section
variable {X : Cx} {E : ErT} {W : WX} {a e : Expr} {fa : Sta → Rs SV} {p1 p2 p3 pos : Pos} {k : Nat}
/-- a[::-1], the shape of the rule -/
theorem pe_rev {te : TE} (he : PE X e te) : PE X (.Subscript e (.Slice none none (some (.UnaryOp .USub (.Constant (.int 1) k p1) p2)) p3) pos) fun σ H Q => te σ H fun x H1 =>
    ∃ a xs, x = .ref a ∧ ((SqL X.K H1 a xs ∧ ∀ p, H1 p = none → Q (.ref p) (upd H1 p (.lst xs.reverse))) ∨ (SqT X.K H1 a xs ∧ ∀ p o, H1 p = none → o.dict = none → Q (.ref p) (upd H1 p (.frz o (.tup xs.reverse))))) := by
  refine ⟨fun pins s σ H Q I h => ?_⟩
  have hst : PO X (some (.UnaryOp .USub (.Constant (.int 1) k p1) p2)) (tPart (tUn (rU fun i => .int (-i)) (tC (.int 1)))) := po_some (pe_un un_neg pe_int)
  refine Subscript_ (thn (he.run pins s σ H _ I h) fun v s1 ⟨x, H1, I1, r1, b, xs, ex, alt⟩ => ?_)
  subst ex
  cases r1
  refine wpAny_Slice (thn (po_none.run pins s1 σ H1 (fun o H2 => o = none ∧ H2 = H1) I1 ⟨rfl, rfl⟩) fun vl s2 ⟨l, H2, I2, pl, el, e2⟩ => ?_)
  subst el e2
  refine thn (po_none.run pins s2 σ H2 (fun o H3 => o = none ∧ H3 = H2) I2 ⟨rfl, rfl⟩) fun vu s3 ⟨u, H3, I3, pu, eu, e3⟩ => ?_
  subst eu e3
  refine thn (hst.run pins s3 σ H3 (fun o H4 => o = some (-1) ∧ H4 = H3) I3 ⟨1, rfl, -1, rfl, rfl, rfl⟩) fun vs s4 ⟨o, H4, I4, ps, eo, e4⟩ => ?_
  subst eo e4
  cases pl
  cases pu
  have I5 : Inv X pins σ H4 { s4 with heap := s4.heap.push { cls := .type "slice", data := .fields #[.none, .none, vs] } } := I4.kept (t' := s4.toks) fun _ _ q => Heap.get?_push_of_some _ q
  have hsl := Heap.IsSliceOf.new s4.heap .none .none vs
  show wpAny (model X.prog X.w) X.A (subscriptTail e _ (.ref b) (.ref s4.heap.objs.size)) (EP X pins σ Q) X.xe { s4 with heap := s4.heap.push { cls := .type "slice", data := .fields #[.none, .none, vs] } }
  rcases alt with ⟨hx, q⟩ | ⟨hx, q⟩
  · obtain ⟨its, r, ht, hz⟩ := I5.list hx
    have hl := r.length
    refine tail_any (ops := [.ref b, .ref s4.heap.objs.size]) ht.isList.typeIs (PySem.slot_list_getitem.lookup) ?_ (by with_unfolding_all rfl)
    refine wpAny_getItem_list_slice ht.isList hsl .none .none ps (by decide) ?_ (by rw [List.size_toArray]; omega)
    rw [PySem.W.krv_pick]
    exact ⟨.ref _, _, I5.laid (t' := s4.toks) (o := .lst xs.reverse) (fun _ _ q => Heap.get?_push_of_some _ q) (Nat.le_refl _) ⟨by rw [List.length_reverse]; exact hz, _, 0, r.reverse, Heap.get?_push_size _ rfl⟩, rfl, q _ (I5.hok.fresh (Nat.le_refl _))⟩
  · obtain ⟨its, r, ht, hz⟩ := I5.tuple hx
    refine tail_any (ops := [.ref b, .ref s4.heap.objs.size]) ht.typeIs PyProof.Rows.slot_tuple_getitem.lookup ?_ (by with_unfolding_all rfl)
    exact getItem_rev ht hsl ps (newTup I5 r.reverse (by rw [List.length_reverse]; exact hz) q) (by rw [← r.length]; exact hz)
theorem m_rev (ha : PE X e (tE X.K E W fa)) : PE X (.Subscript e (.Slice none none (some (.UnaryOp .USub (.Constant (.int 1) k p1) p2)) p3) pos) (tE X.K E W fun s => (fa s).bind fun x s => Rs.of (revV s x) s) := by
  refine PE.imp (pe_rev ha) fun σ H Q ⟨g, st, R, h⟩ => tE.seq R h fun v x g1 st1 H1 G R1 r h => ?_
  obtain ⟨z, hz, q⟩ := Res.of_out h
  unfold revV at hz
  cases ht : (v matches .tup _) with
  | true =>
    cases v <;> first | (simp at ht; done) | skip
    cases hz
    obtain ⟨a, vs, rfl, ha, rl⟩ := RepV.tup R1 r
    exact ⟨a, vs, rfl, .inr ⟨ha, fun p o hp ho => Res.tup R1 q (RepL.reverse rl) hp ho⟩⟩
  | false =>
    have hz : (st1.list v).map (fun xs => SV.lst xs.reverse) = some z := by
      cases v <;> first | exact hz | (simp at ht; done)
    cases e1 : st1.list v with
    | none => rw [e1] at hz; cases hz
    | some xs =>
      rw [e1] at hz
      cases hz
      obtain ⟨a, vs, rfl, ha, rl⟩ := RepV.list R1 r e1
      exact ⟨a, vs, rfl, .inl ⟨SqL.of ha, fun p hp => Res.lst R1 q (RepL.reverse rl) hp⟩⟩
/-- a new list, back to front -/
theorem m_revF (ha : PE X e (tE X.K E W fa)) : PE X (.Subscript e (.Slice none none (some (.UnaryOp .USub (.Constant (.int 1) k p1) p2)) p3) pos) (tF X.K E W fun s => (fa s).bind fun x s => freshC ((s.list x).map List.reverse) s) := by
  refine PE.imp (pe_rev ha) fun σ H Q ⟨g, st, R, h⟩ => tE.seq R h fun v x g1 st1 H1 G R1 r h => ?_
  obtain ⟨zs, ez, h⟩ := freshC_some h
  cases e1 : st1.list v with
  | none => rw [e1] at ez; cases ez
  | some xs =>
    rw [e1] at ez
    cases ez
    obtain ⟨a, vs, rfl, ha, rl⟩ := RepV.list R1 r e1
    exact ⟨a, vs, rfl, .inl ⟨SqL.of ha, fun p hp => tF_list (fun a q => none_back G q) R1 h (RepL.reverse rl) hp⟩⟩
/-- a new list, cut out of a list -/
theorem m_slcF {lo hi : Option Expr} {fl fh : Sta → Rs (Option Int)} (ha : PE X a (tE X.K E W fa)) (hl : PO X lo (tO X.K E W fl)) (hh : PO X hi (tO X.K E W fh)) :
    PE X (.Subscript a (.Slice lo hi none p3) pos) (tF X.K E W fun s => (fa s).bind fun x s => (fl s).bind fun l s => (fh s).bind fun h s => freshC ((s.list x).map fun xs => cut xs l h) s) := by
  refine PE.imp (pe_slice sl_list ha hl hh) fun σ H Q ⟨g, st, R, h⟩ => tE.seq R h fun v x g1 st1 H1 G R1 r h => tO.seq R1 h fun l g2 st2 H2 G2 R2 h => tO.seq R2 h fun u g3 st3 H3 G3 R3 h => ?_
  obtain ⟨zs, ez, h⟩ := freshC_some h
  cases e1 : st3.list v with
  | none => rw [e1] at ez; cases ez
  | some xs =>
    rw [e1] at ez
    cases ez
    obtain ⟨p, vs, rfl, hp, rl⟩ := RepV.list R3 ((r.up G2).up G3) e1
    exact ⟨p, vs, rfl, SqL.of hp, fun p hp => tF_list (fun a q => none_back (G.trans (G2.trans G3)) q) R3 h (cut_rep rl _ _) hp⟩
end
end Mq

namespace Mq
open PySem PySem.Spec PyProof.Rows L2 Mp
section
variable {K : PySem.W.Frag} {F : Hp} {c : Nat → Addr} {len : Nat}
theorem keys_repL : ∀ {ks : List SV} {kvs : List (Key × V)}, ks.map keyOf = kvs.map (fun p => some p.1) → RepL K F c len ks (kvs.map fun p => kV p.1)
  | [], [], _ => rfl
  | [], _ :: _, h => by simp at h
  | _ :: _, [], h => by simp at h
  | k :: ks, p :: kvs, h => by
    simp only [List.map_cons, List.cons.injEq] at h
    refine ⟨kV p.1, kvs.map fun p => kV p.1, rfl, ?_, keys_repL h.2⟩
    have e := h.1
    cases k <;> first | (cases e; done) | skip
    · cases e' : p.1 with
      | inl i => rw [e'] at e; cases e; exact rfl
      | inr i => rw [e'] at e; cases e
    · cases e' : p.1 with
      | inl i => rw [e'] at e; cases e
      | inr i => rw [e'] at e; cases e; exact rfl
theorem pairs_vals {P : Program} {w : World} : ∀ {l : List DictEntry} {kvs : List (Key × V)} {vs : List (Key × Value)}, PySem.Pairs (mixKind P w) l vs → KV kvs vs → Vals (kvs.map fun p => kV p.1) (l.map (·.key)) ∧ Vals (kvs.map (·.2)) (l.map (·.val))
  | _, _, _, .nil, r => by cases r; exact ⟨.nil, .nil⟩
  | _, _, _, .cons h1 h2 t, r => by
    cases r with
    | cons a b =>
      obtain ⟨q1, q2⟩ := pairs_vals t b
      refine ⟨.cons ?_ q1, .cons ?_ q2⟩
      · rename_i e kv es kvs a0 l1
        show RelV (kV a0.1) e.key
        rw [a.1]; exact keyIs_rel h1
      · rename_i e kv es kvs a0 l1
        show RelV a0.2 e.val
        rw [h2]; exact a.2
theorem nx_vals {P : Program} {w : World} : ∀ (xs : List (NestedKey × Addr × Value)), Vals (xs.map fun x => V.ref x.2.1) ((xs.map (entryOfKey (nestedKind P w))).map (·.key))
  | [] => .nil
  | x :: xs => .cons rfl (nx_vals xs)
theorem nx_vals2 {P : Program} {w : World} (xs : List (NestedKey × Addr × Value)) : (xs.map (entryOfKey (nestedKind P w))).map (·.val) = xs.map (·.2.2) := by
  rw [List.map_map]; rfl
end
section
variable {X : Cx} {pins : List (Addr × Obj)} {σ σ1 : L2.St} {H : Hp} {s : Shared} {g : Gh} {st : Sta} {a : SV} {x : V}
structure DRaw (X : Cx) (g : Gh) (st : Sta) (H : Hp) (s : Shared) (ks ws : List SV) (p : Addr) (es : Array DictEntry) (ep : Nat) (kz wz : List V) : Prop where
  lo : (p == sysModules) = false
  raw : s.heap.DictRaw p es ep
  size : es.size = ks.length
  few : es.size ≤ sizeLine
  rk : RepL X.K g.F g.c st.heap.length ks kz
  rw_ : RepL X.K g.F g.c st.heap.length ws wz
  vk : Vals kz (es.toList.map (·.key))
  vw : Vals wz (es.toList.map (·.val))
theorem dict_raw {ks ws : List SV} (R : Rel X.K g st σ1 H) (ra : RepV X.K g st σ1 a x) (e : st.dict a = some (ks, ws)) (I : Inv X pins σ H s) :
    ∃ p es ep kz wz, x = .ref p ∧ DRaw X g st H s ks ws p es ep kz wz := by
  obtain ⟨p, o, ex, ho, d⟩ := RepV.dict R ra e
  rcases d with ⟨kvs, rfl, h2, h3⟩ | ⟨b, xs, vs, rfl, h2, ⟨_, hl, hs, _, _, hv⟩, h4, h5⟩
  · obtain ⟨z, hsys, vs, rel, ob, es, ep, q1, q2, q3, q4, q5, q6⟩ := I.hok p _ ho
    obtain ⟨v1, v2⟩ := pairs_vals q5 rel
    have e1 : es.size = kvs.length := by rw [← Array.length_toList, PySem.Pairs.length q5]; exact (KV.length rel).symm
    have e2 : kvs.length = ks.length := by have := congrArg List.length h2; simpa using this.symm
    exact ⟨p, es, ep, _, _, ex, hsys, ⟨ob, q1, q2, q3⟩, by omega, by omega, keys_repL h2, h3, v1, v2⟩
  · obtain rfl : b = p := nx_here (I.hok p _ ho)
    obtain ⟨⟨P, w, ob, es, ep, q1, q2, q3, q4⟩, _⟩ := I.hok b _ ho
    have e1 : es.size = xs.length := by rw [← Array.length_toList, q4, List.length_map]
    have e2 : xs.length = ks.length := by have := congrArg List.length h2; simpa using this.symm
    refine ⟨b, es, ep, _, _, ex, hs, ⟨ob, q1, q2, q3⟩, by omega, by omega, h4, h5, ?_, ?_⟩
    · rw [q4]; exact nx_vals xs
    · rw [q4, nx_vals2]; exact hv
end
section
variable {prog : Program} {w : World} {A : Around} {E : Value → Shared → Prop} {s : Shared} {d : Addr} {es : Array DictEntry} {ep : Nat}
theorem meets_keys_raw (hd : (d == sysModules) = false) :
    MeetsIn prog w (Builtin.«dict.keys» ⟨[.ref d], []⟩) (fun _ R s => (∃ es ep, s.heap.DictRaw d es ep) ∧
      R (.ok (.ret (.ref s.heap.objs.size))) { s with heap := s.heap.push { cls := .type "dict_keys", data := .fields #[.ref d] } }) :=
  .of_wp fun A R s ⟨⟨es, ep, hm⟩, h⟩ => by
    refine wpAny_bind ?_
    unfold Builtin.Dict.noArgs
    refine wpAny_bind (wpAny_notOrdered_dict hm.typeIs ?_)
    show wpAny _ _ (pure d) _ _ s
    refine wpAny_pure ?_
    show wpAny _ _ (Builtin.Dict.showsAll d >>= _) _ _ s
    unfold Builtin.Dict.showsAll
    rw [if_neg (by rw [hd]; exact Bool.false_ne_true)]
    refine wpAny_bind (wpAny_pure ?_)
    exact wpAny_bind (wpAny_newObj_type (wpAny_pure ⟨_, rfl, h⟩))
theorem meets_values_raw (hd : (d == sysModules) = false) :
    MeetsIn prog w (Builtin.«dict.values» ⟨[.ref d], []⟩) (fun _ R s => (∃ es ep, s.heap.DictRaw d es ep) ∧
      R (.ok (.ret (.ref s.heap.objs.size))) { s with heap := s.heap.push { cls := .type "dict_values", data := .fields #[.ref d] } }) :=
  .of_wp fun A R s ⟨⟨es, ep, hm⟩, h⟩ => by
    refine wpAny_bind ?_
    unfold Builtin.Dict.noArgs
    refine wpAny_bind (wpAny_notOrdered_dict hm.typeIs ?_)
    show wpAny _ _ (pure d) _ _ s
    refine wpAny_pure ?_
    show wpAny _ _ (Builtin.Dict.showsAll d >>= _) _ _ s
    unfold Builtin.Dict.showsAll
    rw [if_neg (by rw [hd]; exact Bool.false_ne_true)]
    refine wpAny_bind (wpAny_pure ?_)
    exact wpAny_bind (wpAny_newObj_type (wpAny_pure ⟨_, rfl, h⟩))
theorem items_map {f : DictEntry → Value} {acc : Array Value} (h : PySem.ItemsOf (fun i v => ∃ hi : i < es.size, v = f es[i]) acc es.size) : acc.toList = es.toList.map f := by
  refine List.ext_getElem? fun j => ?_
  rw [List.getElem?_map, Array.getElem?_toList, Array.getElem?_toList]
  cases e : acc[j]? with
  | none =>
    have : acc.size ≤ j := by simpa using e
    rw [h.1] at this
    rw [Array.getElem?_eq_none this]; rfl
  | some v =>
    obtain ⟨hi, rfl⟩ := h.2 j v e
    rw [Array.getElem?_eq_getElem hi]; rfl
end
section
variable {X : Cx} {pins : List (Addr × Obj)} {σ σ1 : L2.St} {H : Hp} {s : Shared} {g : Gh} {st : Sta}
theorem sortOn_of {xs zs : List SV} (h : sortT xs = some zs) : sortOn xs = some zs := by
  unfold sortOn
  split
  · rename_i x
    have h0 := h
    unfold sortT at h
    split at h
    · rename_i hc
      simp only [Bool.and_eq_true] at hc
      have hp := allAlk_plains hc.1.1
      have : x.plain = true := plains_mem hp.1 x List.mem_cons_self
      cases h
      rw [if_pos this]; rfl
    · cases h
  · exact h
theorem srt_rest1 {x : SV} {zs : List SV} {vs : List V} {its : List Value} {src : Value} {n : Nat} {Q : VK} (hu : X.A.units + 65 < cLine) (I : Inv X pins σ H s) (R : Rel X.K g st σ1 H)
    (hcol : ∀ (Z : List Value → Shared → Prop), (∀ (h' : Heap) (tk : Nat), (∀ b o, s.heap.get? b = some o → h'.get? b = some o) → Z its { s with heap := h', toks := tk }) → wpAny (model X.prog X.w) X.A.in1 (collect src) Z X.xe s)
    (rl : RepL X.K g.F g.c n [x] vs) (rv : Vals vs its) (hz : (if x.plain then some [x] else none) = some zs)
    (q : ∀ vs p, RepL X.K g.F g.c n zs vs → H p = none → Q (.ref p) (upd H p (.lst vs))) :
    wpAny (model X.prog X.w) X.A (call (.builtin "sorted") [src]) (EP X pins σ Q) X.xe s := by
  split at hz
  · cases hz
    have hlen : its.length = 1 := by rw [← rv.length, ← rl.length]; rfl
    have hZ : its.length ≤ sizeLine := by rw [hlen]; decide
    refine Calls.call_function_entry kind_sorted plain_sorted entry_sorted (args_sorted1 _) ?_
    unfold Builtin.«sorted»
    refine wpAny_bind (m := checkCount "sorted" 1 1 _) (wpAny_pure ?_)
    refine wpAny_bind (hcol _ fun h' tk hk' => ?_)
    refine wpAny_bind (wpAny_newList ?_ hZ)
    have ho : (h'.push { cls := .type "list", data := .seq its.toArray }).get? h'.objs.size = some (seqObj "list" its.toArray 0) := Heap.get?_push_size _ rfl
    refine wpAny_bind (wpAny_holding (wpAny_call_entry slot_list_sort ⟨_, ho, rfl⟩ entry_list_sort (_root_.Srt.list_sort_any ho hZ (fun h2 => absurd h2 (by omega)) fun out hp => ⟨.none, rfl, ?_⟩) (args_list_sort _)))
    have I' : Inv X pins σ H { s with heap := h', toks := tk } := I.kept hk'
    have he : out = its := by
      obtain ⟨u, rfl⟩ := List.length_eq_one_iff.mp hlen
      exact List.perm_singleton.mp hp
    subst he
    obtain ⟨e, hat⟩ := sortedHeap_at (out := out.toArray) ho
    have hlw : vs.length ≤ sizeLine := by rw [rv.length]; exact hZ
    refine wpAny_pure ⟨_, rfl, .ref h'.objs.size, _, I'.laid (t' := tk) (h' := sortedHeap (h'.push { cls := .type "list", data := .seq out.toArray }) h'.objs.size out out.toArray)
      (fun b o q => (sortedHeap_old (Nat.ne_of_lt (Heap.lt_size q)) (Heap.lt_size (Heap.get?_push_of_some _ q))).trans (Heap.get?_push_of_some _ q)) (Nat.le_refl _) (show ObjOk X.prog X.w _ _ _ (.lst vs) from ⟨hlw, out, e, rv, hat⟩), rfl, q vs _ rl (I'.hok.fresh (Nat.le_refl _))⟩
  · cases hz
theorem srt_restT {xs zs : List SV} {vs : List V} {its : List Value} {src : Value} {n : Nat} {Q : VK} (hu : X.A.units + 65 < cLine) (I : Inv X pins σ H s) (R : Rel X.K g st σ1 H)
    (hcol : ∀ (Z : List Value → Shared → Prop), (∀ (h' : Heap) (tk : Nat), (∀ b o, s.heap.get? b = some o → h'.get? b = some o) → Z its { s with heap := h', toks := tk }) → wpAny (model X.prog X.w) X.A.in1 (collect src) Z X.xe s)
    (rl : RepL X.K g.F g.c n xs vs) (rv : Vals vs its) (hz : sortT xs = some zs)
    (q : ∀ vs p, RepL X.K g.F g.c n zs vs → H p = none → Q (.ref p) (upd H p (.lst vs))) :
    wpAny (model X.prog X.w) X.A (call (.builtin "sorted") [src]) (EP X pins σ Q) X.xe s := by
  unfold sortT at hz
  split at hz
  · rename_i hc
    simp only [Bool.and_eq_true] at hc
    obtain ⟨⟨hS, hk⟩, hsm⟩ := hc
    cases hz
    have hp := allAlk_plains hS
    have hlen : its.length = xs.length := by rw [← rv.length, ← rl.length]
    have hZ : its.length ≤ sizeLine := by rw [hlen]; exact small_le hsm
    refine Calls.call_function_entry kind_sorted plain_sorted entry_sorted (args_sorted1 _) ?_
    unfold Builtin.«sorted»
    refine wpAny_bind (m := checkCount "sorted" 1 1 _) (wpAny_pure ?_)
    refine wpAny_bind (hcol _ fun h' tk hk' => ?_)
    refine wpAny_bind (wpAny_newList ?_ hZ)
    have ho : (h'.push { cls := .type "list", data := .seq its.toArray }).get? h'.objs.size = some (seqObj "list" its.toArray 0) := Heap.get?_push_size _ rfl
    have kp : ∀ b o, s.heap.get? b = some o → (h'.push { cls := .type "list", data := .seq its.toArray }).get? b = some o := fun b o e => Heap.get?_push_of_some _ (hk' b o e)
    obtain ⟨as, hr⟩ := Dp.readsAll I _ _ its (RepL.dp R.sub xs vs 50 rl hp.1) rv
    have er0 := each_reads hr
    have er : PySem.W.EachIs (fun v b => ∃ as, Reads (h'.push { cls := .type "list", data := .seq its.toArray }) v (toPD b) as ∧ h'.objs.size ∉ as) its xs := by
      refine er0.mono fun v b hb => ?_
      obtain ⟨as, r⟩ := hb
      exact ⟨as, PyProof.Rows.Reads.keeps kp r, fun hm => by
        obtain ⟨o, e⟩ := PyProof.On.reads_mem_get r _ hm
        exact Nat.lt_irrefl _ (Heap.lt_size (hk' _ _ e))⟩
    refine wpAny_bind (wpAny_holding (PySem.W.list_sort_data (A := X.A.in1) (enc := toPD) (R := fun u x => ∃ v, RelV v u ∧ Rep X.K g.F g.c n x v) ho (each_of rl rv) er (by rw [map_toPD]; exact allAlk_pd hS) (sortable_of hk) (small_le hsm) (fun b hb => ?_) fun out hlo he => ?_))
    · have := plain_units hu (plains_mem hp.1 b hb)
      show X.A.units + 1 + 1 + _ < _
      omega
    rw [← sortBy_merge hS] at he
    obtain ⟨ws, h1, h2⟩ := of_each he
    have I' : Inv X pins σ H { s with heap := h', toks := tk } := I.kept hk'
    have hlw : ws.length ≤ sizeLine := by rw [h2.length, hlo]; exact small_le hsm
    obtain ⟨e, hat⟩ := sortedHeap_at (out := out.toArray) ho
    refine wpAny_pure ⟨_, rfl, .ref h'.objs.size, _, I'.laid (t' := tk) (h' := sortedHeap (h'.push { cls := .type "list", data := .seq its.toArray }) h'.objs.size its out.toArray)
      (fun b o q => (sortedHeap_old (Nat.ne_of_lt (Heap.lt_size q)) (Heap.lt_size (Heap.get?_push_of_some _ q))).trans (Heap.get?_push_of_some _ q)) (Nat.le_refl _) (show ObjOk X.prog X.w _ _ _ (.lst ws) from ⟨hlw, out, e, h2, hat⟩), rfl, q ws _ h1 (I'.hok.fresh (Nat.le_refl _))⟩
  · cases hz
end
section
variable {X : Cx} {pins : List (Addr × Obj)} {σ σ1 : L2.St} {H : Hp} {s : Shared} {g : Gh} {st : Sta}
theorem srt_rest {xs zs : List SV} {vs : List V} {its : List Value} {src : Value} {n : Nat} {Q : VK} (hu : X.A.units + 65 < cLine) (I : Inv X pins σ H s) (R : Rel X.K g st σ1 H)
    (hcol : ∀ (Z : List Value → Shared → Prop), (∀ (h' : Heap) (tk : Nat), (∀ b o, s.heap.get? b = some o → h'.get? b = some o) → Z its { s with heap := h', toks := tk }) → wpAny (model X.prog X.w) X.A.in1 (collect src) Z X.xe s)
    (rl : RepL X.K g.F g.c n xs vs) (rv : Vals vs its) (hz : sortOn xs = some zs)
    (q : ∀ vs p, RepL X.K g.F g.c n zs vs → H p = none → Q (.ref p) (upd H p (.lst vs))) :
    wpAny (model X.prog X.w) X.A (call (.builtin "sorted") [src]) (EP X pins σ Q) X.xe s := by
  unfold sortOn at hz
  split at hz
  · exact srt_rest1 hu I R hcol rl rv hz q
  · exact srt_restT hu I R hcol rl rv hz q
end
section
variable {X : Cx} {E : ErT} {W : WX} {a b c e : Expr} {p pos apos mpos : Pos} {fa fb fc : Sta → Rs SV}
def rSrt2 (K : PySem.W.Frag) : List V → Hp → VK → Prop := fun xs H Q => ∃ g st σ v ys x, xs = [x] ∧ Rel K g st σ H ∧ RepV K g st σ v x ∧ st.lot v = some ys ∧ ∃ zs, sortT ys = some zs ∧
  ∀ vs p, RepL K g.F g.c st.heap.length zs vs → H p = none → Q (.ref p) (upd H p (.lst vs))
theorem cr_srt2 (hu : X.A.units + 65 < cLine) : CallR X (.builtin "sorted") (rSrt2 X.K) := by
  intro pins s σ' H xs us Q I r h
  obtain ⟨g, st, σ, v, ys, x, rfl, R, rv, hl, zs, hz, q⟩ := h
  cases ht : (v matches .tup _) with
  | false =>
    have hl : st.list v = some ys := by
      cases v <;> first | exact hl | (simp at ht; done)
    exact cr_srt hu pins s σ' H [x] us Q I r ⟨g, st, σ, v, ys, x, rfl, R, rv, hl, zs, hz, q⟩
  | true =>
    cases v <;> first | (simp at ht; done) | skip
    cases hl
    obtain ⟨u, rfl, rx⟩ := vals1 r
    obtain ⟨pa, vs, rfl, hH, rl⟩ := RepV.tup R rv
    cases rx
    obtain ⟨its, r', ⟨o, ho, hc, n, hd⟩, hz'⟩ := I.tuple hH
    refine srt_rest hu I R (fun Z hZ => wpAny_collect_seq pa (.inr rfl) ho hc hd (fun h' hk => ?_) ?_) rl r' (sortOn_of hz) q
    · rw [List.toList_toArray]; exact hZ h' s.toks hk
    · rw [List.size_toArray, ← r'.length]; exact hz'
theorem m_sorted2 (hu : X.A.units + 65 < cLine) (hg : Gl X "sorted") (hm : X.mg "sorted" = none) (ha : PE X a (tE X.K E W fa)) (hs : starEach [a] X.env = (false, eval a X.env) :: starEach [] X.env) :
    PE X (.Call (.Name "sorted" p) [a] [] pos) (tF X.K E W fun s => (fa s).bind fun x s => freshC ((s.lot x).bind sortT) s) := by
  refine PE.imp (pe_callB (cr_srt2 hu) hg hm (by decide +kernel) (m_as1 ha m_as0 hs) (he := hs)) fun σ H Q ⟨g, st, R, h⟩ => ⟨g, st, R, ?_⟩
  have h : Out X.K E W g st σ H (NewQ X.K H Q) ((fa st).bind fun x s => freshC ((s.lot x).bind sortT) s) := h
  have key : Out X.K E W g st σ H (fun v g' st' H' => ∀ x, RepV X.K g' st' σ v x → rSrt2 X.K [x] H' Q) (fa st) := by
    refine h.bind.imp fun v g1 st1 H1 ⟨G, R1, h⟩ x r => ?_
    obtain ⟨zs, ez, h⟩ := freshC_some h
    cases e1 : st1.lot v with
    | none => rw [e1] at ez; cases ez
    | some ys =>
      rw [e1] at ez
      exact ⟨g1, st1, σ, v, ys, x, rfl, R1, r, e1, zs, ez, fun vs p rv hp => tF_list (fun a q => none_back G q) R1 h rv hp⟩
  show Out X.K E W g st σ H _ ((fa st).bind fun v s => (Rs.ok [] s).bind fun vs s => .ok (v :: vs) s)
  cases ef : fa st with
  | bad => rw [ef] at key; exact key.elim
  | err er s1 => rw [ef] at key; exact key
  | ok v s1 =>
    rw [ef] at key
    intro g' H' G' R' xs rv
    obtain ⟨x, rfl, rx⟩ := repVs1 rv
    exact key g' H' G' R' x rx
/-- sorted(a.keys()) -/
theorem m_sortedK (hc : X.calm = true) (hu : X.A.units + 65 < cLine) (hg : Gl X "sorted") (hm : X.mg "sorted" = none) (ha : PE X a (tE X.K E W fa)) (hbase : attributeBase a "keys" X.env (eval a X.env) = eval a X.env) (hline : (apos.endLine == mpos.line) = true) :
    PE X (.Call (.Name "sorted" p) [.Call (.Attribute a "keys" apos) [] [] mpos] [] pos) (tF X.K E W fun s => (fa s).bind fun x s => freshC ((s.dict x).bind fun p => sortOn p.1) s) := by
  refine ⟨fun pins s σ H Q I ⟨g, st, R, h⟩ => ?_⟩
  have h : Out X.K E W g st σ H (NewQ X.K H Q) ((fa st).bind fun x s => freshC ((s.dict x).bind fun p => sortOn p.1) s) := h
  have key : tE X.K E W fa σ H fun x H1 => ∃ v g1 st1 ks ws zs, Rel X.K g1 st1 σ H1 ∧ RepV X.K g1 st1 σ v x ∧ st1.dict v = some (ks, ws) ∧ sortOn ks = some zs ∧
      ∀ vs p, RepL X.K g1.F g1.c st1.heap.length zs vs → H1 p = none → Q (.ref p) (upd H1 p (.lst vs)) :=
    ⟨g, st, R, h.bind.imp fun v g1 st1 H1 ⟨G, R1, h⟩ x r => by
      obtain ⟨zs, ez, h⟩ := freshC_some h
      cases e1 : st1.dict v with
      | none => rw [e1] at ez; cases ez
      | some kw =>
        obtain ⟨ks, ws⟩ := kw
        rw [e1] at ez
        exact ⟨v, g1, st1, ks, ws, zs, R1, r, e1, ez, fun vs p rv hp => tF_list (fun a q => none_back G q) R1 h rv hp⟩⟩
  refine wpAny_Call_Name_kw (ld_blt I hg hm (u := .builtin "sorted") (by first | rfl | decide +kernel) ?_ (by first | decide +kernel | decide) (by first | decide +kernel | decide))
  have hse : starEach [Expr.Call (.Attribute a "keys" apos) [] [] mpos] X.env = [(false, eval (Expr.Call (.Attribute a "keys" apos) [] [] mpos) X.env)] := rfl
  rw [hse]
  refine PySem.callWith_builtin1 (wpAny_Call_method0_late hbase hline (thn (ha.run pins s σ H _ I key) fun v s1 ⟨x, H1, I1, r1, w, g1, st1, ks, ws, zs, R1, rw', ed, ez, q⟩ => ?_))
  obtain ⟨a', es, ep, kz, wz, rfl, D⟩ := dict_raw R1 rw' ed I1
  obtain rfl : v = Value.ref a' := r1
  obtain ⟨ob, ho, ex, hdat⟩ := id D.raw
  refine ⟨"dict", "dict.keys", PySem.F.plainAttrs_dict, PySem.F.slot_dict_keys, PySem.F.type_dict_keys, ⟨ob, ho, ex.1⟩, fun b e => ?_, Calls.callWith_builtin rfl (PySem.evalArgs_none ?_)⟩
  · cases e
    exact ⟨ob, ho, ex.2.1⟩
  refine call_meetsIn PySem.F.slot_dict_keys ⟨ob, ho, ex.1⟩ PySem.F.entry_dict_keys (PySem.F.args_dict_keys_1 _) (meets_keys_raw D.lo) ⟨⟨es, ep, D.raw⟩, ?_⟩
  have kp : ∀ b u, s1.heap.get? b = some u → (s1.heap.push { cls := .type "dict_keys", data := .fields #[.ref a'] }).get? b = some u := fun b u e => Heap.get?_push_of_some _ e
  have I2 : Inv X pins σ H1 { s1 with heap := s1.heap.push { cls := .type "dict_keys", data := .fields #[.ref a'] } } := I1.kept (t' := s1.toks) kp
  have hok : PySem.W.KdlKeysView (s1.heap.push { cls := .type "dict_keys", data := .fields #[.ref a'] }) s1.heap.objs.size a' ∧ (s1.heap.push { cls := .type "dict_keys", data := .fields #[.ref a'] }).DictRaw a' es ep := ⟨⟨_, Heap.get?_push_size _ rfl, rfl, rfl⟩, D.raw.push _⟩
  refine srt_rest hu I2 R1 (fun Z hZ => PySem.W.kdu_collect (PySem.KdlSrc.rawKeys (prog := X.prog) (w := X.w) (r := s1.heap.objs.size) (d := a') (es := es) (ep := ep)) (I1.ok.hd hc) hok D.few (fun h' tk acc hk hi => ?_)) D.rk D.vk ez q
  rw [items_map (f := DictEntry.key) hi]
  exact hZ h' tk hk
end
end Mq

namespace Mq
open PySem PySem.Spec PyProof.Rows L2 Mp
theorem preSum_list : ∀ ns : List Int, preSum (fun i => ns.getD i 0) ns.length = ns.sum
  | [] => rfl
  | n :: ns => by
    rw [List.length_cons, PySem.W.kdu_shift, List.sum_cons, ← preSum_list ns]
    rfl
section
variable {X : Cx} {E : ErT} {W : WX} {a b c e : Expr} {p p2 pos apos mpos : Pos} {fa fb fc : Sta → Rs SV}
theorem m_sumv (hc : X.calm = true) (hg : Gl X "sum") (hm : X.mg "sum" = none) (ha : PE X a (tE X.K E W fa)) (hbase : attributeBase a "values" X.env (eval a X.env) = eval a X.env) (hline : (apos.endLine == mpos.line) = true) :
    PE X (.Call (.Name "sum" p) [.Call (.Attribute a "values" apos) [] [] mpos] [] pos) (tE X.K E W fun s => (fa s).bind fun x s => match s.dict x with
      | some (_, vs) => Rs.of ((intsV vs).map fun ns => .int ns.sum) s
      | none => .bad) := by
  refine ⟨fun pins s σ H Q I ⟨g, st, R, h⟩ => ?_⟩
  have key : tE X.K E W fa σ H fun x H1 => ∃ v g1 st1 ks ws ns, Rel X.K g1 st1 σ H1 ∧ RepV X.K g1 st1 σ v x ∧ st1.dict v = some (ks, ws) ∧ intsV ws = some ns ∧ Res X.K g1 st1 σ H1 (.int ns.sum) Q :=
    tE.seq R h fun v x g1 st1 H1 G R1 r h => by
      cases e1 : st1.dict v with
      | none => rw [e1] at h; exact h.elim
      | some kw =>
        obtain ⟨ks, ws⟩ := kw
        rw [e1] at h
        obtain ⟨z, hz, q⟩ := Res.of_out h
        simp only [Option.map_eq_some_iff] at hz
        obtain ⟨ns, h1, rfl⟩ := hz
        exact ⟨v, g1, st1, ks, ws, ns, R1, r, e1, h1, q⟩
  refine wpAny_Call_Name_kw (ld_blt I hg hm (u := .builtin "sum") (by first | rfl | decide +kernel) ?_ (by first | decide +kernel | decide) (by first | decide +kernel | decide))
  have hse : starEach [Expr.Call (.Attribute a "values" apos) [] [] mpos] X.env = [(false, eval (Expr.Call (.Attribute a "values" apos) [] [] mpos) X.env)] := rfl
  rw [hse]
  refine PySem.callWith_builtin1 (wpAny_Call_method0_late hbase hline (thn (ha.run pins s σ H _ I key) fun v s1 ⟨x, H1, I1, r1, w, g1, st1, ks, ws, ns, R1, rw', ed, ez, q⟩ => ?_))
  obtain ⟨a', es, ep, kz, wz, rfl, D⟩ := dict_raw R1 rw' ed I1
  obtain rfl : v = Value.ref a' := r1
  obtain ⟨ob, ho, ex, hdat⟩ := id D.raw
  refine ⟨"dict", "dict.values", PySem.F.plainAttrs_dict, PySem.F.slot_dict_values, PySem.F.type_dict_values, ⟨ob, ho, ex.1⟩, fun b e => ?_, Calls.callWith_builtin rfl (PySem.evalArgs_none ?_)⟩
  · cases e
    exact ⟨ob, ho, ex.2.1⟩
  refine call_meetsIn PySem.F.slot_dict_values ⟨ob, ho, ex.1⟩ PySem.F.entry_dict_values (PySem.F.args_dict_values_1 _) (meets_values_raw D.lo) ⟨⟨es, ep, D.raw⟩, ?_⟩
  have kp : ∀ b u, s1.heap.get? b = some u → (s1.heap.push { cls := .type "dict_values", data := .fields #[.ref a'] }).get? b = some u := fun b u e => Heap.get?_push_of_some _ e
  have I2 : Inv X pins σ H1 { s1 with heap := s1.heap.push { cls := .type "dict_values", data := .fields #[.ref a'] } } := I1.kept (t' := s1.toks) kp
  have K := PySem.KdlSrc.rawValues (prog := X.prog) (w := X.w) (r := s1.heap.objs.size) (d := a') (es := es) (ep := ep)
  have hok : (s1.heap.push { cls := .type "dict_values", data := .fields #[.ref a'] }).IsValuesView s1.heap.objs.size a' ∧ (s1.heap.push { cls := .type "dict_values", data := .fields #[.ref a'] }).DictRaw a' es ep := ⟨⟨_, Heap.get?_push_size _ rfl, rfl, rfl⟩, D.raw.push _⟩
  have ev := repL_ints D.rw_ ez
  have hval : ∀ (i : Nat) (v : Value), (∃ hi : i < es.size, v = es[i].val) → ∃ t : Tok, v = Value.int (ns.getD i 0) t := fun i v ⟨hi, e⟩ => by
    have hv := D.vw
    rw [ev] at hv
    have e1 : (es.toList.map (·.val))[i]? = some v := by
      rw [List.getElem?_map, Array.getElem?_toList, Array.getElem?_eq_getElem hi, e]; rfl
    have hl := hv.length
    have hi' : i < ns.length := by simp at hl; omega
    obtain ⟨u, h1, h2⟩ := hv.get (i := i) (x := V.int ns[i]) (by rw [List.getElem?_map, List.getElem?_eq_getElem hi']; rfl)
    rw [e1] at h1
    cases h1
    obtain ⟨t, rfl⟩ := h2
    refine ⟨t, ?_⟩
    rw [List.getD_eq_getElem?_getD, List.getElem?_eq_getElem hi']; rfl
  have hn : es.size = ns.length := by
    have h1 := D.vw.length
    rw [ev] at h1
    simp at h1
    exact h1.symm
  refine call_sum_walkAnyS ?_
  obtain ⟨oI, St, hit, Wk, st⟩ := K.iter X.A.in1 { s1 with heap := s1.heap.push { cls := .type "dict_values", data := .fields #[.ref a'] } } (I1.ok.hd hc) hok
  refine hit _ _ ⟨(s1.heap.push { cls := .type "dict_values", data := .fields #[.ref a'] }).objs.size, _, _, _, es.size, _, _, fun i => ns.getD i 0, rfl, Wk.toS, st, fun b hb => ?_, hval, fun s' t' hm => ?_⟩
  · show b < ((s1.heap.push _).push oI).objs.size
    have hlt := (K.there _ hok).2
    rw [Heap.size_push]
    rcases List.mem_cons.mp hb with e | hb
    · rw [e]; exact Nat.lt_succ_self _
    · rw [List.mem_singleton.mp hb]; exact Nat.lt_succ_of_lt hlt
  · have hk : ∀ b o, (s1.heap.push { cls := .type "dict_values", data := .fields #[.ref a'] }).get? b = some o → s'.heap.get? b = some o := fun b o e =>
      hm.heap b o (fun hI => absurd (Heap.lt_size e) (by rw [List.mem_singleton.mp hI]; exact Nat.lt_irrefl _)) (Heap.get?_push_of_some _ e)
    rw [Moved.eq_with hm]
    rw [hn, preSum_list]
    exact ⟨.int _, H1, I2.kept (t' := s'.toks) hk, ⟨_, rfl⟩, q.here R1 rfl⟩
/-- list(range(..)) -/
theorem rngV_rep {K : PySem.W.Frag} {F : Hp} {c : Nat → Addr} {len : Nat} : ∀ (n : Nat) (a : Int), RepL K F c len (rngL a n) ((List.range n).map fun i => V.int (a + (i : Nat)))
  | 0, _ => rfl
  | n + 1, a => by
    rw [List.range_succ_eq_map, List.map_cons, List.map_map]
    refine ⟨_, _, rfl, by simp [Rep], ?_⟩
    have e : ((fun i : Nat => V.int (a + (i : Nat))) ∘ Nat.succ) = fun i : Nat => V.int ((a + 1) + (i : Nat)) := by
      funext i
      show V.int _ = V.int _
      congr 1
      push_cast
      omega
    rw [e]
    exact rngV_rep n (a + 1)
theorem m_listR1 {pos2 : Pos} (hc : X.calm = true) (hg : Gl X "list") (hm : X.mg "list" = none) (hg2 : Gl X "range") (hm2 : X.mg "range" = none) (ha : PE X a (tE X.K E W fa)) (hs : starEach [a] X.env = (false, eval a X.env) :: starEach [] X.env) :
    PE X (.Call (.Name "list" p) [.Call (.Name "range" p2) [a] [] pos2] [] pos) (tF X.K E W fun s => ((asI (fa s)).bind fun j s => if rngOk j then .ok (⟨rngL 0 j.toNat, none⟩ : Walk) s else .bad).bind fun w s => if small w.items.length then .ok (.lst w.items) s else .bad) := by
  refine PE.imp (pe_listRg hc hg hm (prg_1 hg2 hm2 ha hs) rfl) fun σ H Q ⟨g, st, R, h⟩ => ?_
  have h : Out X.K E W g st σ H (NewQ X.K H Q) ((asI (fa st)).bind fun j s => (if rngOk j then Rs.ok (⟨rngL 0 j.toNat, none⟩ : Walk) s else .bad).bind fun w s => if small w.items.length then .ok (.lst w.items) s else .bad) := by
    dsimp only at h
    cases e : asI (fa st) with
    | ok j s => rw [e] at h; exact h
    | err x s => rw [e] at h; exact h
    | bad => rw [e] at h; exact h
  refine asI.seq R h fun j g1 st1 H1 G R1 h => ?_
  split at h
  · rename_i hj
    obtain ⟨h1, h2⟩ := rng_ok hj
    have h : Out X.K E W g1 st1 σ H1 (NewQ X.K H Q) (if small (rngL 0 j.toNat).length = true then .ok (.lst (rngL 0 j.toNat)) st1 else .bad) := h
    split at h
    · rename_i hz
      have hz := small_le hz
      rw [sizeLine_eq] at hz
      have hr := rngV_rep (K := X.K) (F := g1.F) (c := g1.c) (len := st1.heap.length) j.toNat 0
      have e1 : (j - 0).toNat = j.toNat := by omega
      have hl : (rngL 0 j.toNat).length = j.toNat := by have := hr.length; simpa using this
      rw [hl] at hz
      refine ⟨j, rfl, ⟨by omega, by omega, by omega, by omega, by omega⟩, fun q hq => tF_list (fun a q => none_back G q) R1 h ?_ hq⟩
      unfold rgV
      rw [e1]
      exact hr
    · exact h.elim
  · exact h.elim
theorem m_listR2 {pos2 : Pos} (hc : X.calm = true) (hg : Gl X "list") (hm : X.mg "list" = none) (hg2 : Gl X "range") (hm2 : X.mg "range" = none) (ha : PE X a (tE X.K E W fa)) (hb : PE X b (tE X.K E W fb)) (hs : starEach [a, b] X.env = (false, eval a X.env) :: starEach [b] X.env) (hs2 : starEach [b] X.env = (false, eval b X.env) :: starEach [] X.env) :
    PE X (.Call (.Name "list" p) [.Call (.Name "range" p2) [a, b] [] pos2] [] pos) (tF X.K E W fun s => ((asI (fa s)).bind fun i s => (asI (fb s)).bind fun j s => if rngOk i && rngOk j then .ok (⟨rngL i (j - i).toNat, none⟩ : Walk) s else .bad).bind fun w s => if small w.items.length then .ok (.lst w.items) s else .bad) := by
  refine PE.imp (pe_listRg hc hg hm (prg_2 hg2 hm2 ha hb hs hs2 (by rw [hs2]; rfl)) rfl) fun σ H Q ⟨g, st, R, h⟩ => ?_
  have h : Out X.K E W g st σ H (NewQ X.K H Q) ((asI (fa st)).bind fun i s => (asI (fb s)).bind fun j s => (if rngOk i && rngOk j then Rs.ok (⟨rngL i (j - i).toNat, none⟩ : Walk) s else .bad).bind fun w s => if small w.items.length then .ok (.lst w.items) s else .bad) := by
    dsimp only at h
    cases e : asI (fa st) with
    | ok i s =>
      rw [e] at h
      dsimp only [Rs.bind_ok] at h ⊢
      cases e2 : asI (fb s) with
      | ok j s => rw [e2] at h; exact h
      | err x s => rw [e2] at h; exact h
      | bad => rw [e2] at h; exact h
    | err x s => rw [e] at h; exact h
    | bad => rw [e] at h; exact h
  refine asI.seq R h fun i g1 st1 H1 G R1 h => asI.seq R1 h fun j g2 st2 H2 G2 R2 h => ?_
  split at h
  · rename_i hj
    simp only [Bool.and_eq_true] at hj
    obtain ⟨h1, h2⟩ := rng_ok hj.1
    obtain ⟨h3, h4⟩ := rng_ok hj.2
    have h : Out X.K E W g2 st2 σ H2 (NewQ X.K H Q) (if small (rngL i (j - i).toNat).length = true then .ok (.lst (rngL i (j - i).toNat)) st2 else .bad) := h
    split at h
    · rename_i hz
      have hz := small_le hz
      rw [sizeLine_eq] at hz
      have hr := rngV_rep (K := X.K) (F := g2.F) (c := g2.c) (len := st2.heap.length) (j - i).toNat i
      have hl : (rngL i (j - i).toNat).length = (j - i).toNat := by have := hr.length; simpa using this
      rw [hl] at hz
      exact ⟨i, j, rfl, rfl, ⟨by omega, by omega, by omega, by omega, by omega⟩, fun q hq => tF_list (fun a q => none_back (G.trans G2) q) R2 h hr hq⟩
    · exact h.elim
  · exact h.elim
/-- tuple(range(..)), kept by its object -/
def tTupRgF (te : L2.St → Hp → (Int → Int → Hp → Prop) → Prop) : TE := fun σ H Q => te σ H fun a b H1 => RgOk a b ∧ ∀ q o, H1 q = none → o.dict = none → Q (.ref q) (upd H1 q (.frz o (.tup (rgV a b))))
theorem pe_tupRgF {te : L2.St → Hp → (Int → Int → Hp → Prop) → Prop} (hc : X.calm = true) (hg : Gl X "tuple") (hm : X.mg "tuple" = none) (he : PRg X e te) (na : starEach [e] X.env = (false, eval e X.env) :: starEach [] X.env := by rfl) : PE X (.Call (.Name "tuple" p) [e] [] pos) (tTupRgF te) := by
  refine ⟨fun pins s σ H Q I h => ?_⟩
  refine Call_ (ld_blt I hg hm boot_tuple (PyProof.Rows.callWith_type1 (args_cons (thn (he pins s σ H _ I h) fun x s1 ⟨r, a, b, t, u, v, H1, ex, hr, I1, ok, q⟩ => args_nil ?_) na) na))
  subst ex
  obtain ⟨b1, b2, b3, b4, b5⟩ := ok
  refine call_tuple_range (n := (b - a).toNat) (I1.ok.hd hc) hr (small_one b1 b2 b3 b4) (rangeSize_nat a b) b5 fun h' tk acc hk hi => ?_
  have I2 : L2.Inv X pins σ H1 { s1 with heap := h', toks := tk } := I1.kept hk
  have e := Heap.get?_push_size h' (o := { cls := .type "tuple", data := .seq acc }) rfl
  refine ⟨.ref h'.objs.size, _, I2.laid (t' := tk) (o := .frz { cls := .type "tuple", data := .seq acc } (.tup (rgV a b))) (fun c o e => Heap.get?_push_of_some _ e) (Nat.le_refl _) ?_, rfl, q _ _ (I2.hok.fresh (Nat.le_refl _)) rfl⟩
  refine ⟨e, ?_, acc.toList, vals_rg hi, ?_⟩
  · rw [rgV_length, sizeLine_eq]; omega
  · rw [Array.toArray_toList]; exact ⟨_, e, rfl, _, rfl⟩
theorem m_tupR {pos2 : Pos} (hc : X.calm = true) (hg : Gl X "tuple") (hm : X.mg "tuple" = none) (hg2 : Gl X "range") (hm2 : X.mg "range" = none) (ha : PE X a (tE X.K E W fa)) (hs : starEach [a] X.env = (false, eval a X.env) :: starEach [] X.env) :
    PE X (.Call (.Name "tuple" p) [.Call (.Name "range" p2) [a] [] pos2] [] pos) (tE X.K E W fun s => (asI (fa s)).bind fun j s => if rngOk j && small j.toNat then .ok (.tup (rngL 0 j.toNat)) s else .bad) := by
  refine PE.imp (pe_tupRgF hc hg hm (prg_1 hg2 hm2 ha hs) rfl) fun σ H Q ⟨g, st, R, h⟩ => ?_
  refine asI.seq R h fun j g1 st1 H1 G R1 h => ?_
  split at h
  · rename_i hj
    rw [Bool.and_eq_true] at hj
    obtain ⟨h1, h2⟩ := rng_ok hj.1
    have hz := small_le hj.2
    rw [sizeLine_eq] at hz
    have hr := rngV_rep (K := X.K) (F := g1.F) (c := g1.c) (len := st1.heap.length) j.toNat 0
    have e1 : (j - 0).toNat = j.toNat := by omega
    obtain ⟨z, ez, q⟩ := Res.of_out (o := some (SV.tup (rngL 0 j.toNat))) h
    cases ez
    refine ⟨j, rfl, ⟨by omega, by omega, by omega, by omega, by omega⟩, fun q' o hq ho => ?_⟩
    unfold rgV
    rw [e1]
    exact q.tup R1 hr hq ho
  · exact h.elim
end
end Mq

namespace Mq
open PySem PySem.Spec PyProof.Rows L2 Mp
def flatP : List (Value × Value) → List Value
  | [] => []
  | (k, v) :: r => k :: v :: flatP r
section
variable {K : PySem.W.Frag} {g g1 : Gh} {st st1 : Sta} {σ : L2.St} {H H1 : Hp} {p : Addr} {o o' : HO}
theorem Out.withG {α : Type} {E : ErT} {W : WX} {Q : α → Gh → Sta → Hp → Prop} {r : Rs α} (h : Out K E W g st σ H Q r) : Out K E W g st σ H (fun a g1 st1 H1 => Grow g st H g1 st1 H1 ∧ Q a g1 st1 H1) r := by
  cases r with
  | ok a s => exact fun g' H' G' R => ⟨G', h g' H' G' R⟩
  | err e s => exact h
  | bad => exact h
/-- what was new, stays so -/
theorem Grow.spare (G : Grow g st H g1 st1 H1) (hp : H p = some o) (hf : g.F p = none) (hl : ¬ LiveA g st p) : H1 p = some o ∧ g1.F p = none ∧ ¬ LiveA g1 st1 p := by
  refine ⟨G.keep p o hp hl, ?_, fun h => ?_⟩
  · cases e : g1.F p with
    | none => rfl
    | some u =>
      rcases G.new p u e with z | z | z
      · rw [hf] at z; cases z
      · rw [hp] at z; cases z
      · exact absurd z hl
  · rcases G.live p h with z | z
    · exact hl z
    · rw [hp] at z; cases z
end
section
variable {X : Cx} {E : ErT} {W : WX} {k v : Expr} {ks : List (Option Expr)} {vs : List Expr} {pos : Pos} {fa fb : Sta → Rs SV} {fs : Sta → Rs (List SV)}
structure PQ (X : Cx) (E : ErT) (W : WX) (pos : Pos) (keys : List (Option Expr)) (values : List Expr) (f : Sta → Rs (List SV)) : Prop where
  run : ∀ (pins : List (Addr × Obj)) (s : Shared) (σ : L2.St) (H : Hp) (Q : List V → Hp → Prop), Inv X pins σ H s → tKs X.K E W f σ H Q →
    wpAny (model X.prog X.w) X.A (evalPairs (pairTrees keys values X.env pos)) (fun ws s' => ∃ xs H', Inv X pins σ H' s' ∧ Vals xs (flatP ws) ∧ Q xs H') X.xe s
theorem pq_nil : PQ X E W pos [] [] (fun s => .ok [] s) := ⟨fun pins s σ H Q I ⟨g, st, R, h⟩ => pairTrees_nil_walk ⟨[], H, I, .nil, Out.now R h [] rfl⟩⟩
theorem pq_cons (ha : PE X k (tE X.K E W fa)) (hb : PE X v (tE X.K E W fb)) (hr : PQ X E W pos ks vs fs) :
    PQ X E W pos (some k :: ks) (v :: vs) (fun s => (solidB (fa s)).bind fun x s => ((solidB (fb s)).bind fun y s => (fs s).bind fun l s => .ok (y :: l) s).bind fun l s => .ok (x :: l) s) := ⟨fun pins s σ H Q I ⟨g, st, R, h⟩ => by
  have key : tE X.K E W fa σ H fun x H1 => tE X.K E W fb σ H1 fun y H2 => tKs X.K E W fs σ H2 fun xs H3 => Q (x :: y :: xs) H3 :=
    tK_of (tK.seq R h fun v x g1 st1 H1 G R1 r h => tK_of (tK.seq R1 (by rw [Rs.bind_bind] at h; exact h) fun w y g2 st2 H2 G2 R2 r2 h => tKs.seq R2 (by rw [Rs.bind_bind] at h; exact h) fun us xs g3 st3 H3 G3 R3 r3 h => by
      have h : Out X.K E W g3 st3 σ H3 _ (.ok (v :: w :: us) st3) := h
      exact Out.now R3 h _ ⟨x, _, rfl, Rep.up (G2.trans G3).fr (G2.trans G3).cells (G2.trans G3).hlen _ _ r, y, _, rfl, Rep.up G3.fr G3.cells G3.hlen _ _ r2, r3⟩))
  exact pairTrees_cons_walk (thn (ha.run pins s σ H _ I key) fun u s1 ⟨x, H1, I1, rx, q1⟩ => thn (hb.run pins s1 σ H1 _ I1 q1) fun w2 s2 ⟨y, H2, I2, ry, q2⟩ =>
    thn (hr.run pins s2 σ H2 _ I2 q2) fun ws s3 ⟨xs, H3, I3, rel, q3⟩ => ⟨x :: y :: xs, H3, I3, .cons rx (.cons ry rel), q3⟩)⟩
end
section
variable {K : PySem.W.Frag} {F : Hp} {c : Nat → Addr} {len : Nat} {P : Program} {w : World}
theorem disp_carries : ∀ {l : List SV} {xs : List V} {vs : List (Value × Value)} {ks ws : List SV}, RepL K F c len l xs → Vals xs (flatP vs) → unpair l = some (ks, ws) → ks.all SV.scal = true →
    ∃ kvs : List (Key × V), ks.map keyOf = kvs.map (fun p => some p.1) ∧ RepL K F c len ws (kvs.map (·.2)) ∧ kvs.length = vs.length ∧ ks.length = vs.length ∧ ∃ rs, Carries (mixKind P w) vs rs ∧ KV kvs rs
  | [], _, [], ks, ws, r, _, h, _ => by cases h; exact ⟨[], rfl, rfl, rfl, rfl, [], True.intro, .nil⟩
  | [], _, (_, _) :: _, _, _, r, v, _, _ => by rw [show _ = [] from r] at v; cases v
  | [_], _, _, _, _, _, _, h, _ => by cases h
  | k :: z :: l, _, [], _, _, ⟨_, _, e, _⟩, v, _, _ => by subst e; cases v
  | k :: z :: l, _, (u, t) :: vs, ks, ws, ⟨y, ys, e, r1, y2, ys2, e2, r2, r3⟩, v, h, hs => by
    subst e e2
    unfold unpair at h
    simp only [Option.map_eq_some_iff] at h
    obtain ⟨⟨ks1, ws1⟩, h1, h2⟩ := h
    simp only [Prod.mk.injEq] at h2
    obtain ⟨rfl, rfl⟩ := h2
    simp only [List.all_cons, Bool.and_eq_true] at hs
    obtain ⟨kk, ek⟩ := scal_key hs.1
    cases v with
    | cons v1 v2 =>
      cases v2 with
      | cons v2 v3 =>
        obtain ⟨kvs, a1, a2, a3, a4, rs, a5, a6⟩ := disp_carries r3 v3 h1 hs.2
        have hy := kV_of r1 ek
        subst hy
        exact ⟨(kk, y2) :: kvs, by rw [List.map_cons, List.map_cons, ek, a1], ⟨y2, _, rfl, r2, a2⟩, by rw [List.length_cons, List.length_cons, a3], by rw [List.length_cons, List.length_cons, a4], (kk, t) :: rs, ⟨kV_is v1, rfl, a5⟩, .cons ⟨rfl, v2⟩ a6⟩
theorem putAll_rep : ∀ {ks ws ks0 ws0 ks' ws' : List SV} {kvs kvs0 : List (Key × V)}, ks.map keyOf = kvs.map (fun p => some p.1) → RepL K F c len ws (kvs.map (·.2)) → ks0.map keyOf = kvs0.map (fun p => some p.1) → RepL K F c len ws0 (kvs0.map (·.2)) →
    putAll ks ws ks0 ws0 = some (ks', ws') → ks'.map keyOf = (mergeK kvs0 kvs).map (fun p => some p.1) ∧ RepL K F c len ws' ((mergeK kvs0 kvs).map (·.2))
  | [], ws, ks0, ws0, ks', ws', [], kvs0, h1, h2, h3, h4, h => by
    rw [List.map_nil] at h2
    cases ws with
    | nil => cases h; exact ⟨h3, h4⟩
    | cons a b => obtain ⟨_, _, e, _⟩ := h2; cases e
  | [], _, _, _, _, _, _ :: _, _, h1, _, _, _, _ => by simp at h1
  | _ :: _, _, _, _, _, _, [], _, h1, _, _, _, _ => by simp at h1
  | k :: ks, ws, ks0, ws0, ks', ws', p :: kvs, kvs0, h1, h2, h3, h4, h => by
    cases ws with
    | nil => rw [List.map_cons] at h2; cases h2
    | cons w ws =>
      unfold Mp.putAll at h
      split at h
      · simp only [List.map_cons, List.cons.injEq] at h1
        obtain ⟨y, ys, e, r1, r2⟩ := h2
        rw [List.map_cons, List.cons.injEq] at e
        obtain ⟨e1, e2⟩ := e
        subst e1 e2
        obtain ⟨g1, g2⟩ := put_rep (kf := keyOf) (F := F) (fun {a b ka kb} h1 h2 => key_inj h1 h2) h1.1 r1 h3 h4
        exact putAll_rep (kvs0 := putK kvs0 p.1 p.2) h1.2 r2 g1 g2 h
      · cases h
end
theorem dispT_some {l : List SV} {d : List SV × List SV} (h : dispV true l = some d) : ∃ ts v, l = [.tup ts, v] ∧ (SV.tup ts).key = true ∧ d = ([.tup ts], [v]) := by
  match l, h with
  | [], h => simp [dispV, unpair] at h
  | [a], h => simp [dispV, unpair] at h
  | [k, v], h =>
    simp only [dispV, unpair, Option.map_some, Option.bind_some, if_true] at h
    cases k <;> first | (cases h; done) | skip
    rename_i ts
    simp only at h
    split at h
    · cases h; exact ⟨ts, v, rfl, by assumption, rfl⟩
    · cases h
  | [a, b, c], h => simp [dispV, unpair] at h
  | a :: b :: c :: x :: l, h =>
    simp only [dispV, unpair, if_true] at h
    cases e : unpair l with
    | none => rw [e] at h; simp at h
    | some p => rw [e] at h; simp at h
section
variable {X : Cx} {E : ErT} {W : WX} {keys : List (Option Expr)} {values : List Expr} {pos : Pos} {fs : Sta → Rs (List SV)}
/-- the pairs are made while the new dict stands empty -/
theorem disp_key {t : Bool} {σ : L2.St} {H : Hp} {Q : VK} {g : Gh} {st : Sta} {p : Addr} (R : Rel X.K g st σ H) (hn : H p = none) (h : Out X.K E W g st σ H (NewQ X.K H Q) ((fs st).bind fun l s => match dispV t l with | some p => .ok (.dct p.1 p.2) s | none => .bad)) :
    tKs X.K E W fs σ (upd H p (.dK [])) fun xs H2 => H2 p = some (.dK []) ∧ ∃ g2 st2 l d, Rel X.K g2 st2 σ H2 ∧ RepL X.K g2.F g2.c st2.heap.length l xs ∧ dispV t l = some d ∧ ∀ o2, DRep X.K g2.F g2.c st2.heap.length d.1 d.2 o2 → Q (.ref p) (upd H2 p o2) := by
  obtain ⟨R1, G1, f1, l1⟩ := R.lay (o := .dK []) hn
  refine ⟨g, st, R1, ((h.bind0).from G1).withG.imp fun l g2 st2 H2 ⟨G2, G, R2, h⟩ xs r => ?_⟩
  obtain ⟨a1, a2, a3⟩ := G2.spare upd_same f1 l1
  refine ⟨a1, ?_⟩
  cases ed : dispV t l with
  | none => rw [ed] at h; exact h.elim
  | some d =>
    rw [ed] at h
    refine ⟨g2, st2, l, d, R2, r, ed, fun o2 hd => ?_⟩
    have R3 := R2.touch (o := o2) a2 a3
    exact h g2 _ (G.touch hn) R3 p o2 hn upd_same a2 a3 hd
theorem m_dctK (h : PQ X E W pos keys values fs) (hall : keys.all (·.isSome) = true) (hl : keys.length = values.length) (h0 : keys ≠ []) (h15 : keys.length ≤ 15) :
    PE X (.Dict keys values pos) (tF X.K E W fun s => (fs s).bind fun l s => match dispV false l with | some p => .ok (.dct p.1 p.2) s | none => .bad) := by
  refine ⟨fun pins s σ H Q I ⟨g, st, R, q⟩ => ?_⟩
  have hn := I.hok.fresh (Nat.le_refl s.heap.objs.size)
  have I1 := I.laid (a := s.heap.objs.size) (o := .dK []) (h' := s.heap.push { cls := .type "dict", data := .dict #[] }) (t' := s.toks) (fun _ _ q => Heap.get?_push_of_some _ q) (Nat.le_refl _) (dk_empty s.heap I.big)
  refine wpAny_Dict_walk (knd := mixKind X.prog X.w) hall hl h0 h15 (thn (h.run pins _ σ _ _ I1 (disp_key R hn q)) fun ws s2 ⟨xs, H2, I2, rel, e, g2, st2, l, d, R2, r, ed, q2⟩ => ?_)
  unfold dispV at ed
  simp only [Option.bind_eq_some_iff] at ed
  obtain ⟨⟨ks, vs⟩, eu, ed⟩ := ed
  simp only [Bool.false_eq_true, if_false] at ed
  split at ed
  · rename_i hk
    simp only [Bool.and_eq_true, decide_eq_true_eq] at hk
    obtain ⟨kvs, b1, b2, b3, b4, rs, b5, b6⟩ := disp_carries (P := X.prog) (w := X.w) r rel eu hk.1
    obtain ⟨z, hd, vs0, r0, dd⟩ := dk_of I2.hok e
    cases r0
    obtain ⟨c1, c2⟩ := putAll_rep (kvs0 := []) (ws0 := []) b1 b2 rfl rfl ed
    refine ⟨rs, b5, dd, fun h' dd' hs => ⟨.ref s.heap.objs.size, _, ?_, rfl, q2 (.dK (mergeK [] kvs)) (.inl ⟨_, rfl, c1, c2⟩)⟩⟩
    have hz : (mergeK [] kvs).length ≤ sizeLine := by
      have h1 := length_mergeK kvs []
      have h2 := hk.2
      rw [List.length_nil] at h1
      rw [sizeLine_eq]; omega
    have he : ∃ q, h'.get? s.heap.objs.size = some q := let ⟨q, _, _, hq, _⟩ := dd'; ⟨q, hq⟩
    exact d_write I2 (by rw [e]; exact True.intro) hs he (dk_new hz hd (b6.merge .nil) dd')
  · cases ed
/-- {tuple: value} -/
theorem m_dctT (hu : X.A.units + 65 < cLine) (h : PQ X E W pos keys values fs) (hall : keys.all (·.isSome) = true) (hl : keys.length = values.length) (h0 : keys ≠ []) (h15 : keys.length ≤ 15) :
    PE X (.Dict keys values pos) (tF X.K E W fun s => (fs s).bind fun l s => match dispV true l with | some p => .ok (.dct p.1 p.2) s | none => .bad) := by
  refine ⟨fun pins s σ H Q I ⟨g, st, R, q⟩ => ?_⟩
  have hn := I.hok.fresh (Nat.le_refl s.heap.objs.size)
  have I1 := I.laid (a := s.heap.objs.size) (o := .dK []) (h' := s.heap.push { cls := .type "dict", data := .dict #[] }) (t' := s.toks) (fun _ _ q => Heap.get?_push_of_some _ q) (Nat.le_refl _) (dk_empty s.heap I.big)
  have hpl := pairTrees_length keys values X.env pos hall hl
  rw [arm_eval_Dict, zip_pairTrees keys values X.env pos hall hl, dictDisplay_pairs _ (by intro he; rw [he] at hpl; exact h0 (List.length_eq_zero_iff.mp hpl.symm)) (by omega)]
  have hr : (nestedKind X.prog X.w).room X.A := by show X.A.units + 8 < cLine; omega
  refine wpAny_bind (wpAny_standAt (wpAny_bind (wpAny_subDictH (knd := nestedKind X.prog X.w) hr (by omega) (thn (h.run pins _ σ _ _ I1 (disp_key R hn q)) fun ws s2 ⟨xs, H2, I2, rel, e, g2, st2, l, d, R2, r, ed, q2⟩ => ?_))))
  obtain ⟨ts, v, rfl, hk, rfl⟩ := dispT_some ed
  obtain ⟨y1, ys1, e1, r1, y2, ys2, e2, r2, e3⟩ := r
  rw [show ys2 = [] from e3] at e2
  subst e2 e1
  obtain ⟨u1, u2, ew⟩ : ∃ u1 u2, ws = [(u1, u2)] := by
    match ws, rel with
    | [(a, b)], _ => exact ⟨a, b, rfl⟩
    | [], rel => cases rel
    | (a, b) :: (a2, b2) :: r, rel => cases rel with | cons _ t => cases t with | cons _ t => cases t
  subst ew
  cases rel with
  | cons v1 v2 =>
    cases v2 with
    | cons v2 _ =>
      rcases key_of hk with ⟨_, _, nt⟩ | ⟨kk, zs, ek, hd, _⟩
      · exact absurd rfl (nt ts)
      · obtain ⟨b, ob, us, rfl, hb, hob, rl⟩ := id r1
        obtain rfl : u1 = Value.ref b := v1
        obtain ⟨hsys, _⟩ := retypeN I2 e
        have isn : NestedIs s2.heap kk (.ref b) := nested_is I2 (F := g2.F) (fun a o vs q => R2.sub _ _ q) ek r1 (u := .ref b) rfl
        obtain ⟨z, hd', vs0, rel0, od, es, ep, q1, q2', q3, q4, q5, q6⟩ := I2.hok _ _ e
        have hvs : vs0 = [] := by cases rel0; rfl
        subst hvs
        have he0 : es.toList = [] := by
          have : ∀ l : List DictEntry, PySem.Pairs (mixKind X.prog X.w) l [] → l = [] := by intro l hl; cases hl; rfl
          exact this _ q5
        refine ⟨[(kk, b, u2)], ⟨rfl, rfl, ⟨isn, hd⟩, trivial⟩, ⟨od, es, ep, q1, q2', q3, by rw [he0]; rfl, fun x hx => absurd hx (by simp), by simp⟩, fun h' tk dd' hs => ?_⟩
        obtain ⟨o3, es3, ep3, w1, w2, w3, w4, w5, w6⟩ := dd'
        have hst : storedAllH [] [(kk, b, u2)] = [(kk, b, u2)] := rfl
        rw [hst] at w4 w5 w6
        have rep : DRep X.K g2.F g2.c st2.heap.length [.tup ts] [v] (nxO s.heap.objs.size [(kk, b, u2)]) :=
          .inr ⟨_, [(kk, b, u2)], [y2], rfl, by rw [List.map_cons, ek]; rfl, ⟨by simp, by rw [sizeLine_eq]; simp, hsys, by simp, by rw [List.all_cons, hk]; rfl, .cons v2 .nil⟩, ⟨_, _, rfl, r1, rfl⟩, ⟨_, _, rfl, r2, rfl⟩⟩
        have J := d_write (t' := tk) (ob := nxO s.heap.objs.size [(kk, b, u2)]) I2 (by rw [e]; exact True.intro) hs ⟨o3, w1⟩ (nx_ext ⟨X.prog, X.w, o3, es3, ep3, w1, w2, w3, w4⟩)
        exact wpAny_pure ⟨.ref s.heap.objs.size, _, J, rfl, q2 _ rep⟩
end
end Mq

namespace Mq
open PySem PySem.Spec PyProof.Rows L2 Mp
/-- a source of its own, of what nobody writes -/
def tW0 (K : PySem.W.Frag) (E : ErT) (W : WX) (fw : Sta → Rs Walk) : TI := fun σ H R => ∃ g st, Rel K g st σ H ∧ Out K E W g st σ H (fun w g1 st1 H1 => ∀ J, GoodIt K g1 st1.heap.length H1 [] w.items J → R J H1) (fw st)
section
variable {X : Cx} {E : ErT} {W : WX} {tg a b : Expr} {fa fb : Sta → Rs SV} {p pos : Pos}
theorem w0_rng1 (hg : Gl X "range") (hm : X.mg "range" = none) (ha : PE X a (tE X.K E W fa)) (hs : starEach [a] X.env = (false, eval a X.env) :: starEach [] X.env) :
    PI X tg (.Call (.Name "range" p) [a] [] pos) (tW0 X.K E W fun s => (asI (fa s)).bind fun j s => if rngOk j then .ok ⟨rngL 0 j.toNat, none⟩ s else .bad) := by
  refine PI.imp (pi_range1 hg hm (pa_cons ha pa_nil hs) hs) fun σ H R ⟨g, st, R0, h⟩ => asI.seq R0 h fun j g1 st1 H1 G R1 h => ?_
  split at h
  · rename_i hj
    obtain ⟨h1, h2⟩ := rng_ok hj
    exact ⟨j, rfl, h1, h2, Out.now R1 h _ good_rng⟩
  · exact h.elim
theorem w0_rng2 (hg : Gl X "range") (hm : X.mg "range" = none) (ha : PE X a (tE X.K E W fa)) (hb : PE X b (tE X.K E W fb)) (hs : starEach [a, b] X.env = (false, eval a X.env) :: starEach [b] X.env) (hs2 : starEach [b] X.env = (false, eval b X.env) :: starEach [] X.env) :
    PI X tg (.Call (.Name "range" p) [a, b] [] pos) (tW0 X.K E W fun s => (asI (fa s)).bind fun i s => (asI (fb s)).bind fun j s => if rngOk i && rngOk j then .ok ⟨rngL i (j - i).toNat, none⟩ s else .bad) := by
  refine PI.imp (pi_range2 hg hm (pa_cons ha (pa_cons hb pa_nil hs2) hs) (by rw [hs, hs2]; rfl) (by rw [hs2]; rfl)) fun σ H R ⟨g, st, R0, h⟩ => asI.seq R0 h fun i g1 st1 H1 G R1 h => asI.seq R1 h fun j g2 st2 H2 G2 R2 h => ?_
  split at h
  · rename_i hj
    simp only [Bool.and_eq_true] at hj
    obtain ⟨h1, h2⟩ := rng_ok hj.1
    obtain ⟨h3, h4⟩ := rng_ok hj.2
    exact ⟨i, j, rfl, ⟨h1, h2, h3, h4⟩, Out.now R2 h _ good_rng⟩
  · exact h.elim
end
theorem compM_len {b : SV → List SV → Sta → Rs (List SV)} (hb : ∀ x acc s vs s2, b x acc s = .ok vs s2 → acc.length ≤ vs.length) : ∀ (xs acc : List SV) (s : Sta) (vs : List SV) (s2 : Sta), compM b xs acc s = .ok vs s2 → acc.length ≤ vs.length
  | [], acc, s, vs, s2, h => by simp only [compM, Rs.ok.injEq] at h; rw [← h.1]; simp
  | x :: xs, acc, s, vs, s2, h => by
    rw [compM] at h
    cases e : b x acc s with
    | bad => rw [e] at h; cases h
    | err a s1 => rw [e] at h; cases h
    | ok o s1 =>
      rw [e] at h
      have h1 := hb _ _ _ _ _ e
      have h2 := compM_len hb xs o.reverse s1 vs s2 h
      simp at h2; omega
theorem compM_noerr (b : SV → List SV → Sta → Rs (List SV)) (a : Er) (s' : Sta) : ∀ (xs acc : List SV) (s : Sta), compM b xs acc s ≠ .err a s'
  | [], acc, s, h => by simp [compM] at h
  | x :: xs, acc, s, h => by
    rw [compM] at h
    cases e : b x acc s with
    | bad => rw [e] at h; cases h
    | err _ _ => rw [e] at h; cases h
    | ok o s1 => rw [e] at h; exact compM_noerr b a s' xs _ s1 h
section
variable (is is2 : List Nat) (fw : Sta → Rs Walk) (ft : SV → Sta → Rs Unit) (fw2 : Sta → Rs Walk) (ft2 : SV → Sta → Rs Unit) (fe : Sta → Rs SV)
def inn2 : SV → Sta → Rs (Option SV) := fun y s => (ft2 y { s with env := Mp.wipe s.env is2 }).bind fun _ s => (solidB (fe s)).bind fun v s => .ok (some v) s
def out2 : SV → List SV → Sta → Rs (List SV) := fun x acc s => (ft x { s with env := Mp.wipe s.env is }).bind fun _ s => (fw2 s).bind fun w2 s => match w2.hid with
  | some _ => .bad
  | none => compL (inn2 is2 ft2 fe) w2.items acc s
def crun2 : Sta → Rs Cel := fun s => (fw s).bind fun w s0 => match w.hid with
  | some _ => .bad
  | none => if ownOk s0.env is && is2.all is.contains then
    (compM (out2 is is2 ft fw2 ft2 fe) w.items [] s0).bind fun vs s2 => if small vs.length then .ok (.lst vs) { s2 with env := back s2.env s0.env is } else .bad
    else .bad
end
section
variable {K : PySem.W.Frag} {g1 g3 g4 : Gh} {st1 st3 st4 : Sta} {H1 H' H4 : Hp} {A : List Addr} {D : Addr} {is is' : List Nat} {σw σw' : L2.St} {accS : List SV} {accV : List V}
theorem LcI.move (i : LcI K g1 st1 H1 A D is σw g3 st3 accS accV H') (G8 : Grow g3 (wiped st3 is) H' g4 (wiped st4 is') H4) (R8 : Rel K g4 (wiped st4 is') σw' H4) : LcI K g1 st1 H1 A D is' σw' g4 st4 accS accV H4 := by
  obtain ⟨d1, d2, d3⟩ := G8.spare i.dd i.F i.L
  refine ⟨R8, i.G.trans G8, fun a ha => ?_, d1, d2, d3, RepL.up G8.fr G8.cells G8.hlen _ _ i.acc⟩
  obtain ⟨z1, z2⟩ := (i.S a ha).1.grow i.R R8 G8
  exact ⟨z1, z2.trans (i.S a ha).2⟩
theorem wipe_mem_env : ∀ {is : List Nat} {env : List Slt} {j : Nat}, (Mp.wipe env is)[j]? = if j ∈ is then (if j < env.length then some .emp else none) else env[j]?
  | [], env, j => by simp [Mp.wipe]
  | i :: is, env, j => by
    unfold Mp.wipe
    rw [List.getElem?_set]
    have hl : (Mp.wipe env is).length = env.length := wipe_len _ _
    by_cases h : i = j
    · subst h
      simp [hl]
    · rw [if_neg h, wipe_mem_env]
      have : j ∈ i :: is ↔ j ∈ is := by simp [Ne.symm h]
      simp only [this]
theorem wiped_wiped (hs : ∀ i ∈ is', i ∈ is) : wiped (wiped st3 is') is = wiped st3 is := by
  unfold wiped
  have e : Mp.wipe (Mp.wipe st3.env is') is = Mp.wipe st3.env is := by
    apply List.ext_getElem?
    intro j
    rw [wipe_mem_env, wipe_mem_env, wipe_mem_env, wipe_len]
    by_cases h : j ∈ is
    · rw [if_pos h, if_pos h]
    · rw [if_neg h, if_neg h, if_neg fun z => h (hs j z)]
  simp only [e]
theorem wipeV_wipe {σ : L2.St} (hs : ∀ i ∈ is', i ∈ is) : L2.wipe (L2.wipe σ is') is = L2.wipe σ is := by
  apply List.ext_getElem?
  intro j
  by_cases hj : j ∈ is
  · rw [wipeV_in hj, wipeV_in hj, L2.wipe_length]
  · rw [wipeV_at hj, wipeV_at hj, wipeV_at fun z => hj (hs j z)]
end
section
variable {E : ErT} {W : WX} {fw : Sta → Rs Walk} {ft : SV → Sta → Rs Unit} {fw2 : Sta → Rs Walk} {ft2 : SV → Sta → Rs Unit} {fe : Sta → Rs SV}
theorem lc2_read {K : PySem.W.Frag} {is is2 : List Nat} {σ : L2.St} {H : Hp} {Q : VK} (h : tF K E W (crun2 is is2 fw ft fw2 ft2 fe) σ H Q) :
    tLc2 (tW K E W fw) (tG K E noW is ft) tYes (tW0 K E noW fw2) (tG K E noW is2 ft2) tYes (tK K E noW fun s => solidB (fe s)) is is2 σ H Q := by
  obtain ⟨g, st, R, h⟩ := h
  refine ⟨g, st, R, ?_⟩
  have hb : Out K E W g st σ H (NewQ K H Q) ((fw st).bind fun w s0 => match w.hid with
    | some _ => .bad
    | none => if ownOk s0.env is && is2.all is.contains then
      (compM (out2 is is2 ft fw2 ft2 fe) w.items [] s0).bind fun vs s2 => if small vs.length then .ok (.lst vs) { s2 with env := back s2.env s0.env is } else .bad
      else .bad) := h
  cases ef : fw st with
  | bad => rw [ef] at hb; exact hb.elim
  | err a s => rw [ef] at hb; exact hb
  | ok w st1 =>
  rw [ef] at hb
  dsimp only [Rs.bind_ok] at hb
  cases hh : w.hid with
  | some v => rw [hh] at hb; exact hb.elim
  | none =>
  rw [hh] at hb
  dsimp only at hb
  split at hb
  case isFalse => exact hb.elim
  rename_i hk
  simp only [Bool.and_eq_true, List.all_eq_true] at hk
  obtain ⟨hok, hsub⟩ := hk
  have hsub : ∀ i ∈ is2, i ∈ is := fun i hi => by simpa using hsub i hi
  cases hrun : compM (out2 is is2 ft fw2 ft2 fe) w.items [] st1 with
  | bad => rw [hrun] at hb; exact hb.elim
  | err a s => exact absurd hrun (compM_noerr _ _ _ _ _ _)
  | ok vsF sF =>
  rw [hrun] at hb
  dsimp only [Rs.bind_ok] at hb
  split at hb
  case isFalse => exact hb.elim
  rename_i hsm
  have hz := small_le hsm
  have hid : Hid st1 w := fun v hv => by rw [hh] at hv; cases hv
  have hwk : wk w st1 = st1 := by unfold wk; rw [hh]
  have hfin : Out K E W g st σ H (NewQ K H Q) (.ok (.lst vsF) (cfin w st1 sF is)) := by
    unfold cfin; rw [hh]; exact hb
  have hblen : ∀ x acc s vs s2, out2 is is2 ft fw2 ft2 fe x acc s = .ok vs s2 → acc.length ≤ vs.length := fun x acc s vs s2 e => by
    unfold out2 at e
    obtain ⟨_, s3, _, e⟩ := Rs.bind_is e
    obtain ⟨w2, s4, _, e⟩ := Rs.bind_is e
    cases e2 : w2.hid with
    | some _ => rw [e2] at e; cases e
    | none => rw [e2] at e; exact compL_len _ _ _ _ _ _ e
  refine fun g1 H1 G1 R1 J A hA good D hD => ?_
  rw [hwk] at hA
  obtain ⟨RW, GW⟩ := R1.wiped (own := is)
  obtain ⟨RD, GD, hFD, hLD⟩ := RW.lay (o := .lst []) hD
  refine ⟨fun i m H' => m = w.items.length - i ∧ i ≤ w.items.length ∧ ∃ g3 st3 accS accV, LcI K g1 st1 H1 A D is (L2.wipe σ is) g3 st3 accS accV H' ∧ compM (out2 is is2 ft fw2 ft2 fe) (w.items.drop i) accS st3 = .ok vsF sF,
    ⟨w.items.length, by simp, Nat.zero_le _, g1, st1, [], [], ⟨RD, GW.trans GD, fun a ha => ?_, upd_same, hFD, hLD, RepL.nil⟩, by simpa using hrun⟩, ?_⟩
  · have hne : a ≠ D := by
      rcases hA a ha with ⟨o, e⟩ | ⟨hn, _⟩
      · exact fun z => by subst z; rw [R1.sub _ _ e] at hD; cases hD
      · exact fun z => hn (by rw [z]; exact hD)
    refine ⟨?_, upd_ne hne⟩
    rcases hA a ha with ⟨o, e⟩ | ⟨hn, hl⟩
    · exact .inl ⟨o, e⟩
    · refine .inr ⟨by rw [upd_ne hne]; exact hn, fun ⟨l, c, z, e⟩ => hl ⟨l, c, (at_wiped z).1, e⟩⟩
  · rintro i m H' ⟨rfl, hi, g3, st3, accS, accV, I3, hr⟩
    by_cases hlt : i < w.items.length
    · refine .inr ⟨good.go i H' hlt fun a ha => (I3.S a ha).2, ?_⟩
      have hd : w.items.drop i = w.items[i] :: w.items.drop (i + 1) := List.drop_eq_getElem_cons hlt
      rw [hd, compM] at hr
      refine ⟨fun H' => ∃ g3 st3 accS accV, LcI K g1 st1 H1 A D is (L2.wipe σ is) g3 st3 accS accV H' ∧ compM (out2 is is2 ft fw2 ft2 fe) (w.items.drop (i + 1)) accS st3 = .ok vsF sF,
        fun H'' z => ⟨w.items.length - (i + 1), by omega, rfl, hlt, z⟩, fun x H2 hy => ?_⟩
      obtain ⟨g4, R4, G4, r4⟩ := good.yld i x H' H2 _ (List.getElem?_eq_getElem hlt) (fun a ha => (I3.S a ha).2) hy g3 (wiped st3 is) _ I3.R I3.G.fr I3.G.cells I3.G.hlen
      refine ⟨g4, wiped st3 is, _, R4, r4, ?_⟩
      cases et : ft w.items[i] (wiped st3 is) with
      | bad =>
        have et' : ft w.items[i] { st3 with env := Mp.wipe st3.env is } = .bad := et
        unfold out2 at hr; rw [et'] at hr; cases hr
      | err a s =>
        have et' : ft w.items[i] { st3 with env := Mp.wipe st3.env is } = .err a s := et
        unfold out2 at hr; rw [et'] at hr; cases hr
      | ok u st5 =>
      have et' : ft w.items[i] { st3 with env := Mp.wipe st3.env is } = .ok u st5 := et
      refine fun g5 σ5 H5 hs5 G5 R5 only => ⟨wipeV_only only, ?_⟩
      dsimp only [tYes]
      rw [if_pos rfl]
      refine ⟨g5, st5, R5, ?_⟩
      cases ew : fw2 st5 with
      | bad => exfalso; unfold out2 at hr; simp only [et', Rs.bind_ok, ew] at hr; cases hr
      | err a s => exfalso; unfold out2 at hr; simp only [et', Rs.bind_ok, ew] at hr; cases hr
      | ok w2 st6 =>
      refine fun g6 H6 G6 R6 J1 good1 => ?_
      cases hh2 : w2.hid with
      | some v => exfalso; unfold out2 at hr; simp only [et', Rs.bind_ok, ew, hh2] at hr; cases hr
      | none =>
      cases hcl : compL (inn2 is2 ft2 fe) w2.items accS st6 with
      | bad => exfalso; unfold out2 at hr; simp only [et', Rs.bind_ok, ew, hh2, hcl] at hr; cases hr
      | err a s => exact absurd hcl (compL_noerr _ _ _ _ _ _)
      | ok accR sR =>
      have er : out2 is is2 ft fw2 ft2 fe w.items[i] accS st3 = .ok accR sR := by unfold out2; simp only [et', Rs.bind_ok, ew, hh2, hcl]
      rw [er] at hr
      dsimp only at hr
      have hlen := compM_len hblen _ _ _ _ _ hr
      rw [List.length_reverse] at hlen
      have GG : Grow g3 (wiped st3 is) H' g6 st6 H6 := (G4.trans G5).trans G6
      obtain ⟨R7, G7⟩ := R6.wiped (own := is2)
      have I6 := I3.move (GG.trans G7) R7
      refine ⟨fun j k H' => k = w2.items.length - j ∧ j ≤ w2.items.length ∧ ∃ g7 st7 accS accV, LcI K g1 st1 H1 A D is2 (L2.wipe σ5 is2) g7 st7 accS accV H' ∧ (∀ a o, g6.F a = some o → g7.F a = some o) ∧ (∀ n, n < st6.heap.length → g7.c n = g6.c n) ∧ st6.heap.length ≤ st7.heap.length ∧
          compL (inn2 is2 ft2 fe) (w2.items.drop j) accS st7 = .ok accR sR,
        ⟨w2.items.length, by simp, Nat.zero_le _, g6, st6, accS, accV, I6, fun _ _ e => e, fun _ _ => rfl, Nat.le_refl _, by simpa using hcl⟩, ?_⟩
      rintro j k H7 ⟨rfl, hj, g7, st7, acc7, accV7, I7, f1, f2, f3, hr2⟩
      by_cases hlt2 : j < w2.items.length
      · refine .inr ⟨good1.go j H7 hlt2 (fun a ha => by simp at ha), ?_⟩
        have hd2 : w2.items.drop j = w2.items[j] :: w2.items.drop (j + 1) := List.drop_eq_getElem_cons hlt2
        rw [hd2, compL] at hr2
        refine ⟨fun H' => ∃ g7 st7 accS accV, LcI K g1 st1 H1 A D is2 (L2.wipe σ5 is2) g7 st7 accS accV H' ∧ (∀ a o, g6.F a = some o → g7.F a = some o) ∧ (∀ n, n < st6.heap.length → g7.c n = g6.c n) ∧ st6.heap.length ≤ st7.heap.length ∧
            compL (inn2 is2 ft2 fe) (w2.items.drop (j + 1)) accS st7 = .ok accR sR,
          fun H'' z => ⟨w2.items.length - (j + 1), by omega, rfl, hlt2, z⟩, fun x H8 hy => ?_⟩
        obtain ⟨g8, R8, G8, r8⟩ := good1.yld j x H7 H8 _ (List.getElem?_eq_getElem hlt2) (fun a ha => by simp at ha) hy g7 (wiped st7 is2) _ I7.R f1 f2 f3
        refine ⟨g8, wiped st7 is2, _, R8, r8, ?_⟩
        cases et2 : ft2 w2.items[j] (wiped st7 is2) with
        | bad =>
          have et' : ft2 w2.items[j] { st7 with env := Mp.wipe st7.env is2 } = .bad := et2
          unfold inn2 at hr2; rw [et'] at hr2; cases hr2
        | err a s =>
          have et' : ft2 w2.items[j] { st7 with env := Mp.wipe st7.env is2 } = .err a s := et2
          unfold inn2 at hr2; rw [et'] at hr2; cases hr2
        | ok u st9 =>
        have et2' : ft2 w2.items[j] { st7 with env := Mp.wipe st7.env is2 } = .ok u st9 := et2
        refine fun g9 σ9 H9 hs9 G9 R9 only2 => ⟨wipeV_only only2, ?_⟩
        dsimp only [tYes]
        rw [if_pos rfl]
        refine ⟨g9, st9, R9, ?_⟩
        show Out K E noW g9 st9 σ9 H9 _ (solidB (fe st9))
        cases ev : solidB (fe st9) with
        | bad => exfalso; unfold inn2 at hr2; simp only [et2', Rs.bind_ok, ev] at hr2; cases hr2
        | err a s => exfalso; unfold inn2 at hr2; simp only [et2', Rs.bind_ok, ev] at hr2; cases hr2
        | ok v st10 =>
        have er2 : inn2 is2 ft2 fe w2.items[j] st7 = .ok (some v) st10 := by unfold inn2; simp [et2', ev]
        rw [er2] at hr2
        dsimp only at hr2
        refine fun g10 H10 G10 R10 y ry => ?_
        obtain ⟨R11, G11⟩ := R10.wiped (own := is2)
        have e7 : L2.wipe σ9 is2 = L2.wipe (L2.wipe σ5 is2) is2 := by
          have := wipeV_only only2
          rw [this, wipeV_wipe fun i hi => hi]
        rw [e7, wipeV_wipe fun i hi => hi] at R11
        have G12 : Grow g7 (wiped st7 is2) H7 g10 (wiped st10 is2) H10 := ((G8.trans G9).trans G10).trans G11
        have I10 := I7.move G12 R11
        have hlen2 := compL_len _ _ _ _ _ _ hr2
        have hal := I7.acc.length
        refine ⟨accV7, I10.dd, by simp at hlen2 hal; omega, ?_⟩
        refine ⟨g10, st10, v :: acc7, accV7 ++ [y], I10.app hD ry, fun a o e => G12.fr a o (f1 a o e), fun n hn => (G12.cells n (Nat.lt_of_lt_of_le hn f3)).trans (f2 n hn), Nat.le_trans f3 G12.hlen, hr2⟩
      · have e : j = w2.items.length := by omega
        subst e
        refine .inl ⟨good1.stop H7 fun a ha => by simp at ha, ?_⟩
        rw [List.drop_length, compL] at hr2
        simp only [Rs.ok.injEq] at hr2
        obtain ⟨rfl, rfl⟩ := hr2
        obtain ⟨R12, G12⟩ := I7.R.wiped (own := is)
        rw [wiped_wiped hsub] at R12 G12
        have e8 : L2.wipe (L2.wipe σ5 is2) is = L2.wipe σ is := by rw [wipeV_wipe hsub]; exact wipeV_only only
        rw [e8] at R12
        rw [List.reverse_reverse] at hr
        exact ⟨g7, st7, acc7, accV7, I7.move G12 R12, hr⟩
    · have e : i = w.items.length := by omega
      subst e
      refine .inl ⟨good.stop H' fun a ha => (I3.S a ha).2, ?_⟩
      rw [List.drop_length, compM] at hr
      cases hr
      obtain ⟨g', R', G', eF, ec, eh, hl'⟩ := comp_end R1 hid (by rw [hwk]; exact I3.G) I3.R (by rw [hwk]; exact hok)
      refine hfin g' H' (G1.trans G') R' D (.lst accV) (G1.back hD) I3.dd (by rw [eF]; exact I3.F) (hl' D hD I3.L) ⟨accV, rfl, ?_⟩
      rw [eF, ec, eh]
      exact I3.acc
end
section
variable {X : Cx} {E : ErT} {W : WX} {tg elt iter tg1 iter1 : Expr} {scope : Scope} {own : List (Str × Nat)} {vs1 : List Nat} {fw : Sta → Rs Walk} {ft : SV → Sta → Rs Unit} {fw2 : Sta → Rs Walk} {ft2 : SV → Sta → Rs Unit} {fe : Sta → Rs SV} {pos : Pos}
theorem m_comp2 (hc : X.calm = true) (hN : X.N.Nodup) (hi : PI X tg iter (tW X.K E W fw)) (ok : BlkOk X.N X.env.scope scope own) (hv : ∀ i ∈ vs1, i ∈ own.map (·.2))
    (hg : ∀ (s : Shared) (H : Hp) (C : Addr) (cl : List (Str × Addr)) (fp : List Addr), PG (X.blk s H scope (compEnvC scope cl C X.env) fp) tg (tG X.K E noW (own.map (·.2)) ft))
    (hi1 : ∀ (s : Shared) (H : Hp) (C : Addr) (cl : List (Str × Addr)) (fp : List Addr), PI (X.blk s H scope (compEnvC scope cl C X.env) fp) tg1 iter1 (tW0 X.K E noW fw2))
    (hg1 : ∀ (s : Shared) (H : Hp) (C : Addr) (cl : List (Str × Addr)) (fp : List Addr), PG (X.blk s H scope (compEnvC scope cl C X.env) fp) tg1 (tG X.K E noW vs1 ft2))
    (he : ∀ (s : Shared) (H : Hp) (C : Addr) (cl : List (Str × Addr)) (fp : List Addr), PE (X.blk s H scope (compEnvC scope cl C X.env) fp) elt (tE X.K E noW fe)) (hs : ∀ x, foldedSetIterable iter X.env x = pure x) (hs1 : ∀ env x, foldedSetIterable iter1 env x = pure x) :
    PE X (.ListComp elt [⟨tg, iter, [], 0⟩, ⟨tg1, iter1, [], 0⟩] scope pos) (tF X.K E W (crun2 (own.map (·.2)) vs1 fw ft fw2 ft2 fe)) :=
  PE.imp (pe_lc2 hc hN hi ok hv hg (fun _ _ _ _ _ => pts_nil) hi1 hg1 (fun _ _ _ _ _ => pts_nil) (fun s H C cl fp => PE.imp (he s H C cl fp) fun _ _ _ h => tK_of h) hs hs1) fun σ H Q h => lc2_read h
theorem s_boxC2 {i : Nat} {y : Str} {py spos : Pos} (hc : X.calm = true) (hN : X.N.Nodup) (hy : X.N[i]? = some y) (hyl : X.env.scope.names.lookup y = some .local)
    (hsw : swapsWith (.ListComp elt [⟨tg, iter, [], 0⟩, ⟨tg1, iter1, [], 0⟩] scope pos) (some (.Name y py)) spos.line X.env = pure true) (hi : PI X tg iter (tW X.K E W fw)) (ok : BlkOk X.N X.env.scope scope own) (hv : ∀ i ∈ vs1, i ∈ own.map (·.2))
    (hg : ∀ (s : Shared) (H : Hp) (C : Addr) (cl : List (Str × Addr)) (fp : List Addr), PG (X.blk s H scope (compEnvC scope cl C X.env) fp) tg (tG X.K E noW (own.map (·.2)) ft))
    (hi1 : ∀ (s : Shared) (H : Hp) (C : Addr) (cl : List (Str × Addr)) (fp : List Addr), PI (X.blk s H scope (compEnvC scope cl C X.env) fp) tg1 iter1 (tW0 X.K E noW fw2))
    (hg1 : ∀ (s : Shared) (H : Hp) (C : Addr) (cl : List (Str × Addr)) (fp : List Addr), PG (X.blk s H scope (compEnvC scope cl C X.env) fp) tg1 (tG X.K E noW vs1 ft2))
    (he : ∀ (s : Shared) (H : Hp) (C : Addr) (cl : List (Str × Addr)) (fp : List Addr), PE (X.blk s H scope (compEnvC scope cl C X.env) fp) elt (tE X.K E noW fe)) (hs : ∀ x, foldedSetIterable iter X.env x = pure x) (hs1 : ∀ env x, foldedSetIterable iter1 env x = pure x) :
    PS X (.Assign [.Name y py] (.ListComp elt [⟨tg, iter, [], 0⟩, ⟨tg1, iter1, [], 0⟩] scope pos) spos) (tS X.K E W fun s => (crun2 (own.map (·.2)) vs1 fw ft fw2 ft2 fe s).bind fun c s => .ok .next { s with env := s.env.set i (.box c) }) := by
  refine PS.imp (ps_setLc2 (i := i) hc hN hy hyl hsw hi ok hv hg (fun _ _ _ _ _ => pts_nil) hi1 hg1 (fun _ _ _ _ _ => pts_nil) (fun s H C cl fp => PE.imp (he s H C cl fp) fun _ _ _ h => tK_of h) hs hs1) fun D σ H ⟨g, st, R, h⟩ => lc2_read ⟨g, st, R, (h.bindE0 trivial).imp fun c g1 st1 H1 ⟨G, R1, h⟩ p o hn hp hF hl rc => ?_⟩
  exact h (g1.boxAt i p) _ H1 trivial (Grow.boxSet hn G) (R1.boxSet hp hF hl rc)
theorem s_asgC2 {i : Nat} {y : Str} {py spos : Pos} (hc : X.calm = true) (hN : X.N.Nodup) (hy : X.N[i]? = some y) (hyl : X.env.scope.names.lookup y = some .local)
    (hsw : swapsWith (.ListComp elt [⟨tg, iter, [], 0⟩, ⟨tg1, iter1, [], 0⟩] scope pos) (some (.Name y py)) spos.line X.env = pure true) (hi : PI X tg iter (tW X.K E W fw)) (ok : BlkOk X.N X.env.scope scope own) (hv : ∀ i ∈ vs1, i ∈ own.map (·.2))
    (hg : ∀ (s : Shared) (H : Hp) (C : Addr) (cl : List (Str × Addr)) (fp : List Addr), PG (X.blk s H scope (compEnvC scope cl C X.env) fp) tg (tG X.K E noW (own.map (·.2)) ft))
    (hi1 : ∀ (s : Shared) (H : Hp) (C : Addr) (cl : List (Str × Addr)) (fp : List Addr), PI (X.blk s H scope (compEnvC scope cl C X.env) fp) tg1 iter1 (tW0 X.K E noW fw2))
    (hg1 : ∀ (s : Shared) (H : Hp) (C : Addr) (cl : List (Str × Addr)) (fp : List Addr), PG (X.blk s H scope (compEnvC scope cl C X.env) fp) tg1 (tG X.K E noW vs1 ft2))
    (he : ∀ (s : Shared) (H : Hp) (C : Addr) (cl : List (Str × Addr)) (fp : List Addr), PE (X.blk s H scope (compEnvC scope cl C X.env) fp) elt (tE X.K E noW fe)) (hs : ∀ x, foldedSetIterable iter X.env x = pure x) (hs1 : ∀ env x, foldedSetIterable iter1 env x = pure x) :
    PS X (.Assign [.Name y py] (.ListComp elt [⟨tg, iter, [], 0⟩, ⟨tg1, iter1, [], 0⟩] scope pos) spos) (tS X.K E W fun s => (solidB ((crun2 (own.map (·.2)) vs1 fw ft fw2 ft2 fe s).bind fun c s => Rs.of c.frozen s)).bind fun v s => (Rs.ok () (slotSet i v s)).bind nextR) := by
  refine PS.imp (ps_setLc2 (i := i) hc hN hy hyl hsw hi ok hv hg (fun _ _ _ _ _ => pts_nil) hi1 hg1 (fun _ _ _ _ _ => pts_nil) (fun s H C cl fp => PE.imp (he s H C cl fp) fun _ _ _ h => tK_of h) hs hs1) fun D σ H ⟨g, st, R, h⟩ => ?_
  refine lc2_read ⟨g, st, R, ?_⟩
  have h : OutS X.K E W anyS g st H (SQ X.K D) ((crun2 (own.map (·.2)) vs1 fw ft fw2 ft2 fe st).bind fun c s => (solidB (Rs.of c.frozen s)).bind fun v s => (Rs.ok () (slotSet i v s)).bind nextR) := by
    dsimp only at h
    cases e : crun2 (own.map (·.2)) vs1 fw ft fw2 ft2 fe st with
    | ok c s => rw [e] at h; exact h
    | err a s => rw [e] at h; exact h
    | bad => rw [e] at h; exact h
  refine (h.bindE0 trivial).imp fun c g1 st1 H1 ⟨G, R1, h⟩ p o hn hp hF hl rc => ?_
  cases hf : c.frozen with
  | none => rw [hf] at h; exact h.elim
  | some v =>
    rw [hf] at h
    have r := frozen_rep (o := o) hF hf rc
    have R2 := R1.freezeNew hp hF hl
    have G2 := Grow.freezeNew (o := o) hn hF hl G
    have sv : st1.solid v = .ok v st1 := by cases v <;> first | rfl | exact r.elim
    have h : OutS X.K E W anyS g st H (SQ X.K D) ((st1.solid v).bind fun v s => (Rs.ok () (slotSet i v s)).bind nextR) := h
    rw [sv] at h
    obtain ⟨R3, G3⟩ := R2.slotSet (i := i) (v := v) (x := .ref p) r
    exact h _ _ H1 trivial (G2.trans G3) R3
end
end Mq

namespace Mq
open PySem PySem.Spec PyProof.Rows L2 Mp
def notStar : Expr → Bool | .Starred _ _ => false | _ => true
def notSetE : Expr → Bool | .Set _ _ _ => false | _ => true
def notSliceE : Expr → Bool | .Slice _ _ _ _ => false | _ => true
def notCall0 : Expr → Bool | .Call (.Name _ _) [] [] _ => false | _ => true
def notComp : Expr → Bool | .ListComp _ _ _ _ => false | .SetComp _ _ _ _ => false | .DictComp _ _ _ _ _ => false | _ => true
def unb : Expr → Expr | .BoolOp _ [a] _ => a | e => e
theorem star1 {e : Expr} {es : List Expr} {env : Env} (h : notStar e = true) : starEach (e :: es) env = (false, eval e env) :: starEach es env := by
  cases e <;> first | rfl | cases h
theorem stars {pos : Pos} {env : Env} : ∀ {es : List Expr}, es.all notStar = true → (backTo pos (starEach es env)).any (·.1) = false
  | [], _ => rfl
  | e :: es, h => by
    rw [List.all_cons, Bool.and_eq_true] at h
    rw [star1 h.1]
    have := stars (pos := pos) (env := env) h.2
    unfold backTo at this ⊢
    rw [List.map_cons, List.any_cons, this]
    rfl
theorem noMarks {op : CmpOp} {e : Expr} (h : notSetE e = true) : behindInMarks op e = false := by cases e <;> first | rfl | cases h
theorem noMarks2 {o1 o2 : CmpOp} {b c : Expr} (h : notSetE c = true) : lastMarks [o1, o2] [b, c] = false := noMarks (op := o2) h
theorem plainIx {e : Expr} (h : notSliceE e = true) : PlainIx e := by intro o i; cases e <;> first | rfl | cases h
theorem asg1 {e : Expr} {es : List Expr} {env : Env} (h : notStar e = true) : assignEach (e :: es) env = (false, assign e env) :: assignEach es env := by
  cases e <;> first | rfl | cases h
theorem asg_map {e : Expr} {es : List Expr} {env : Env} (h : notStar e = true) : (assignEach (e :: es) env).map (·.2) = assign e env :: (assignEach es env).map (·.2) := by rw [asg1 h]; rfl
theorem asg_len {env : Env} : ∀ {es : List Expr}, es.all notStar = true → (assignEach es env).length = es.length
  | [], _ => rfl
  | e :: es, h => by
    rw [List.all_cons, Bool.and_eq_true] at h
    rw [asg1 h.1, List.length_cons, asg_len h.2, List.length_cons]
theorem asg_find {env : Env} : ∀ {es : List Expr}, es.all notStar = true → (assignEach es env).findIdx? (·.1) = none
  | [], _ => rfl
  | e :: es, h => by
    rw [List.all_cons, Bool.and_eq_true] at h
    rw [asg1 h.1, List.findIdx?_cons, asg_find h.2]
    rfl
theorem noSwap {e : Expr} {t : Option Expr} {l : Nat} {env : Env} (h : notComp e = true) : swapsWith e t l env = pure false := by
  cases e <;> first | rfl | cases h
theorem noSole {t e : Expr} {l : Nat} {env : Env} (h : notComp e = true) : swapsWithSole [t] e l env = pure false := noSwap h
theorem noFold {e : Expr} {env : Env} (h : notSetE e = true) (x : Value) : foldedSetIterable e env x = pure x := by
  cases e <;> first | rfl | cases h
theorem noBase {o : Expr} {m : Str} {env : Env} {w : Sem Value} (h : notCall0 o = true) : attributeBase o m env w = w := by
  unfold attributeBase
  split
  · cases h
  · rfl
theorem augPlain {i : Expr} (h : notSliceE i = true) (ov iv new : Value) : augStore i ov iv new = (do holding [new, ov, iv] (setItem ov iv new); release [new, ov, iv] []; pure .next) := by
  cases i <;> first | rfl | cases h
theorem asgSub {a i : Expr} {pos : Pos} {env : Env} (h : notSliceE i = true) (v : Value) : assign (.Subscript a i pos) env v = (do
      let ov ← holding [v] (eval a env)
      let iv ← holding [v, ov] (eval i env)
      standAt pos
      holding [v, ov, iv] (setItem ov iv v)
      release [v, ov, iv] []) := by
  cases i <;> first | rfl | cases h
theorem PE.unb {X : Cx} {op : BoolOp} {es : List Expr} {p : Pos} {t : TE} (h : PE X (unb (.BoolOp op es p)) t) : PE X (.BoolOp op es p) t := by
  match es, h with
  | [], h => exact h
  | [a], h => exact pe_one h
  | a :: b :: r, h => exact h
theorem PW.unb {X : Cx} {op : BoolOp} {es : List Expr} {p : Pos} {t : TT} (h : PT X (Mq.unb (.BoolOp op es p)) t) : PW X (.BoolOp op es p) t := by
  match es, h with
  | [], h => exact PW.of h
  | [a], h =>
    cases op with
    | And => exact pw_and1 h
    | Or => exact pw_or1 h
  | a :: b :: r, h => exact PW.of h
def swpN (sc : Scope) (line : Nat) : Expr → Option Str
  | .Name id pos => if sc.names.lookup id == some .local && pos.line == line then some id else none
  | _ => none
def swp (sc : Scope) (ts vs : List Expr) : Option (Option (List Str)) :=
  if vs.any (fun e => !notStar e) then none
  else if !(ts.length == 2 || ts.length == 3) || vs.length != ts.length then some none
  else
    let names := ts.filterMap (swpN sc ((ts.head?.map (·.pos.line)).getD 0))
    if names.length != ts.length || names.eraseDups.length != names.length then some none
    else if vs.all (foldedForSure 8) then some none
    else if vs.all (constantsAlone 8) then none
    else some (some names)
theorem swp_ok {ts vs : List Expr} {k1 k2 : Nat} {p1 p2 : Pos} {env : Env} {sc : Scope} {r : Option (List Str)} (hs : env.scope = sc) (hb : env.blockKind = .function) (h : swp sc ts vs = some r) :
    swappedStores [.Tuple ts k1 p1] (.Tuple vs k2 p2) env = pure r := by
  subst hs
  unfold swp at h
  unfold swappedStores
  simp only [hb]
  have hk : (ScopeKind.function != ScopeKind.function) = false := by decide
  rw [hk, Bool.or_false]
  generalize hns : List.filterMap _ ts = ns
  have hns' : ts.filterMap (swpN env.scope ((ts.head?.map (·.pos.line)).getD 0)) = ns := by
    rw [← hns]
    congr 1
  rw [hns'] at h
  cases h1 : vs.any (fun e => !notStar e) with
  | true => rw [h1, if_pos rfl] at h; cases h
  | false =>
    rw [h1, if_neg Bool.false_ne_true] at h
    split at h
    · rename_i h2
      cases h
      rw [if_pos h2]
    · rename_i h2
      rw [if_neg h2]
      split
      · rename_i hv
        exfalso
        have : vs.any (fun e => !notStar e) = true := by
          rw [← hv]
          congr 1
          funext e
          cases e <;> rfl
        rw [h1] at this
        cases this
      · dsimp only at h
        split at h
        · rename_i h3
          cases h
          rw [if_pos h3]
        · rename_i h3
          rw [if_neg h3]
          split at h
          · rename_i h4
            cases h
            rw [if_pos h4]
          · rename_i h4
            rw [if_neg h4]
            split at h
            · cases h
            · rename_i h5
              rw [if_neg h5]
              cases h
              rfl
end Mq

namespace Mq
open PySem PySem.Spec PyProof.Rows L2 Mp
section
variable {X : Cx} {E : ErT} {W : WX} {a b c e : Expr} {pos p2 : Pos} {fa fb fc : Sta → Rs SV}
theorem tT_tE {K : PySem.W.Frag} {F : Sta → Rs SV} {σ : L2.St} {H : Hp} {Q : Bool → Hp → Prop} (h : tT K E W (fun s => asB (F s)) σ H Q) : tE K E W F σ H fun x H1 => ∃ d, x = .bl d ∧ Q d H1 := by
  obtain ⟨g, st, R, h⟩ := h
  refine asB.seq (k := fun c s => .ok c s) (Qb := fun c g st H => Q c H) R ?_ fun i g1 st1 H1 G R1 h => ⟨i, rfl, Out.now R1 h⟩
  dsimp only at h
  cases e : asB (F st) with
  | err a s => rw [e] at h; exact h
  | bad => rw [e] at h; exact h
  | ok c s => rw [e] at h; exact h
theorem m_isNT {j : Nat} (ha : PE X a (tE X.K E W fa)) : PT X (.Compare a [.Is] [.Constant .none j p2] pos) (tT X.K E W fun s => asB ((fa s).bind fun x s => Rs.of (x.isNon.map fun b => .bl b) s)) := by
  refine PT.imp (pt_cmp (pc_isN ha)) fun σ H Q h => ?_
  obtain ⟨g, st, R, h⟩ := tT_tE h
  refine tE.seq R h fun v x g1 st1 H1 G R1 r h => ?_
  cases ev : v.isNon with
  | none => rw [ev] at h; exact h.elim
  | some k =>
    rw [ev] at h
    rw [RepV.isNon r ev]
    exact Out.valB R1 h
theorem m_notNT {j : Nat} (ha : PE X a (tE X.K E W fa)) : PT X (.Compare a [.IsNot] [.Constant .none j p2] pos) (tT X.K E W fun s => asB ((fa s).bind fun x s => Rs.of (x.isNon.map fun b => .bl (!b)) s)) := by
  refine PT.imp (pt_cmp (pc_notN ha)) fun σ H Q h => ?_
  obtain ⟨g, st, R, h⟩ := tT_tE h
  refine tE.seq R h fun v x g1 st1 H1 G R1 r h => ?_
  cases ev : v.isNon with
  | none => rw [ev] at h; exact h.elim
  | some k =>
    rw [ev] at h
    rw [RepV.isNon r ev]
    exact Out.valB R1 h
theorem m_isBT {k : Bool} {j : Nat} (ha : PE X a (tE X.K E W fa)) : PT X (.Compare a [.Is] [.Constant (.bool k) j p2] pos) (tT X.K E W fun s => asB ((asB (fa s)).bind fun b s => .ok (.bl (b == k)) s)) := by
  refine PT.imp (pt_cmpR op_isBl ha pe_bl (nomark _)) fun σ H Q h => ?_
  obtain ⟨g, st, R, h⟩ := tT_tE h
  refine asB.seq R h fun i g1 st1 H1 G R1 h => ⟨i, k, rfl, rfl, ?_⟩
  have h := Out.valB R1 h
  rw [Bool.beq_eq_decide_eq] at h
  exact h
theorem m_notBT {k : Bool} {j : Nat} (ha : PE X a (tE X.K E W fa)) : PT X (.Compare a [.IsNot] [.Constant (.bool k) j p2] pos) (tT X.K E W fun s => asB ((asB (fa s)).bind fun b s => .ok (.bl (!(b == k))) s)) := by
  refine PT.imp (pt_cmpR op_notBl ha pe_bl (nomark _)) fun σ H Q h => ?_
  obtain ⟨g, st, R, h⟩ := tT_tE h
  refine asB.seq R h fun i g1 st1 H1 G R1 h => ⟨i, k, rfl, rfl, ?_⟩
  have h := Out.valB R1 h
  rw [Bool.beq_eq_decide_eq] at h
  exact h
theorem m_cmp2T {op1 op2 : Cop} (hu : X.A.units + 65 < cLine) (ha : PE X a (tE X.K E W fa)) (hb : PE X b (tE X.K E W fb)) (hc : PE X c (tE X.K E W fc)) (hm : lastMarks [cmpOf op1, cmpOf op2] [b, c] = false) :
    PT X (.Compare a [cmpOf op1, cmpOf op2] [b, c] pos) (tT X.K E W fun s => asB ((fa s).bind fun x s => (fb s).bind fun y s => (Rs.of (cmpV s op1 x y) s).bind fun k s =>
      if k then (fc s).bind fun z s => (Rs.of (cmpV s op2 y z) s).bind fun k s => .ok (.bl k) s else .ok (.bl false) s)) := by
  refine PT.imp (pt_chain (op_cmpV hu) (op_cmpV hu) ha hb hc hm) fun σ H Q h => ?_
  obtain ⟨g, st, R, h⟩ := tT_tE h
  refine tE.seq R h fun v x g1 st1 H1 G R1 r h => tE.seq R1 h fun w y g2 st2 H2 G2 R2 r2 h => ?_
  refine cmp_seq R2 (r.up G2) r2 h.bind fun k ⟨_, _, h⟩ => ⟨k, rfl, ?_⟩
  cases k with
  | false => exact Out.valB R2 h
  | true =>
    rw [if_pos rfl]
    refine tE.seq R2 h fun z zz g3 st3 H3 G3 R3 r3 h => ?_
    exact cmp_seq R3 (r2.up G3) r3 h.bind fun c ⟨_, _, o⟩ => Out.valB R3 o
theorem asB_not {r : Rs SV} : asB ((asB r).bind fun b s => .ok (.bl (!b)) s) = (asB r).bind fun b s => .ok (!b) s := by
  cases r with
  | ok v s => cases v <;> rfl
  | err _ _ => rfl
  | bad => rfl
theorem asB_and {r : Rs SV} {k : Sta → Rs SV} : asB ((asB r).bind fun c s => if c then k s else .ok (.bl false) s) = (asB r).bind fun c s => if c then asB (k s) else .ok false s := by
  cases r with
  | ok v s =>
    cases v <;> try rfl
    rename_i b
    cases b <;> rfl
  | err _ _ => rfl
  | bad => rfl
theorem asB_or {r : Rs SV} {k : Sta → Rs SV} : asB ((asB r).bind fun c s => if c then .ok (.bl true) s else k s) = (asB r).bind fun c s => if c then .ok true s else asB (k s) := by
  cases r with
  | ok v s =>
    cases v <;> try rfl
    rename_i b
    cases b <;> rfl
  | err _ _ => rfl
  | bad => rfl
theorem m_notT (ha : PT X a (tT X.K E W fun s => asB (fa s))) : PT X (.UnaryOp .Not a pos) (tT X.K E W fun s => asB ((asB (fa s)).bind fun b s => .ok (.bl (!b)) s)) := by
  refine PT.imp (pt_not ha) fun σ H Q ⟨g, st, R, h⟩ => ?_
  dsimp only at h
  rw [asB_not] at h
  exact tT.seq R h fun k g1 st1 H1 G R1 h => Out.now R1 h
theorem m_andT {rest : List Expr} (ha : PT X a (tT X.K E W fun s => asB (fa s))) (hb : PW X (.BoolOp .And (b :: rest) pos) (tT X.K E W fun s => asB (fb s))) :
    PT X (.BoolOp .And (a :: b :: rest) pos) (tT X.K E W fun s => asB ((asB (fa s)).bind fun c s => if c then fb s else .ok (.bl false) s)) := by
  refine PT.imp (pw_and ha hb).pt fun σ H Q ⟨g, st, R, h⟩ => ?_
  dsimp only at h
  rw [asB_and] at h
  refine tT.seq R h fun k g1 st1 H1 G R1 h => ?_
  cases k with
  | true => exact ⟨g1, st1, R1, h⟩
  | false => exact Out.now R1 h
theorem m_orT {rest : List Expr} (ha : PT X a (tT X.K E W fun s => asB (fa s))) (hb : PW X (.BoolOp .Or (b :: rest) pos) (tT X.K E W fun s => asB (fb s))) :
    PT X (.BoolOp .Or (a :: b :: rest) pos) (tT X.K E W fun s => asB ((asB (fa s)).bind fun c s => if c then .ok (.bl true) s else fb s)) := by
  refine PT.imp (pw_or ha hb).pt fun σ H Q ⟨g, st, R, h⟩ => ?_
  dsimp only at h
  rw [asB_or] at h
  refine tT.seq R h fun k g1 st1 H1 G R1 h => ?_
  cases k with
  | true => exact Out.now R1 h
  | false => exact ⟨g1, st1, R1, h⟩
/-- what is never reached -/
theorem m_bad : PE X e (tE X.K E W fun _ => .bad) := ⟨fun _ _ _ _ _ _ ⟨_, _, _, h⟩ => h.elim⟩
theorem m_badT : PT X e (tT X.K E W fun _ => asB .bad) := ⟨fun _ _ _ _ _ _ ⟨_, _, _, h⟩ => h.elim⟩
theorem m_badF : PE X e (tF X.K E W fun _ => .bad) := ⟨fun _ _ _ _ _ _ ⟨_, _, _, h⟩ => h.elim⟩
theorem s_bad {st : Stmt} : PS X st (tS X.K E W fun _ => .bad) := ⟨fun _ _ _ _ _ _ ⟨_, _, _, h⟩ => h.elim⟩
end
end Mq

namespace Mq
open PySem PySem.Spec PyProof.Rows L2 Mp
theorem InitFd.binds {P : Program} {K : PySem.W.Frag} {C : Addr} {f : Str} {fd : FuncData} {body : List Stmt} (T : InitFd P K C f fd body) (us : List Value) (h : us.length = 2) : bindArgs fd ⟨us, []⟩ = pure ([("self" : Str), f].zip us) := by
  obtain ⟨o0, o1, q0, q1, hp⟩ := T.par
  obtain ⟨nm, qn, pa, bo, sc, gl, cl, de, kd, doc, pm, an, co, ct, bu⟩ := fd
  have hd := T.df
  dsimp only at hp hd
  subst hp hd
  match us, h with
  | [u, v], _ => rcases T.fnm with rfl | rfl | rfl <;> rfl
theorem callAttr0 {o : Expr} {nm : Str} {ap pos : Pos} {args : List Expr} {env : Env} (hs : args.all notStar = true) (hl : decide (args.length < 25) = true) (hline : (ap.endLine == pos.line) = true) :
    eval (.Call (.Attribute o nm ap) args [] pos) env = (do
      let ov ← attributeBase o nm env (eval o env)
      standAt ap.atName
      let (f, first) ← holding [ov] (getMethod ov nm (do return (← importBound o env).getD true))
      callWith pos f first (backTo pos (starEach args env)) []) := by
  have hform : methodCallForm (args.length + ([] : List Keyword).length) (backTo pos (starEach args env)) (backToKw pos (keywordEach [] env)) = true := by
    unfold methodCallForm
    have h1 : (backTo pos (starEach args env)).all (fun x => !x.1) = true := by
      have := stars (pos := pos) (env := env) hs
      rw [List.all_eq_not_any_not]
      simp only [Bool.not_not]
      rw [this]
      rfl
    rw [h1]
    have := of_decide_eq_true hl
    simp [keywordEach, backToKw]
    omega
  have hpos : methodCallPos true o env ap pos = pure pos := by unfold methodCallPos; simp [hline]
  rw [arm_eval_Call]
  congr 1
  funext ov
  congr 1
  funext _
  unfold methodCall
  rw [hform]
  show (holding [ov] (getMethod ov nm _) >>= fun x => methodCallPos true o env ap pos >>= fun cp => callWith cp x.1 x.2 _ _) = _
  rw [hpos]
  simp only [pure_bind]
  rfl
section
variable {P0 : Program} {w : World} {K : PySem.W.Frag} {mg : Str → Option Value} {base : Heap} {A : Around} {s : Shared} {C fI a t0 : Addr} {f : Str} {fd : FuncData} {body : List Stmt} {R : Result → Shared → Prop} {v : Value} {oc : Value} {od : Option Addr} {osl : Array (Option Value)}
theorem init_code (M : Mod K mg base) (bk : ∀ b o, base.get? b = some o → s.heap.get? b = some o) (T : InitFd P0 K C f fd body) (I : InitCls K C f) (lk : K.lookup fI = some ⟨oc, od, .func fd, osl⟩) (hsu : mg "super" = none) {args : Args} (hbi : BindsTo s fd args [(("self" : Str), .ref a), (f, v)])
    (hroom : A.depth < recursionLimit) (he : s.heap.get? a = some (HandSPX.excO C t0)) (hab : base.get? a = none)
    (hq : ∀ h' dx tk t1, (∀ b o, b ≠ a → s.heap.get? b = some o → h'.get? b = some o) → s.heap.get? dx = none → dx ≠ a →
      h'.get? a = some ({ cls := .ref C, dict := some dx, data := .fields #[.ref t1, .none, .none, .none, .bool false, .none] } : Obj) → h'.Ns1 dx (fun y => if y = f then some v else none) →
      R (.ok (.ret .none)) { s with heap := h', toks := tk }) : codeAny (model P0 w) A (.call (.ref fI) args) R s := by
  have X : K.In s.heap := M.kin.keeps bk
  obtain ⟨p0, p1, p2, p3, p4, p5, p6, p7, p8, p9, rfl, hline⟩ := T.shape
  obtain ⟨nm, q, N, bs, bm, sn, sub, ab, col, dd, k0, k1, k2, k3, k5, hC, hbm⟩ := I.oex.cls
  have hcl : PySem.W.clsIn K C = some { name := nm, bases := bs, mro := .ref C :: bm, ns := N, qualname := q, hasDict := true, slotNames := sn, subclasses := sub, abstract := ab, collection := col, hasDel := false } := by unfold PySem.W.clsIn; rw [hC] <;> rfl
  obtain ⟨hp, g, d, t, os⟩ := s
  refine ks_codeAny_call_defAt (fd := fd) (body := _) (binds := [(("self" : Str), .ref a), (f, v)]) hroom (X _ _ lk) rfl (M.nolimit.keeps bk) (PySem.W.codeRec_of X T.cd) T.bd hbi T.nc (fun x hx => ?_) (fun h₀ hns kk => ?_) T.co T.ge T.kd
  · rcases List.mem_cons.mp hx with rfl | hx
    · exact T.ls
    · rcases List.mem_cons.mp hx with rfl | hx
      · exact T.lf
      · cases hx
  have nsf : (f == ("self" : Str)) = false := by rcases T.fnm with rfl | rfl | rfl <;> decide +kernel
  have nsg : (("self" : Str) == f) = false := by rcases T.fnm with rfl | rfl | rfl <;> decide +kernel
  have ndf : (f == ("__debug__" : Str)) = false := by rcases T.fnm with rfl | rfl | rfl <;> decide +kernel
  obtain ⟨cc, occ, dcc, vs, slc, file, tf, hco, hcode, hvs, hfile⟩ := T.code
  obtain ⟨kc, okc, dkc, skc, hcl1, hcl2⟩ := T.cell
  obtain ⟨o0, o1, q0, q1, hpar⟩ := T.par
  obtain ⟨mb, hmb, hbo⟩ := M.blt
  have X0 : K.In h₀ := X.keeps kk
  have kb : ∀ b o, base.get? b = some o → h₀.get? b = some o := fun b o e => kk b o (bk b o e)
  have ha0 : h₀.get? a = some (HandSPX.excO C t0) := kk _ _ he
  have aL : a ≠ hp.objs.size := Nat.ne_of_lt (Heap.lt_size he)
  have ms : List.lookup ("self" : Str) [(("self" : Str), Value.ref a), (f, v)].reverse = some (.ref a) := by simp [List.lookup, nsg]
  have mf : List.lookup f [(("self" : Str), Value.ref a), (f, v)].reverse = some v := by simp [List.lookup]
  refine ks_wpAt_execs_cons (ks_wpAt_Expr_any (ks_wpAt_MethodCall (he := callAttr0 rfl rfl hline) (ks_wpAt_super_base (f := fI) (cc := cc) (fd := fd) (ar := ⟨"self", o0, q0⟩) T.lsu T.lc (by decide +kernel) rfl (X0 _ _ lk) rfl (by rw [hpar]; rfl) hco (X0 _ _ hcode) rfl hvs hfile T.top ?_)) (hi := by unfold interactive; rw [show (callEnv fd hp.objs.size fI).scope.kind = .function from T.kd]; rfl))
  refine PySem.W.ks_loadName_global T.kd T.lsu (PySem.Calls.loadGlobal_builtin (mg := mg) (mb := mb) (by show Heap.Ns _ fd.globals _; rw [T.gl]; exact M.glob.keeps kb) hsu (by show Heap.Ns _ fd.builtins _; rw [T.bl]; exact hmb.keeps kb) ((hbo _ (by decide +kernel)).trans (show bootBuiltins "super" = some (.type "super") by decide +kernel)) ⟨rfl, ?_⟩)
  refine wpAny_loadName_free T.kd T.lc hcl1 ⟨_, X0 _ _ hcl2, rfl⟩ ?_
  refine wpAny_loadName_local T.kd T.ls hns ms ?_
  refine ks_wpAny_isType_cls (X0 _ _ hC) rfl ⟨rfl, ?_⟩
  refine ks_wpAny_call_super (X0 _ _ hC) rfl ha0 rfl (fun c e => nomatch e) (PySem.W.looks_mroIn X0 I.own) (fun h1 so k1 => ?_)
  have X1 : K.In h1 := X0.keeps k1
  have I1 : PySem.W.InstAt h1 a (HandSPX.excO C t0) C none := ⟨k1 _ _ ha0, rfl, rfl, trivial⟩
  have aC : a ≠ C := fun z => by
    have := X0 _ _ hC
    rw [← z, ha0] at this
    cases this
  have hal := I.sup
  unfold PySem.W.ks_superIn at hal
  rw [hcl] at hal
  refine PySem.W.kxs_getMethod PySem.W.kxs_ValueError so (PySem.W.looks_opaque X1 I.third) (l₀ := .ref C :: bm) (fun A Q E s k q => wpAny_bind ((PySem.W.looks_clsIn X1 hcl) A _ E s k (wpAny_pure q))) rfl X1 hal (I1.type.andThen (PySem.W.looks_subIn X1 I.ve)) aC (by decide +kernel) ?_
  have k2 : ∀ b o, h₀.get? b = some o → (h1.push (PySem.W.kxs_mw "ValueError.__init__" a)).get? b = some o := fun b o e => Heap.get?_push_of_some _ (k1 b o e)
  have hu : (h1.push (PySem.W.kxs_mw "ValueError.__init__" a)).get? h1.objs.size = some (PySem.W.kxs_mw "ValueError.__init__" a) := Heap.get?_push_at rfl rfl
  generalize hh2 : h1.push (PySem.W.kxs_mw "ValueError.__init__" a) = h2 at k2 hu
  refine PySem.W.kxs_callWith (i := "ValueError.__init__") (x := a) rfl (PySem.Calls.evalArgs_plain (spliced_more (wpAny_Name (wpAny_loadName_local (env := callEnv fd hp.objs.size fI) T.kd T.lf (hns.keeps k2) mf ?_) ndf)))
  refine spliced_none ⟨hu, ?_⟩
  refine wpAny_call (codeAny_of_tree ?_)
  show wpAny _ _ (callAny (.ref h1.objs.size) ⟨[v], []⟩) _ _ _
  simp only [callAny]
  refine wpAny_bind (wpAny_load hu ?_)
  have ew : (Value.type "method-wrapper" == Value.type "method" || Value.type "method-wrapper" == Value.type "builtin_function_or_method" || Value.type "method-wrapper" == Value.type "method-wrapper") = true := by decide
  simp only [PySem.W.kxs_mw, ew, if_true]
  refine PySem.W.KFB.if_so (by decide) ?_
  have X2 : K.In h2 := X0.keeps k2
  have ha2 := k2 _ _ ha0
  refine wpAny_bind (PySem.W.check_bound_init F.excBase_ValueError.toExcCallFacts (X2 _ _ hC) ha2 rfl ?_)
  refine wpAny_bind (wpAny_pure (wpAny_pure ⟨PySem.plainId_quiet F.excBase_ValueError.init.plain _, codeAny_builtin F.excBase_ValueError.initEntry ?_⟩))
  refine PySem.W.exc_init_tree (cls := .ref C) (t0 := t0) (dv := none) (c2 := .none) (c3 := .none) (b4 := .bool false) ha2 (by show 1 ≤ sizeLine; rw [sizeLine_eq]; omega) fun h3 k3 e3 _ => ?_
  have ns3 : h3.Ns hp.objs.size (fun x => List.lookup x [(("self" : Str), Value.ref a), (f, v)].reverse) := by
    obtain ⟨oL, es, ep, q1, q2⟩ := hns.keeps k2
    exact ⟨oL, es, ep, k3 _ _ (Ne.symm aL) q1, q2⟩
  have X3 : K.In h3 := fun b o e => by
    refine k3 b o (fun y => ?_) (X2 b o e)
    have z := M.kin _ _ e
    rw [y, hab] at z
    cases z
  refine ks_wpAt_execs_cons (ks_wpAt_Assign_Attr (wpAt_of_wpAny (wpAny_Name (wpAny_loadName_local (env := callEnv fd hp.objs.size fI) T.kd T.lf ns3 mf ?_) ndf)) rfl)
  refine wpAny_Name (wpAny_loadName_local (env := callEnv fd hp.objs.size fI) T.kd T.ls ns3 ms ?_) (by decide +kernel)
  refine PySem.W.set_plain X3 (ox := { cls := .ref C, dict := none, data := .fields #[.ref h2.objs.size, .none, .none, .none, .bool false, .none] }) (od := none) ⟨e3, rfl, rfl, trivial⟩ I.oex.sa ?_
  refine PySem.HandSPX.exc_osa X3 e3 hcl (show PySem.HandSPX.refsVE (.ref C :: bm) = true from hbm) rfl I.no (fun h' tk' dx k dn dne hx hn => ?_)
  show PySem.wpAt _ _ _ (execs [] _) _ _ _
  rw [execs_nil]
  refine wpAt_of_wpAny (wpAny_pure ?_)
  have kall : ∀ b o, b ≠ a → hp.get? b = some o → h'.get? b = some o := fun b o n e => k b o n (k3 b o n (k2 b o (kk b o e)))
  refine hq h' dx _ _ kall ?_ dne hx hn
  cases q : hp.get? dx with
  | none => rfl
  | some o => exact absurd (Heap.lt_size (k3 dx o dne (k2 dx o (kk dx o q)))) (Nat.not_lt.mpr dn)
/-- what such an __init__ promises -/
def spI (C : Addr) (f : Str) : Sp := fun vs H Q _ => ∃ (a : Addr) (v : V), vs = [.ref a, v] ∧ H a = some (exo a C none) ∧ ∀ dx, H dx = none → dx ≠ a → Q .non (upd (upd H dx (exd dx [(f, v)])) a (exo a C (some dx)))
theorem init_fn {k : Nat} (T : InitFd P0 K C f fd body) (I : InitCls K C f) (lk : K.lookup fI = some ⟨oc, od, .func fd, osl⟩) (hsu : mg "super" = none) : FnOk P0 w K mg base (L2.CX P0 w) k fI fd [("self" : Str), f] (spI C f) := by
  refine ⟨fun vs H Q E ⟨a, v, e, _⟩ => by rw [e]; rfl, fun A outer s H args us vs Q E hr e0 hb hv ⟨a, v, ev, ea, q⟩ => ?_⟩
  subst ev
  cases hv with
  | @cons _ u0 _ ur r0 rr =>
    cases rr with
    | @cons _ u1 _ _ r1 rn =>
      cases rn
      obtain rfl : u0 = Value.ref a := r0
      obtain ⟨t0, hget⟩ := exo_at e0.hok ea
      have hab : base.get? a = none := by
        cases z : base.get? a with
        | none => rfl
        | some o => rw [(e0.bs a o z).2] at ea; cases ea
      refine init_code (t0 := t0) e0.mod (fun b o e => (e0.bs b o e).1) T I lk hsu hb (by have := hr.dp; omega) hget hab fun h' dx tk t1 kp dn dne hx hn => ?_
      have hnd : H dx = none := e0.hok.gone dn
      have nd : ∀ {b : Addr} {o : Obj}, s.heap.get? b = some o → b ≠ dx := fun {b o} z y => by rw [y, dn] at z; cases z
      have na : ∀ {b : Addr}, H b = none → b ≠ a := fun {b} n z => by rw [z, ea] at n; cases n
      refine ⟨.non, _, rfl, e0.bare, ?_, ?_, rfl, q dx hnd dne⟩
      · exact {
          keep := fun b o z n _ _ => kp b o (na n) z
          slot := fun b o z n _ _ => ⟨o.slots, kp b o (na n) z⟩
          free := fun b o z n _ => by rw [upd_ne (na n), upd_ne (nd z)]; exact n
          there := fun b o z _ => by
            by_cases hba : b = a
            · exact ⟨_, by rw [hba]; exact hx⟩
            · exact ⟨o, kp b o hba z⟩
          tups := fun b xs z => by rw [upd_ne (at_ne ea z exo_tup), upd_ne (ne_of_none z hnd)]; exact z
          frzs := fun b o u z => by rw [upd_ne (at_ne ea z exo_frz), upd_ne (ne_of_none z hnd)]; exact z
          tbls := fun b ps z => ⟨#[], by rw [upd_ne (at_ne ea z exo_tbl), upd_ne (ne_of_none z hnd), z]; simp⟩ }
      · intro b o z
        by_cases hba : b = a
        · rw [hba, upd_same] at z
          cases z
          rw [hba]
          exact exo_ok hx
        · rw [upd_ne hba] at z
          by_cases hbd : b = dx
          · rw [hbd, upd_same] at z
            cases z
            rw [hbd]
            exact exd_ok hn (relO_put (fs := []) r1 fun g => True.intro)
          · rw [upd_ne hbd] at z
            refine (e0.hok b o z).stay (fun c u hc y => kp c u ?_ y) (fun c y => by rw [upd_ne (at_ne ea y exo_own), upd_ne (ne_of_none y hnd)]; exact y) fun c xs y => by rw [upd_ne (at_ne ea y exo_tup), upd_ne (ne_of_none y hnd)]; exact y
            rcases hc with rfl | hc
            · exact hba
            · exact at_ne ea hc exo_own
end
end Mq

namespace Mq
open PySem PySem.Spec PyProof.Rows L2 Mp
theorem oexB_ok {K : PySem.W.Frag} {C : Addr} (h : oexB K C = true) : ∃ nm q N bs bm sn sub ab col dd k0 k1 k2 k3 k5, K.lookup C = some (excClassObj nm q C N bs bm true sn sub ab col dd k0 k1 k2 k3 k5 "ValueError.__new__") ∧ PySem.HandSPX.refsVE bm = true := by
  unfold oexB at h
  split at h
  · rename_i dd cd sl ho
    split at h
    · rename_i C' bm k0 k1 k2 k3 n k5 hm hs
      simp only [Bool.and_eq_true, beq_iff_eq, Bool.not_eq_true'] at h
      obtain ⟨⟨⟨⟨rfl, rfl⟩, hdel⟩, hdct⟩, hr⟩ := h
      obtain ⟨nm, bs, mro, ns, qn, hd, sn, sub, ab, col, del⟩ := cd
      dsimp only at hm hdel hdct
      subst hm hdel hdct
      have hsl : sl = #[k0, k1, k2, k3, some (.builtin "ValueError.__new__"), k5] := by
        obtain ⟨l⟩ := sl
        simp only at hs
        rw [hs]
      subst hsl
      exact ⟨nm, qn, ns, bs, bm, sn, sub, ab, col, dd, k0, k1, k2, k3, k5, ho, hr⟩
    · cases h
  · cases h
theorem fnB_ok {fl : Str} {P : Program} {K : PySem.W.Frag} {C : Addr} {f : Str} {fd : FuncData} (hfl : P.main.file = fl) (htop : (P.main.scope.names.lookup ("super" : Str)).isSome = false) (h : fnB fl K C f fd = true) : ∃ body, InitFd P K C f fd body := by
  unfold fnB at h
  simp only [Bool.and_eq_true, decide_eq_true_eq, Bool.or_eq_true, Bool.not_eq_true', List.all_eq_true] at h
  obtain ⟨⟨⟨⟨⟨⟨⟨⟨⟨⟨⟨⟨⟨⟨⟨⟨h1, h2⟩, h3⟩, h4⟩, h5⟩, h6⟩, h7⟩, h8⟩, h9⟩, h10⟩, h11⟩, h12⟩, h13⟩, h14⟩, h15⟩, h16⟩, h17⟩ := h
  split at h1
  case h_2 => cases h1
  rename_i s0 p0 p1 i0 p2 a p3 p4 p5 s1 p6 g p7 b p8 p9 hb
  simp only [Bool.and_eq_true, decide_eq_true_eq] at h1
  obtain ⟨⟨⟨⟨⟨⟨rfl, rfl⟩, rfl⟩, rfl⟩, rfl⟩, rfl⟩, hl⟩ := h1
  refine ⟨_, hb, ⟨_, _, _, _, _, _, _, _, _, _, rfl, hl⟩, ?_, ?_, ?_, h5, h6, h7, h8, fun x hx => h9 x hx, h10, h11, h12, h13, h14, ?_, h16, ?_, htop⟩
  · split at h2
    case h_2 => cases h2
    rename_i a0 o0 q0 a1 o1 q1 hp
    simp only [Bool.and_eq_true, decide_eq_true_eq] at h2
    obtain ⟨rfl, rfl⟩ := h2
    exact ⟨_, _, _, _, hp⟩
  · split at h3
    · assumption
    · cases h3
  · rcases h4 with (h | h) | h
    · exact .inl h
    · exact .inr (.inl h)
    · exact .inr (.inr h)
  · split at h15
    case h_2 => cases h15
    rename_i cc hc
    split at h15
    case h_2 => cases h15
    rename_i o d vs sl hk
    split at h15
    case h_2 => cases h15
    rename_i file tf hv
    exact ⟨cc, o, d, vs, sl, file, tf, hc, hk, hv, by rw [hfl]; exact h15⟩
  · split at h17
    case h_2 => cases h17
    rename_i k hc
    split at h17
    case h_2 => cases h17
    rename_i o d D sl hk
    rw [eq_of_beq h17] at hk
    exact ⟨k, o, d, sl, hc, hk⟩
theorem exTB_ok {K : PySem.W.Frag} {exs : List (Str × Nat)} {c : Nat} (h : exTB K exs c = true) : ExT K exs c := by
  unfold exTB at h
  simp only [Bool.and_eq_true, decide_eq_true_eq] at h
  obtain ⟨⟨⟨⟨⟨⟨⟨⟨⟨⟨⟨⟨h1, h2⟩, h3⟩, h4⟩, h5⟩, h6⟩, h7⟩, h8⟩, h9⟩, h10⟩, h11⟩, h12⟩, h13⟩ := h
  refine ⟨h1, h2, h3, h4, He.eqO_ok h5, He.eqO_ok h6, He.eqO_ok h7, He.eqO_ok h8, h9, h10, h11, fun x d hx hd => ?_, fun x d hx hd => ?_, fun i hi => ?_⟩
  · have := List.all_eq_true.mp h12 (x, d) hx
    rw [if_neg (by simpa using hd)] at this
    exact of_decide_eq_true this
  · have := List.all_eq_true.mp h12 (x, d) hx
    rw [if_pos (by simpa using hd)] at this
    exact of_decide_eq_true this
  · rw [hi] at h13
    exact He.eqO_ok h13
theorem iniB_ok {fl : Str} {P : Program} {K : PySem.W.Frag} {C : Addr} {f : Str} (hfl : P.main.file = fl) (htop : (P.main.scope.names.lookup ("super" : Str)).isSome = false) (h : iniB fl K C f = true) :
    ∃ fI fd body oc od osl, PySem.W.findIn K (.ref C) "__init__" = some (some (.ref fI)) ∧ PySem.W.typeIn K (.ref fI) = some (.type "function") ∧ K.lookup fI = some ⟨oc, od, .func fd, osl⟩ ∧ InitFd P K C f fd body ∧ InitCls K C f := by
  unfold iniB at h
  simp only [Bool.and_eq_true, decide_eq_true_eq] at h
  obtain ⟨⟨⟨⟨⟨⟨⟨⟨⟨⟨h1, h2⟩, h3⟩, h4⟩, h5⟩, h6⟩, h7⟩, h8⟩, h9⟩, h10⟩, h11⟩ := h
  split at h1
  case h_2 => cases h1
  rename_i fI hf
  simp only [Bool.and_eq_true, decide_eq_true_eq] at h1
  obtain ⟨ht, h1⟩ := h1
  split at h1
  case h_2 => cases h1
  rename_i oc od fd osl hk
  obtain ⟨body, T⟩ := fnB_ok hfl htop h1
  exact ⟨fI, fd, body, oc, od, osl, hf, ht, hk, T, ⟨oexB_ok h2, He.eqO_ok h3, h4, h5, h6⟩, He.eqO_ok h7, h8, h9, He.eqO_ok h10, He.eqO_ok h11⟩
theorem exMB_ok {fl : Str} {P : Program} {K : PySem.W.Frag} {c : Nat} (hfl : P.main.file = fl) (htop : (P.main.scope.names.lookup ("super" : Str)).isSome = false) (h : exMB fl K c = true) : ExMk P K c := by
  unfold exMB at h
  refine ⟨fun i hi => ?_, fun hn => ?_⟩
  · rw [hi] at h; exact iniB_ok hfl htop h
  · rw [hn] at h; exact h
end Mq

namespace Mq
open PySem PySem.Spec PyProof.Rows L2 Mp
theorem exE_const {K : PySem.W.Frag} {exs : List (Str × Nat)} : EConst (exE K exs) := fun _ _ _ _ _ _ _ _ h => h
section
variable {X : Cx} {W : WX} {E : ErT} {exs : List (Str × Nat)} {c i : Nat} {x : Str} {e : Expr} {te : TE} {fe : Sta → Rs SV} {p pos pos' : Pos}
theorem upd_del {H1 : Hp} {a d : Addr} {o u v : HO} {w : HO} (ha : H1 a = none) (hda : d ≠ a) : upd (del (upd (upd (upd H1 a o) d u) a v) a) d w = upd H1 d w := by
  funext b
  by_cases hb : b = d
  · rw [hb, upd_same, upd_same]
  · rw [upd_ne hb, upd_ne hb]
    by_cases hba : b = a
    · rw [hba, del_same, ha]
    · rw [del_ne hba, upd_ne hba, upd_ne hb, upd_ne hba]
/-- C(e), its reading -/
def mk1 (C : Addr) (f : Str) (v : V) (H1 : Hp) (Q : XK) : Prop := ([v] : List V).length ≤ 1000 ∧ ∀ a, H1 a = none → spI C f (.ref a :: ([v] ++ [])) (upd H1 a (exo a C none))
  (fun v H2 => v = .non ∧ ∃ (d : Addr) (fs : List (Str × V)), H2 a = some (exo a C (some d)) ∧ H2 d = some (exd d fs) ∧ H1 d = none ∧ Q (.ref C) (some d) (upd (del H2 a) d (.xd fs))) (fun _ _ _ => False)
theorem mk1_of {C : Addr} {f : Str} {v : V} {H1 : Hp} {Q : XK} (h : ∀ d, H1 d = none → Q (.ref C) (some d) (upd H1 d (.xd [(f, v)]))) : mk1 C f v H1 Q := by
  refine ⟨by simp, fun a ha => ⟨a, v, rfl, upd_same, fun dx hdx hne => ⟨rfl, dx, [(f, v)], upd_same, ?_, ?_, ?_⟩⟩⟩
  · rw [upd_ne hne, upd_same]
  · rw [upd_ne hne] at hdx; exact hdx
  · rw [upd_ne hne] at hdx
    rw [upd_del ha hne]
    exact h dx hdx
theorem mk_exc1 {k : Nat} (M : ExMk X.prog X.K c) (hi : excF c = some i) (hsu : X.mg "super" = none) (hr : Room k X.A) (hk : 1 ≤ k) (hg : Gl X x) (hm : X.mg x = some (.ref (xA X.K c))) (he : PE X e te)
    (hdb : (x == ("__debug__" : Str)) = false) (hs : starEach [e] X.env = (false, eval e X.env) :: starEach [] X.env) :
    PMk X (.Call (.Name x p) [e] [] pos) (fun σ H Q => te σ H fun v H1 => mk1 (xA X.K c) (fldN i) v H1 Q) := by
  obtain ⟨fI, fd, body, oc, od, osl, h1, h2, h3, T1, I1⟩ := M.ini i hi
  have F1 : FnOk X.prog X.w X.K X.mg X.base (L2.CX X.prog X.w) 0 fI fd [("self" : Str), fldN i] (spI (xA X.K c) (fldN i)) := init_fn T1 I1 h3 hsu
  exact pmk_oex (CX := L2.CX X.prog X.w) (x := x) (p := p) (pos := pos) (dvs := []) (ds := []) I1.oex h1 h2 F1 (hr.mono (by omega)) (fun s us _ hl => by rw [List.append_nil] at hl ⊢; exact .of_eq (T1.binds us hl)) .nil
    (fun _ _ _ _ _ _ _ q => by obtain ⟨_, _, _, _, _, _, _, _, _, _, _, _, q⟩ := q; exact q.elim) hg hm (pa_cons he pa_nil hs) hdb hs (by rfl)
/-- C() -/
theorem mk_exc0 (T : ExT X.K exs c) (M : ExMk X.prog X.K c) (hn : excF c = none) (hg : Gl X x) (hm : X.mg x = some (.ref (xA X.K c))) (hdb : (x == ("__debug__" : Str)) = false) : PMk X (.Call (.Name x p) [] [] pos) (fun _ H Q => Q (.ref (xA X.K c)) none H) := by
  intro pins s σ H Q I h
  refine wpAny_Call_Name_kw (ld_glob I hg hm ?_ hdb)
  refine PySem.W.callWith_K0 I.kIn T.kp ?_
  obtain ⟨bm, N, nm, qn, bs, hdct, sn, sub, ab, col, dd, k0, k1, k2, k3, k5, mN, hC, hN, hni, tl⟩ := exc_obj I.kIn (M.own hn)
  exact wpAny_call_exc_subT F.excBase_ValueError tl hC hN hni (fun h' e hm => mk_of I hm (raises_own T.rs T.ty) h (I.hok.gone hm.new)) (by show 0 ≤ sizeLine; omega)
/-- raise C(e) -/
theorem s_rse1 {k : Nat} {a : Ex} {P : Prog} (hc : X.calm = true) (tk : Takes X W) (hE : ∀ e g st cls d H, exQ X.K exs e cls d H → E e g st cls d H) (T : ExT X.K exs c) (M : ExMk X.prog X.K c) (hi : excF c = some i) (hsu : X.mg "super" = none) (hr : Room k X.A) (hk : 1 ≤ k)
    (hg : Gl X x) (hm : X.mg x = some (.ref (xA X.K c))) (he : PE X e (tE X.K E W (evE P a))) (hdb : (x == ("__debug__" : Str)) = false) (hs : starEach [e] X.env = (false, eval e X.env) :: starEach [] X.env) :
    PS X (.Raise (some (.Call (.Name x p) [e] [] pos)) none pos') (tS X.K E W (evS P (.rse c (some a)))) := by
  refine PS.imp (ps_raise hc tk (mk_exc1 M hi hsu hr hk hg hm he hdb hs)) fun D σ H ⟨g, st, R, h⟩ => ?_
  rw [evS] at h
  refine tE.seqS trivial R h fun v y g1 st1 H1 G R1 r h => mk1_of fun d hd => ?_
  cases v <;> first | exact h.elim | skip
  · obtain rfl : y = .non := r
    obtain ⟨R2, G2, _⟩ := R1.lay (o := .xd [(fldN i, .non)]) hd
    exact h g1 σ _ _ _ trivial G2 R2 (hE _ _ _ _ _ _ ⟨T, rfl, d, i, .non, rfl, hi, upd_same, .inr ⟨rfl, rfl⟩⟩)
  · rename_i n
    obtain rfl : y = .int n := r
    obtain ⟨R2, G2, _⟩ := R1.lay (o := .xd [(fldN i, .int n)]) hd
    exact h g1 σ _ _ _ trivial G2 R2 (hE _ _ _ _ _ _ ⟨T, rfl, d, i, .int n, rfl, hi, upd_same, .inl ⟨n, rfl, rfl⟩⟩)
/-- raise C() -/
theorem s_rse0 {P : Prog} (hc : X.calm = true) (tk : Takes X W) (hE : ∀ e g st cls d H, exQ X.K exs e cls d H → E e g st cls d H) (T : ExT X.K exs c) (M : ExMk X.prog X.K c) (hn : excF c = none) (hg : Gl X x) (hm : X.mg x = some (.ref (xA X.K c)))
    (hdb : (x == ("__debug__" : Str)) = false) : PS X (.Raise (some (.Call (.Name x p) [] [] pos)) none pos') (tS X.K E W (evS P (.rse c none))) := by
  refine PS.imp (ps_raise hc tk (mk_exc0 T M hn hg hm hdb)) fun D σ H ⟨g, st, R, h⟩ => ?_
  rw [evS] at h
  exact h g σ H _ _ trivial (Grow.refl _ _ _) R (hE _ _ _ _ _ _ ⟨T, rfl, rfl⟩)
end
end Mq

namespace Mq
open PySem PySem.Spec PyProof.Rows L2 Mp
theorem litR.rep {K : PySem.W.Frag} {F : Hp} {c : Nat → Addr} {len : Nat} {v : SV} {x y : V} (h : litR v x) (r : Rep K F c len v y) : y = x := by
  cases v <;> first | exact h.elim | exact (show y = _ from r).trans (show x = _ from h).symm
section
variable {X : Cx} {W : WX} {E : ErT} {exs : List (Str × Nat)} {c i j : Nat} {n z y : Str} {e ea eb : Expr} {p p1 p2 p3 p4 p5 pos pos' : Pos} {a : Addr} {oe : Obj} {cls : Value} {d : Option Addr} {pn : List (Addr × Obj)}
/-- isinstance(n, z) -/
theorem x_is (hi : X.N[i]? = some n) (hln : X.env.kindOf n = some .local) (hnd : (n == ("__debug__" : Str)) = false) (hnc : (n == ("__classdict__" : Str)) = false) (hgi : Gl X "isinstance") (hmi : X.mg "isinstance" = none) (hgz : Gl X z) (hmz : X.mg z = some (.ref (He.ga X.K z)))
    (hzd : (z == ("__debug__" : Str)) = false) (hz : (z, c) ∈ exs) (hc : c ≠ 0) (hzc : Zc cls d oe) (hf : ∃ vs, oe.data = .fields vs) :
    PT (X.suite a ((a, oe) :: pn)) (.Call (.Name "isinstance" p1) [.Name n p2, .Name z p3] [] p4) (fun σ H Q => ∃ er, InS X.K exs i a cls d er σ H ∧ Q (er.cls == c) H) := by
  have hp : ∀ er, PE (X.suite a ((a, oe) :: pn)) (.Call (.Name "isinstance" p1) [.Name n p2, .Name z p3] [] p4) (tCB (fun xs H Q => xs = [.ref a, .ref (He.ga X.K z)] ∧ exQ X.K exs er cls d H ∧ Q (.bl (er.cls == c)) H) (tCons (tVar i) (tCons (tC (.ref (He.ga X.K z))) tNil))) := fun er => by
    refine pe_callB (id := "isinstance") ?_ (show Gl (X.suite a ((a, oe) :: pn)) "isinstance" from hgi) hmi (by decide +kernel) (pa_cons (pe_var hi (.inl hln) hnd hnc) (pa_cons (pe_glob (v := .ref (He.ga X.K z)) (show Gl (X.suite a ((a, oe) :: pn)) z from hgz) hmz rfl hzd) pa_nil rfl) rfl) (by decide) (by decide) rfl rfl
    intro pins s σ H xs us Q I r h
    obtain ⟨rfl, ⟨T, hcl, hd⟩, q⟩ := h
    cases r with
    | @cons _ u0 _ ur r0 rr =>
      cases rr with
      | @cons _ u1 _ _ r1 rn =>
        cases rn
        obtain rfl : u0 = Value.ref a := r0
        obtain rfl : u1 = Value.ref (He.ga X.K z) := r1
        obtain ⟨ha, _⟩ := I.pin (a, oe) (List.mem_append_left _ List.mem_cons_self)
        obtain ⟨vs, hv⟩ := hf
        subst hcl
        have ht := T.kit z c hz hc
        have fin : ∀ od, PySem.W.InstAt s.heap a oe (xA X.K er.cls) od → wpAny (model X.prog X.w) (X.suite a ((a, oe) :: pn)).A (call (.builtin "isinstance") [.ref a, .ref (He.ga X.K z)]) (EP (X.suite a ((a, oe) :: pn)) pins σ Q) (X.suite a ((a, oe) :: pn)).xe s := fun od J =>
          PySem.W.kia_one (PySem.W.kitx_exc T.hcl T.ga T.gt T.rs T.ca T.gs T.tk T.ob) I.kIn J ht (fun z => nomatch z) fun tk => ⟨.bl (er.cls == c), H, I.kept (t' := tk) fun _ _ z => z, rfl, q⟩
        have hcls : oe.cls = .ref (xA X.K er.cls) := hzc.1
        have hncl : PySem.W.notCls oe = true := by unfold PySem.W.notCls; rw [hv] <;> rfl
        cases ea : er.arg with
        | none =>
          rw [ea] at hd
          have hd : d = none := hd
          exact fin none ⟨ha, hcls, hncl, by rw [hzc.2, hd]; trivial⟩
        | some v =>
          rw [ea] at hd
          obtain ⟨dd, k, x, hd, _, hx, _⟩ := hd
          have hx : ObjOk X.prog X.w H s.heap dd (.xd [(fldN k, x)]) := I.hok dd _ hx
          obtain ⟨mA, ⟨od, es, ep, ho, hrest⟩, _⟩ := hx
          exact fin (some od) ⟨ha, hcls, hncl, by rw [hzc.2, hd]; exact ho⟩
  refine ⟨fun pins s σ H Q I h => ?_⟩
  obtain ⟨er, hin, q⟩ := h
  exact (pt_val (hp er)).run pins s σ H Q I ⟨_, hin.at hi I, rfl, hin.2, _, rfl, q⟩
def cstX : SV → Const → Bool
  | .non, .none => true
  | .bl b, .bool c => b == c
  | .int i, .int j => i == j
  | .str l, .str s => decide (s = ⟨l.toArray⟩)
  | _, _ => false
/-- a constant, n.f -/
def ckX (n : Str) (y : Xx) (e : Expr) : Bool := match y with
  | .cst v => (match e with | .Constant c _ _ => cstX v c | _ => false)
  | .fld f => (match e with | .Attribute (.Name m _) g _ => decide (m = n) && decide (g = fldN f) | _ => false)
def tXv (K : PySem.W.Frag) (exs : List (Str × Nat)) (i : Nat) (a : Addr) (cls : Value) (d : Option Addr) (y : Er → Xx) : TE := fun σ H Q => ∃ er v x, InS K exs i a cls d er σ H ∧ (y er).val er = some v ∧ litR v x ∧ Q x H
theorem x_val {y : Xx} {e : Expr} (hi : X.N[i]? = some n) (hln : X.env.kindOf n = some .local) (hnd : (n == ("__debug__" : Str)) = false) (hnc : (n == ("__classdict__" : Str)) = false) (hzc : Zc cls d oe) (hf : ∃ vs, oe.data = .fields vs) (h : ckX n y e = true) :
    PE (X.suite a ((a, oe) :: pn)) e (tXv X.K exs i a cls d fun _ => y) := by
  cases y with
  | cst v =>
    unfold ckX at h
    dsimp only at h
    split at h
    case h_2 => cases h
    rename_i c j p
    unfold cstX at h
    refine ⟨fun pins s σ H Q I ⟨er, v', x, hin, hv, hl, q⟩ => ?_⟩
    cases hv
    split at h
    · obtain rfl : x = .non := hl; exact pe_non.run pins s σ H Q I q
    · obtain rfl : x = .bl _ := hl; rw [eq_of_beq h] at q; exact pe_bl.run pins s σ H Q I q
    · obtain rfl : x = .int _ := hl; rw [eq_of_beq h] at q; exact pe_int.run pins s σ H Q I q
    · obtain rfl : x = .str _ := hl; rw [of_decide_eq_true h]; exact pe_str.run pins s σ H Q I q
    · cases h
  | fld f =>
    unfold ckX at h
    dsimp only at h
    split at h
    case h_2 => cases h
    rename_i m p1 g p2
    simp only [Bool.and_eq_true, decide_eq_true_eq] at h
    obtain ⟨rfl, rfl⟩ := h
    refine ⟨fun pins s σ H Q I ⟨er, v', x, hin, hv, hl, q⟩ => ?_⟩
    have hat := hin.at hi I
    obtain ⟨hσ, T, hcl, hd⟩ := hin
    have hv : (if excF er.cls = some f then er.arg else none) = some v' := hv
    split at hv
    case isFalse => cases hv
    rename_i hF
    rw [hv] at hd
    obtain ⟨dd, k, y, hd, hk, hx, hy⟩ := hd
    obtain rfl : f = k := Option.some.inj (hF.symm.trans hk)
    have hxy : x = y := by
      rcases hy with ⟨n, e1, e2⟩ | ⟨e1, e2⟩ <;> subst e1 e2 <;> exact hl
    subst hxy
    exact (pe_xf (C := xA X.K er.cls) (te := tVar i) ⟨T.ga, T.gt, T.rs, T.hd⟩ (T.nof f hF) hzc hf (pe_var (X := X.suite a ((a, oe) :: pn)) hi (.inl hln) hnd hnc) rfl).run pins s σ H Q I ⟨_, hat, rfl, hcl, dd, _, x, hd, hx, by simp [List.lookup], q⟩
/-- y if isinstance(n, z) else e -/
theorem x_ife {y w : Xx} (hi : X.N[i]? = some n) (hln : X.env.kindOf n = some .local) (hnd : (n == ("__debug__" : Str)) = false) (hnc : (n == ("__classdict__" : Str)) = false) (hgi : Gl X "isinstance") (hmi : X.mg "isinstance" = none) (hgz : Gl X z) (hmz : X.mg z = some (.ref (He.ga X.K z)))
    (hzd : (z == ("__debug__" : Str)) = false) (hz : (z, c) ∈ exs) (hc : c ≠ 0) (hzc : Zc cls d oe) (hf : ∃ vs, oe.data = .fields vs) (h1 : ckX n y ea = true) (h2 : ckX n w eb = true) :
    PE (X.suite a ((a, oe) :: pn)) (.IfExp (.Call (.Name "isinstance" p1) [.Name n p2, .Name z p3] [] p4) ea eb p5) (tXv X.K exs i a cls d fun er => if er.cls == c then y else w) := by
  refine PE.imp (pe_ifExp (x_is hi hln hnd hnc hgi hmi hgz hmz hzd hz hc hzc hf) (x_val (exs := exs) hi hln hnd hnc hzc hf h1) (x_val (exs := exs) hi hln hnd hnc hzc hf h2)) fun σ H Q ⟨er, v, x, hin, hv, hl, q⟩ => ⟨er, hin, ?_⟩
  have hv : (if er.cls == c then y else w).val er = some v := hv
  cases hb : er.cls == c with
  | true => rw [hb, if_pos rfl] at hv; exact ⟨er, v, x, hin, hv, hl, q⟩
  | false => rw [hb, if_neg Bool.false_ne_true] at hv; exact ⟨er, v, x, hin, hv, hl, q⟩
/-- the suite: name = .. -/
def tXs (K : PySem.W.Frag) (exs : List (Str × Nat)) (i : Nat) (j : Option Nat) (y : Er → Xx) (a : Addr) (cls : Value) (d : Option Addr) : TS := fun D σ H => ∃ er v x, InS K exs i a cls d er σ H ∧ (y er).val er = some v ∧ litR v x ∧ match j with
  | some j => D.nx (σ.set j (some x)) H
  | none => D.rt x H
theorem x_asg {f : Er → Xx} {v : Expr} (hN : X.N.Nodup) (hj : X.N[j]? = some y) (hy : Loc X.env.scope y) (hfn : X.fn y = true ∨ X.env.scope.names.lookup y = some .local) (he : PE (X.suite a ((a, oe) :: pn)) v (tXv X.K exs i a cls d f)) (hv : notComp v = true)
    (hw : swappedStores [.Name y p] v X.env = pure none) : PSs (X.suite a ((a, oe) :: pn)) [.Assign [.Name y p] v pos] (tXs X.K exs i (some j) f a cls d) := by
  refine PSs.imp (pss_cons (ps_asg he (pg_name (X := X.suite a ((a, oe) :: pn)) hN hj hy hfn) (noSole hv) hw rfl) pss_nil) fun D σ H ⟨er, v, x, hin, hv, hl, q⟩ => ?_
  exact ⟨er, v, x, hin, hv, hl, q⟩
theorem x_ret {f : Er → Xx} {v : Expr} (he : PE (X.suite a ((a, oe) :: pn)) v (tXv X.K exs i a cls d f)) : PSs (X.suite a ((a, oe) :: pn)) [.Return (some v) pos] (tXs X.K exs i none f a cls d) := by
  refine PSs.imp (pss_cons (ps_ret he) pss_nil) fun D σ H ⟨er, v, x, hin, hv, hl, q⟩ => ?_
  exact ⟨er, v, x, hin, hv, hl, q⟩
def _root_.Mp.Xx.lit : Xx → Bool
  | .cst v => (match v with | .non => true | .bl _ => true | .int _ => true | .str _ => true | _ => false)
  | .fld _ => true
theorem lit_of {K : PySem.W.Frag} {y : Xx} {er : Er} {v : SV} {cls : Value} {d : Option Addr} {H : Hp} (h : y.lit = true) (q : exQ K exs er cls d H) (e : y.val er = some v) : ∃ x, litR v x := by
  cases y with
  | cst u =>
    cases e
    unfold Xx.lit at h
    cases v <;> first | exact ⟨_, rfl⟩ | cases h
  | fld f =>
    have e : (if excF er.cls = some f then er.arg else none) = some v := e
    split at e
    case isFalse => cases e
    obtain ⟨_, _, q⟩ := q
    rw [e] at q
    obtain ⟨_, _, x, _, _, _, q⟩ := q
    rcases q with ⟨n, rfl, _⟩ | ⟨rfl, _⟩
    · exact ⟨_, rfl⟩
    · exact ⟨_, rfl⟩
theorem set3 {σ : L2.St} {r x : Option V} (h : i ≠ j) : ((σ.set i r).set j x).set i none = (σ.set i none).set j x := by
  rw [List.set_comm x none (Ne.symm h), List.set_set]
theorem s_try {P : Prog} {b : List Sm} {jo : Option Nat} {y w : Xx} {body suite : List Stmt} {b₀ : Stmt} {z0 : Str} {np : Pos} (hs : X.stack = X.env :: X.outer) (hf : X.env.frame = some X.env.locals) (hN : X.N.Nodup) (hi : X.N[i]? = some n) (hln : X.env.kindOf n = some .local) (tk : Takes X W)
    (hE : ∀ e g st cls d H, E e g st cls d H → exQ X.K exs e cls d H) (hg0 : Gl X z0) (hd0 : (z0 == ("__debug__" : Str)) = false) (hm0 : X.mg z0 = some (.ref (He.ga X.K z0))) (hz0 : (z0, 0) ∈ exs) (hij : ∀ j, jo = some j → i ≠ j) (ly : y.lit = true) (lw : w.lit = true)
    (hb : ∀ (W : WX) (pn : List (Addr × Obj)) (xe : Value → Shared → Prop), Takes (X.tr pn xe) W → PassesOwn (model X.prog X.w) X.A X.env xe → PSs (X.tr pn xe) body (tS X.K E W (evB P b)))
    (hsu : ∀ (a : Addr) (oe : Obj) (cls : Value) (d : Option Addr) (pn : List (Addr × Obj)), Zc cls d oe → (∃ vs, oe.data = .fields vs) → PSs (X.suite a ((a, oe) :: pn)) (b₀ :: suite) (tXs X.K exs i jo (fun er => if er.cls == c then y else w) a cls d)) :
    PS X (.Try body [.ExceptHandler (some (.Name z0 np)) (some n) (b₀ :: suite) pos'] [] [] pos) (tS X.K E W (evS P (.try_ b i jo c y w))) := by
  refine PS.imp (ps_try_as (tb := fun W => tS X.K E W (evB P b)) hs hf hN hi hln ⟨hg0, hd0, .inl hm0⟩ tk hb hsu) fun D σ H ⟨g, st, R, h⟩ => ?_
  rw [evS] at h
  refine ⟨g, st, R, ?_⟩
  cases ev : evB P b st with
  | bad => rw [ev] at h; exact h.elim
  | ok f s' => rw [ev] at h; exact h
  | err er s' =>
    rw [ev] at h
    intro g' σ' H' cls d _ G' R' he
    have q := hE _ _ _ _ _ _ he
    have hcl := q.2.1
    subst hcl
    refine ⟨true, q.1.top z0 0 hz0 rfl, fun _ a ha => ?_, fun z => by cases z⟩
    cases hv : (if er.cls == c then y else w).val er with
    | none =>
      unfold catchX at h
      dsimp only at h
      rw [hv] at h
      exact h.elim
    | some v =>
      obtain ⟨x, hx⟩ : ∃ x, litR v x := lit_of (by split <;> assumption) q hv
      obtain ⟨R2, G2⟩ := Rel.caught (X := X) (i := i) R'
      refine ⟨er, v, x, ⟨⟨σ', rfl⟩, q⟩, hv, hx, ?_⟩
      unfold catchX at h
      dsimp only at h
      rw [hv] at h
      cases jo with
      | none => exact OutS.now (a := Fl.ret v) trivial R2 (h.from (G'.trans G2)) x hx.to
      | some j =>
        obtain ⟨R3, G3⟩ := R2.slotSet (i := j) (hx.to (K := X.K))
        have := OutS.now (a := Fl.next) trivial R3 (h.from ((G'.trans G2).trans G3))
        show D.nx (((σ'.set i (some (.ref a))).set j (some x)).set i none) H'
        rw [set3 (hij j rfl)]
        exact this
end
end Mq

namespace Mq
open PySem PySem.Spec PyProof.Rows L2 Mp
def CkX.vis (C : CkX) (x : Str) : Bool := match C.sc.names.lookup x with | some .local => true | some .cell => true | some .free => true | _ => false
def CkX.blk (C : CkX) (scope : Scope) (own : List Nat) : CkX := { C with sc := relS scope C.sc, raw := some scope.names, own := own }
def cstB : SV → Const → Bool
  | .non, .none => true
  | .bl b, .bool c => b == c
  | .int i, .int j => i == j
  | .str l, .str s => decide (s = ⟨l.toArray⟩)
  | _, _ => false
def bltN : Blt → Str
  | .len => "len" | .tuple => "tuple" | .sum => "sum" | .max => "max" | .min => "min" | .max2 => "max" | .max3 => "max" | .min2 => "min" | .abs => "abs" | .int => "int" | .str => "str" | .bool => "bool"
def tyN : Ty → Str
  | .int => "int" | .bool => "bool" | .tup => "tuple" | .lst => "list" | .str => "str" | .cls _ => "type"
def ownOf (C : CkX) (own : List Nat) : List (Str × Nat) := own.map fun i => ((C.N[i]?).getD "", i)
def noFld (m : Str) : Bool := (List.range 9).all fun i => !(fldN i == m)
def isTupE : Expr → Bool | .Tuple _ _ _ => true | _ => false
mutual
def ckE (t : Bool) (C : CkX) : Ex → Expr → Bool
  | .slot i, e => match e with | .Name x _ => C.isSlot i x && C.vis x | _ => false
  | .cst v, e => match e with | .Constant c _ _ => cstB v c | _ => false
  | .glob _ v, e => match e with
    | .Name x _ => notDbg x && C.glo x && (match v with | .int i => C.gci.lookup x == some i | .str t => C.gcs.lookup x == some t | .scr xs => (strsV xs).isSome && (C.gct.lookup x == strsV xs) | _ => false)
    | _ => false
  | .tup es, e => match e with | .Tuple xs _ _ => !t && ckEs C es xs | _ => false
  | .fr f, e => !t && ckF C f e
  | .new f, e => !t && ckF C f e
  | .bin op a b, e => match e with | .BinOp x o y _ => !t && decide (o = opOf op) && ckE false C a x && ckE false C b y | _ => false
  | .neg a, e => match e with | .UnaryOp .USub x _ => !t && ckE false C a x | _ => false
  | .lnot a, e => match e with | .UnaryOp .Not x _ => ckE t C a x | _ => false
  | .land a b, e => match e with | .BoolOp .And (x :: y :: r) p => ckE t C a x && ckE t C b (unb (.BoolOp .And (y :: r) p)) | _ => false
  | .lor a b, e => match e with | .BoolOp .Or (x :: y :: r) p => ckE t C a x && ckE t C b (unb (.BoolOp .Or (y :: r) p)) | _ => false
  | .ife c a b, e => match e with | .IfExp q x y _ => !t && ckE true C c q && ckE false C a x && ckE false C b y | _ => false
  | .cmp op a b, e => match e with | .Compare x [o] [y] _ => decide (o = cmpOf op) && notSetE y && ckE false C a x && ckE false C b y | _ => false
  | .cmp2 op1 op2 a b c, e => match e with | .Compare x [o1, o2] [y, z] _ => decide (o1 = cmpOf op1) && decide (o2 = cmpOf op2) && notSetE z && ckE false C a x && ckE false C b y && ckE false C c z | _ => false
  | .isN a, e => match e with | .Compare x [.Is] [.Constant .none _ _] _ => ckE false C a x | _ => false
  | .notN a, e => match e with | .Compare x [.IsNot] [.Constant .none _ _] _ => ckE false C a x | _ => false
  | .isB a c, e => match e with | .Compare x [.Is] [.Constant (.bool k) _ _] _ => (c == k) && ckE false C a x | _ => false
  | .notB a c, e => match e with | .Compare x [.IsNot] [.Constant (.bool k) _ _] _ => (c == k) && ckE false C a x | _ => false
  | .idx a i, e => match e with | .Subscript x y _ => notSliceE y && ckE false C a x && ckE false C i y | _ => false
  | .slc a lo hi, e => match e with | .Subscript x (.Slice l h none _) _ => !t && ckE false C a x && ckO C lo l && ckO C hi h | _ => false
  | .rev a, e => match e with | .Subscript x (.Slice none none (some (.UnaryOp .USub (.Constant (.int j) _ _) _)) _) _ => !t && decide (j = 1) && ckE false C a x | _ => false
  | .fld a f, e => match e with | .Attribute x nm _ => decide (nm = fldN f) && decide (f ≤ 8) && notCall0 x && ckE false C a x | _ => false
  | .call f es, e => match e with
    | .Call (.Name x _) xs [] _ => notDbg x && C.glo x && (C.fns.lookup x == some f) && ckEs C es xs
    | _ => false
  | .blt f es, e => match e with
    | .Call (.Name x _) (y :: ys) [] _ => decide (x = bltN f) && C.glo x && ckEs C es (y :: ys)
    | _ => false
  | .mth m a es, e => match e with
    | .Call (.Attribute x nm p) (y :: ys) [] pos => (match m with | .replace => false | _ => true) && decide (nm = mthN m) && notCall0 x && (p.endLine == pos.line) && decide (ys.length < 25) && ckE false C a x && ckEs C es (y :: ys)
    | _ => false
  | .own k m a es, e => match e with
    | .Call (.Attribute (.Name y py) nm ap) xs [] pos => (C.mths.lookup (k, nm) == some m) && noFld nm && ckE false C a (.Name y py) && ckEs C es xs && (ap.endLine == pos.line) && decide (xs.length < 25)
    | _ => false
  | .make k m es, e => match e with
    | .Call (.Name x _) (y :: ys) [] _ => notDbg x && C.glo x && (C.clss.lookup x == some (k, m)) && ckEs C es (y :: ys)
    | _ => false
  | .pop a, e => match e with
    | .Call (.Attribute x m p) [] [] pos => decide (m = ("pop" : Str)) && notCall0 x && (p.endLine == pos.line) && ckE false C a x
    | _ => false
  | .isi a ts, e => match e with
    | .Call (.Name f _) [x, .Name c _] [] _ => decide (f = ("isinstance" : Str)) && C.glo f && notStar x && (match ts with | [u] => Ty.plain u && decide (c = tyN u) && C.glo c | _ => false) && ckE false C a x
    | .Call (.Name f _) [x, .Tuple [.Name c _, .Name d _] _ _] [] _ => decide (f = ("isinstance" : Str)) && C.glo f && notStar x &&
        (match ts with | [u, v] => Ty.plain u && Ty.plain v && decide (c = tyN u) && decide (d = tyN v) && C.glo c && C.glo d | _ => false) && ckE false C a x
    | _ => false
  | .tupR a, e => match e with
    | .Call (.Name f _) [.Call (.Name g _) [x] [] _] [] _ => decide (f = ("tuple" : Str)) && C.glo f && decide (g = ("range" : Str)) && C.glo g && notStar x && ckE false C a x
    | _ => false
  | .sumv a, e => match e with
    | .Call (.Name f _) [.Call (.Attribute x m p) [] [] mpos] [] _ => !t && decide (f = ("sum" : Str)) && C.glo f && decide (m = ("values" : Str)) && notCall0 x && (p.endLine == mpos.line) && ckE false C a x
    | _ => false
  | .bad, _ => true
def ckEs (C : CkX) : List Ex → List Expr → Bool
  | [], xs => match xs with | [] => true | _ => false
  | e :: es, xs => match xs with | x :: xs => notStar x && ckE false C e x && ckEs C es xs | [] => false
def ckO (C : CkX) : Option Ex → Option Expr → Bool
  | none, x => match x with | none => true | _ => false
  | some e, x => match x with | some x => ckE false C e x | _ => false
def ckC (C : CkX) : Option Ex → List Expr → Bool
  | none, xs => match xs with | [] => true | _ => false
  | some e, xs => match xs with | [x] => ckE true C e x | _ => false
def ckF (C : CkX) : Fx → Expr → Bool
  | .lst es, e => match e with | .List xs _ => ckEs C es xs | _ => false
  | .comp own tg s c el, e => match e with
    | .ListComp elt [⟨tgt, iter, ifs, is⟩] scope _ => decide (is = 0) && blkC C.N C.sc scope (ownOf C own) && ckW C s tgt iter && notSetE iter && ckG (C.blk scope own) tg tgt && ckC (C.blk scope own) c ifs && ckE false (C.blk scope own) el elt
    | _ => false
  | .comp2 own own2 tg s tg2 s2 el, e => match e with
    | .ListComp elt [⟨tgt, iter, ifs, is⟩, ⟨tgt2, iter2, ifs2, is2⟩] scope _ => decide (is = 0) && decide (is2 = 0) && ifs.isEmpty && ifs2.isEmpty && blkC C.N C.sc scope (ownOf C own) && ckW C s tgt iter && notSetE iter && notSetE iter2 && own2.all own.contains
        && ckG (C.blk scope own) tg tgt && (match s2 with | .rng _ _ => true | _ => false) && ckW (C.blk scope own) s2 tgt2 iter2 && ckG (C.blk scope own2) tg2 tgt2 && ckE false (C.blk scope own) el elt
    | _ => false
  | .add a b, e => match e with | .BinOp x .Add y _ => ckE false C a x && ckE false C b y | _ => false
  | .mul a b, e => match e with | .BinOp x .Mult y _ => ckE false C a x && ckE false C b y | _ => false
  | .list s, e => match e with
    | .Call (.Name f _) [x] [] _ => decide (f = ("list" : Str)) && C.glo f && notStar x && (match s with
        | .vals a => ckE false C a x
        | .rng a b => (match x with
          | .Call (.Name f2 _) [y] [] _ => decide (f2 = ("range" : Str)) && C.glo f2 && notStar y && (match a with | none => true | _ => false) && ckE false C b y
          | .Call (.Name f2 _) [y, z] [] _ => decide (f2 = ("range" : Str)) && C.glo f2 && notStar y && notStar z && (match a with | none => false | some a => ckE false C a y) && ckE false C b z
          | _ => false)
        | _ => false)
    | _ => false
  | .sorted a, e => match e with | .Call (.Name f _) [x] [] _ => decide (f = ("sorted" : Str)) && C.glo f && notStar x && ckE false C a x | _ => false
  | .sortedK a, e => match e with
    | .Call (.Name f _) [.Call (.Attribute x m p) [] [] mpos] [] _ => decide (f = ("sorted" : Str)) && C.glo f && decide (m = ("keys" : Str)) && notCall0 x && (p.endLine == mpos.line) && ckE false C a x
    | _ => false
  | .sortk _, _ => false
  | .setl a, e => match e with
    | .Call (.Name f _) [.Call (.Name f2 _) [x] [] _] [] _ => decide (f = ("sorted" : Str)) && C.glo f && decide (f2 = ("set" : Str)) && C.glo f2 && notStar x && ckE false C a x
    | _ => false
  | .dct t kvs, e => match e with | .Dict ks vs _ => (ks.isEmpty && vs.isEmpty && kvs.isEmpty && !t) || (!ks.isEmpty && ks.all (·.isSome) && decide (ks.length = vs.length) && decide (ks.length ≤ 15) && ckP C kvs ks vs) | _ => false
  | .dict a, e => match e with | .Call (.Name f _) [x] [] _ => decide (f = ("dict" : Str)) && C.glo f && notStar x && ckE false C a x | _ => false
  | .ife c a b, e => match e with | .IfExp q x y _ => ckE true C c q && ckF C a x && ckF C b y | _ => false
  | .slc a lo hi, e => match e with | .Subscript x (.Slice l h none _) _ => ckE false C a x && ckO C lo l && ckO C hi h | _ => false
  | .rev a, e => match e with | .Subscript x (.Slice none none (some (.UnaryOp .USub (.Constant (.int j) _ _) _)) _) _ => decide (j = 1) && ckE false C a x | _ => false
  | .bad, _ => true
def ckP (C : CkX) : List Ex → List (Option Expr) → List Expr → Bool
  | [], ks, vs => ks.isEmpty && vs.isEmpty
  | [_], _, _ => false
  | k :: v :: r, ks, vs => match ks, vs with | some x :: ks, y :: vs => ckE false C k x && ckE false C v y && ckP C r ks vs | _, _ => false
def ckW (C : CkX) : Src → Expr → Expr → Bool
  | .vals a, _, e => ckE false C a e
  | .keys _, _, _ => false
  | .chars _, _, _ => false
  | .rng a b, _, e => match e with
    | .Call (.Name f _) [x] [] _ => decide (f = ("range" : Str)) && C.glo f && notStar x && (match a with | none => true | _ => false) && ckE false C b x
    | .Call (.Name f _) [x, y] [] _ => decide (f = ("range" : Str)) && C.glo f && notStar x && notStar y && (match a with | none => false | some a => ckE false C a x) && ckE false C b y
    | _ => false
  | .rng3 a b d, _, e => match e with
    | .Call (.Name f _) [x, y, z] [] _ => decide (f = ("range" : Str)) && C.glo f && notStar x && notStar y && notStar z && ckE false C a x && ckE false C b y && ckE false C d z
    | _ => false
  | .enum a, tg, e => match e with | .Call (.Name f _) [x] [] _ => decide (f = ("enumerate" : Str)) && C.glo f && isTupE tg && notStar x && ckE false C a x | _ => false
  | .zip a b, tg, e => match e with | .Call (.Name f _) [x, y] [] _ => decide (f = ("zip" : Str)) && C.glo f && isTupE tg && notStar x && notStar y && ckE false C a x && ckE false C b y | _ => false
  | .bad, _, _ => false
def ckG (C : CkX) : Tg → Expr → Bool
  | .nm i, e => match e with | .Name x _ => C.isSlot i x && C.sto x && C.own.contains i | _ => false
  | .tp ts, e => match e with | .Tuple xs _ _ => ckGs C ts xs | _ => false
  | .sub o i, e => match e with | .Subscript x y _ => notSliceE y && ckE false C o x && ckE false C i y | _ => false
  | .fld _ _ _, _ => false
def ckGs (C : CkX) : List Tg → List Expr → Bool
  | [], xs => match xs with | [] => true | _ => false
  | e :: es, xs => match xs with | x :: xs => notStar x && ckG C e x && ckGs C es xs | [] => false
end
def ckR (C : CkX) : List Rh → List Expr → Bool
  | [], xs => match xs with | [] => true | _ => false
  | .ex e :: es, xs => match xs with | x :: xs => notStar x && ckE false C e x && ckR C es xs | [] => false
  | .fx e :: es, xs => match xs with | x :: xs => notStar x && ckF C e x && ckR C es xs | [] => false
/-- name, name = .. -/
def parN (C : CkX) (ts : List Tg) (xs ys : List Expr) : Bool := match ts, xs, ys with
  | [.nm i, .nm j], [.Name x _, .Name y _], [_, _] => C.isSlot i x && C.isSlot j y && C.loc x && C.loc y && decide (i ≠ j) && decide (swp C.sc xs ys = some (some [x, y]))
  | [.nm i, .nm j, .nm l], [.Name x _, .Name y _, .Name z _], [_, _, _] => C.isSlot i x && C.isSlot j y && C.isSlot l z && C.loc x && C.loc y && C.loc z && decide (i ≠ j) && decide (i ≠ l) && decide (j ≠ l) && decide (swp C.sc xs ys = some (some [x, y, z]))
  | _, _, _ => false
/-- a comprehension that is met at once by its name -/
def swapC (C : CkX) (x : Str) (p2 : Pos) (e : Expr) : Bool := match e with
  | .ListComp _ _ scope p => C.loc x && (p2.line == p.line) && !(scope.names.any fun (n, k) => n == x && (k == .local || k == .cell))
  | _ => false
/-- .. not at once -/
def noSwapC (C : CkX) (x : Str) (p2 : Pos) (e : Expr) : Bool := notComp e || (match e with | .ListComp _ _ _ _ => !swapC C x p2 e | _ => false)
/-- self.f = e -/
def fldS (C : CkX) (tg : Tg) (e : Ex) (x v : Expr) : Bool := match tg, x with
  | .fld o k f, .Attribute ob nm _ => decide (nm = fldN f) && C.noat.contains (k, f) && notComp v && ckE false C o ob && ckE false C e v
  | _, _ => false
/-- y if isinstance(nm, z) else w -/
def xIf (C : CkX) (nm : Str) (c : Nat) (y w : Xx) : Expr → Bool
  | .IfExp (.Call (.Name f _) [.Name m _, .Name z _] [] _) ea eb _ => decide (f = ("isinstance" : Str)) && C.glo f && decide (m = nm) && notDbg z && C.glo z && (C.exs.lookup z == some c) && decide (c ≠ 0) && ckX nm y ea && ckX nm w eb
  | _ => false
def xSu (C : CkX) (nm : Str) (i : Nat) (j : Option Nat) (c : Nat) (y w : Xx) : List Stmt → Bool
  | [.Assign [.Name x _] v _] => (match j with | some j => C.isSlot j x && C.sto x && decide (i ≠ j) && xIf C nm c y w v | none => false)
  | [.Return (some v) _] => (match j with | none => xIf C nm c y w v | some _ => false)
  | _ => false
def isBadS : Sm → Bool | .bad => true | _ => false
mutual
def ckS (C : CkX) : Sm → Stmt → Bool
  | .asg tg e, st => match st with
    | .Assign [x] v pos => (match x with
        | .Name y p2 => (noSwapC C y p2 v && ckG C tg x && ckE false C e v) || (match tg, e with | .nm i, .fr f => swapC C y p2 v && C.isSlot i y && ckF C f v | _, _ => false)
        | .Tuple xs _ _ => (match v with | .Tuple ys _ _ => decide (swp C.sc xs ys = some none) | _ => true) && notComp v && ckG C tg x && ckE false C e v
        | x => fldS C tg e x v || (notStar x && (match x with | .List _ _ => false | _ => true) && notComp v && ckG C tg x && ckE false C e v))
    | _ => false
  | .box i f, st => match st with
    | .Assign [.Name y p2] v pos => C.isSlot i y && C.sto y && (noSwapC C y p2 v || swapC C y p2 v) && ckF C f v
    | _ => false
  | .asgs ts es, st => match st with
    | .Assign [.Tuple xs _ _] (.Tuple ys _ _) pos => ckR C es ys && (parN C ts xs ys || (decide (swp C.sc xs ys = some none) && ckGs C ts xs && decide (ts.length ≤ 1000)))
    | _ => false
  | .augN i op e, st => match st with | .AugAssign (.Name x _) o v _ => ipOk op && decide (o = opOf op) && C.isSlot i x && C.sto x && ckE false C e v | _ => false
  | .augS a i op e, st => match st with | .AugAssign (.Subscript x y _) o v _ => ipOk op && decide (o = opOf op) && notSliceE y && ckE false C a x && ckE false C i y && ckE false C e v | _ => false
  | .augF o f op e, st => match st with | .AugAssign (.Attribute x nm _) oo v _ => (match op with | .add => true | _ => false) && decide (oo = .Add) && decide (nm = fldN f) && decide (f ≤ 8) && ckE false C o x && ckE false C e v | _ => false
  | .ex e, st => match st with | .Expr v _ => notComp v && ckE false C e v | _ => false
  | .app o e, st => match st with
    | .Expr (.Call (.Attribute x m p) [y] [] pos) _ => decide (m = ("append" : Str)) && notCall0 x && notStar y && (p.endLine == pos.line) && ckE false C o x && ckE false C e y
    | _ => false
  | .ret e, st => match st with | .Return (some v) _ => ckE false C e v | _ => false
  | .ife c a b, st => match st with | .If q x y _ => ckE true C c q && ckB C a x && ckB C b y | _ => false
  | .for_ tg s b, st => match st with | .For x it bd [] _ => ckW C s x it && notSetE it && ckG C tg x && ckB C b bd | _ => false
  | .whl c b, st => match st with | .While q bd [] _ => ckE true C c q && ckB C b bd | _ => false
  | .rse c a, st => match st with
    | .Raise (some (.Call (.Name x _) [] [] _)) none _ => (match a with | none => notDbg x && C.glo x && (C.exs.lookup x == some c) && decide (excF c = none) && decide (c ≠ 0) | some _ => false)
    | .Raise (some (.Call (.Name x _) [y] [] _)) none _ => (match a with | some e => notDbg x && C.glo x && (C.exs.lookup x == some c) && (excF c).isSome && decide (c ≠ 0) && notStar y && ckE false C e y | none => false)
    | _ => false
  | .try_ b i j c y w, st => match st with
    | .Try bd [.ExceptHandler (some (.Name z0 _)) (some nm) su _] [] [] _ => C.isSlot i nm && C.loc nm && notDbg z0 && C.glo z0 && (C.exs.lookup z0 == some 0) && y.lit && w.lit && xSu C nm i j c y w su && ckB C b bd
    | _ => false
  | .pass, st => match st with | .Pass _ => true | _ => false
  | .bad, _ => true
def ckB (C : CkX) : List Sm → List Stmt → Bool
  | [], xs => match xs with | [] => true | _ => false
  | e :: es, xs => isBadS e || (match xs with | x :: xs => ckS C e x && ckB C es xs | [] => false)
end
end Mq

namespace Mq
open PySem PySem.Spec PyProof.Rows L2 Mp
section
variable {P : Prog} {E : ErT} {k : Nat} {C : CkX} {X : Cx} {W : WX} {e : Expr} {pos : Pos} {x : Str} {i : Nat}
theorem CkOk.vis (h : CkOk P E k C X) (q : C.vis x = true) : Vis X.env.scope x := by
  unfold CkX.vis at q
  unfold Vis
  rw [h.sc]
  split at q
  · rename_i e; exact .inl e
  · rename_i e; exact .inr (.inl e)
  · rename_i e; exact .inr (.inr e)
  · cases q
theorem dbg_of (q : notDbg x = true) : (x == ("__debug__" : Str)) = false ∧ (x == ("__classdict__" : Str)) = false ∧ (x == ("__name__" : Str)) = false := by
  unfold notDbg at q
  simp only [Bool.and_eq_true, Bool.not_eq_true'] at q
  exact ⟨q.1.1, q.1.2, q.2⟩
theorem CkOk.hu (h : CkOk P E k C X) : X.A.units + 65 < cLine := by have := h.room.un; omega
theorem CkOk.hu1 (h : CkOk P E k C X) : X.A.units + 1 < cLine := by have := h.room.un; omega
/-- .. within a comprehension -/
theorem CkOk.blk {scope : Scope} {own : List Nat} (h : CkOk P E k C X) (s : Shared) (H : Hp) (A : Addr) (cl : List (Str × Addr)) (fp : List Addr) : CkOk P E k (C.blk scope own) (X.blk s H scope (compEnvC scope cl A X.env) fp) where
  N := h.N
  nd := h.nd
  calm := h.calm
  room := h.room
  sc := by show relS scope X.env.scope = relS scope C.sc; rw [h.sc]
  sto := fun x q => by
    have q : (match (relS scope C.sc).names.lookup x with | some .local => true | some .cell => scope.names.lookup x == some .cell | _ => false) = true := q
    show Loc (relS scope X.env.scope) x ∧ ((scope.names.lookup x == some .cell) = true ∨ (relS scope X.env.scope).names.lookup x = some .local)
    rw [h.sc]
    unfold L2.Loc
    split at q
    · rename_i e; exact ⟨.inl e, .inr e⟩
    · rename_i e; exact ⟨.inr e, .inl q⟩
    · cases q
  bl := h.bl
  fns := h.fns
  gci := h.gci
  gcs := h.gcs
  gct := h.gct
  clo := h.clo
  mth := h.mth
  noa := h.noa
  k1 := h.k1
  exE := h.exE
  exk := h.exk
  exm := h.exm
theorem takes_no {s : Shared} {H : Hp} {scope : Scope} {env : Env} {fp : List Addr} : Takes (X.blk s H scope env fp) noW := fun u s' ⟨_, _, _, _, _, _, _, _, _, _, _, _, _, _, _, _, w⟩ => w.elim
theorem _root_.L2.PE.fe {f f' : Sta → Rs SV} (h : PE X e (tE X.K E W f)) (hf : ∀ s, f' s = f s) : PE X e (tE X.K E W f') := by rw [funext hf]; exact h
theorem _root_.L2.PE.ff {f f' : Sta → Rs Cel} (h : PE X e (tF X.K E W f)) (hf : ∀ s, f' s = f s) : PE X e (tF X.K E W f') := by rw [funext hf]; exact h
theorem _root_.L2.PT.fe {f f' : Sta → Rs SV} (h : PT X e (tT X.K E W fun s => asB (f s))) (hf : ∀ s, f' s = f s) : PT X e (tT X.K E W fun s => asB (f' s)) := by rw [show f' = f from funext hf]; exact h
theorem boot_blt (b : Blt) : bootBuiltins (bltN b) = some (bltF b) := by cases b <;> decide +kernel
theorem blt_mem (b : Blt) : bltN b ∈ bltNames := by cases b <;> decide +kernel
theorem blt_no (b : Blt) : bltN b ≠ "__name__" ∧ (bltN b == ("__debug__" : Str)) = false := by cases b <;> decide +kernel
theorem boot_ty {t : Ty} (h : Ty.plain t = true) : bootBuiltins (tyN t) = some (.type (tyC t)) ∧ tyN t ∈ bltNames ∧ tyN t ≠ "__name__" ∧ (tyN t == ("__debug__" : Str)) = false := by
  cases t <;> first | (cases h; done) | decide +kernel
def SF (P : Prog) (E : ErT) (k : Nat) (C : CkX) (f : Fx) (e : Expr) : Prop := ∀ (X : Cx) (W : WX), CkOk P E k C X → Takes X W → PE X e (tF X.K E W (evF P f))
def SPq (P : Prog) (E : ErT) (k : Nat) (C : CkX) (kvs : List Ex) (ks : List (Option Expr)) (vs : List Expr) : Prop := ∀ (X : Cx) (W : WX), CkOk P E k C X → Takes X W → ∀ pos, PQ X E W pos ks vs (evEs P kvs)
theorem sE {f : Ex} (h : ∀ (X : Cx) (W : WX), CkOk P E k C X → Takes X W → PE X e (tE X.K E W (evE P f))) : SE P E k false C f e := h
end
end Mq

namespace Mq
open PySem PySem.Spec PyProof.Rows L2 Mp
section
variable {P : Prog} {E : ErT} {k : Nat} {C : CkX} {X : Cx} {W : WX} {e : Expr} {pos : Pos} {x : Str} {i : Nat}
theorem m_ifeF {c a b : Expr} {ft : Sta → Rs Bool} {fa fb : Sta → Rs Cel} (ht : PT X c (tT X.K E W ft)) (ha : PE X a (tF X.K E W fa)) (hb : PE X b (tF X.K E W fb)) :
    PE X (.IfExp c a b pos) (tF X.K E W fun s => (ft s).bind fun c s => if c then fa s else fb s) := by
  refine PE.imp (pe_ifExp ht ha hb) fun σ H Q ⟨g, st, R, h⟩ => tT.seq R h fun i g1 st1 H1 G R1 h => ?_
  have h : Out X.K E W g1 st1 σ H1 (NewQ X.K H1 Q) (if i then fa st1 else fb st1) := h.imp fun c g' st' H' q p o hn => q p o (none_back G hn)
  cases i with
  | true => exact ⟨g1, st1, R1, h⟩
  | false => exact ⟨g1, st1, R1, h⟩
theorem hidW_ev : ∀ src : Src, HidW (evW P src)
  | .vals e => by rw [show evW P (.vals e) = _ from funext fun s => by rw [evW]]; exact hidW_vals
  | .keys e => by
    rw [show evW P (.keys e) = _ from funext fun s => by rw [evW]]
    intro s w s1 h
    obtain ⟨x, s2, _, h⟩ := Rs.bind_is h
    unfold keyWalk at h
    split at h
    · cases h
    · rename_i ks vs hd
      cases h
      intro v hv
      have hv : hidOf x = some v := hv
      unfold Sta.dict at hd
      split at hd
      · rename_i q
        cases x <;> first | (cases hv; done) | skip
        · cases hv; exact ⟨_, _, rfl, cell_at rfl q rfl, q⟩
        · cases hv; exact ⟨_, _, rfl, cell_at rfl q rfl, q⟩
      · cases hd
  | .chars e => by
    rw [show evW P (.chars e) = _ from funext fun s => by rw [evW]]
    refine hidW_none fun s w s1 h => ?_
    obtain ⟨x, s2, _, h⟩ := Rs.bind_is h
    unfold strWalk at h
    split at h
    · cases h; rfl
    · cases h
  | .rng none b => by
    rw [show evW P (.rng none b) = _ from funext fun s => by rw [evW]]
    refine hidW_none fun s w s1 h => ?_
    obtain ⟨x, s2, _, h⟩ := Rs.bind_is h
    split at h
    · cases h; rfl
    · cases h
  | .rng (some a) b => by
    rw [show evW P (.rng (some a) b) = _ from funext fun s => by rw [evW]]
    refine hidW_none fun s w s1 h => ?_
    obtain ⟨x, s2, _, h⟩ := Rs.bind_is h
    obtain ⟨x, s2, _, h⟩ := Rs.bind_is h
    split at h
    · cases h; rfl
    · cases h
  | .rng3 a b c => by
    rw [show evW P (.rng3 a b c) = _ from funext fun s => by rw [evW]]
    refine hidW_none fun s w s1 h => ?_
    obtain ⟨x, s2, _, h⟩ := Rs.bind_is h
    obtain ⟨x, s2, _, h⟩ := Rs.bind_is h
    obtain ⟨x, s2, _, h⟩ := Rs.bind_is h
    split at h
    · cases h; rfl
    · cases h
  | .enum e => by rw [show evW P (.enum e) = _ from funext fun s => by rw [evW]]; exact hidW_enum
  | .zip a b => by rw [show evW P (.zip a b) = _ from funext fun s => by rw [evW]]; exact hidW_zip
  | .bad => by
    rw [show evW P .bad = _ from funext fun s => by rw [evW]]
    intro s w s1 h
    cases h
def SEs (P : Prog) (E : ErT) (k : Nat) (C : CkX) (es : List Ex) (xs : List Expr) : Prop := xs.all notStar = true ∧ (es = [] ↔ xs = []) ∧ ∀ (X : Cx) (W : WX), CkOk P E k C X → Takes X W → PA X xs (tA X.K E W (evAs P es)) ∧ PA X xs (tKs X.K E W (evEs P es))
def SO (P : Prog) (E : ErT) (k : Nat) (C : CkX) (a : Option Ex) (e : Option Expr) : Prop := ∀ (X : Cx) (W : WX), CkOk P E k C X → Takes X W → PO X e (tO X.K E W (evO P a))
def SCd (P : Prog) (E : ErT) (k : Nat) (C : CkX) (a : Option Ex) (es : List Expr) : Prop := ∀ (X : Cx) (W : WX), CkOk P E k C X → Takes X W → PTs X es (tT X.K E W (evC P a))
def SW (P : Prog) (E : ErT) (k : Nat) (C : CkX) (src : Src) (tg e : Expr) : Prop := ∀ (X : Cx) (W : WX), CkOk P E k C X → Takes X W → PI X tg e (tW X.K E W (evW P src))
def SW0 (P : Prog) (E : ErT) (k : Nat) (C : CkX) (src : Src) (tg e : Expr) : Prop := ∀ (X : Cx) (W : WX), CkOk P E k C X → Takes X W → PI X tg e (tW0 X.K E W (evW P src))
def SG (P : Prog) (E : ErT) (k : Nat) (C : CkX) (t : Tg) (e : Expr) : Prop := ∀ (X : Cx) (W : WX), CkOk P E k C X → Takes X W → PG X e (tG X.K E W C.own (evT P t))
def SGs (P : Prog) (E : ErT) (k : Nat) (C : CkX) (ts : List Tg) (es : List Expr) : Prop := es.all notStar = true ∧ ts.length = es.length ∧ ∀ (X : Cx) (W : WX), CkOk P E k C X → Takes X W → PGs X es (tGs X.K E W C.own (evTs P ts))
theorem noFld_of {m : Str} (h : noFld m = true) : ∀ i, fldN i ≠ m := by
  intro i e
  have key : ∀ j, j < 9 → fldN j ≠ m := fun j hj => by
    have := List.all_eq_true.mp h j (List.mem_range.mpr hj)
    simp at this
    exact this
  by_cases hi : i < 9
  · exact key i hi e
  · refine key 8 (by omega) ?_
    rw [← e]
    obtain ⟨j, rfl⟩ : ∃ j, i = j + 8 := ⟨i - 8, by omega⟩
    rfl
theorem callAttr {o : Expr} {nm : Str} {ap pos : Pos} {args : List Expr} {env : Env} (hb : attributeBase o nm env (eval o env) = eval o env) (hs : args.all notStar = true) (hl : decide (args.length < 25) = true) (hline : (ap.endLine == pos.line) = true) :
    eval (.Call (.Attribute o nm ap) args [] pos) env = (do
      let ov ← eval o env
      standAt ap.atName
      let (f, first) ← holding [ov] (getMethod ov nm (do return (← importBound o env).getD true))
      callWith pos f first (backTo pos (starEach args env)) (backToKw pos (keywordEach [] env))) := by
  have hform : methodCallForm (args.length + ([] : List Keyword).length) (backTo pos (starEach args env)) (backToKw pos (keywordEach [] env)) = true := by
    unfold methodCallForm
    have h1 : (backTo pos (starEach args env)).all (fun x => !x.1) = true := by
      have := stars (pos := pos) (env := env) hs
      rw [List.all_eq_not_any_not]
      simp only [Bool.not_not]
      rw [this]
      rfl
    rw [h1]
    have := of_decide_eq_true hl
    simp [keywordEach, backToKw]
    omega
  have hpos : methodCallPos true o env ap pos = pure pos := by unfold methodCallPos; simp [hline]
  rw [arm_eval_Call, hb]
  congr 1
  funext ov
  congr 1
  funext _
  unfold methodCall
  rw [hform]
  show (holding [ov] (getMethod ov nm _) >>= fun x => methodCallPos true o env ap pos >>= fun cp => callWith cp x.1 x.2 _ _) = _
  rw [hpos]
  simp only [pure_bind]
theorem strs_repL {K : PySem.W.Frag} {F : Hp} {c : Nat → Addr} {len : Nat} : ∀ {xs : List SV} {ls : List (List Nat)}, strsV xs = some ls → RepL K F c len xs (ls.map fun t => V.str ⟨t.toArray⟩)
  | [], _, h => by cases h; rfl
  | x :: xs, _, h => by
    cases x <;> first | (cases h; done) | skip
    simp only [strsV, Option.map_eq_some_iff] at h
    obtain ⟨us, h1, rfl⟩ := h
    exact ⟨_, _, rfl, rfl, strs_repL h1⟩
theorem few_of {y : Expr} {ys : List Expr} {pos : Pos} {env : Env} (hs : (y :: ys).all notStar = true) (h : ys.length < 25) : ((backTo pos (starEach (y :: ys) env)).all (fun x => !x.1) && (backToKw pos (keywordEach [] env)).all (fun x => x.1.isSome)
      && decide ((y :: ys).length + ([] : List Keyword).length + (if ([] : List Keyword).isEmpty then 0 else 1) < 30)) = true := by
  have h1 : (backTo pos (starEach (y :: ys) env)).all (fun x => !x.1) = true := by
    have := stars (pos := pos) (env := env) hs
    rw [List.all_eq_not_any_not]
    simp only [Bool.not_not]
    rw [this]
    rfl
  rw [h1]
  simp [keywordEach, backToKw]
  omega
theorem own_map (C : CkX) (own : List Nat) : (ownOf C own).map (·.2) = own := by
  unfold ownOf
  rw [List.map_map]
  exact List.map_id own
end
section
variable {P : Prog} {E : ErT} {k : Nat}
set_option maxHeartbeats 2000000
mutual
theorem ckE_ok (hE : EConst E) : ∀ (a : Ex) (t : Bool) (C : CkX) (e : Expr), ckE t C a e = true → SE P E k t C a e
  | .slot i, t, C, e, h => by
    unfold ckE at h
    split at h
    · rw [Bool.and_eq_true] at h
      exact SE.val rfl fun X W c tk => (m_slot (c.at h.1) (c.vis h.2) (slot_of h.1).2.1 (slot_of h.1).2.2.1).fe fun s => (by rw [evE]; try rfl)
    · cases h
  | .cst v, t, C, e, h => by
    unfold ckE at h
    split at h
    · rename_i c j p
      refine SE.val rfl fun X W ck tk => PE.fe (f := fun s => .ok v s) ?_ fun s => by rw [evE]
      unfold cstB at h
      split at h
      · exact m_non
      · rw [eq_of_beq h]; exact m_bl
      · rw [eq_of_beq h]; exact m_int
      · exact m_str (of_decide_eq_true h)
      · cases h
    · cases h
  | .glob n v, t, C, e, h => by
    unfold ckE at h
    split at h
    · rename_i x p
      simp only [Bool.and_eq_true] at h
      obtain ⟨⟨h1, h2⟩, h3⟩ := h
      split at h3
      · rename_i i
        refine SE.val rfl fun X W ck tk => PE.fe (f := fun s => .ok (.int i) s) ?_ fun s => by rw [evE]
        obtain ⟨u, hm⟩ := ck.gci x i (eq_of_beq h3)
        exact PE.imp (pe_glob (v := .int i) (ck.glo h2) hm ⟨u, rfl⟩ (dbg_of h1).1) fun σ H Q ⟨g, st, R, h⟩ => Out.now R h _ rfl
      · rename_i l
        refine SE.val rfl fun X W ck tk => PE.fe (f := fun s => .ok (.str l) s) ?_ fun s => by rw [evE]
        obtain ⟨u, hm⟩ := ck.gcs x l (eq_of_beq h3)
        exact PE.imp (pe_glob (v := .str ⟨l.toArray⟩) (ck.glo h2) hm ⟨u, rfl⟩ (dbg_of h1).1) fun σ H Q ⟨g, st, R, h⟩ => Out.now R h _ rfl
      · rename_i xs
        rw [Bool.and_eq_true] at h3
        obtain ⟨ls, hls⟩ := Option.isSome_iff_exists.mp h3.1
        have h4 := eq_of_beq h3.2
        rw [hls] at h4
        refine SE.val rfl fun X W ck tk => PE.fe (f := fun s => .ok (.scr xs) s) ?_ fun s => by rw [evE]
        obtain ⟨a, hm, hq⟩ := ck.gct x ls h4
        refine PE.imp (pe_glob (v := .ref a) (ck.glo h2) hm rfl (dbg_of h1).1) fun σ H Q ⟨g, st, R, h⟩ => Out.now R h _ ⟨a, _, rfl, .inr (hq _), ?_⟩
        exact strs_repL hls
      · cases h3
    · cases h
  | .tup es, t, C, e, h => by
    unfold ckE at h
    split at h
    · rw [Bool.and_eq_true] at h
      exact SE.no h.1 fun X W c tk => (m_tup ((ckEs_ok hE es C _ h.2).2.2 X W c tk).2).fe fun s => by rw [evE]
    · cases h
  | .fr f, t, C, e, h => by
    unfold ckE at h
    rw [Bool.and_eq_true] at h
    exact SE.no h.1 fun X W c tk => (m_fr (ckF_ok hE f C _ h.2 X W c tk)).fe fun s => by rw [evE]
  | .new f, t, C, e, h => by
    unfold ckE at h
    rw [Bool.and_eq_true] at h
    exact SE.no h.1 fun X W c tk => (m_new (ckF_ok hE f C _ h.2 X W c tk)).fe fun s => by rw [evE]
  | .bin op a b, t, C, e, h => by
    unfold ckE at h
    split at h
    · simp only [Bool.and_eq_true, decide_eq_true_eq] at h
      obtain ⟨⟨⟨h1, rfl⟩, h2⟩, h3⟩ := h
      exact SE.no h1 fun X W c tk => (m_bin (ckE_ok hE a false C _ h2 X W c tk) (ckE_ok hE b false C _ h3 X W c tk)).fe fun s => by rw [evE]
    · cases h
  | .neg a, t, C, e, h => by
    unfold ckE at h
    split at h
    · rw [Bool.and_eq_true] at h
      exact SE.no h.1 fun X W c tk => (m_neg (ckE_ok hE a false C _ h.2 X W c tk)).fe fun s => by rw [evE]
    · cases h
  | .lnot a, t, C, e, h => by
    unfold ckE at h
    split at h
    · cases t with
      | false => exact fun X W c tk => (m_not (ckE_ok hE a false C _ h X W c tk)).fe fun s => by rw [evE]
      | true => exact fun X W c tk => (m_notT (ckE_ok hE a true C _ h X W c tk)).fe fun s => by rw [evE]
    · cases h
  | .land a b, t, C, e, h => by
    unfold ckE at h
    split at h
    · rw [Bool.and_eq_true] at h
      cases t with
      | false => exact fun X W c tk => (m_and (ckE_ok hE a false C _ h.1 X W c tk) (PE.unb (ckE_ok hE b false C _ h.2 X W c tk))).fe fun s => by rw [evE]
      | true => exact fun X W c tk => (m_andT (ckE_ok hE a true C _ h.1 X W c tk) (PW.unb (ckE_ok hE b true C _ h.2 X W c tk))).fe fun s => by rw [evE]
    · cases h
  | .lor a b, t, C, e, h => by
    unfold ckE at h
    split at h
    · rw [Bool.and_eq_true] at h
      cases t with
      | false => exact fun X W c tk => (m_or (ckE_ok hE a false C _ h.1 X W c tk) (PE.unb (ckE_ok hE b false C _ h.2 X W c tk))).fe fun s => by rw [evE]
      | true => exact fun X W c tk => (m_orT (ckE_ok hE a true C _ h.1 X W c tk) (PW.unb (ckE_ok hE b true C _ h.2 X W c tk))).fe fun s => by rw [evE]
    · cases h
  | .ife q a b, t, C, e, h => by
    unfold ckE at h
    split at h
    · simp only [Bool.and_eq_true] at h
      obtain ⟨⟨⟨h1, h2⟩, h3⟩, h4⟩ := h
      exact SE.no h1 fun X W c tk => (m_ife (ckE_ok hE q true C _ h2 X W c tk) (ckE_ok hE a false C _ h3 X W c tk) (ckE_ok hE b false C _ h4 X W c tk)).fe fun s => by rw [evE]
    · cases h
  | .cmp op a b, t, C, e, h => by
    unfold ckE at h
    split at h
    · simp only [Bool.and_eq_true, decide_eq_true_eq] at h
      obtain ⟨⟨⟨rfl, h1⟩, h2⟩, h3⟩ := h
      cases t with
      | false => exact fun X W c tk => (m_cmp c.hu (ckE_ok hE a false C _ h2 X W c tk) (ckE_ok hE b false C _ h3 X W c tk) (noMarks h1)).fe fun s => by rw [evE]
      | true => exact fun X W c tk => (m_cmpT c.hu (ckE_ok hE a false C _ h2 X W c tk) (ckE_ok hE b false C _ h3 X W c tk) (noMarks h1)).fe fun s => by rw [evE]
    · cases h
  | .cmp2 o1 o2 a b d, t, C, e, h => by
    unfold ckE at h
    split at h
    · simp only [Bool.and_eq_true, decide_eq_true_eq] at h
      obtain ⟨⟨⟨⟨⟨rfl, rfl⟩, h1⟩, h2⟩, h3⟩, h4⟩ := h
      cases t with
      | false => exact fun X W c tk => (m_cmp2 c.hu (ckE_ok hE a false C _ h2 X W c tk) (ckE_ok hE b false C _ h3 X W c tk) (ckE_ok hE d false C _ h4 X W c tk) (noMarks2 h1)).fe fun s => by rw [evE]
      | true => exact fun X W c tk => (m_cmp2T c.hu (ckE_ok hE a false C _ h2 X W c tk) (ckE_ok hE b false C _ h3 X W c tk) (ckE_ok hE d false C _ h4 X W c tk) (noMarks2 h1)).fe fun s => by rw [evE]
    · cases h
  | .isN a, t, C, e, h => by
    unfold ckE at h
    split at h
    · cases t with
      | false => exact fun X W c tk => (m_isN (ckE_ok hE a false C _ h X W c tk)).fe fun s => by rw [evE]
      | true => exact fun X W c tk => (m_isNT (ckE_ok hE a false C _ h X W c tk)).fe fun s => by rw [evE]
    · cases h
  | .notN a, t, C, e, h => by
    unfold ckE at h
    split at h
    · cases t with
      | false => exact fun X W c tk => (m_notN (ckE_ok hE a false C _ h X W c tk)).fe fun s => by rw [evE]
      | true => exact fun X W c tk => (m_notNT (ckE_ok hE a false C _ h X W c tk)).fe fun s => by rw [evE]
    · cases h
  | .isB a q, t, C, e, h => by
    unfold ckE at h
    split at h
    · rw [Bool.and_eq_true] at h
      obtain ⟨h1, h2⟩ := h
      rw [eq_of_beq h1]
      cases t with
      | false => exact fun X W c tk => (m_isB (ckE_ok hE a false C _ h2 X W c tk)).fe fun s => by rw [evE]
      | true => exact fun X W c tk => (m_isBT (ckE_ok hE a false C _ h2 X W c tk)).fe fun s => by rw [evE]
    · cases h
  | .notB a q, t, C, e, h => by
    unfold ckE at h
    split at h
    · rw [Bool.and_eq_true] at h
      obtain ⟨h1, h2⟩ := h
      rw [eq_of_beq h1]
      cases t with
      | false => exact fun X W c tk => (m_notB (ckE_ok hE a false C _ h2 X W c tk)).fe fun s => by rw [evE]
      | true => exact fun X W c tk => (m_notBT (ckE_ok hE a false C _ h2 X W c tk)).fe fun s => by rw [evE]
    · cases h
  | .idx a i, t, C, e, h => by
    unfold ckE at h
    split at h
    · simp only [Bool.and_eq_true] at h
      obtain ⟨⟨h1, h2⟩, h3⟩ := h
      exact SE.val rfl fun X W c tk => (m_idx c.hu (ckE_ok hE a false C _ h2 X W c tk) (ckE_ok hE i false C _ h3 X W c tk) (plainIx h1)).fe fun s => by rw [evE]
    · cases h
  | .slc a lo hi, t, C, e, h => by
    unfold ckE at h
    split at h
    · simp only [Bool.and_eq_true] at h
      obtain ⟨⟨⟨h1, h2⟩, h3⟩, h4⟩ := h
      exact SE.no h1 fun X W c tk => (m_slc (ckE_ok hE a false C _ h2 X W c tk) (ckO_ok hE lo C _ h3 X W c tk) (ckO_ok hE hi C _ h4 X W c tk)).fe fun s => by rw [evE]
    · cases h
  | .rev a, t, C, e, h => by
    unfold ckE at h
    split at h
    · simp only [Bool.and_eq_true, decide_eq_true_eq] at h
      obtain ⟨⟨h1, rfl⟩, h2⟩ := h
      exact SE.no h1 fun X W c tk => (m_rev (ckE_ok hE a false C _ h2 X W c tk)).fe fun s => by rw [evE]
    · cases h
  | .fld a f, t, C, e, h => by
    unfold ckE at h
    split at h
    · simp only [Bool.and_eq_true, decide_eq_true_eq] at h
      obtain ⟨⟨⟨rfl, h1⟩, h2⟩, h3⟩ := h
      exact SE.val rfl fun X W c tk => (m_fld (ckE_ok hE a false C _ h3 X W c tk) (noBase h2) h1).fe fun s => by rw [evE]
    · cases h
  | .call f es, t, C, e, h => by
    unfold ckE at h
    split at h
    · rename_i x p xs pos
      simp only [Bool.and_eq_true] at h
      obtain ⟨⟨⟨h1, h2⟩, h3⟩, h4⟩ := h
      obtain ⟨hs, hn, ha⟩ := ckEs_ok hE es C xs h4
      refine SE.val rfl fun X W c tk => ?_
      obtain ⟨a, fd, ps, F, hm, hk, hb⟩ := c.fns x f (eq_of_beq h3)
      cases xs with
      | nil =>
        obtain rfl := hn.mpr rfl
        refine (m_call0 (P := P) (fi := f) hE tk F c.room (c.glo h2) hm hk hb (dbg_of h1).1).fe fun s => ?_
        rw [evE, evAs]
        try rfl
      | cons y ys =>
        have hs' := hs
        rw [List.all_cons, Bool.and_eq_true] at hs'
        exact (m_call hE tk F c.room (c.glo h2) hm hk hb (ha X W c tk).1 (dbg_of h1).1 (star1 hs'.1) (stars hs'.2)).fe fun s => by rw [evE]
    · cases h
  | .blt f es, t, C, e, h => by
    unfold ckE at h
    split at h
    · rename_i x p y ys pos
      simp only [Bool.and_eq_true, decide_eq_true_eq] at h
      obtain ⟨⟨rfl, h2⟩, h3⟩ := h
      obtain ⟨hs, _, ha⟩ := ckEs_ok hE es C _ h3
      rw [List.all_cons, Bool.and_eq_true] at hs
      refine SE.val rfl fun X W c tk => (m_bltA c.calm c.hu (c.glo h2) (c.bl _ (blt_mem f)) (boot_blt f) (ha X W c tk).1 (blt_no f).1 (blt_no f).2 (star1 hs.1) (stars hs.2)).fe fun s => by rw [evE]
    · cases h
  | .mth m a es, t, C, e, h => by
    unfold ckE at h
    split at h
    · rename_i x nm p y ys pos
      simp only [Bool.and_eq_true, decide_eq_true_eq] at h
      obtain ⟨⟨⟨⟨⟨⟨h1, rfl⟩, h2⟩, h4⟩, h3⟩, h5⟩, h6⟩ := h
      obtain ⟨hs, _, ha⟩ := ckEs_ok hE es C _ h6
      have hs' := hs
      rw [List.all_cons, Bool.and_eq_true] at hs'
      exact SE.val rfl fun X W c tk => (m_mth (fun q => by subst q; cases h1) c.hu (ckE_ok hE a false C _ h5 X W c tk) (ha X W c tk).1 (noBase h2) h4 (few_of hs h3) (star1 hs'.1) (stars hs'.2)).fe fun s => by rw [evE]
    · cases h
  | .own k m a es, t, C, e, h => by
    unfold ckE at h
    split at h
    · rename_i y py nm ap xs pos
      simp only [Bool.and_eq_true] at h
      obtain ⟨⟨⟨⟨⟨h1, h2⟩, h3⟩, h4⟩, h5⟩, h6⟩ := h
      obtain ⟨hs, hn, ha⟩ := ckEs_ok hE es C xs h4
      refine SE.val rfl fun X W c tk => ?_
      obtain ⟨f, fd, ps, F, hm, hb⟩ := c.mth k nm m (eq_of_beq h1)
      cases xs with
      | nil =>
        obtain rfl := hn.mpr rfl
        refine (m_own0 (P := P) (mi := m) hE tk F c.room hm hb (noFld_of h2) (ckE_ok hE a false C _ h3 X W c tk) (callAttr rfl rfl rfl h5)).fe fun s => ?_
        rw [evE]
        try rfl
      | cons z zs =>
        have hs' := hs
        rw [List.all_cons, Bool.and_eq_true] at hs'
        exact (m_own (P := P) (mi := m) hE tk F c.room hm hb (noFld_of h2) (ckE_ok hE a false C _ h3 X W c tk) (ha X W c tk).1 (star1 hs'.1) (stars hs'.2) (callAttr rfl hs h6 h5)).fe fun s => by rw [evE]; try rfl
    · cases h
  | .make k m es, t, C, e, h => by
    unfold ckE at h
    split at h
    · rename_i x p y ys pos
      simp only [Bool.and_eq_true] at h
      obtain ⟨⟨⟨h1, h2⟩, h3⟩, h4⟩ := h
      obtain ⟨hs, hn, ha⟩ := ckEs_ok hE es C _ h4
      refine SE.val rfl fun X W c tk => ?_
      obtain ⟨hcl, hmk, kp, hm⟩ := c.clo x k m (eq_of_beq h3)
      rw [List.all_cons, Bool.and_eq_true] at hs
      exact (m_make (P := P) (mi := m) hE tk hcl hmk kp (c.glo h2) hm (ha X W c tk).1 (dbg_of h1).1 (star1 hs.1) (stars hs.2)).fe fun s => by rw [evE]; try rfl
    · cases h
  | .pop a, t, C, e, h => by
    unfold ckE at h
    split at h
    · rename_i x m p pos
      simp only [Bool.and_eq_true, decide_eq_true_eq] at h
      obtain ⟨⟨⟨rfl, h1⟩, h2⟩, h3⟩ := h
      exact SE.val rfl fun X W c tk => (m_pop (ckE_ok hE a false C _ h3 X W c tk) (noBase h1) h2).fe fun s => (by rw [evE]; try rfl)
    · cases h
  | .isi a ts, t, C, e, h => by
    unfold ckE at h
    split at h
    · rename_i f p x c q pos
      simp only [Bool.and_eq_true, decide_eq_true_eq] at h
      obtain ⟨⟨⟨⟨rfl, h1⟩, h2⟩, h3⟩, h4⟩ := h
      split at h3
      · rename_i u
        simp only [Bool.and_eq_true, decide_eq_true_eq] at h3
        obtain ⟨⟨h5, rfl⟩, h6⟩ := h3
        obtain ⟨b1, b2, b3, b4⟩ := boot_ty h5
        exact SE.val rfl fun X W c tk => (m_isi1 h5 (c.glo h1) (c.bl _ (by decide +kernel)) (c.glo h6) (c.bl _ b2) b1 b3 b4 (ckE_ok hE a false C _ h4 X W c tk) (star1 h2) rfl rfl).fe fun s => by rw [evE]
      · cases h3
    · rename_i f p x c q d r kk pp pos
      simp only [Bool.and_eq_true, decide_eq_true_eq] at h
      obtain ⟨⟨⟨⟨rfl, h1⟩, h2⟩, h3⟩, h4⟩ := h
      split at h3
      · rename_i u v
        simp only [Bool.and_eq_true, decide_eq_true_eq] at h3
        obtain ⟨⟨⟨⟨⟨h5, h6⟩, rfl⟩, rfl⟩, h7⟩, h8⟩ := h3
        obtain ⟨b1, b2, b3, b4⟩ := boot_ty h5
        obtain ⟨d1, d2, d3, d4⟩ := boot_ty h6
        exact SE.val rfl fun X W c tk => (m_isi2 h5 h6 (c.glo h1) (c.bl _ (by decide +kernel)) (c.glo h7) (c.bl _ b2) b1 b3 b4 (c.glo h8) (c.bl _ d2) d1 d3 d4 (ckE_ok hE a false C _ h4 X W c tk) (star1 h2)).fe fun s => by rw [evE]
      · cases h3
    · cases h
  | .tupR a, t, C, e, h => by
    unfold ckE at h
    split at h
    · rename_i f p g p2 x pos2 pos
      simp only [Bool.and_eq_true, decide_eq_true_eq] at h
      obtain ⟨⟨⟨⟨⟨rfl, h1⟩, rfl⟩, h2⟩, h3⟩, h4⟩ := h
      exact SE.val rfl fun X W c tk => (m_tupR c.calm (c.glo h1) (c.bl _ (by decide +kernel)) (c.glo h2) (c.bl _ (by decide +kernel)) (ckE_ok hE a false C _ h4 X W c tk) (star1 h3)).fe fun s => by rw [evE]
    · cases h
  | .sumv a, t, C, e, h => by
    unfold ckE at h
    split at h
    · rename_i f p x m ap mp pos
      simp only [Bool.and_eq_true, decide_eq_true_eq] at h
      obtain ⟨⟨⟨⟨⟨⟨h0, rfl⟩, h1⟩, rfl⟩, h2⟩, h3⟩, h4⟩ := h
      exact SE.no h0 (sE fun X W c tk => (m_sumv c.calm (c.glo h1) (c.bl _ (by decide +kernel)) (ckE_ok hE a false C _ h4 X W c tk) (noBase h2) h3).fe fun s => by rw [evE]; try rfl)
    · cases h
  | .bad, t, C, e, h => by
    cases t with
    | false => exact fun X W c tk => m_bad.fe fun s => by rw [evE]
    | true => exact fun X W c tk => m_badT.fe fun s => by rw [evE]
theorem ckEs_ok (hE : EConst E) : ∀ (es : List Ex) (C : CkX) (xs : List Expr), ckEs C es xs = true → SEs P E k C es xs
  | [], C, xs, h => by
    unfold ckEs at h
    split at h
    · refine ⟨rfl, ⟨fun _ => rfl, fun _ => rfl⟩, fun X W c tk => ⟨?_, ?_⟩⟩
      · rw [show evAs P [] = _ from funext fun s => by rw [evAs]]; exact m_as0
      · rw [show evEs P [] = _ from funext fun s => by rw [evEs]]; exact m_es0
    · cases h
  | a :: es, C, xs, h => by
    unfold ckEs at h
    split at h
    · rename_i x xs
      simp only [Bool.and_eq_true] at h
      obtain ⟨⟨h1, h2⟩, h3⟩ := h
      obtain ⟨hs, hn, ha⟩ := ckEs_ok hE es C xs h3
      refine ⟨by rw [List.all_cons, h1, hs]; rfl, ⟨fun q => (by cases q), fun q => (by cases q)⟩, fun X W c tk => ⟨?_, ?_⟩⟩
      · rw [show evAs P (a :: es) = _ from funext fun s => by rw [evAs]]
        exact m_as1 (ckE_ok hE a false C x h2 X W c tk) (ha X W c tk).1 (star1 h1)
      · rw [show evEs P (a :: es) = _ from funext fun s => by rw [evEs]]
        exact m_es1 (ckE_ok hE a false C x h2 X W c tk) (ha X W c tk).2 (star1 h1)
    · cases h
theorem ckO_ok (hE : EConst E) : ∀ (a : Option Ex) (C : CkX) (e : Option Expr), ckO C a e = true → SO P E k C a e
  | none, C, e, h => by
    unfold ckO at h
    split at h
    · intro X W c tk
      rw [show evO P none = _ from funext fun s => by rw [evO]]
      exact m_o0
    · cases h
  | some a, C, e, h => by
    unfold ckO at h
    split at h
    · intro X W c tk
      rw [show evO P (some a) = _ from funext fun s => by rw [evO]]
      exact m_o1 (ckE_ok hE a false C _ h X W c tk)
    · cases h
theorem ckC_ok (hE : EConst E) : ∀ (a : Option Ex) (C : CkX) (es : List Expr), ckC C a es = true → SCd P E k C a es
  | none, C, e, h => by
    unfold ckC at h
    split at h
    · intro X W c tk
      rw [show evC P none = _ from funext fun s => by rw [evC]]
      exact ts_nil
    · cases h
  | some a, C, e, h => by
    unfold ckC at h
    split at h
    · intro X W c tk
      rw [show evC P (some a) = _ from funext fun s => by rw [evC]]
      exact ts_one (ckE_ok hE a true C _ h X W c tk)
    · cases h
theorem ckF_ok (hE : EConst E) : ∀ (f : Fx) (C : CkX) (e : Expr), ckF C f e = true → SF P E k C f e
  | .lst es, C, e, h => by
    unfold ckF at h
    split at h
    · exact fun X W c tk => (m_lst ((ckEs_ok hE es C _ h).2.2 X W c tk).2).ff fun s => by rw [evF]
    · cases h
  | .comp own tg s c el, C, e, h => by
    unfold ckF at h
    split at h
    · rename_i elt tgt iter ifs is scope pos
      simp only [Bool.and_eq_true, decide_eq_true_eq] at h
      obtain ⟨⟨⟨⟨⟨⟨rfl, h1⟩, h2⟩, h3⟩, h4⟩, h5⟩, h6⟩ := h
      intro X W c tk
      have ok : BlkOk X.N X.env.scope scope (ownOf C own) := by rw [c.N, c.sc]; exact blkOk_by h1
      refine (m_comp c.calm c.nd (ckW_ok hE s C tgt iter h2 X W c tk) (hidW_ev s) ok (fun s H A cl fp => ?_) (fun s H A cl fp => ckC_ok hE _ (C.blk scope own) ifs h5 _ noW (c.blk s H A cl fp) takes_no)
        (fun s H A cl fp => ckE_ok hE el false (C.blk scope own) elt h6 _ noW (c.blk s H A cl fp) takes_no) (noFold h3)).ff fun s => (by rw [evF, own_map]; try rfl)
      have := ckG_ok hE tg (C.blk scope own) tgt h4 _ noW (c.blk s H A cl fp) takes_no
      rw [own_map]
      exact this
    · cases h
  | .comp2 own own2 tg s tg2 s2 el, C, e, h => by
    unfold ckF at h
    split at h
    · rename_i elt tgt iter ifs is tgt2 iter2 ifs2 is2 scope pos
      simp only [Bool.and_eq_true, decide_eq_true_eq, List.isEmpty_iff] at h
      obtain ⟨⟨⟨⟨⟨⟨⟨⟨⟨⟨⟨⟨⟨rfl, rfl⟩, rfl⟩, rfl⟩, h1⟩, h2⟩, h3⟩, h4⟩, h5⟩, h6⟩, h7⟩, h8⟩, h9⟩, h10⟩ := h
      intro X W c tk
      have ok : BlkOk X.N X.env.scope scope (ownOf C own) := by rw [c.N, c.sc]; exact blkOk_by h1
      have hsub : ∀ i ∈ own2, i ∈ (ownOf C own).map (·.2) := fun i hi => by
        rw [own_map]
        have := List.all_eq_true.mp h5 i hi
        simpa using this
      refine (m_comp2 (fw := evW P s) (ft := evT P tg) (fw2 := evW P s2) (ft2 := evT P tg2) (fe := evE P el) c.calm c.nd (ckW_ok hE s C tgt iter h2 X W c tk) ok hsub (fun s H A cl fp => ?_) (fun s H A cl fp => ckW0_ok hE s2 (C.blk scope own) tgt2 iter2 h7 h8 _ noW (c.blk s H A cl fp) takes_no) (fun s H A cl fp => ?_)
        (fun s H A cl fp => ckE_ok hE el false (C.blk scope own) elt h10 _ noW (c.blk s H A cl fp) takes_no) (noFold h3) (fun env => noFold h4)).ff fun s => ?_
      · have := ckG_ok hE tg (C.blk scope own) tgt h6 _ noW (c.blk s H A cl fp) takes_no
        rw [own_map]
        exact this
      · exact ckG_ok hE tg2 (C.blk scope own2) tgt2 h9 _ noW (c.blk s H A cl fp) takes_no
      · rw [evF, own_map]
        unfold crun2 out2 inn2
        rfl
    · cases h
  | .add a b, C, e, h => by
    unfold ckF at h
    split at h
    · rw [Bool.and_eq_true] at h
      exact fun X W c tk => (m_addF (ckE_ok hE a false C _ h.1 X W c tk) (ckE_ok hE b false C _ h.2 X W c tk)).ff fun s => by rw [evF]
    · cases h
  | .mul a b, C, e, h => by
    unfold ckF at h
    split at h
    · rw [Bool.and_eq_true] at h
      exact fun X W c tk => (m_mulF (ckE_ok hE a false C _ h.1 X W c tk) (ckE_ok hE b false C _ h.2 X W c tk)).ff fun s => by rw [evF]
    · cases h
  | .list s, C, e, h => by
    unfold ckF at h
    split at h
    · rename_i f p x pos
      simp only [Bool.and_eq_true, decide_eq_true_eq] at h
      obtain ⟨⟨⟨rfl, h1⟩, h2⟩, h3⟩ := h
      split at h3
      · rename_i a
        refine fun X W c tk => (m_listF (c.glo h1) (c.bl _ (by decide +kernel)) (ckE_ok hE a false C _ h3 X W c tk) (star1 h2)).ff fun s => ?_
        rw [evF, evW]
        cases evE P a s <;> try rfl
      · rename_i a b
        split at h3
        · simp only [Bool.and_eq_true, decide_eq_true_eq] at h3
          obtain ⟨⟨⟨⟨rfl, k1⟩, k2⟩, k3⟩, k4⟩ := h3
          cases a with
          | some a => cases k3
          | none => exact fun X W c tk => (m_listR1 c.calm (c.glo h1) (c.bl _ (by decide +kernel)) (c.glo k1) (c.bl _ (by decide +kernel)) (ckE_ok hE b false C _ k4 X W c tk) (star1 k2)).ff fun s => (by rw [evF, evW]; rfl)
        · simp only [Bool.and_eq_true, decide_eq_true_eq] at h3
          obtain ⟨⟨⟨⟨⟨rfl, k1⟩, k2⟩, k3⟩, k4⟩, k5⟩ := h3
          cases a with
          | none => cases k4
          | some a => exact fun X W c tk => (m_listR2 c.calm (c.glo h1) (c.bl _ (by decide +kernel)) (c.glo k1) (c.bl _ (by decide +kernel)) (ckE_ok hE a false C _ k4 X W c tk) (ckE_ok hE b false C _ k5 X W c tk) (star1 k2) (star1 k3)).ff fun s => (by rw [evF, evW]; rfl)
        · cases h3
      · cases h3
    · cases h
  | .sorted a, C, e, h => by
    unfold ckF at h
    split at h
    · simp only [Bool.and_eq_true, decide_eq_true_eq] at h
      obtain ⟨⟨⟨rfl, h1⟩, h2⟩, h3⟩ := h
      exact fun X W c tk => (m_sorted2 c.hu (c.glo h1) (c.bl _ (by decide +kernel)) (ckE_ok hE a false C _ h3 X W c tk) (star1 h2)).ff fun s => by rw [evF]
    · cases h
  | .sortedK a, C, e, h => by
    unfold ckF at h
    split at h
    · rename_i f p x m ap mp pos
      simp only [Bool.and_eq_true, decide_eq_true_eq] at h
      obtain ⟨⟨⟨⟨⟨rfl, h1⟩, rfl⟩, h2⟩, h3⟩, h4⟩ := h
      exact fun X W c tk => (m_sortedK c.calm c.hu (c.glo h1) (c.bl _ (by decide +kernel)) (ckE_ok hE a false C _ h4 X W c tk) (noBase h2) h3).ff fun s => by rw [evF]
    · cases h
  | .sortk _, _, _, h => by unfold ckF at h; cases h
  | .setl a, C, e, h => by
    unfold ckF at h
    split at h
    · simp only [Bool.and_eq_true, decide_eq_true_eq] at h
      obtain ⟨⟨⟨⟨⟨rfl, h1⟩, rfl⟩, h2⟩, h3⟩, h4⟩ := h
      exact fun X W c tk => (m_setl c.calm c.hu (c.glo h1) (c.bl _ (by decide +kernel)) (c.glo h2) (c.bl _ (by decide +kernel)) (ckE_ok hE a false C _ h4 X W c tk) (star1 h3)).ff fun s => by rw [evF]
    · cases h
  | .dct t kvs, C, e, h => by
    unfold ckF at h
    split at h
    · rename_i ks vs pos
      rcases Bool.or_eq_true_iff.mp h with h | h
      · simp only [Bool.and_eq_true, List.isEmpty_iff, Bool.not_eq_true'] at h
        obtain ⟨⟨⟨rfl, rfl⟩, rfl⟩, rfl⟩ := h
        refine fun X W c tk => m_dct0.ff fun s => ?_
        rw [evF, evEs]
        try rfl
      · simp only [Bool.and_eq_true, decide_eq_true_eq, Bool.not_eq_true'] at h
        obtain ⟨⟨⟨⟨k1, k2⟩, k3⟩, k4⟩, k5⟩ := h
        have k0 : ks ≠ [] := fun e => by subst e; cases k1
        intro X W c tk
        have hp := ckP_ok hE kvs C ks vs k5 X W c tk pos
        cases t with
        | false => exact (m_dctK hp k2 k3 k0 k4).ff fun s => (by rw [evF]; try rfl)
        | true => exact (m_dctT c.hu hp k2 k3 k0 k4).ff fun s => (by rw [evF]; try rfl)
    · cases h
  | .dict a, C, e, h => by
    unfold ckF at h
    split at h
    · simp only [Bool.and_eq_true, decide_eq_true_eq] at h
      obtain ⟨⟨⟨rfl, h1⟩, h2⟩, h3⟩ := h
      exact fun X W c tk => (m_dict c.calm (c.glo h1) (c.bl _ (by decide +kernel)) (ckE_ok hE a false C _ h3 X W c tk) (star1 h2)).ff fun s => by rw [evF]; try rfl
    · cases h
  | .ife q a b, C, e, h => by
    unfold ckF at h
    split at h
    · simp only [Bool.and_eq_true] at h
      obtain ⟨⟨h2, h3⟩, h4⟩ := h
      exact fun X W c tk => (m_ifeF (ckE_ok hE q true C _ h2 X W c tk) (ckF_ok hE a C _ h3 X W c tk) (ckF_ok hE b C _ h4 X W c tk)).ff fun s => by rw [evF]
    · cases h
  | .slc a lo hi, C, e, h => by
    unfold ckF at h
    split at h
    · simp only [Bool.and_eq_true] at h
      obtain ⟨⟨h2, h3⟩, h4⟩ := h
      exact fun X W c tk => (m_slcF (ckE_ok hE a false C _ h2 X W c tk) (ckO_ok hE lo C _ h3 X W c tk) (ckO_ok hE hi C _ h4 X W c tk)).ff fun s => by rw [evF]
    · cases h
  | .rev a, C, e, h => by
    unfold ckF at h
    split at h
    · simp only [Bool.and_eq_true, decide_eq_true_eq] at h
      obtain ⟨rfl, h2⟩ := h
      exact fun X W c tk => (m_revF (ckE_ok hE a false C _ h2 X W c tk)).ff fun s => by rw [evF]
    · cases h
  | .bad, C, e, h => fun X W c tk => m_badF.ff fun s => by rw [evF]
theorem ckP_ok (hE : EConst E) : ∀ (kvs : List Ex) (C : CkX) (ks : List (Option Expr)) (vs : List Expr), ckP C kvs ks vs = true → SPq P E k C kvs ks vs
  | [], C, ks, vs, h => by
    unfold ckP at h
    simp only [Bool.and_eq_true, List.isEmpty_iff] at h
    obtain ⟨rfl, rfl⟩ := h
    intro X W c tk pos
    rw [show evEs P [] = _ from funext fun s => by rw [evEs]]
    exact pq_nil
  | [_], _, _, _, h => by unfold ckP at h; cases h
  | a :: b :: r, C, ks, vs, h => by
    unfold ckP at h
    split at h
    · rename_i x ks y vs
      simp only [Bool.and_eq_true] at h
      obtain ⟨⟨h1, h2⟩, h3⟩ := h
      intro X W c tk pos
      rw [show evEs P (a :: b :: r) = (fun s => (solidB (evE P a s)).bind fun x s => ((solidB (evE P b s)).bind fun y s => (evEs P r s).bind fun l s => .ok (y :: l) s).bind fun l s => .ok (x :: l) s) from funext fun s => by simp only [evEs]]
      exact pq_cons (ckE_ok hE a false C _ h1 X W c tk) (ckE_ok hE b false C _ h2 X W c tk) (ckP_ok hE r C ks vs h3 X W c tk pos)
    · cases h
theorem ckW_ok (hE : EConst E) : ∀ (s : Src) (C : CkX) (tg e : Expr), ckW C s tg e = true → SW P E k C s tg e
  | .vals a, C, tg, e, h => by
    unfold ckW at h
    intro X W c tk
    rw [show evW P (.vals a) = _ from funext fun s => by rw [evW]]
    exact w_vals (ckE_ok hE a false C _ h X W c tk)
  | .keys _, _, _, _, h => by unfold ckW at h; cases h
  | .chars _, _, _, _, h => by unfold ckW at h; cases h
  | .rng none b, C, tg, e, h => by
    unfold ckW at h
    split at h
    · simp only [Bool.and_eq_true, decide_eq_true_eq] at h
      obtain ⟨⟨⟨⟨rfl, h1⟩, h2⟩, _⟩, h3⟩ := h
      intro X W c tk
      rw [show evW P (.rng none b) = _ from funext fun s => by rw [evW]]
      exact w_rng1 (c.glo h1) (c.bl _ (by decide +kernel)) (ckE_ok hE b false C _ h3 X W c tk) (star1 h2)
    · simp only [Bool.and_eq_true] at h
      obtain ⟨⟨_, h⟩, _⟩ := h
      cases h
    · cases h
  | .rng (some a) b, C, tg, e, h => by
    unfold ckW at h
    split at h
    · simp only [Bool.and_eq_true] at h
      obtain ⟨⟨_, h⟩, _⟩ := h
      cases h
    · simp only [Bool.and_eq_true, decide_eq_true_eq] at h
      obtain ⟨⟨⟨⟨⟨rfl, h1⟩, h2⟩, h3⟩, h4⟩, h5⟩ := h
      intro X W c tk
      rw [show evW P (.rng (some a) b) = _ from funext fun s => by rw [evW]]
      exact w_rng2 (c.glo h1) (c.bl _ (by decide +kernel)) (ckE_ok hE a false C _ h4 X W c tk) (ckE_ok hE b false C _ h5 X W c tk) (star1 h2) (star1 h3)
    · cases h
  | .rng3 a b d, C, tg, e, h => by
    unfold ckW at h
    split at h
    · simp only [Bool.and_eq_true, decide_eq_true_eq] at h
      obtain ⟨⟨⟨⟨⟨⟨⟨rfl, h1⟩, h2⟩, h3⟩, h4⟩, h5⟩, h6⟩, h7⟩ := h
      intro X W c tk
      rw [show evW P (.rng3 a b d) = _ from funext fun s => by rw [evW]]
      exact w_rng3 (c.glo h1) (c.bl _ (by decide +kernel)) (ckE_ok hE a false C _ h5 X W c tk) (ckE_ok hE b false C _ h6 X W c tk) (ckE_ok hE d false C _ h7 X W c tk) (star1 h2) (star1 h3) (star1 h4) (stars (by simp [h3, h4]))
    · cases h
  | .enum a, C, tg, e, h => by
    unfold ckW at h
    split at h
    · simp only [Bool.and_eq_true, decide_eq_true_eq] at h
      obtain ⟨⟨⟨⟨rfl, h1⟩, h2⟩, h3⟩, h4⟩ := h
      unfold isTupE at h2
      split at h2
      · intro X W c tk
        rw [show evW P (.enum a) = _ from funext fun s => by rw [evW]]
        exact w_enum (c.glo h1) (c.bl _ (by decide +kernel)) (ckE_ok hE a false C _ h4 X W c tk) (star1 h3)
      · cases h2
    · cases h
  | .zip a b, C, tg, e, h => by
    unfold ckW at h
    split at h
    · simp only [Bool.and_eq_true, decide_eq_true_eq] at h
      obtain ⟨⟨⟨⟨⟨⟨rfl, h1⟩, h2⟩, h3⟩, h4⟩, h5⟩, h6⟩ := h
      unfold isTupE at h2
      split at h2
      · intro X W c tk
        rw [show evW P (.zip a b) = _ from funext fun s => by rw [evW]]
        exact w_zip (c.glo h1) (c.bl _ (by decide +kernel)) (ckE_ok hE a false C _ h5 X W c tk) (ckE_ok hE b false C _ h6 X W c tk) (star1 h3) (star1 h4) (stars (by simp [h4]))
      · cases h2
    · cases h
  | .bad, _, _, _, h => by unfold ckW at h; cases h
theorem ckW0_ok (hE : EConst E) : ∀ (s : Src) (C : CkX) (tg e : Expr), (match s with | .rng _ _ => true | _ => false) = true → ckW C s tg e = true → SW0 P E k C s tg e
  | .rng none b, C, tg, e, _, h => by
    unfold ckW at h
    split at h
    · simp only [Bool.and_eq_true, decide_eq_true_eq] at h
      obtain ⟨⟨⟨⟨rfl, h1⟩, h2⟩, _⟩, h3⟩ := h
      intro X W c tk
      rw [show evW P (.rng none b) = _ from funext fun s => by rw [evW]]
      exact w0_rng1 (c.glo h1) (c.bl _ (by decide +kernel)) (ckE_ok hE b false C _ h3 X W c tk) (star1 h2)
    · simp only [Bool.and_eq_true] at h
      obtain ⟨⟨_, h⟩, _⟩ := h
      cases h
    · cases h
  | .rng (some a) b, C, tg, e, _, h => by
    unfold ckW at h
    split at h
    · simp only [Bool.and_eq_true] at h
      obtain ⟨⟨_, h⟩, _⟩ := h
      cases h
    · simp only [Bool.and_eq_true, decide_eq_true_eq] at h
      obtain ⟨⟨⟨⟨⟨rfl, h1⟩, h2⟩, h3⟩, h4⟩, h5⟩ := h
      intro X W c tk
      rw [show evW P (.rng (some a) b) = _ from funext fun s => by rw [evW]]
      exact w0_rng2 (c.glo h1) (c.bl _ (by decide +kernel)) (ckE_ok hE a false C _ h4 X W c tk) (ckE_ok hE b false C _ h5 X W c tk) (star1 h2) (star1 h3)
    · cases h
  | .vals _, _, _, _, h, _ => by cases h
  | .keys _, _, _, _, h, _ => by cases h
  | .chars _, _, _, _, h, _ => by cases h
  | .rng3 _ _ _, _, _, _, h, _ => by cases h
  | .enum _, _, _, _, h, _ => by cases h
  | .zip _ _, _, _, _, h, _ => by cases h
  | .bad, _, _, _, h, _ => by cases h
theorem ckG_ok (hE : EConst E) : ∀ (t : Tg) (C : CkX) (e : Expr), ckG C t e = true → SG P E k C t e
  | .nm i, C, e, h => by
    unfold ckG at h
    split at h
    · simp only [Bool.and_eq_true] at h
      obtain ⟨⟨h1, h2⟩, h3⟩ := h
      intro X W c tk
      rw [show evT P (.nm i) = _ from funext fun v => funext fun s => by rw [evT]]
      exact g_nm c.nd (c.at h1) (c.sto _ h2).1 (c.sto _ h2).2 (List.elem_iff.mp h3)
    · cases h
  | .tp ts, C, e, h => by
    unfold ckG at h
    split at h
    · rename_i xs kk pos
      obtain ⟨hs, hl, hg⟩ := ckGs_ok hE ts C xs h
      intro X W c tk
      rw [show evT P (.tp ts) = _ from funext fun v => funext fun s => by rw [evT]]
      exact g_tp c.calm (hg X W c tk) (by rw [asg_len hs, hl]) (asg_find hs)
    · cases h
  | .sub o i, C, e, h => by
    unfold ckG at h
    split at h
    · simp only [Bool.and_eq_true] at h
      obtain ⟨⟨h1, h2⟩, h3⟩ := h
      intro X W c tk
      rw [show evT P (.sub o i) = _ from funext fun v => funext fun s => by rw [evT]]
      exact g_sub c.hu (ckE_ok hE o false C _ h2 X W c tk) (ckE_ok hE i false C _ h3 X W c tk) (asgSub h1)
    · cases h
  | .fld _ _ _, _, _, h => by unfold ckG at h; cases h
theorem ckGs_ok (hE : EConst E) : ∀ (ts : List Tg) (C : CkX) (es : List Expr), ckGs C ts es = true → SGs P E k C ts es
  | [], C, es, h => by
    unfold ckGs at h
    split at h
    · refine ⟨rfl, rfl, fun X W c tk => ?_⟩
      rw [show evTs P [] = fun vs s => evTs0 vs s from funext fun v => funext fun s => by cases v <;> rfl]
      exact g_nil
    · cases h
  | t :: ts, C, es, h => by
    unfold ckGs at h
    split at h
    · rename_i x xs
      simp only [Bool.and_eq_true] at h
      obtain ⟨⟨h1, h2⟩, h3⟩ := h
      obtain ⟨hs, hl, hg⟩ := ckGs_ok hE ts C xs h3
      refine ⟨by rw [List.all_cons, h1, hs]; rfl, by rw [List.length_cons, List.length_cons, hl], fun X W c tk => ?_⟩
      rw [show evTs P (t :: ts) = fun vs s => (match vs with | v :: r => (evT P t v s).bind fun _ s => evTs P ts r s | [] => .bad) from funext fun v => funext fun s => by cases v <;> rfl]
      exact g_cons (ckG_ok hE t C x h2 X W c tk) (hg X W c tk) (asg_map h1)
    · cases h
end
end
end Mq

namespace Mq
open PySem PySem.Spec PyProof.Rows L2 Mp
structure CkFn (X : Cx) : Prop where
  bk : X.env.blockKind = .function
  kd : X.env.scope.kind = .function
  pw : PassesOwn (model X.prog X.w) X.A X.env X.xe
  stk : X.stack = X.env :: X.outer
  fr : X.env.frame = some X.env.locals
theorem CkOk.tr {P : Prog} {E : ErT} {k : Nat} {C : CkX} {X : Cx} (h : CkOk P E k C X) (pn : List (Addr × Obj)) (xe : Value → Shared → Prop) : CkOk P E k C (X.tr pn xe) :=
  ⟨h.N, h.nd, h.calm, h.room, h.sc, h.sto, h.bl, h.fns, h.gci, h.gcs, h.gct, h.clo, h.mth, h.noa, h.k1, h.exE, h.exk, h.exm⟩
theorem lk_mem {α : Type} {x : Str} {i : α} : ∀ {l : List (Str × α)}, l.lookup x = some i → (x, i) ∈ l
  | [], h => by cases h
  | (y, j) :: r, h => by
    rw [List.lookup_cons] at h
    cases q : (x == y) with
    | true =>
      rw [q] at h
      cases h
      rw [eq_of_beq q]
      exact List.mem_cons_self
    | false =>
      rw [q] at h
      exact List.mem_cons_of_mem _ (lk_mem h)
section
variable {P : Prog} {E : ErT} {k : Nat} {C : CkX} {X : Cx} {W : WX} {e : Expr} {pos : Pos} {x : Str} {i : Nat}
theorem PS.fe {st : Stmt} {f f' : Sta → Rs Fl} (h : PS X st (tS X.K E W f)) (hf : ∀ s, f' s = f s) : PS X st (tS X.K E W f') := by rw [funext hf]; exact h
theorem PSs.fe {st : List Stmt} {f f' : Sta → Rs Fl} (h : PSs X st (tS X.K E W f)) (hf : ∀ s, f' s = f s) : PSs X st (tS X.K E W f') := by rw [funext hf]; exact h
theorem PGs.fe {es : List Expr} {f f' : List RV → Sta → Rs Unit} (h : PGs X es (tGR X.K E W f)) (hf : ∀ r s, f' r s = f r s) : PGs X es (tGR X.K E W f') := by rw [show f' = f from funext fun r => funext fun s => hf r s]; exact h
theorem ss_bad {st : List Stmt} : PSs X st (tS X.K E W fun _ => .bad) := ⟨fun _ _ _ _ _ _ ⟨_, _, _, h⟩ => h.elim⟩
theorem noSw {y : Str} {p2 : Pos} {l : Nat} (c : CkOk P E k C X) (h : noSwapC C y p2 e = true) : swapsWith e (some (.Name y p2)) l X.env = pure false := by
  unfold noSwapC at h
  rw [Bool.or_eq_true] at h
  rcases h with h | h
  · exact noSwap h
  · split at h
    · rename_i elt gs scope p
      unfold swapC at h
      rw [Bool.not_eq_true', Bool.and_eq_false_iff, Bool.and_eq_false_iff] at h
      have key : (X.env.blockKind == .function && X.env.kindOf y == some .local && p2.line == p.line && !(scope.names.any fun (n, k) => n == y && (k == .local || k == .cell))) = false := by
        rcases h with (h | h) | h
        · have : (X.env.kindOf y == some .local) = false := by
            show (X.env.scope.names.lookup y == some .local) = false
            rw [c.sc]
            unfold CkX.loc at h
            split at h
            · cases h
            · rename_i hn
              cases e : C.sc.names.lookup y with
              | none => rfl
              | some q => cases q <;> first | rfl | exact absurd e hn
          rw [this]; simp
        · rw [h]; simp
        · rw [h]; simp
      unfold swapsWith
      simp only [Expr.pos, key]
    · cases h
theorem isSw {y : Str} {p2 : Pos} {l : Nat} {elt : Expr} {gs : List Comprehension} {scope : Scope} {p : Pos} (c : CkOk P E k C X) (f : CkFn X) (h : swapC C y p2 (.ListComp elt gs scope p) = true) :
    X.env.scope.names.lookup y = some .local ∧ swapsWith (.ListComp elt gs scope p) (some (.Name y p2)) l X.env = pure true := by
  unfold swapC at h
  simp only [Bool.and_eq_true, Bool.not_eq_true'] at h
  exact ⟨c.loc h.1.1, sw_true f.kd (c.loc h.1.1) h.1.2 h.2⟩
theorem asg_one {e : Expr} {env : Env} (h : notStar e = true) : (assignEach [e] env).map (·.2) = [assign e env] := by rw [asg1 h]; rfl
theorem stRs_N : ∀ (is : List Nat) (vs : List RV) (s : Sta), stRs P (is.map Tg.nm) vs s = stN is vs s
  | [], [], s => rfl
  | [], .v _ :: _, s => rfl
  | [], .c _ :: _, s => rfl
  | _ :: _, [], s => rfl
  | i :: is, .v v :: r, s => by
    show (evT P (.nm i) v s).bind (fun _ s => stRs P (is.map Tg.nm) r s) = (Rs.ok () (slotSet i v s)).bind fun _ s => stN is r s
    rw [evT]
    exact stRs_N is r _
  | i :: is, .c c :: r, s => stRs_N is r _
theorem stN_len : ∀ (is : List Nat) (vs : List RV) (s : Sta), vs.length ≠ is.length → stN is vs s = .bad
  | [], [], s, h => absurd rfl h
  | [], .v _ :: _, s, _ => rfl
  | [], .c _ :: _, s, _ => rfl
  | _ :: _, [], s, _ => rfl
  | i :: is, .v v :: r, s, h => stN_len is r _ fun e => h (by simp [e])
  | i :: is, .c c :: r, s, h => stN_len is r _ fun e => h (by simp [e])
theorem par_eq {P : Prog} (es : List Rh) (is : List Nat) (s : Sta) : evS P (.asgs (is.map Tg.nm) es) s = (evRs P es s).bind fun vs s => (stN is vs s).bind nextR := by
  rw [evS]
  congr 1
  funext vs s
  split
  · rw [stRs_N]
  · rename_i h
    rw [stN_len is vs s (by simpa using h)]
    rfl
end
section
variable {P : Prog} {E : ErT} {k : Nat}
def SS (P : Prog) (E : ErT) (k : Nat) (C : CkX) (a : Sm) (st : Stmt) : Prop := ∀ (X : Cx) (W : WX), CkOk P E k C X → CkFn X → Takes X W → PS X st (tS X.K E W (evS P a))
def SSs (P : Prog) (E : ErT) (k : Nat) (C : CkX) (a : List Sm) (st : List Stmt) : Prop := ∀ (X : Cx) (W : WX), CkOk P E k C X → CkFn X → Takes X W → PSs X st (tS X.K E W (evB P a))
theorem ckR_ok (hE : EConst E) : ∀ (rs : List Rh) (C : CkX) (es : List Expr), ckR C rs es = true → ∀ (X : Cx) (W : WX), CkOk P E k C X → Takes X W → PA X es (tR X.K E W (evRs P rs))
  | [], C, es, h => by
    unfold ckR at h
    split at h
    · exact fun X W c tk => r_nil
    · cases h
  | .ex a :: rs, C, es, h => by
    unfold ckR at h
    split at h
    · simp only [Bool.and_eq_true] at h
      obtain ⟨⟨h1, h2⟩, h3⟩ := h
      exact fun X W c tk => r_v (ckE_ok hE a false C _ h2 X W c tk) (ckR_ok hE rs C _ h3 X W c tk) (star1 h1)
    · cases h
  | .fx a :: rs, C, es, h => by
    unfold ckR at h
    split at h
    · simp only [Bool.and_eq_true] at h
      obtain ⟨⟨h1, h2⟩, h3⟩ := h
      exact fun X W c tk => r_c (ckF_ok hE a C _ h2 X W c tk) (ckR_ok hE rs C _ h3 X W c tk) (star1 h1)
    · cases h
theorem ckGr_ok (hE : EConst E) : ∀ (ts : List Tg) (C : CkX) (es : List Expr), ckGs C ts es = true → ∀ (X : Cx) (W : WX), CkOk P E k C X → Takes X W → PGs X es (tGR X.K E W (stRs P ts))
  | [], C, es, h => by
    unfold ckGs at h
    split at h
    · exact fun X W c tk => PGs.fe r_g0 fun r s => by cases r with | nil => rfl | cons a b => cases a <;> rfl
    · cases h
  | t :: ts, C, es, h => by
    unfold ckGs at h
    split at h
    · rename_i x xs
      simp only [Bool.and_eq_true] at h
      obtain ⟨⟨h1, h2⟩, h3⟩ := h
      intro X W c tk
      have rest := ckGr_ok hE ts C xs h3 X W c tk
      have one := ckG_ok (P := P) (E := E) (k := k) hE t C x h2 X W c tk
      cases t with
      | nm i =>
        unfold ckG at h2
        split at h2
        · simp only [Bool.and_eq_true] at h2
          obtain ⟨⟨h4, h5⟩, h6⟩ := h2
          refine PGs.fe (r_gN c.nd (c.at h4) (c.sto _ h5).1 (c.sto _ h5).2 rest (asg_map rfl)) fun r s => ?_
          cases r with
          | nil => rfl
          | cons a b =>
            cases a with
            | v v =>
              show (evT P (.nm i) v s).bind (fun _ s => stRs P ts b s) = _
              rw [evT]
              rfl
            | c c => rfl
        · cases h2
      | tp _ =>
        refine PGs.fe (r_g1 one rest (asg_map h1)) fun r s => ?_
        cases r with
        | nil => rfl
        | cons a b => cases a <;> rfl
      | sub _ _ =>
        refine PGs.fe (r_g1 one rest (asg_map h1)) fun r s => ?_
        cases r with
        | nil => rfl
        | cons a b => cases a <;> rfl
      | fld _ _ =>
        refine PGs.fe (r_g1 one rest (asg_map h1)) fun r s => ?_
        cases r with
        | nil => rfl
        | cons a b => cases a <;> rfl
    · cases h
theorem swp_none {C : CkX} {X : Cx} {xs : List Expr} {k1 : Nat} {p1 : Pos} {v : Expr} (c : CkOk P E k C X) (f : CkFn X) (h : (match v with | .Tuple ys _ _ => decide (swp C.sc xs ys = some none) | _ => true) = true) :
    swappedStores [.Tuple xs k1 p1] v X.env = pure none := by
  cases v <;> first | rfl | exact swp_ok c.sc f.bk (of_decide_eq_true h)
theorem s_swap (hE : EConst E) {C : CkX} {f : Fx} {y : Str} {p2 pos spos : Pos} {elt : Expr} {gs : List Comprehension} {scope : Scope} {i : Nat} (h : ckF C f (.ListComp elt gs scope pos) = true) (hs : swapC C y p2 (.ListComp elt gs scope pos) = true) (hi : C.isSlot i y = true)
    {X : Cx} {W : WX} (c : CkOk P E k C X) (fn : CkFn X) (tk : Takes X W) :
    PS X (.Assign [.Name y p2] (.ListComp elt gs scope pos) spos) (tS X.K E W fun s => (evF P f s).bind fun c s => .ok .next { s with env := s.env.set i (.box c) }) ∧
    PS X (.Assign [.Name y p2] (.ListComp elt gs scope pos) spos) (tS X.K E W fun s => (solidB ((evF P f s).bind fun c s => Rs.of c.frozen s)).bind fun v s => (Rs.ok () (slotSet i v s)).bind nextR) := by
  obtain ⟨hl, hsw⟩ := isSw (l := spos.line) c fn hs
  cases f <;> unfold ckF at h <;> first | (cases h; done) | skip
  · rename_i own tg s cc el
    split at h
    · rename_i elt' tgt iter ifs is scope' pos' he
      cases he
      simp only [Bool.and_eq_true, decide_eq_true_eq] at h
      obtain ⟨⟨⟨⟨⟨⟨rfl, h1⟩, h2⟩, h3⟩, h4⟩, h5⟩, h6⟩ := h
      have ok : BlkOk X.N X.env.scope scope (ownOf C own) := by rw [c.N, c.sc]; exact blkOk_by h1
      have hg : ∀ (s : Shared) (H : Hp) (A : Addr) (cl : List (Str × Addr)) (fp : List Addr), PG (X.blk s H scope (compEnvC scope cl A X.env) fp) tgt (tG X.K E noW ((ownOf C own).map (·.2)) (evT P tg)) := fun s H A cl fp => by
        have := ckG_ok hE tg (C.blk scope own) tgt h4 _ noW (c.blk s H A cl fp) takes_no
        rw [own_map]
        exact this
      have ht : ∀ (s : Shared) (H : Hp) (A : Addr) (cl : List (Str × Addr)) (fp : List Addr), PTs (X.blk s H scope (compEnvC scope cl A X.env) fp) ifs (tT X.K E noW (evC P cc)) := fun s H A cl fp => ckC_ok hE _ (C.blk scope own) ifs h5 _ noW (c.blk s H A cl fp) takes_no
      have hel : ∀ (s : Shared) (H : Hp) (A : Addr) (cl : List (Str × Addr)) (fp : List Addr), PE (X.blk s H scope (compEnvC scope cl A X.env) fp) elt (tE X.K E noW (evE P el)) := fun s H A cl fp => ckE_ok hE el false (C.blk scope own) elt h6 _ noW (c.blk s H A cl fp) takes_no
      have eF : ∀ s', evF P (.comp own tg s cc el) s' = crun ((ownOf C own).map (·.2)) (evW P s) (evT P tg) (evC P cc) (evE P el) s' := fun s' => by rw [evF, own_map]; try rfl
      refine ⟨PS.fe (s_boxC (i := i) c.calm c.nd (c.at hi) hl hsw (ckW_ok hE s C tgt iter h2 X W c tk) (hidW_ev s) ok hg ht hel (noFold h3)) fun s' => by rw [eF], PS.fe (s_asgC (i := i) c.calm c.nd (c.at hi) hl hsw (ckW_ok hE s C tgt iter h2 X W c tk) (hidW_ev s) ok hg ht hel (noFold h3)) fun s' => by rw [eF]⟩
    · cases h
  · rename_i own own2 tg s tg2 s2 el
    split at h
    · rename_i elt' tgt iter ifs is tgt2 iter2 ifs2 is2 scope' pos' he
      cases he
      simp only [Bool.and_eq_true, decide_eq_true_eq, List.isEmpty_iff] at h
      obtain ⟨⟨⟨⟨⟨⟨⟨⟨⟨⟨⟨⟨⟨rfl, rfl⟩, rfl⟩, rfl⟩, h1⟩, h2⟩, h3⟩, h4⟩, h5⟩, h6⟩, h7⟩, h8⟩, h9⟩, h10⟩ := h
      have ok : BlkOk X.N X.env.scope scope (ownOf C own) := by rw [c.N, c.sc]; exact blkOk_by h1
      have hsub : ∀ i ∈ own2, i ∈ (ownOf C own).map (·.2) := fun i hi => by
        rw [own_map]
        have := List.all_eq_true.mp h5 i hi
        simpa using this
      have hg : ∀ (s : Shared) (H : Hp) (A : Addr) (cl : List (Str × Addr)) (fp : List Addr), PG (X.blk s H scope (compEnvC scope cl A X.env) fp) tgt (tG X.K E noW ((ownOf C own).map (·.2)) (evT P tg)) := fun s H A cl fp => by
        have := ckG_ok hE tg (C.blk scope own) tgt h6 _ noW (c.blk s H A cl fp) takes_no
        rw [own_map]
        exact this
      have hg1 : ∀ (s : Shared) (H : Hp) (A : Addr) (cl : List (Str × Addr)) (fp : List Addr), PG (X.blk s H scope (compEnvC scope cl A X.env) fp) tgt2 (tG X.K E noW own2 (evT P tg2)) := fun s H A cl fp => ckG_ok hE tg2 (C.blk scope own2) tgt2 h9 _ noW (c.blk s H A cl fp) takes_no
      have hi1 : ∀ (s : Shared) (H : Hp) (A : Addr) (cl : List (Str × Addr)) (fp : List Addr), PI (X.blk s H scope (compEnvC scope cl A X.env) fp) tgt2 iter2 (tW0 X.K E noW (evW P s2)) := fun s H A cl fp => ckW0_ok hE s2 (C.blk scope own) tgt2 iter2 h7 h8 _ noW (c.blk s H A cl fp) takes_no
      have hel : ∀ (s : Shared) (H : Hp) (A : Addr) (cl : List (Str × Addr)) (fp : List Addr), PE (X.blk s H scope (compEnvC scope cl A X.env) fp) elt (tE X.K E noW (evE P el)) := fun s H A cl fp => ckE_ok hE el false (C.blk scope own) elt h10 _ noW (c.blk s H A cl fp) takes_no
      have eF : ∀ s', evF P (.comp2 own own2 tg s tg2 s2 el) s' = crun2 ((ownOf C own).map (·.2)) own2 (evW P s) (evT P tg) (evW P s2) (evT P tg2) (evE P el) s' := fun s' => by
        rw [evF, own_map]
        unfold crun2 out2 inn2
        rfl
      refine ⟨PS.fe (s_boxC2 (i := i) c.calm c.nd (c.at hi) hl hsw (ckW_ok hE s C tgt iter h2 X W c tk) ok hsub hg hi1 hg1 hel (noFold h3) (fun env => noFold h4)) fun s' => by rw [eF],
        PS.fe (s_asgC2 (i := i) c.calm c.nd (c.at hi) hl hsw (ckW_ok hE s C tgt iter h2 X W c tk) ok hsub hg hi1 hg1 hel (noFold h3) (fun env => noFold h4)) fun s' => by rw [eF]⟩
    · cases h
  · exact ⟨PS.fe s_bad fun s => by rw [evF]; rfl, PS.fe s_bad fun s => by rw [evF]; rfl⟩
end
section
variable {P : Prog} {E : ErT} {k : Nat}
set_option maxHeartbeats 2000000
mutual
theorem ckS_ok (hE : EConst E) : ∀ (a : Sm) (C : CkX) (st : Stmt), ckS C a st = true → SS P E k C a st
  | .asg tg e, C, st, h => by
    unfold ckS at h
    split at h
    · rename_i x v pos
      split at h
      · rename_i y p2
        rw [Bool.or_eq_true] at h
        rcases h with h | h
        · simp only [Bool.and_eq_true] at h
          obtain ⟨⟨h1, h2⟩, h3⟩ := h
          exact fun X W c fn tk => PS.fe (s_asg (ckE_ok hE e false C _ h3 X W c tk) (ckG_ok hE tg C _ h2 X W c tk) (noSw (l := pos.line) c h1) rfl (asg_one rfl)) fun s => by rw [evS]
        · split at h
          · rename_i i f
            simp only [Bool.and_eq_true] at h
            obtain ⟨⟨h1, h2⟩, h3⟩ := h
            intro X W c fn tk
            cases v <;> first | (cases h1; done) | skip
            refine PS.fe (s_swap hE h3 h1 h2 c fn tk).2 fun s => ?_
            rw [evS, evE]
            congr 1
          · cases h
      · rename_i xs kk p1
        simp only [Bool.and_eq_true] at h
        obtain ⟨⟨⟨h0, h1⟩, h2⟩, h3⟩ := h
        exact fun X W c fn tk => PS.fe (s_asg (ckE_ok hE e false C _ h3 X W c tk) (ckG_ok hE tg C _ h2 X W c tk) (noSole h1) (swp_none c fn h0) (asg_one rfl)) fun s => by rw [evS]
      · rw [Bool.or_eq_true] at h
        rcases h with h | h
        · unfold fldS at h
          split at h
          · simp only [Bool.and_eq_true, decide_eq_true_eq] at h
            obtain ⟨⟨⟨⟨rfl, h1⟩, h2⟩, h3⟩, h4⟩ := h
            exact fun X W c fn tk => PS.fe (s_fld (ckE_ok hE _ false C _ h3 X W c tk) (ckE_ok hE e false C _ h4 X W c tk) (noSwap h2) (c.noa _ _ h1)) fun s => by rw [evS]; congr 1
          · cases h
        simp only [Bool.and_eq_true] at h
        obtain ⟨⟨⟨⟨h0, h4⟩, h1⟩, h2⟩, h3⟩ := h
        refine fun X W c fn tk => PS.fe (s_asg (ckE_ok hE e false C _ h3 X W c tk) (ckG_ok hE tg C _ h2 X W c tk) (noSole h1) ?_ (asg_one h0)) fun s => by rw [evS]
        rename_i hn1 hn2
        cases x <;> first | (cases h4; done) | (exact absurd rfl (hn2 _ _ _)) | rfl
    · cases h
  | .box i f, C, st, h => by
    unfold ckS at h
    split at h
    · rename_i y p2 v pos
      simp only [Bool.and_eq_true] at h
      obtain ⟨⟨⟨h1, h2⟩, h3⟩, h4⟩ := h
      rw [Bool.or_eq_true] at h3
      intro X W c fn tk
      rcases h3 with h3 | h3
      · exact PS.fe (s_box c.nd (c.at h1) (c.sto _ h2).1 (ckF_ok hE f C _ h4 X W c tk) (noSw c h3) (c.sto _ h2).2) fun s => by rw [evS]
      · cases v <;> first | (cases h3; done) | skip
        exact PS.fe (s_swap hE h4 h3 h1 c fn tk).1 fun s => by rw [evS]
    · cases h
  | .asgs ts es, C, st, h => by
    unfold ckS at h
    split at h
    · rename_i xs k1 p1 ys k2 p2 pos
      rw [Bool.and_eq_true, Bool.or_eq_true] at h
      obtain ⟨h1, h⟩ := h
      intro X W c fn tk
      have hr := ckR_ok (P := P) (k := k) hE es C ys h1 X W c tk
      rcases h with h | h
      · unfold parN at h
        split at h
        · simp only [Bool.and_eq_true, decide_eq_true_eq] at h
          obtain ⟨⟨⟨⟨⟨h2, h3⟩, h4⟩, h5⟩, h6⟩, h7⟩ := h
          exact PS.fe (s_par2 c.calm c.nd (c.at h2) (c.at h3) h6 (c.loc h4) (c.loc h5) hr (swp_ok c.sc fn.bk h7) rfl) fun s => par_eq es [_, _] s
        · simp only [Bool.and_eq_true, decide_eq_true_eq] at h
          obtain ⟨⟨⟨⟨⟨⟨⟨⟨⟨h2, h3⟩, h4⟩, h5⟩, h6⟩, h7⟩, h8⟩, h9⟩, h10⟩, h11⟩ := h
          exact PS.fe (s_par3 c.calm c.nd (c.at h2) (c.at h3) (c.at h4) h8 h9 h10 (c.loc h5) (c.loc h6) (c.loc h7) hr (swp_ok c.sc fn.bk h11) rfl) fun s => par_eq es [_, _, _] s
        · cases h
      · simp only [Bool.and_eq_true, decide_eq_true_eq] at h
        obtain ⟨⟨h2, h3⟩, h4⟩ := h
        obtain ⟨hs, hl, _⟩ := ckGs_ok (P := P) (E := E) (k := k) hE ts C xs h3
        exact PS.fe (s_many (n := ts.length) c.calm hr (ckGr_ok hE ts C xs h3 X W c tk) h4 (by rw [asg_len hs, hl]) (asg_find hs) rfl (swp_ok c.sc fn.bk h2) (asg_one rfl)) fun s => by rw [evS]
    · cases h
  | .augN i op e, C, st, h => by
    unfold ckS at h
    split at h
    · simp only [Bool.and_eq_true, decide_eq_true_eq] at h
      obtain ⟨⟨⟨⟨h1, rfl⟩, h2⟩, h3⟩, h4⟩ := h
      exact fun X W c fn tk => PS.fe (s_augN h1 c.nd (c.at h2) (c.sto _ h3).1 (ckE_ok hE e false C _ h4 X W c tk) (c.sto _ h3).2) fun s => by rw [evS]; try rfl
    · cases h
  | .augS a i op e, C, st, h => by
    unfold ckS at h
    split at h
    · simp only [Bool.and_eq_true, decide_eq_true_eq] at h
      obtain ⟨⟨⟨⟨⟨h1, rfl⟩, h2⟩, h3⟩, h4⟩, h5⟩ := h
      exact fun X W c fn tk => PS.fe (s_augS h1 c.hu (ckE_ok hE a false C _ h3 X W c tk) (ckE_ok hE i false C _ h4 X W c tk) (ckE_ok hE e false C _ h5 X W c tk) (augPlain h2)) fun s => by rw [evS]; try rfl
    · cases h
  | .augF o g op e, C, st, h => by
    unfold ckS at h
    split at h
    · simp only [Bool.and_eq_true, decide_eq_true_eq] at h
      obtain ⟨⟨⟨⟨⟨h0, rfl⟩, rfl⟩, h1⟩, h2⟩, h3⟩ := h
      split at h0
      · exact fun X W c fn tk => PS.fe (s_fldaug (op := .add) (ckE_ok hE o false C _ h2 X W c tk) (ckE_ok hE e false C _ h3 X W c tk) in_add (fun i j c H Q e q => by cases e; exact ⟨i, j, rfl, rfl, q⟩) h1) fun s => by rw [evS]; try rfl
      · cases h0
    · cases h
  | .ex e, C, st, h => by
    unfold ckS at h
    split at h
    · simp only [Bool.and_eq_true] at h
      exact fun X W c fn tk => PS.fe (s_ex (ckE_ok hE e false C _ h.2 X W c tk) (noSwap h.1)) fun s => by rw [evS]
    · cases h
  | .app o e, C, st, h => by
    unfold ckS at h
    split at h
    · simp only [Bool.and_eq_true, decide_eq_true_eq] at h
      obtain ⟨⟨⟨⟨⟨rfl, h1⟩, h2⟩, h3⟩, h4⟩, h5⟩ := h
      exact fun X W c fn tk => PS.fe (s_app (ckE_ok hE o false C _ h4 X W c tk) (ckE_ok hE e false C _ h5 X W c tk) (noBase h1) (by rw [star1 h2]; rfl) h3 (star1 h2) rfl) fun s => by rw [evS]; try rfl
    · cases h
  | .ret e, C, st, h => by
    unfold ckS at h
    split at h
    · exact fun X W c fn tk => PS.fe (s_ret (ckE_ok hE e false C _ h X W c tk)) fun s => by rw [evS]
    · cases h
  | .ife q a b, C, st, h => by
    unfold ckS at h
    split at h
    · simp only [Bool.and_eq_true] at h
      obtain ⟨⟨h1, h2⟩, h3⟩ := h
      exact fun X W c fn tk => PS.fe (s_ife (ckE_ok hE q true C _ h1 X W c tk) (ckB_ok hE a C _ h2 X W c fn tk) (ckB_ok hE b C _ h3 X W c fn tk)) fun s => by rw [evS]
    · cases h
  | .for_ tg s b, C, st, h => by
    unfold ckS at h
    split at h
    · simp only [Bool.and_eq_true] at h
      obtain ⟨⟨⟨h1, h2⟩, h3⟩, h4⟩ := h
      exact fun X W c fn tk => PS.fe (s_for fn.pw c.calm (ckW_ok hE s C _ _ h1 X W c tk) (ckG_ok hE tg C _ h3 X W c tk) (ckB_ok hE b C _ h4 X W c fn tk) (noFold h2)) fun s => by rw [evS]
    · cases h
  | .whl q b, C, st, h => by
    unfold ckS at h
    split at h
    · simp only [Bool.and_eq_true] at h
      exact fun X W c fn tk => PS.fe (s_whl P.wf fn.pw (ckE_ok hE q true C _ h.1 X W c tk) (ckB_ok hE b C _ h.2 X W c fn tk)) fun s => by rw [evS]
    · cases h
  | .rse c a, C, st, h => by
    unfold ckS at h
    split at h
    · rename_i x p1 p2 p3
      split at h
      · simp only [Bool.and_eq_true, decide_eq_true_eq] at h
        obtain ⟨⟨⟨⟨h1, h2⟩, h3⟩, h4⟩, h5⟩ := h
        intro X W ck fn tk
        obtain ⟨e1, T, hm⟩ := ck.exk x c (eq_of_beq h3)
        refine s_rse0 ck.calm tk (fun e g st cls d H q => (ck.exE e g st cls d H).mpr q) T (ck.exm x c (eq_of_beq h3) h5) h4 (ck.glo h2) ?_ (dbg_of h1).1
        rw [hm]
        show some (Value.ref (He.ga X.K x)) = some (Value.ref (He.ga X.K (excN c)))
        rw [e1]
      · cases h
    · rename_i x p1 y p2 p3
      split at h
      · rename_i e
        simp only [Bool.and_eq_true, decide_eq_true_eq] at h
        obtain ⟨⟨⟨⟨⟨⟨h1, h2⟩, h3⟩, h4⟩, h5⟩, h6⟩, h7⟩ := h
        intro X W ck fn tk
        obtain ⟨i, hi⟩ := Option.isSome_iff_exists.mp h4
        obtain ⟨e1, T, hm⟩ := ck.exk x c (eq_of_beq h3)
        refine s_rse1 ck.calm tk (fun e g st cls d H q => (ck.exE e g st cls d H).mpr q) T (ck.exm x c (eq_of_beq h3) h5) hi (ck.bl _ (by decide +kernel)) ck.room ck.k1 (ck.glo h2) ?_ (ckE_ok hE e false C _ h7 X W ck tk) (dbg_of h1).1 (star1 h6)
        rw [hm]
        show some (Value.ref (He.ga X.K x)) = some (Value.ref (He.ga X.K (excN c)))
        rw [e1]
      · cases h
    · cases h
  | .try_ b i j c y w, C, st, h => by
    unfold ckS at h
    split at h
    case h_2 => cases h
    rename_i bd z0 pz nm su ph pt
    simp only [Bool.and_eq_true] at h
    obtain ⟨⟨⟨⟨⟨⟨⟨⟨h1, h2⟩, h3⟩, h4⟩, h5⟩, h6⟩, h7⟩, h8⟩, h9⟩ := h
    intro X W ck fn tk
    obtain ⟨_, _, hm0⟩ := ck.exk z0 0 (eq_of_beq h5)
    have hb : ∀ (W : WX) (pn : List (Addr × Obj)) (xe : Value → Shared → Prop), Takes (X.tr pn xe) W → PassesOwn (model X.prog X.w) X.A X.env xe → PSs (X.tr pn xe) bd (tS X.K E W (evB P b)) := fun W pn xe tk pw =>
      ckB_ok hE b C bd h9 (X.tr pn xe) W (ck.tr pn xe) ⟨fn.bk, fn.kd, pw, fn.stk, fn.fr⟩ tk
    have hv : ∀ (v : Expr), xIf C nm c y w v = true → ∀ (a : Addr) (oe : Obj) (cls : Value) (d : Option Addr) (pn : List (Addr × Obj)), Zc cls d oe → (∃ vs, oe.data = .fields vs) →
        PE (X.suite a ((a, oe) :: pn)) v (tXv X.K C.exs i a cls d fun er => if er.cls == c then y else w) ∧ notComp v = true := fun v hx a oe cls d pn hz hf => by
      unfold xIf at hx
      split at hx
      · simp only [Bool.and_eq_true, decide_eq_true_eq] at hx
        obtain ⟨⟨⟨⟨⟨⟨⟨⟨rfl, x1⟩, rfl⟩, x2⟩, x3⟩, x4⟩, x5⟩, x6⟩, x7⟩ := hx
        obtain ⟨_, _, hmz⟩ := ck.exk _ c (eq_of_beq x4)
        exact ⟨x_ife (ck.at h1) (ck.loc h2) (slot_of h1).2.1 (slot_of h1).2.2.1 (ck.glo x1) (ck.bl _ (by decide +kernel)) (ck.glo x3) hmz (dbg_of x2).1 (lk_mem (eq_of_beq x4)) x5 hz hf x6 x7, rfl⟩
      · cases hx
    unfold xSu at h8
    split at h8
    · rename_i x px v pv
      split at h8
      · rename_i j
        simp only [Bool.and_eq_true, decide_eq_true_eq] at h8
        obtain ⟨⟨⟨g1, g2⟩, g3⟩, g4⟩ := h8
        exact s_try fn.stk fn.fr ck.nd (ck.at h1) (ck.loc h2) tk (fun e g st cls d H q => (ck.exE e g st cls d H).mp q) (ck.glo h4) (dbg_of h3).1 hm0 (lk_mem (eq_of_beq h5)) (fun k hk => by cases hk; exact g3) h6 h7 hb fun a oe cls d pn hz hf => by
          obtain ⟨hp, hn⟩ := hv v g4 a oe cls d pn hz hf
          exact x_asg ck.nd (ck.at g1) (ck.sto _ g2).1 (ck.sto _ g2).2 hp hn rfl
      · cases h8
    · rename_i v pv
      split at h8
      · exact s_try fn.stk fn.fr ck.nd (ck.at h1) (ck.loc h2) tk (fun e g st cls d H q => (ck.exE e g st cls d H).mp q) (ck.glo h4) (dbg_of h3).1 hm0 (lk_mem (eq_of_beq h5)) (fun k hk => by cases hk) h6 h7 hb fun a oe cls d pn hz hf => x_ret (hv v h8 a oe cls d pn hz hf).1
      · cases h8
    · cases h8
  | .pass, C, st, h => by
    unfold ckS at h
    split at h
    · exact fun X W c fn tk => PS.fe s_pass fun s => by rw [evS]
    · cases h
  | .bad, C, st, h => fun X W c fn tk => PS.fe s_bad fun s => by rw [evS]
theorem ckB_ok (hE : EConst E) : ∀ (a : List Sm) (C : CkX) (st : List Stmt), ckB C a st = true → SSs P E k C a st
  | [], C, st, h => by
    unfold ckB at h
    split at h
    · exact fun X W c fn tk => PSs.fe s_nil fun s => by rw [evB]
    · cases h
  | a :: as, C, st, h => by
    unfold ckB at h
    rw [Bool.or_eq_true] at h
    rcases h with hb | h
    · unfold isBadS at hb
      split at hb
      · exact fun X W c fn tk => PSs.fe ss_bad fun s => by rw [evB, evS]; try rfl
      · cases hb
    split at h
    · rw [Bool.and_eq_true] at h
      exact fun X W c fn tk => PSs.fe (s_cons (ckS_ok hE a C _ h.1 X W c fn tk) (ckB_ok hE as C _ h.2 X W c fn tk)) fun s => by rw [evB]; try rfl
    · cases h
end
end
end Mq

namespace Mq
open PySem PySem.Spec PyProof.Rows L2 Mp
def fnsOf : List Ent → List (Str × Nat)
  | [] => []
  | e :: r => match e.d.at_.2 with
    | none => (e.d.at_.1, e.id) :: fnsOf r
    | some _ => fnsOf r
theorem fnsOf_get : ∀ {es : List Ent} {x : Str} {j : Nat}, (fnsOf es).lookup x = some j → ∃ e ∈ es, e.id = j ∧ e.d.at_ = (x, none)
  | [], _, _, h => by cases h
  | e :: r, x, j, h => by
    unfold fnsOf at h
    have rest : (fnsOf r).lookup x = some j → ∃ e' ∈ e :: r, e'.id = j ∧ e'.d.at_ = (x, none) := fun h => by
      obtain ⟨e', h1, h2⟩ := fnsOf_get h
      exact ⟨e', List.mem_cons_of_mem _ h1, h2⟩
    split at h
    · rename_i hn
      rw [List.lookup_cons] at h
      cases q : (x == e.d.at_.1) with
      | true =>
        rw [q] at h
        cases h
        exact ⟨e, List.mem_cons_self, rfl, by rw [eq_of_beq q, ← hn]⟩
      | false =>
        rw [q] at h
        exact rest h
    · exact rest h
/-- the methods' table -/
def mthsOf (cl : List (Str × Nat)) : List Ent → List ((Nat × Str) × Nat)
  | [] => []
  | e :: r => match e.d.at_.2 with
    | none => mthsOf cl r
    | some m => match cl.lookup e.d.at_.1 with
      | some k => ((k, m), e.id) :: mthsOf cl r
      | none => mthsOf cl r
theorem mthsOf_get {cl : List (Str × Nat)} : ∀ {es : List Ent} {k : Nat} {m : Str} {j : Nat}, (mthsOf cl es).lookup (k, m) = some j → ∃ e ∈ es, ∃ x, e.id = j ∧ e.d.at_ = (x, some m) ∧ cl.lookup x = some k
  | [], _, _, _, h => by cases h
  | e :: r, k, m, j, h => by
    unfold mthsOf at h
    have rest : (mthsOf cl r).lookup (k, m) = some j → ∃ e' ∈ e :: r, ∃ x, e'.id = j ∧ e'.d.at_ = (x, some m) ∧ cl.lookup x = some k := fun h => by
      obtain ⟨e', h1, x, h2⟩ := mthsOf_get h
      exact ⟨e', List.mem_cons_of_mem _ h1, x, h2⟩
    split at h
    · exact rest h
    · rename_i m' hm
      split at h
      · rename_i k' hk
        rw [List.lookup_cons] at h
        cases q : ((k, m) == (k', m')) with
        | true =>
          rw [q] at h
          cases h
          have := eq_of_beq q
          cases this
          exact ⟨e, List.mem_cons_self, e.d.at_.1, rfl, by rw [← hm], hk⟩
        | false =>
          rw [q] at h
          exact rest h
      · exact rest h
def initsOf (mt : List ((Nat × Str) × Nat)) : List (Str × Nat) → List (Str × Nat × Nat)
  | [] => []
  | (x, k) :: r => match mt.lookup (k, ("__init__" : Str)) with
    | some j => (x, k, j) :: initsOf mt r
    | none => initsOf mt r
theorem initsOf_get {mt : List ((Nat × Str) × Nat)} : ∀ {cl : List (Str × Nat)} {x : Str} {k j : Nat}, (initsOf mt cl).lookup x = some (k, j) → (x, k) ∈ cl ∧ mt.lookup (k, ("__init__" : Str)) = some j
  | [], _, _, _, h => by cases h
  | (y, k') :: r, x, k, j, h => by
    unfold initsOf at h
    split at h
    · rename_i j' hj
      rw [List.lookup_cons] at h
      cases q : (x == y) with
      | true =>
        rw [q] at h
        cases h
        rw [eq_of_beq q]
        exact ⟨List.mem_cons_self, hj⟩
      | false =>
        rw [q] at h
        exact ⟨List.mem_cons_of_mem _ (initsOf_get h).1, (initsOf_get h).2⟩
    · exact ⟨List.mem_cons_of_mem _ (initsOf_get h).1, (initsOf_get h).2⟩
def scOk (N ps : List Str) (sc : Scope) : Bool := decide (sc.kind = .function) && !sc.isCoroutine && !sc.isGenerator && decide N.Nodup && decide (N.take ps.length = ps) &&
  (ps.all fun x => decide (sc.names.lookup x = some .local) || decide (sc.names.lookup x = some .cell)) && (sc.names.all fun y => decide (y.2 ≠ .free))
theorem scOk_ok {N ps : List Str} {sc : Scope} (h : scOk N ps sc = true) : FnScope N ps sc := by
  unfold scOk at h
  simp only [Bool.and_eq_true, Bool.not_eq_true', decide_eq_true_eq, List.all_eq_true, Bool.or_eq_true] at h
  obtain ⟨⟨⟨⟨⟨⟨h1, h2⟩, h3⟩, h4⟩, h5⟩, h6⟩, h7⟩ := h
  exact ⟨h1, h2, h3, h4, h5, h6, h7⟩
structure CnOk (P : Program) (K : PySem.W.Frag) (mg : Str → Option Value) (c : Cn) : Prop where
  cInt : ∀ x i, c.cInt.lookup x = some i → ∃ t, mg x = some (.int i t)
  cStr : ∀ x l, c.cStr.lookup x = some l → ∃ t, mg x = some (.str ⟨l.toArray⟩ t)
  cTup : ∀ x (l : List (List Nat)), c.cTup.lookup x = some l → ∃ a, mg x = some (.ref a) ∧ ∀ H, SqT K H a (l.map fun t => V.str ⟨t.toArray⟩)
  cExc : ∀ x k, c.cExc.lookup x = some k → excN k = x ∧ ExT K c.cExc k ∧ mg x = some (.ref (He.ga K x)) ∧ (k ≠ 0 → ExMk P K k)
/-- what the top says: defs, whole numbers, classes, methods, fields -/
structure TopT where
  fns : List (Str × Nat)
  gci : Cn
  cl : List (Str × Nat)
  mths : List ((Nat × Str) × Nat)
  noat : List (Nat × Nat)
def ctxOf (T : TopT) (N : List Str) (sc : Scope) : CkX := ⟨N, sc, none, List.range N.length, T.fns, T.gci.cInt, T.gci.cStr, T.gci.cTup, initsOf T.mths T.cl, T.mths, T.noat, T.gci.cExc⟩
def topOf (ents : List Ent) (gci : Cn) (cl : List (Str × Nat)) (na : List (Nat × Nat)) : TopT := ⟨fnsOf ents, gci, cl, mthsOf cl ents, na⟩
def entOk (T : TopT) (e : Ent) : Bool :=
  e.d.dfl.isEmpty && e.d.kwd.isEmpty && scOk e.N e.ps e.d.scope && Nat.beq e.ps.length e.fn.pars && Nat.beq e.N.length e.fn.slots && ckB (ctxOf T e.N e.d.scope) e.fn.body e.d.body
theorem lookup_mem {α : Type} {x : Str} {i : α} : ∀ {l : List (Str × α)}, l.lookup x = some i → (x, i) ∈ l
  | [], h => by cases h
  | (y, j) :: r, h => by
    rw [List.lookup_cons] at h
    cases q : (x == y) with
    | true =>
      rw [q] at h
      cases h
      rw [eq_of_beq q]
      exact List.mem_cons_self
    | false =>
      rw [q] at h
      exact List.mem_cons_of_mem _ (lookup_mem h)
/-- what is known of classes -/
structure ClsT (K : PySem.W.Frag) (mg : Str → Option Value) (cl : List (Str × Nat)) (ents : List Ent) (na : List (Nat × Nat)) : Prop where
  nm : ∀ x k, (x, k) ∈ cl → clsN k = x
  cls : ∀ x k, (x, k) ∈ cl → Cls K (He.ga K x) ∧ Mk K (He.ga K x) (He.ma K (He.ga K x) "__init__")
  mth : ∀ e ∈ ents, ∀ x m, e.d.at_ = (x, some m) → Meth K (He.ga K x) m (He.fAd K e.d.at_)
  noa : ∀ k f, (k, f) ∈ na → NoAttr K (He.ga K (clsN k)) (fldN f)
theorem ent_binds {K : PySem.W.Frag} {T : TopT} {e : Ent} {fd : FuncData} {a : Addr} (hk : entOk T e = true) (F : FunD K e.d.name e.d.qual e.d.params e.d.body e.d.scope (e.d.dvs K) (e.d.kws K) a fd) : Binds K fd e.ps [] := by
  unfold entOk at hk
  simp only [Bool.and_eq_true] at hk
  obtain ⟨⟨⟨⟨⟨g2, g3⟩, g4⟩, g5⟩, g6⟩, g7⟩ := hk
  have dv : e.d.dvs K = [] := by unfold He.DefD.dvs; rw [List.isEmpty_iff.mp g2]; rfl
  rw [dv] at F
  exact F.bindsN e.bind
theorem tab_ok {ents : List Ent} {T : Tab} (hT : ∀ e ∈ ents, T e.id = some e.fn) {gci : Cn} {cl : List (Str × Nat)} {na : List (Nat × Nat)} {wf : Nat} (hck : ents.all (entOk (topOf ents gci cl na)) = true) {P0 : Program} {w : World} {K : PySem.W.Frag} {mg : Str → Option Value} {base : Heap}
    (hd : ∀ e ∈ ents, ∃ fd, FunD K e.d.name e.d.qual e.d.params e.d.body e.d.scope (e.d.dvs K) (e.d.kws K) (He.fAd K e.d.at_) fd)
    (hg : ∀ e ∈ ents, mg e.d.at_.1 = some (.ref (He.ga K e.d.at_.1))) (hb : ∀ x ∈ bltNames, mg x = none) (hc : CnOk P0 K mg gci) (hcl : ClsT K mg cl ents na) (n : Nat) (e : Ent) (he : e ∈ ents) (fd : FuncData)
    (F : FunD K e.d.name e.d.qual e.d.params e.d.body e.d.scope (e.d.dvs K) (e.d.kws K) (He.fAd K e.d.at_) fd) :
      FnOk P0 w K mg base (L2.CX P0 w) (n + 1) (He.fAd K e.d.at_) fd e.ps (spF K (exE K gci.cExc) (Mp.runN T wf n e.id)) := by
  have hE : EConst (exE K gci.cExc) := exE_const
  induction n using Nat.strongRecOn generalizing e fd with
  | _ n ih =>
  cases n with
  | zero => exact ⟨fun vs H Q EX ⟨g, us, h, R, r, o⟩ => o.elim, fun A outer s H args us vs Q EX hr e0 hb2 r ⟨g, us', h, R, r', o⟩ => o.elim⟩
  | succ n =>
    have hk := List.all_eq_true.mp hck e he
    unfold entOk at hk
    simp only [Bool.and_eq_true] at hk
    obtain ⟨⟨⟨⟨⟨h2, h3⟩, h4⟩, h5⟩, h6⟩, h7⟩ := hk
    have S := scOk_ok h4
    have eT : Mp.runN T wf (n + 1) e.id = runB ⟨Mp.runN T wf n, Mp.mkN T wf n, wf⟩ e.fn := funext fun vs => funext fun h => by
      rw [Mp.runN_succ, hT e he]
    rw [eT]
    obtain ⟨oc, od, dV, kV, doc, pm, an, cdv, ct, osl, rfl, lk, hcd, _, _⟩ := F.ex
    refine fn_sound hE lk hcd S (Nat.eq_of_beq_eq_true h5) (Nat.eq_of_beq_eq_true h6) fun A outer s H EX hr tk => ?_
    refine ckB_ok (k := n + 1) hE e.fn.body (ctxOf (topOf ents gci cl na) e.N e.d.scope) e.d.body h7 _ _ ?_ ⟨?_, S.kind, passes_of rfl, rfl, rfl⟩ tk
    · refine ⟨rfl, S.nd, rfl, hr, rfl, fun x hx => ⟨?_, .inl rfl⟩, hb, fun x f hf => ?_, hc.cInt, hc.cStr, hc.cTup, fun x k mi hx => ?_, fun k m mi hx => ?_, fun k f hf => ?_, by omega, fun _ _ _ _ _ _ => Iff.rfl, fun x c hx => ⟨(hc.cExc x c hx).1, (hc.cExc x c hx).2.1, (hc.cExc x c hx).2.2.1⟩, fun x c hx h0 => (hc.cExc x c hx).2.2.2 h0⟩
      · have hx : (match e.d.scope.names.lookup x with | some .local => true | some .cell => true | _ => false) = true := hx
        show e.d.scope.names.lookup x = some .local ∨ e.d.scope.names.lookup x = some .cell
        split at hx
        · rename_i q; exact .inl q
        · rename_i q; exact .inr q
        · cases hx
      · obtain ⟨e', hm, h8, h9⟩ := fnsOf_get hf
        subst h8
        obtain ⟨fd', F'⟩ := hd e' hm
        have ad : He.fAd K e'.d.at_ = He.ga K x := by rw [h9]; rfl
        refine ⟨He.fAd K e'.d.at_, fd', e'.ps, ih n (Nat.lt_succ_self n) e' hm fd' F', ?_, F'.kp, ent_binds (List.all_eq_true.mp hck e' hm) F'⟩
        rw [ad]
        have := hg e' hm
        rw [h9] at this
        exact this
      · obtain ⟨h8, h9⟩ := initsOf_get hx
        obtain ⟨c1, c2⟩ := hcl.cls x k h8
        have hn := hcl.nm x k h8
        obtain ⟨e', hm, y, h10, h11, h12⟩ := mthsOf_get h9
        subst h10
        have hy := hcl.nm y k (lookup_mem h12)
        obtain rfl : x = y := hn.symm.trans hy
        have hg' := hg e' hm
        rw [h11] at hg'
        show Cls K (He.ga K (clsN k)) ∧ _ ∧ _ ∧ _
        rw [hn]
        refine ⟨c1, ?_, c2.kp, hg'⟩
        cases n with
        | zero => exact .inl fun vs h => rfl
        | succ j =>
          obtain ⟨fd', F'⟩ := hd e' hm
          have ad : He.fAd K e'.d.at_ = He.ma K (He.ga K x) "__init__" := by rw [h11]; rfl
          refine .inr ⟨He.fAd K e'.d.at_, fd', e'.ps, j + 1, by rw [ad]; exact c2, ih j (by omega) e' hm fd' F', hr, ent_binds (List.all_eq_true.mp hck e' hm) F'⟩
      · obtain ⟨e', hm, y, h10, h11, h12⟩ := mthsOf_get hx
        subst h10
        obtain ⟨fd', F'⟩ := hd e' hm
        have hy := hcl.nm y k (lookup_mem h12)
        refine ⟨He.fAd K e'.d.at_, fd', e'.ps, ih n (Nat.lt_succ_self n) e' hm fd' F', ?_, ent_binds (List.all_eq_true.mp hck e' hm) F'⟩
        show Meth K (He.ga K (clsN k)) m _
        rw [hy]
        exact hcl.mth e' hm y m h11
      · exact hcl.noa k f (List.contains_iff_mem.mp (show na.contains (k, f) = true from hf))
    · show (envOfC e.d.qual e.d.scope s.heap.objs.size (He.fAd K e.d.at_) cdv).blockKind = .function
      unfold Env.blockKind
      have : (envOfC e.d.qual e.d.scope s.heap.objs.size (He.fAd K e.d.at_) cdv).scope.kind = .function := S.kind
      rw [this]
      rfl
/-- .. of a law that does not look at its script -/
theorem law_spH {K : PySem.W.Frag} {E : ErT} {run : List SV → List Cel → RC} {H : Hp} {a : Addr} {ns : List Int} (hr : ∃ h, run [.ref 0] [.dead] = .ok (.bl true) h) (hS : SqL K H a (ns.map V.int)) :
    spF K E run [.ref a] H (fun v _ => v = .bl true) fun _ _ _ => False := by
  obtain ⟨h, hr⟩ := hr
  have no : ∀ l c, at? ⟨[], [.dead]⟩ l = some c → False := fun l c q => by
    cases l with
    | cell n => cases n <;> simp [at?, live?] at q
    | box i => simp [at?] at q
  refine ⟨⟨H, fun _ => a, fun _ => 0⟩, [.ref 0], [.dead], ⟨fun _ _ e => e, fun l c q => (no l c q).elim, fun l _ c _ q => (no l c q).elim, fun i v q => ?_, fun i v q => ?_, rfl⟩, ⟨.ref a, [], rfl, ⟨by decide, rfl⟩, rfl⟩, ?_⟩
  · simp at q
  · simp at q
  · rw [hr]
    exact fun g' H' _ _ x r => r
theorem obsMG_eq {n : Nat} {ex : PySem.W.Frag → Bool} {fa : List He.Fa} {fn : List He.DefD} {g : Addr → Option Obj} {s : Shared} (h : ∀ a, g a = s.heap.get? a) : obsMG n ex fa fn g = (hookM n ex fa fn).obs s := by
  obtain rfl : g = s.heap.get? := funext h
  rfl
theorem tab_law {ents : List Ent} {T : Tab} (hT : ∀ e ∈ ents, T e.id = some e.fn) {gci : Cn} {cl : List (Str × Nat)} {na : List (Nat × Nat)} {wf n : Nat} {e : Ent} (hm : e ∈ ents) (hloc : e.d.at_.2 = none) (hnm : cl.all (fun p => clsN p.2 == p.1) = true) (hck : ents.all (entOk (topOf ents gci cl na)) = true) {P0 : Program} (hfl : P0.main.file = gci.fl) (htop : (P0.main.scope.names.lookup ("super" : Str)).isSome = false) {w : World} {K : PySem.W.Frag} {h : Heap} {mg : Str → Option Value} {f : Addr} (X : K.In h) (G : h.Ns mainGlobals mg)
    (hfa : mg e.d.at_.1 = some (.ref f)) (c : He.SaysD (faOf ents gci cl na) (ents.map fun e => e.d) K) (cx : exOf gci K = true) :
    ∃ fd : FuncData, (∀ (s : Shared) (us : List Value), us.length = e.ps.length → BindsTo s fd ⟨us, []⟩ (e.ps.zip us)) ∧ ∀ base : Heap, K.In base → base.Ns mainGlobals mg → FnOk P0 w K mg base (L2.CX P0 w) (n + 1) f fd e.ps (spF K (exE K gci.cExc) (Mp.runN T wf n e.id)) := by
  have fact : ∀ x ∈ faOf ents gci cl na, x.ok K = true := fun x hx => c.facts hx
  have hd : ∀ e ∈ ents, ∃ fd, FunD K e.d.name e.d.qual e.d.params e.d.body e.d.scope (e.d.dvs K) (e.d.kws K) (He.fAd K e.d.at_) fd := fun e he => c.defs (List.mem_map.mpr ⟨e, he, rfl⟩)
  have hg : ∀ e ∈ ents, mg e.d.at_.1 = some (.ref (He.ga K e.d.at_.1)) := fun e he => He.glo_ok X G (fact _ (by unfold faOf; simp only [List.mem_append]; exact .inl (.inl (.inl (.inl (.inl (.inl (.inl (.inl (.inl (List.mem_map.mpr ⟨e, he, rfl⟩))))))))))) 
  have hb : ∀ x ∈ bltNames, mg x = none := fun x hx => He.free_ok X G (fact _ (by unfold faOf; simp only [List.mem_append]; exact .inl (.inl (.inl (.inl (.inl (.inl (.inl (.inl (.inr (List.mem_map.mpr ⟨x, hx, rfl⟩)))))))))))
  obtain ⟨cx1, cx2⟩ := Bool.and_eq_true_iff.mp cx
  have hc : CnOk P0 K mg gci := by
    refine ⟨fun x i hx => ?_, fun x l hx => ?_, fun x l hx => ?_, fun x c hx => ?_⟩
    · exact He.int_ok X G (fact _ (by unfold faOf; simp only [List.mem_append]; exact .inl (.inl (.inl (.inl (.inl (.inl (.inl (.inr (List.mem_map.mpr ⟨(x, i), lookup_mem hx, rfl⟩))))))))))
    · exact He.str_ok X G (fact (He.Fa.str x ⟨l.toArray⟩) (by unfold faOf; simp only [List.mem_append]; exact .inl (.inl (.inr (List.mem_map.mpr ⟨(x, l), lookup_mem hx, rfl⟩)))))
    · have h1 := He.glo_ok X G (fact (He.Fa.glo x) (by unfold faOf; simp only [List.mem_append]; exact .inl (.inr (List.mem_map.mpr ⟨(x, l), lookup_mem hx, rfl⟩))))
      refine ⟨_, h1, fun H => ?_⟩
      have := He.tupB_ok (List.all_eq_true.mp cx1 (x, l) (lookup_mem hx)) H
      rw [List.map_map] at this
      exact this
    · have hmem := lookup_mem hx
      have h2 := List.all_eq_true.mp cx2 (x, c) hmem
      simp only [Bool.and_eq_true, decide_eq_true_eq, Bool.or_eq_true, beq_iff_eq] at h2
      obtain ⟨⟨h3, h4⟩, h5⟩ := h2
      refine ⟨h3, exTB_ok h4, He.glo_ok X G (fact (He.Fa.glo x) (by unfold faOf; simp only [List.mem_append]; exact .inr (List.mem_map.mpr ⟨(x, c), hmem, rfl⟩))), fun h0 => ?_⟩
      rcases h5 with h5 | h5
      · exact absurd h5 h0
      · exact exMB_ok hfl htop h5
  have hcl : ClsT K mg cl ents na := by
    refine ⟨fun x k hx => ?_, fun x k hx => ⟨?_, ?_⟩, fun e he x m em => ?_, fun k f hf => ?_⟩
    · exact eq_of_beq (List.all_eq_true.mp hnm (x, k) hx)
    · exact He.cls_ok (fact (He.Fa.cls x) (by unfold faOf; simp only [List.mem_append]; exact .inl (.inl (.inl (.inl (.inl (.inl (.inr (List.mem_map.mpr ⟨(x, k), hx, rfl⟩)))))))))
    · exact He.mkr_ok (fact (He.Fa.mkr x) (by unfold faOf; simp only [List.mem_append]; exact .inl (.inl (.inl (.inl (.inl (.inr (List.mem_map.mpr ⟨(x, k), hx, rfl⟩))))))))
    · have := He.meth_ok (fact (He.Fa.meth x m) (by unfold faOf; simp only [List.mem_append]; exact .inl (.inl (.inl (.inl (.inr (List.mem_filterMap.mpr ⟨e, he, by rw [em]; rfl⟩)))))))
      rw [em]
      exact this
    · exact He.noat_ok (fact (He.Fa.noat (clsN k) (fldN f)) (by unfold faOf; simp only [List.mem_append]; exact .inl (.inl (.inl (.inr (List.mem_map.mpr ⟨(k, f), hf, rfl⟩))))))
  obtain ⟨fd, F⟩ := hd e hm
  have ad : He.fAd K e.d.at_ = f := by
    unfold He.fAd
    rw [hloc]
    have := hfa.symm.trans (hg e hm)
    cases this
    rfl
  refine ⟨fd, fun s us hl => ?_, fun base _ _ => ?_⟩
  · have hk := List.all_eq_true.mp hck e hm
    unfold entOk at hk
    simp only [Bool.and_eq_true] at hk
    obtain ⟨⟨⟨⟨⟨g2, g3⟩, g4⟩, g5⟩, g6⟩, g7⟩ := hk
    have dv : e.d.dvs K = [] := by unfold He.DefD.dvs; rw [List.isEmpty_iff.mp g2]; rfl
    rw [dv] at F
    exact F.bindsA e.bind s us hl
  · have := tab_ok (T := T) hT (wf := wf) hck (P0 := P0) (w := w) (base := base) hd hg hb hc hcl n e hm fd F
    rw [ad] at this
    exact this
theorem cx_no {P : Program} {w : World} {outer : List Env} {H : Hp} {s s' : Shared} {u : Value} (h : L2.CX P w outer H s (fun _ _ _ => False) u s') : False := by
  obtain ⟨_, _, _, _, _, _, _, _, _, _, _, _, h⟩ := h
  exact h
/-- the law's end, with exceptions -/
theorem walk_mp {l : PySem.W.OpenLaw} {n k : Nat} {q : Program} {loose : List Str} {XP : (Str → Option Value) → Heap → Prop} {YP : World → Heap → Prop} {d : DefRec} {x : Str} (hn : l.most = some n) (hz : n ≤ sizeLine) (hdf : d.params.defaults = []) (hr : Room k callerA)
    (F : ∀ (w : World) (mg : Str → Option Value) (fa : Addr) (h : Heap), YP w h → h.Ns mainGlobals mg → mg d.name = some (.ref fa) → ∃ (K : PySem.W.Frag) (fd : FuncData) (sp : Sp), K.In h ∧ (∀ (s : Shared) (u : Value), BindsTo s fd ⟨[u], []⟩ [(x, u)]) ∧
      (∀ (H : Hp) (a : Addr) (ns : List Int), ns.length ≤ n → SqL K H a (ns.map V.int) → sp [.ref a] H (fun v _ => v = .bl true) fun _ _ _ => False) ∧ ∀ base : Heap, K.In base → base.Ns mainGlobals mg → FnOk l.prog w K mg base (L2.CX l.prog w) k fa fd [x] sp) :
    PySem.W.WalkO q loose XP YP l.row.toRowW d [] (fun f vs => PySem.call f vs) := by
  refine Att.attach_call hn hdf fun w s₀ s₁ mg mb fa o pm cd doc a vs ns G Y ho hd hcd hmg hobj hints hlen hg => ?_
  have ⟨K, fd, sp, KX, hb, hsp, hF⟩ := F w mg fa _ Y G.T.g hmg
  exact law_call KX G.T.g G.T.b G.T.builtins G.T.nolimit hg hobj hints (Nat.le_trans hlen hz) hr hF hb (fun H _ hS => hsp H a ns hlen hS) fun _ _ _ => cx_no
end Mq

namespace Mp
end Mp
namespace Tk37
open PySem PySem.Spec PyProof.Rows L2 Mp Mq
theorem hT : ∀ e ∈ ents, T e.id = some e.fn :=
  all_cons (P := fun e : Ent => T e.id = some e.fn) (rfl : T e0.id = some e0.fn) <|
  all_cons (P := fun e : Ent => T e.id = some e.fn) (rfl : T e1.id = some e1.fn) <|
  all_cons (P := fun e : Ent => T e.id = some e.fn) (rfl : T e2.id = some e2.fn) <|
  all_cons (P := fun e : Ent => T e.id = some e.fn) (rfl : T e3.id = some e3.fn) <|
  all_cons (P := fun e : Ent => T e.id = some e.fn) (rfl : T e4.id = some e4.fn) <|
  all_cons (P := fun e : Ent => T e.id = some e.fn) (rfl : T e5.id = some e5.fn) <|
  all_cons (P := fun e : Ent => T e.id = some e.fn) (rfl : T e6.id = some e6.fn) <|
  all_cons (P := fun e : Ent => T e.id = some e.fn) (rfl : T e7.id = some e7.fn) <|
  all_cons (P := fun e : Ent => T e.id = some e.fn) (rfl : T e8.id = some e8.fn) <|
  all_cons (P := fun e : Ent => T e.id = some e.fn) (rfl : T e9.id = some e9.fn) <|
  all_cons (P := fun e : Ent => T e.id = some e.fn) (rfl : T e10.id = some e10.fn) <|
  all_cons (P := fun e : Ent => T e.id = some e.fn) (rfl : T e11.id = some e11.fn) <|
  all_cons (P := fun e : Ent => T e.id = some e.fn) (rfl : T e12.id = some e12.fn) <|
  all_cons (P := fun e : Ent => T e.id = some e.fn) (rfl : T e13.id = some e13.fn) <|
  all_cons (P := fun e : Ent => T e.id = some e.fn) (rfl : T e14.id = some e14.fn) <|
  all_cons (P := fun e : Ent => T e.id = some e.fn) (rfl : T e15.id = some e15.fn) <|
  all_cons (P := fun e : Ent => T e.id = some e.fn) (rfl : T e16.id = some e16.fn) <|
  all_cons (P := fun e : Ent => T e.id = some e.fn) (rfl : T e17.id = some e17.fn) <|
  all_cons (P := fun e : Ent => T e.id = some e.fn) (rfl : T e18.id = some e18.fn) <|
  all_cons (P := fun e : Ent => T e.id = some e.fn) (rfl : T e19.id = some e19.fn) <|
  all_cons (P := fun e : Ent => T e.id = some e.fn) (rfl : T e20.id = some e20.fn) <|
  all_cons (P := fun e : Ent => T e.id = some e.fn) (rfl : T e21.id = some e21.fn) <|
  all_cons (P := fun e : Ent => T e.id = some e.fn) (rfl : T e22.id = some e22.fn) <|
  all_cons (P := fun e : Ent => T e.id = some e.fn) (rfl : T e23.id = some e23.fn) <|
  all_cons (P := fun e : Ent => T e.id = some e.fn) (rfl : T e24.id = some e24.fn) <|
  all_cons (P := fun e : Ent => T e.id = some e.fn) (rfl : T e25.id = some e25.fn) <|
  all_cons (P := fun e : Ent => T e.id = some e.fn) (rfl : T e26.id = some e26.fn) <|
  all_cons (P := fun e : Ent => T e.id = some e.fn) (rfl : T e27.id = some e27.fn) <|
  all_cons (P := fun e : Ent => T e.id = some e.fn) (rfl : T e28.id = some e28.fn) <|
  all_cons (P := fun e : Ent => T e.id = some e.fn) (rfl : T e29.id = some e29.fn) <|
  all_cons (P := fun e : Ent => T e.id = some e.fn) (rfl : T e30.id = some e30.fn) <|
  all_cons (P := fun e : Ent => T e.id = some e.fn) (rfl : T e31.id = some e31.fn) <|
  all_cons (P := fun e : Ent => T e.id = some e.fn) (rfl : T e32.id = some e32.fn) <|
  all_cons (P := fun e : Ent => T e.id = some e.fn) (rfl : T e33.id = some e33.fn) <|
  all_cons (P := fun e : Ent => T e.id = some e.fn) (rfl : T e34.id = some e34.fn) <|
  all_cons (P := fun e : Ent => T e.id = some e.fn) (rfl : T e35.id = some e35.fn) <|
  all_cons (P := fun e : Ent => T e.id = some e.fn) (rfl : T e36.id = some e36.fn) <|
  all_cons (P := fun e : Ent => T e.id = some e.fn) (rfl : T e37.id = some e37.fn) <|
  all_cons (P := fun e : Ent => T e.id = some e.fn) (rfl : T e38.id = some e38.fn) <|
  all_cons (P := fun e : Ent => T e.id = some e.fn) (rfl : T e39.id = some e39.fn) <|
  all_cons (P := fun e : Ent => T e.id = some e.fn) (rfl : T e40.id = some e40.fn) <|
  all_cons (P := fun e : Ent => T e.id = some e.fn) (rfl : T e41.id = some e41.fn) <|
  all_cons (P := fun e : Ent => T e.id = some e.fn) (rfl : T e42.id = some e42.fn) <|
  all_cons (P := fun e : Ent => T e.id = some e.fn) (rfl : T e43.id = some e43.fn) <|
  all_cons (P := fun e : Ent => T e.id = some e.fn) (rfl : T e44.id = some e44.fn) <|
  all_cons (P := fun e : Ent => T e.id = some e.fn) (rfl : T e45.id = some e45.fn) <|
  all_cons (P := fun e : Ent => T e.id = some e.fn) (rfl : T e46.id = some e46.fn) <|
  all_cons (P := fun e : Ent => T e.id = some e.fn) (rfl : T e47.id = some e47.fn) <|
  all_cons (P := fun e : Ent => T e.id = some e.fn) (rfl : T e48.id = some e48.fn) <|
  all_cons (P := fun e : Ent => T e.id = some e.fn) (rfl : T e49.id = some e49.fn) <|
  all_cons (P := fun e : Ent => T e.id = some e.fn) (rfl : T e50.id = some e50.fn) <|
  all_cons (P := fun e : Ent => T e.id = some e.fn) (rfl : T e51.id = some e51.fn) <|
  all_cons (P := fun e : Ent => T e.id = some e.fn) (rfl : T e52.id = some e52.fn) <|
  all_cons (P := fun e : Ent => T e.id = some e.fn) (rfl : T e53.id = some e53.fn) <|
  all_cons (P := fun e : Ent => T e.id = some e.fn) (rfl : T e54.id = some e54.fn) <|
  all_cons (P := fun e : Ent => T e.id = some e.fn) (rfl : T e55.id = some e55.fn) <|
  all_cons (P := fun e : Ent => T e.id = some e.fn) (rfl : T e56.id = some e56.fn) <|
  all_cons (P := fun e : Ent => T e.id = some e.fn) (rfl : T e57.id = some e57.fn) <|
  all_cons (P := fun e : Ent => T e.id = some e.fn) (rfl : T e58.id = some e58.fn) <|
  all_cons (P := fun e : Ent => T e.id = some e.fn) (rfl : T e59.id = some e59.fn) <|
  all_cons (P := fun e : Ent => T e.id = some e.fn) (rfl : T e60.id = some e60.fn) <|
  all_cons (P := fun e : Ent => T e.id = some e.fn) (rfl : T e61.id = some e61.fn) <|
  all_cons (P := fun e : Ent => T e.id = some e.fn) (rfl : T e62.id = some e62.fn) <|
  all_cons (P := fun e : Ent => T e.id = some e.fn) (rfl : T e63.id = some e63.fn) <|
  all_cons (P := fun e : Ent => T e.id = some e.fn) (rfl : T e64.id = some e64.fn) <|
  all_cons (P := fun e : Ent => T e.id = some e.fn) (rfl : T e65.id = some e65.fn) <|
  fun _ h => absurd h List.not_mem_nil
theorem ck : ents.all (entOk (topOf ents gci cl na)) = true := by decide +kernel
theorem obT_eq (s : PySem.W.SharedT) : obT s = hkT.obs s.abs := Mq.obsMG_eq (HandSHeadRun.getT_eq s)
def a0 : Ment := ⟨1, 8, [.tup [.int 1, .tup [.tup [.int 0, .int 0, .int 1, .int 1, .int 1]]], .int 0, .bl true], .lst [.int 0]⟩
def M0 : List Ment := a0 :: []
theorem o0 : MOk T 100000 M0 := MOk.add MOk.nil (by decide +kernel)
def a1 : Ment := ⟨1, 8, [.tup [.int 1, .tup []], .int 0, .bl true], .lst [.int 0]⟩
def M1 : List Ment := a1 :: M0
theorem o1 : MOk T 100000 M1 := MOk.add o0 (by decide +kernel)
def a2 : Ment := ⟨1, 8, [.tup [.int 2, .tup [.tup [.int 0, .int 1, .int 1, .int 1, .int 0], .tup [.int 1, .int 0, .int 1, .int 1, .int 1]]], .int 0, .bl true], .lst [.int 0, .int 1]⟩
def M2 : List Ment := a2 :: M1
theorem o2 : MOk T 100000 M2 := MOk.add o1 (by decide +kernel)
def a3 : Ment := ⟨1, 8, [.tup [.int 2, .tup [.tup [.int 0, .int 1, .int 1, .int 1, .int 0], .tup [.int 1, .int 0, .int 1, .int 1, .int 1]]], .int 1, .bl true], .lst [.int 0, .int 1]⟩
def M3 : List Ment := a3 :: M2
theorem o3 : MOk T 100000 M3 := MOk.add o2 (by decide +kernel)
def a4 : Ment := ⟨1, 8, [.tup [.int 2, .tup [.tup [.int 0, .int 1, .int 2, .int 3, .int 1], .tup [.int 1, .int 0, .int 3, .int 2, .int 4]]], .int 0, .bl true], .lst [.int 0, .int 1]⟩
def M4 : List Ment := a4 :: M3
theorem o4 : MOk T 100000 M4 := MOk.add o3 (by decide +kernel)
def a5 : Ment := ⟨1, 8, [.tup [.int 2, .tup [.tup [.int 0, .int 1, .int 2, .int 3, .int 1], .tup [.int 1, .int 0, .int 3, .int 2, .int 4]]], .int 1, .bl true], .lst [.int 0, .int 1]⟩
def M5 : List Ment := a5 :: M4
theorem o5 : MOk T 100000 M5 := MOk.add o4 (by decide +kernel)
def a6 : Ment := ⟨1, 8, [.tup [.int 2, .tup [.tup [.int 0, .int 1, .int 2, .int 3, .int 1]]], .int 0, .bl true], .lst [.int 0, .int 1]⟩
def M6 : List Ment := a6 :: M5
theorem o6 : MOk T 100000 M6 := MOk.add o5 (by decide +kernel)
def a7 : Ment := ⟨1, 8, [.tup [.int 2, .tup [.tup [.int 0, .int 1, .int 2, .int 3, .int 1]]], .int 1, .bl true], .lst [.int 0, .int 1]⟩
def M7 : List Ment := a7 :: M6
theorem o7 : MOk T 100000 M7 := MOk.add o6 (by decide +kernel)
def a8 : Ment := ⟨1, 8, [.tup [.int 3, .tup [.tup [.int 0, .int 1, .int 1, .int 2, .int 0], .tup [.int 1, .int 2, .int 1, .int 2, .int 0]]], .int 0, .bl true], .lst [.int 0, .int 1, .int 2]⟩
def M8 : List Ment := a8 :: M7
theorem o8 : MOk T 100000 M8 := MOk.add o7 (by decide +kernel)
def a9 : Ment := ⟨1, 8, [.tup [.int 3, .tup [.tup [.int 0, .int 1, .int 1, .int 2, .int 0], .tup [.int 1, .int 2, .int 1, .int 2, .int 0]]], .int 1, .bl true], .lst [.int 0, .int 1, .int 2]⟩
def M9 : List Ment := a9 :: M8
theorem o9 : MOk T 100000 M9 := MOk.add o8 (by decide +kernel)
def a10 : Ment := ⟨1, 8, [.tup [.int 3, .tup [.tup [.int 0, .int 1, .int 1, .int 2, .int 0], .tup [.int 1, .int 2, .int 1, .int 2, .int 0]]], .int 2, .bl true], .lst [.int 0, .int 1, .int 2]⟩
def M10 : List Ment := a10 :: M9
theorem o10 : MOk T 100000 M10 := MOk.add o9 (by decide +kernel)
def a11 : Ment := ⟨1, 8, [.tup [.int 3, .tup [.tup [.int 0, .int 2, .int 1, .int 1, .int 0]]], .int 0, .bl true], .lst [.int 0, .int 2]⟩
def M11 : List Ment := a11 :: M10
theorem o11 : MOk T 100000 M11 := MOk.add o10 (by decide +kernel)
def a12 : Ment := ⟨1, 8, [.tup [.int 3, .tup [.tup [.int 0, .int 2, .int 1, .int 1, .int 0]]], .int 1, .bl true], .lst [.int 1]⟩
def M12 : List Ment := a12 :: M11
theorem o12 : MOk T 100000 M12 := MOk.add o11 (by decide +kernel)
def a13 : Ment := ⟨1, 8, [.tup [.int 3, .tup [.tup [.int 0, .int 2, .int 1, .int 1, .int 0]]], .int 2, .bl true], .lst [.int 0, .int 2]⟩
def M13 : List Ment := a13 :: M12
theorem o13 : MOk T 100000 M13 := MOk.add o12 (by decide +kernel)
def a14 : Ment := ⟨1, 14, [.tup [.int 1, .tup [.tup [.int 0, .int 0, .int 1, .int 1, .int 1]]]], .tup [.int 1]⟩
def M14 : List Ment := a14 :: M13
theorem o14 : MOk T 100000 M14 := MOk.add o13 (by decide +kernel)
def a15 : Ment := ⟨1, 14, [.tup [.int 1, .tup []]], .tup []⟩
def M15 : List Ment := a15 :: M14
theorem o15 : MOk T 100000 M15 := MOk.add o14 (by decide +kernel)
def a16 : Ment := ⟨1, 14, [.tup [.int 2, .tup [.tup [.int 0, .int 1, .int 1, .int 1, .int 0], .tup [.int 1, .int 0, .int 1, .int 1, .int 1]]]], .tup [.int 0, .int 1]⟩
def M16 : List Ment := a16 :: M15
theorem o16 : MOk T 100000 M16 := MOk.add o15 (by decide +kernel)
def a17 : Ment := ⟨1, 14, [.tup [.int 2, .tup [.tup [.int 0, .int 1, .int 2, .int 3, .int 1], .tup [.int 1, .int 0, .int 3, .int 2, .int 4]]]], .tup [.int 1, .int 4]⟩
def M17 : List Ment := a17 :: M16
theorem o17 : MOk T 100000 M17 := MOk.add o16 (by decide +kernel)
def a18 : Ment := ⟨1, 14, [.tup [.int 2, .tup [.tup [.int 0, .int 1, .int 2, .int 3, .int 1]]]], .tup [.int 1]⟩
def M18 : List Ment := a18 :: M17
theorem o18 : MOk T 100000 M18 := MOk.add o17 (by decide +kernel)
def a19 : Ment := ⟨1, 14, [.tup [.int 3, .tup [.tup [.int 0, .int 1, .int 1, .int 2, .int 0], .tup [.int 1, .int 2, .int 1, .int 2, .int 0]]]], .tup [.int 0, .int 0]⟩
def M19 : List Ment := a19 :: M18
theorem o19 : MOk T 100000 M19 := MOk.add o18 (by decide +kernel)
def a20 : Ment := ⟨1, 14, [.tup [.int 3, .tup [.tup [.int 0, .int 2, .int 1, .int 1, .int 0]]]], .tup [.int 0]⟩
def M20 : List Ment := a20 :: M19
theorem o20 : MOk T 100000 M20 := MOk.add o19 (by decide +kernel)
def a21 : Ment := ⟨1, 29, [.tup [.int 1, .tup [.tup [.int 0, .int 0, .int 1, .int 1, .int 1]]], .tup [.int 1], .int 0], .non⟩
def M21 : List Ment := a21 :: M20
theorem o21 : MOk T 100000 M21 := MOk.add o20 (by decide +kernel)
def a22 : Ment := ⟨1, 29, [.tup [.int 1, .tup []], .tup [], .int 0], .non⟩
def M22 : List Ment := a22 :: M21
theorem o22 : MOk T 100000 M22 := MOk.add o21 (by decide +kernel)
def a23 : Ment := ⟨1, 29, [.tup [.int 2, .tup [.tup [.int 0, .int 1, .int 1, .int 1, .int 0], .tup [.int 1, .int 0, .int 1, .int 1, .int 1]]], .tup [.int 0, .int 1], .int 0], .non⟩
def M23 : List Ment := a23 :: M22
theorem o23 : MOk T 100000 M23 := MOk.add o22 (by decide +kernel)
def a24 : Ment := ⟨1, 29, [.tup [.int 2, .tup [.tup [.int 0, .int 1, .int 1, .int 1, .int 0], .tup [.int 1, .int 0, .int 1, .int 1, .int 1]]], .tup [.int 0, .int 1], .int 1], .int 0⟩
def M24 : List Ment := a24 :: M23
theorem o24 : MOk T 100000 M24 := MOk.add o23 (by decide +kernel)
def a25 : Ment := ⟨1, 29, [.tup [.int 2, .tup [.tup [.int 0, .int 1, .int 1, .int 1, .int 0], .tup [.int 1, .int 0, .int 1, .int 1, .int 1]]], .tup [.int 1, .int 0], .int 1], .non⟩
def M25 : List Ment := a25 :: M24
theorem o25 : MOk T 100000 M25 := MOk.add o24 (by decide +kernel)
def a26 : Ment := ⟨1, 29, [.tup [.int 2, .tup [.tup [.int 0, .int 1, .int 2, .int 3, .int 1], .tup [.int 1, .int 0, .int 3, .int 2, .int 4]]], .tup [.int 1, .int 4], .int 0], .non⟩
def M26 : List Ment := a26 :: M25
theorem o26 : MOk T 100000 M26 := MOk.add o25 (by decide +kernel)
def a27 : Ment := ⟨1, 29, [.tup [.int 2, .tup [.tup [.int 0, .int 1, .int 2, .int 3, .int 1], .tup [.int 1, .int 0, .int 3, .int 2, .int 4]]], .tup [.int 2, .int 3], .int 0], .non⟩
def M27 : List Ment := a27 :: M26
theorem o27 : MOk T 100000 M27 := MOk.add o26 (by decide +kernel)
def a28 : Ment := ⟨1, 29, [.tup [.int 2, .tup [.tup [.int 0, .int 1, .int 2, .int 3, .int 1], .tup [.int 1, .int 0, .int 3, .int 2, .int 4]]], .tup [.int 2, .int 3], .int 1], .int 0⟩
def M28 : List Ment := a28 :: M27
theorem o28 : MOk T 100000 M28 := MOk.add o27 (by decide +kernel)
def a29 : Ment := ⟨1, 29, [.tup [.int 2, .tup [.tup [.int 0, .int 1, .int 2, .int 3, .int 1], .tup [.int 1, .int 0, .int 3, .int 2, .int 4]]], .tup [.int 3, .int 2], .int 0], .non⟩
def M29 : List Ment := a29 :: M28
theorem o29 : MOk T 100000 M29 := MOk.add o28 (by decide +kernel)
def a30 : Ment := ⟨1, 29, [.tup [.int 2, .tup [.tup [.int 0, .int 1, .int 2, .int 3, .int 1], .tup [.int 1, .int 0, .int 3, .int 2, .int 4]]], .tup [.int 4, .int 1], .int 1], .non⟩
def M30 : List Ment := a30 :: M29
theorem o30 : MOk T 100000 M30 := MOk.add o29 (by decide +kernel)
def a31 : Ment := ⟨1, 29, [.tup [.int 2, .tup [.tup [.int 0, .int 1, .int 2, .int 3, .int 1], .tup [.int 1, .int 0, .int 3, .int 2, .int 4]]], .tup [.int 5, .int 0], .int 0], .int 1⟩
def M31 : List Ment := a31 :: M30
theorem o31 : MOk T 100000 M31 := MOk.add o30 (by decide +kernel)
def a32 : Ment := ⟨1, 29, [.tup [.int 2, .tup [.tup [.int 0, .int 1, .int 2, .int 3, .int 1], .tup [.int 1, .int 0, .int 3, .int 2, .int 4]]], .tup [.int 5, .int 0], .int 1], .non⟩
def M32 : List Ment := a32 :: M31
theorem o32 : MOk T 100000 M32 := MOk.add o31 (by decide +kernel)
def a33 : Ment := ⟨1, 29, [.tup [.int 2, .tup [.tup [.int 0, .int 1, .int 2, .int 3, .int 1]]], .tup [.int 0], .int 0], .non⟩
def M33 : List Ment := a33 :: M32
theorem o33 : MOk T 100000 M33 := MOk.add o32 (by decide +kernel)
def a34 : Ment := ⟨1, 29, [.tup [.int 2, .tup [.tup [.int 0, .int 1, .int 2, .int 3, .int 1]]], .tup [.int 1], .int 0], .non⟩
def M34 : List Ment := a34 :: M33
theorem o34 : MOk T 100000 M34 := MOk.add o33 (by decide +kernel)
def a35 : Ment := ⟨1, 29, [.tup [.int 2, .tup [.tup [.int 0, .int 1, .int 2, .int 3, .int 1]]], .tup [.int 1], .int 1], .int 0⟩
def M35 : List Ment := a35 :: M34
theorem o35 : MOk T 100000 M35 := MOk.add o34 (by decide +kernel)
def a36 : Ment := ⟨1, 29, [.tup [.int 2, .tup [.tup [.int 0, .int 1, .int 2, .int 3, .int 1]]], .tup [.int 2], .int 0], .non⟩
def M36 : List Ment := a36 :: M35
theorem o36 : MOk T 100000 M36 := MOk.add o35 (by decide +kernel)
def a37 : Ment := ⟨1, 29, [.tup [.int 2, .tup [.tup [.int 0, .int 1, .int 2, .int 3, .int 1]]], .tup [.int 3], .int 0], .non⟩
def M37 : List Ment := a37 :: M36
theorem o37 : MOk T 100000 M37 := MOk.add o36 (by decide +kernel)
def a38 : Ment := ⟨1, 29, [.tup [.int 2, .tup [.tup [.int 0, .int 1, .int 2, .int 3, .int 1]]], .tup [.int 3], .int 1], .non⟩
def M38 : List Ment := a38 :: M37
theorem o38 : MOk T 100000 M38 := MOk.add o37 (by decide +kernel)
def a39 : Ment := ⟨1, 29, [.tup [.int 2, .tup [.tup [.int 0, .int 1, .int 2, .int 3, .int 1]]], .tup [.int 4], .int 1], .non⟩
def M39 : List Ment := a39 :: M38
theorem o39 : MOk T 100000 M39 := MOk.add o38 (by decide +kernel)
def a40 : Ment := ⟨1, 29, [.tup [.int 2, .tup [.tup [.int 0, .int 1, .int 2, .int 3, .int 1]]], .tup [.int 5], .int 0], .non⟩
def M40 : List Ment := a40 :: M39
theorem o40 : MOk T 100000 M40 := MOk.add o39 (by decide +kernel)
def a41 : Ment := ⟨1, 29, [.tup [.int 2, .tup [.tup [.int 0, .int 1, .int 2, .int 3, .int 1]]], .tup [.int 7], .int 1], .non⟩
def M41 : List Ment := a41 :: M40
theorem o41 : MOk T 100000 M41 := MOk.add o40 (by decide +kernel)
def a42 : Ment := ⟨1, 29, [.tup [.int 3, .tup [.tup [.int 0, .int 1, .int 1, .int 2, .int 0], .tup [.int 1, .int 2, .int 1, .int 2, .int 0]]], .tup [.int 0, .int 0], .int 0], .non⟩
def M42 : List Ment := a42 :: M41
theorem o42 : MOk T 100000 M42 := MOk.add o41 (by decide +kernel)
def a43 : Ment := ⟨1, 29, [.tup [.int 3, .tup [.tup [.int 0, .int 1, .int 1, .int 2, .int 0], .tup [.int 1, .int 2, .int 1, .int 2, .int 0]]], .tup [.int 0, .int 1], .int 0], .non⟩
def M43 : List Ment := a43 :: M42
theorem o43 : MOk T 100000 M43 := MOk.add o42 (by decide +kernel)
def a44 : Ment := ⟨1, 29, [.tup [.int 3, .tup [.tup [.int 0, .int 1, .int 1, .int 2, .int 0], .tup [.int 1, .int 2, .int 1, .int 2, .int 0]]], .tup [.int 0, .int 2], .int 2], .non⟩
def M44 : List Ment := a44 :: M43
theorem o44 : MOk T 100000 M44 := MOk.add o43 (by decide +kernel)
def a45 : Ment := ⟨1, 29, [.tup [.int 3, .tup [.tup [.int 0, .int 1, .int 1, .int 2, .int 0], .tup [.int 1, .int 2, .int 1, .int 2, .int 0]]], .tup [.int 1, .int 0], .int 0], .non⟩
def M45 : List Ment := a45 :: M44
theorem o45 : MOk T 100000 M45 := MOk.add o44 (by decide +kernel)
def a46 : Ment := ⟨1, 29, [.tup [.int 3, .tup [.tup [.int 0, .int 1, .int 1, .int 2, .int 0], .tup [.int 1, .int 2, .int 1, .int 2, .int 0]]], .tup [.int 1, .int 1], .int 0], .non⟩
def M46 : List Ment := a46 :: M45
theorem o46 : MOk T 100000 M46 := MOk.add o45 (by decide +kernel)
def a47 : Ment := ⟨1, 29, [.tup [.int 3, .tup [.tup [.int 0, .int 1, .int 1, .int 2, .int 0], .tup [.int 1, .int 2, .int 1, .int 2, .int 0]]], .tup [.int 2, .int 0], .int 0], .non⟩
def M47 : List Ment := a47 :: M46
theorem o47 : MOk T 100000 M47 := MOk.add o46 (by decide +kernel)
def a48 : Ment := ⟨1, 29, [.tup [.int 3, .tup [.tup [.int 0, .int 1, .int 1, .int 2, .int 0], .tup [.int 1, .int 2, .int 1, .int 2, .int 0]]], .tup [.int 2, .int 0], .int 1], .non⟩
def M48 : List Ment := a48 :: M47
theorem o48 : MOk T 100000 M48 := MOk.add o47 (by decide +kernel)
def a49 : Ment := ⟨1, 29, [.tup [.int 3, .tup [.tup [.int 0, .int 1, .int 1, .int 2, .int 0], .tup [.int 1, .int 2, .int 1, .int 2, .int 0]]], .tup [.int 2, .int 1], .int 1], .non⟩
def M49 : List Ment := a49 :: M48
theorem o49 : MOk T 100000 M49 := MOk.add o48 (by decide +kernel)
def a50 : Ment := ⟨1, 29, [.tup [.int 3, .tup [.tup [.int 0, .int 1, .int 1, .int 2, .int 0], .tup [.int 1, .int 2, .int 1, .int 2, .int 0]]], .tup [.int 3, .int 0], .int 0], .non⟩
def M50 : List Ment := a50 :: M49
theorem o50 : MOk T 100000 M50 := MOk.add o49 (by decide +kernel)
def a51 : Ment := ⟨1, 29, [.tup [.int 3, .tup [.tup [.int 0, .int 1, .int 1, .int 2, .int 0], .tup [.int 1, .int 2, .int 1, .int 2, .int 0]]], .tup [.int 4, .int 0], .int 1], .non⟩
def M51 : List Ment := a51 :: M50
theorem o51 : MOk T 100000 M51 := MOk.add o50 (by decide +kernel)
def a52 : Ment := ⟨1, 29, [.tup [.int 3, .tup [.tup [.int 0, .int 2, .int 1, .int 1, .int 0]]], .tup [.int 0], .int 0], .non⟩
def M52 : List Ment := a52 :: M51
theorem o52 : MOk T 100000 M52 := MOk.add o51 (by decide +kernel)
def a53 : Ment := ⟨1, 29, [.tup [.int 3, .tup [.tup [.int 0, .int 2, .int 1, .int 1, .int 0]]], .tup [.int 1], .int 1], .non⟩
def M53 : List Ment := a53 :: M52
theorem o53 : MOk T 100000 M53 := MOk.add o52 (by decide +kernel)
def a54 : Ment := ⟨1, 29, [.tup [.int 3, .tup [.tup [.int 0, .int 2, .int 1, .int 1, .int 0]]], .tup [.int 1], .int 2], .non⟩
def M54 : List Ment := a54 :: M53
theorem o54 : MOk T 100000 M54 := MOk.add o53 (by decide +kernel)
def a55 : Ment := ⟨1, 30, [.tup [.int 1, .tup [.tup [.int 0, .int 0, .int 1, .int 1, .int 1]]], .tup [.int 1], .int 0], .tup [.int 1]⟩
def M55 : List Ment := a55 :: M54
theorem o55 : MOk T 100000 M55 := MOk.add o54 (by decide +kernel)
def a56 : Ment := ⟨1, 30, [.tup [.int 1, .tup []], .tup [], .int 0], .tup []⟩
def M56 : List Ment := a56 :: M55
theorem o56 : MOk T 100000 M56 := MOk.add o55 (by decide +kernel)
def a57 : Ment := ⟨1, 30, [.tup [.int 2, .tup [.tup [.int 0, .int 1, .int 1, .int 1, .int 0], .tup [.int 1, .int 0, .int 1, .int 1, .int 1]]], .tup [.int 0, .int 1], .int 0], .tup [.int 1, .int 0]⟩
def M57 : List Ment := a57 :: M56
theorem o57 : MOk T 100000 M57 := MOk.add o56 (by decide +kernel)
def a58 : Ment := ⟨1, 30, [.tup [.int 2, .tup [.tup [.int 0, .int 1, .int 1, .int 1, .int 0], .tup [.int 1, .int 0, .int 1, .int 1, .int 1]]], .tup [.int 1, .int 0], .int 1], .tup [.int 0, .int 1]⟩
def M58 : List Ment := a58 :: M57
theorem o58 : MOk T 100000 M58 := MOk.add o57 (by decide +kernel)
def a59 : Ment := ⟨1, 30, [.tup [.int 2, .tup [.tup [.int 0, .int 1, .int 2, .int 3, .int 1], .tup [.int 1, .int 0, .int 3, .int 2, .int 4]]], .tup [.int 1, .int 4], .int 0], .tup [.int 3, .int 2]⟩
def M59 : List Ment := a59 :: M58
theorem o59 : MOk T 100000 M59 := MOk.add o58 (by decide +kernel)
def a60 : Ment := ⟨1, 30, [.tup [.int 2, .tup [.tup [.int 0, .int 1, .int 2, .int 3, .int 1], .tup [.int 1, .int 0, .int 3, .int 2, .int 4]]], .tup [.int 2, .int 3], .int 0], .tup [.int 4, .int 1]⟩
def M60 : List Ment := a60 :: M59
theorem o60 : MOk T 100000 M60 := MOk.add o59 (by decide +kernel)
def a61 : Ment := ⟨1, 30, [.tup [.int 2, .tup [.tup [.int 0, .int 1, .int 2, .int 3, .int 1], .tup [.int 1, .int 0, .int 3, .int 2, .int 4]]], .tup [.int 3, .int 2], .int 0], .tup [.int 5, .int 0]⟩
def M61 : List Ment := a61 :: M60
theorem o61 : MOk T 100000 M61 := MOk.add o60 (by decide +kernel)
def a62 : Ment := ⟨1, 30, [.tup [.int 2, .tup [.tup [.int 0, .int 1, .int 2, .int 3, .int 1], .tup [.int 1, .int 0, .int 3, .int 2, .int 4]]], .tup [.int 4, .int 1], .int 1], .tup [.int 1, .int 4]⟩
def M62 : List Ment := a62 :: M61
theorem o62 : MOk T 100000 M62 := MOk.add o61 (by decide +kernel)
def a63 : Ment := ⟨1, 30, [.tup [.int 2, .tup [.tup [.int 0, .int 1, .int 2, .int 3, .int 1], .tup [.int 1, .int 0, .int 3, .int 2, .int 4]]], .tup [.int 5, .int 0], .int 1], .tup [.int 2, .int 3]⟩
def M63 : List Ment := a63 :: M62
theorem o63 : MOk T 100000 M63 := MOk.add o62 (by decide +kernel)
def a64 : Ment := ⟨1, 30, [.tup [.int 2, .tup [.tup [.int 0, .int 1, .int 2, .int 3, .int 1]]], .tup [.int 0], .int 0], .tup [.int 2]⟩
def M64 : List Ment := a64 :: M63
theorem o64 : MOk T 100000 M64 := MOk.add o63 (by decide +kernel)
def a65 : Ment := ⟨1, 30, [.tup [.int 2, .tup [.tup [.int 0, .int 1, .int 2, .int 3, .int 1]]], .tup [.int 1], .int 0], .tup [.int 3]⟩
def M65 : List Ment := a65 :: M64
theorem o65 : MOk T 100000 M65 := MOk.add o64 (by decide +kernel)
def a66 : Ment := ⟨1, 30, [.tup [.int 2, .tup [.tup [.int 0, .int 1, .int 2, .int 3, .int 1]]], .tup [.int 2], .int 0], .tup [.int 4]⟩
def M66 : List Ment := a66 :: M65
theorem o66 : MOk T 100000 M66 := MOk.add o65 (by decide +kernel)
def a67 : Ment := ⟨1, 30, [.tup [.int 2, .tup [.tup [.int 0, .int 1, .int 2, .int 3, .int 1]]], .tup [.int 3], .int 0], .tup [.int 5]⟩
def M67 : List Ment := a67 :: M66
theorem o67 : MOk T 100000 M67 := MOk.add o66 (by decide +kernel)
def a68 : Ment := ⟨1, 30, [.tup [.int 2, .tup [.tup [.int 0, .int 1, .int 2, .int 3, .int 1]]], .tup [.int 3], .int 1], .tup [.int 0]⟩
def M68 : List Ment := a68 :: M67
theorem o68 : MOk T 100000 M68 := MOk.add o67 (by decide +kernel)
def a69 : Ment := ⟨1, 30, [.tup [.int 2, .tup [.tup [.int 0, .int 1, .int 2, .int 3, .int 1]]], .tup [.int 4], .int 1], .tup [.int 1]⟩
def M69 : List Ment := a69 :: M68
theorem o69 : MOk T 100000 M69 := MOk.add o68 (by decide +kernel)
def a70 : Ment := ⟨1, 30, [.tup [.int 2, .tup [.tup [.int 0, .int 1, .int 2, .int 3, .int 1]]], .tup [.int 5], .int 0], .tup [.int 7]⟩
def M70 : List Ment := a70 :: M69
theorem o70 : MOk T 100000 M70 := MOk.add o69 (by decide +kernel)
def a71 : Ment := ⟨1, 30, [.tup [.int 2, .tup [.tup [.int 0, .int 1, .int 2, .int 3, .int 1]]], .tup [.int 7], .int 1], .tup [.int 4]⟩
def M71 : List Ment := a71 :: M70
theorem o71 : MOk T 100000 M71 := MOk.add o70 (by decide +kernel)
def a72 : Ment := ⟨1, 30, [.tup [.int 3, .tup [.tup [.int 0, .int 1, .int 1, .int 2, .int 0], .tup [.int 1, .int 2, .int 1, .int 2, .int 0]]], .tup [.int 0, .int 0], .int 0], .tup [.int 1, .int 0]⟩
def M72 : List Ment := a72 :: M71
theorem o72 : MOk T 100000 M72 := MOk.add o71 (by decide +kernel)
def a73 : Ment := ⟨1, 30, [.tup [.int 3, .tup [.tup [.int 0, .int 1, .int 1, .int 2, .int 0], .tup [.int 1, .int 2, .int 1, .int 2, .int 0]]], .tup [.int 0, .int 1], .int 0], .tup [.int 1, .int 1]⟩
def M73 : List Ment := a73 :: M72
theorem o73 : MOk T 100000 M73 := MOk.add o72 (by decide +kernel)
def a74 : Ment := ⟨1, 30, [.tup [.int 3, .tup [.tup [.int 0, .int 1, .int 1, .int 2, .int 0], .tup [.int 1, .int 2, .int 1, .int 2, .int 0]]], .tup [.int 0, .int 2], .int 2], .tup [.int 0, .int 0]⟩
def M74 : List Ment := a74 :: M73
theorem o74 : MOk T 100000 M74 := MOk.add o73 (by decide +kernel)
def a75 : Ment := ⟨1, 30, [.tup [.int 3, .tup [.tup [.int 0, .int 1, .int 1, .int 2, .int 0], .tup [.int 1, .int 2, .int 1, .int 2, .int 0]]], .tup [.int 1, .int 0], .int 0], .tup [.int 2, .int 0]⟩
def M75 : List Ment := a75 :: M74
theorem o75 : MOk T 100000 M75 := MOk.add o74 (by decide +kernel)
def a76 : Ment := ⟨1, 30, [.tup [.int 3, .tup [.tup [.int 0, .int 1, .int 1, .int 2, .int 0], .tup [.int 1, .int 2, .int 1, .int 2, .int 0]]], .tup [.int 1, .int 1], .int 0], .tup [.int 2, .int 1]⟩
def M76 : List Ment := a76 :: M75
theorem o76 : MOk T 100000 M76 := MOk.add o75 (by decide +kernel)
def a77 : Ment := ⟨1, 30, [.tup [.int 3, .tup [.tup [.int 0, .int 1, .int 1, .int 2, .int 0], .tup [.int 1, .int 2, .int 1, .int 2, .int 0]]], .tup [.int 2, .int 0], .int 0], .tup [.int 3, .int 0]⟩
def M77 : List Ment := a77 :: M76
theorem o77 : MOk T 100000 M77 := MOk.add o76 (by decide +kernel)
def a78 : Ment := ⟨1, 30, [.tup [.int 3, .tup [.tup [.int 0, .int 1, .int 1, .int 2, .int 0], .tup [.int 1, .int 2, .int 1, .int 2, .int 0]]], .tup [.int 2, .int 0], .int 1], .tup [.int 0, .int 1]⟩
def M78 : List Ment := a78 :: M77
theorem o78 : MOk T 100000 M78 := MOk.add o77 (by decide +kernel)
def a79 : Ment := ⟨1, 30, [.tup [.int 3, .tup [.tup [.int 0, .int 1, .int 1, .int 2, .int 0], .tup [.int 1, .int 2, .int 1, .int 2, .int 0]]], .tup [.int 2, .int 1], .int 1], .tup [.int 0, .int 2]⟩
def M79 : List Ment := a79 :: M78
theorem o79 : MOk T 100000 M79 := MOk.add o78 (by decide +kernel)
def a80 : Ment := ⟨1, 30, [.tup [.int 3, .tup [.tup [.int 0, .int 1, .int 1, .int 2, .int 0], .tup [.int 1, .int 2, .int 1, .int 2, .int 0]]], .tup [.int 3, .int 0], .int 0], .tup [.int 4, .int 0]⟩
def M80 : List Ment := a80 :: M79
theorem o80 : MOk T 100000 M80 := MOk.add o79 (by decide +kernel)
def a81 : Ment := ⟨1, 30, [.tup [.int 3, .tup [.tup [.int 0, .int 1, .int 1, .int 2, .int 0], .tup [.int 1, .int 2, .int 1, .int 2, .int 0]]], .tup [.int 4, .int 0], .int 1], .tup [.int 2, .int 1]⟩
def M81 : List Ment := a81 :: M80
theorem o81 : MOk T 100000 M81 := MOk.add o80 (by decide +kernel)
def a82 : Ment := ⟨1, 30, [.tup [.int 3, .tup [.tup [.int 0, .int 2, .int 1, .int 1, .int 0]]], .tup [.int 0], .int 0], .tup [.int 1]⟩
def M82 : List Ment := a82 :: M81
theorem o82 : MOk T 100000 M82 := MOk.add o81 (by decide +kernel)
def a83 : Ment := ⟨1, 30, [.tup [.int 3, .tup [.tup [.int 0, .int 2, .int 1, .int 1, .int 0]]], .tup [.int 1], .int 1], .tup [.int 1]⟩
def M83 : List Ment := a83 :: M82
theorem o83 : MOk T 100000 M83 := MOk.add o82 (by decide +kernel)
def a84 : Ment := ⟨1, 30, [.tup [.int 3, .tup [.tup [.int 0, .int 2, .int 1, .int 1, .int 0]]], .tup [.int 1], .int 2], .tup [.int 0]⟩
def M84 : List Ment := a84 :: M83
theorem o84 : MOk T 100000 M84 := MOk.add o83 (by decide +kernel)
def a85 : Ment := ⟨1, 95, [.tup [.int 2, .tup [.tup [.int 0, .int 1, .int 1, .int 1, .int 0], .tup [.int 1, .int 0, .int 1, .int 1, .int 1]]], .tup [.int 1, .int 0]], .tup [.int 1, .int 1]⟩
def M85 : List Ment := a85 :: M84
theorem o85 : MOk T 100000 M85 := MOk.add o84 (by decide +kernel)
def a86 : Ment := ⟨1, 95, [.tup [.int 2, .tup [.tup [.int 0, .int 1, .int 2, .int 3, .int 1]]], .tup [.int 0, .int 0, .int 0, .int 1, .int 1]], .tup [.int 3, .int 2]⟩
def M86 : List Ment := a86 :: M85
theorem o86 : MOk T 100000 M86 := MOk.add o85 (by decide +kernel)
def a87 : Ment := ⟨1, 95, [.tup [.int 2, .tup [.tup [.int 0, .int 1, .int 2, .int 3, .int 1]]], .tup [.int 0, .int 1, .int 0, .int 0, .int 1]], .tup [.int 3, .int 2]⟩
def M87 : List Ment := a87 :: M86
theorem o87 : MOk T 100000 M87 := MOk.add o86 (by decide +kernel)
def a88 : Ment := ⟨1, 95, [.tup [.int 2, .tup [.tup [.int 0, .int 1, .int 2, .int 3, .int 1]]], .tup [.int 0, .int 1]], .tup [.int 1, .int 1]⟩
def M88 : List Ment := a88 :: M87
theorem o88 : MOk T 100000 M88 := MOk.add o87 (by decide +kernel)
def a89 : Ment := ⟨1, 95, [.tup [.int 2, .tup [.tup [.int 0, .int 1, .int 2, .int 3, .int 1]]], .tup [.int 1, .int 0, .int 0, .int 0, .int 1]], .tup [.int 3, .int 2]⟩
def M89 : List Ment := a89 :: M88
theorem o89 : MOk T 100000 M89 := MOk.add o88 (by decide +kernel)
def a90 : Ment := ⟨1, 95, [.tup [.int 3, .tup [.tup [.int 0, .int 1, .int 1, .int 2, .int 0], .tup [.int 1, .int 2, .int 1, .int 2, .int 0]]], .tup [.int 0, .int 0, .int 0, .int 0, .int 1, .int 1, .int 2]], .tup [.int 4, .int 2, .int 1]⟩
def M90 : List Ment := a90 :: M89
theorem o90 : MOk T 100000 M90 := MOk.add o89 (by decide +kernel)
def a91 : Ment := ⟨1, 95, [.tup [.int 3, .tup [.tup [.int 0, .int 1, .int 1, .int 2, .int 0], .tup [.int 1, .int 2, .int 1, .int 2, .int 0]]], .tup [.int 0, .int 0, .int 1, .int 0, .int 0, .int 1, .int 2]], .tup [.int 4, .int 2, .int 1]⟩
def M91 : List Ment := a91 :: M90
theorem o91 : MOk T 100000 M91 := MOk.add o90 (by decide +kernel)
def a92 : Ment := ⟨1, 164, [.tup [], .int 8], .int 0⟩
def M92 : List Ment := a92 :: M91
theorem o92 : MOk T 100000 M92 := MOk.add o91 (by decide +kernel)
def a93 : Ment := ⟨1, 166, [.tup [.int 0, .int 0]], .tup [.int 0, .int 0]⟩
def M93 : List Ment := a93 :: M92
theorem o93 : MOk T 100000 M93 := MOk.add o92 (by decide +kernel)
def a94 : Ment := ⟨1, 166, [.tup [.int 0, .int 1, .int 0, .int 0, .int 1]], .tup [.int 0, .int 1, .int 0, .int 0, .int 1]⟩
def M94 : List Ment := a94 :: M93
theorem o94 : MOk T 100000 M94 := MOk.add o93 (by decide +kernel)
def a95 : Ment := ⟨1, 166, [.tup [.int 0, .int 1]], .tup [.int 0, .int 1]⟩
def M95 : List Ment := a95 :: M94
theorem o95 : MOk T 100000 M95 := MOk.add o94 (by decide +kernel)
def a96 : Ment := ⟨1, 166, [.tup [.int 0]], .tup [.int 0]⟩
def M96 : List Ment := a96 :: M95
theorem o96 : MOk T 100000 M96 := MOk.add o95 (by decide +kernel)
def a97 : Ment := ⟨1, 166, [.tup [.int 1, .int 0, .int 0, .int 0, .int 1]], .tup [.int 1, .int 0, .int 0, .int 0, .int 1]⟩
def M97 : List Ment := a97 :: M96
theorem o97 : MOk T 100000 M97 := MOk.add o96 (by decide +kernel)
def a98 : Ment := ⟨1, 166, [.tup [.int 1, .int 0]], .tup [.int 1, .int 0]⟩
def M98 : List Ment := a98 :: M97
theorem o98 : MOk T 100000 M98 := MOk.add o97 (by decide +kernel)
def a99 : Ment := ⟨1, 166, [.tup [.int 1]], .tup [.int 1]⟩
def M99 : List Ment := a99 :: M98
theorem o99 : MOk T 100000 M99 := MOk.add o98 (by decide +kernel)
def a100 : Ment := ⟨1, 166, [.tup [.int 2]], .tup [.int 2]⟩
def M100 : List Ment := a100 :: M99
theorem o100 : MOk T 100000 M100 := MOk.add o99 (by decide +kernel)
def a101 : Ment := ⟨1, 166, [.tup []], .tup []⟩
def M101 : List Ment := a101 :: M100
theorem o101 : MOk T 100000 M101 := MOk.add o100 (by decide +kernel)
def a102 : Ment := ⟨1, 168, [.tup [.int 0, .int 0]], .tup [.int 0, .int 0]⟩
def M102 : List Ment := a102 :: M101
theorem o102 : MOk T 100000 M102 := MOk.add o101 (by decide +kernel)
def a103 : Ment := ⟨1, 168, [.tup [.int 0, .int 1]], .tup [.int 0, .int 1]⟩
def M103 : List Ment := a103 :: M102
theorem o103 : MOk T 100000 M103 := MOk.add o102 (by decide +kernel)
def a104 : Ment := ⟨1, 168, [.tup [.int 0]], .tup [.int 0]⟩
def M104 : List Ment := a104 :: M103
theorem o104 : MOk T 100000 M104 := MOk.add o103 (by decide +kernel)
def a105 : Ment := ⟨1, 168, [.tup [.int 1, .int 0]], .tup [.int 1, .int 0]⟩
def M105 : List Ment := a105 :: M104
theorem o105 : MOk T 100000 M105 := MOk.add o104 (by decide +kernel)
def a106 : Ment := ⟨1, 168, [.tup [.int 1]], .tup [.int 1]⟩
def M106 : List Ment := a106 :: M105
theorem o106 : MOk T 100000 M106 := MOk.add o105 (by decide +kernel)
def a107 : Ment := ⟨1, 168, [.tup [.int 2]], .tup [.int 2]⟩
def M107 : List Ment := a107 :: M106
theorem o107 : MOk T 100000 M107 := MOk.add o106 (by decide +kernel)
def a108 : Ment := ⟨1, 170, [.tup [.int 2]], .int 0⟩
def M108 : List Ment := a108 :: M107
theorem o108 : MOk T 100000 M108 := MOk.add o107 (by decide +kernel)
def a109 : Ment := ⟨1, 170, [.tup []], .int 0⟩
def M109 : List Ment := a109 :: M108
theorem o109 : MOk T 100000 M109 := MOk.add o108 (by decide +kernel)
def a110 : Ment := ⟨1, 185, [.tup [.int 2]], .str [50]⟩
def M110 : List Ment := a110 :: M109
theorem o110 : MOk T 100000 M110 := MOk.add o109 (by decide +kernel)
def a111 : Ment := ⟨1, 205, [.lst [.tup [.int 0, .int 1], .tup [.int 1, .int 0]], .int 0], .lst [.int 0, .int 1]⟩
def M111 : List Ment := a111 :: M110
theorem o111 : MOk T 100000 M111 := MOk.add o110 (by decide +kernel)
def a112 : Ment := ⟨1, 205, [.lst [.tup [.int 0, .int 1], .tup [.int 1, .int 0]], .int 1], .lst [.int 1, .int 0]⟩
def M112 : List Ment := a112 :: M111
theorem o112 : MOk T 100000 M112 := MOk.add o111 (by decide +kernel)
def a113 : Ment := ⟨1, 205, [.lst [.tup [.int 0, .int 1], .tup [.int 1, .int 2]], .int 0], .lst [.int 0, .int 1, .int 2]⟩
def M113 : List Ment := a113 :: M112
theorem o113 : MOk T 100000 M113 := MOk.add o112 (by decide +kernel)
def a114 : Ment := ⟨1, 205, [.lst [.tup [.int 0, .int 1], .tup [.int 1, .int 2]], .int 1], .lst [.int 1, .int 2]⟩
def M114 : List Ment := a114 :: M113
theorem o114 : MOk T 100000 M114 := MOk.add o113 (by decide +kernel)
def a115 : Ment := ⟨1, 205, [.lst [.tup [.int 0, .int 1], .tup [.int 1, .int 2]], .int 2], .lst [.int 2]⟩
def M115 : List Ment := a115 :: M114
theorem o115 : MOk T 100000 M115 := MOk.add o114 (by decide +kernel)
def a116 : Ment := ⟨1, 205, [.lst [.tup [.int 0, .int 1]], .int 0], .lst [.int 0, .int 1]⟩
def M116 : List Ment := a116 :: M115
theorem o116 : MOk T 100000 M116 := MOk.add o115 (by decide +kernel)
def a117 : Ment := ⟨1, 205, [.lst [.tup [.int 0, .int 1]], .int 1], .lst [.int 1]⟩
def M117 : List Ment := a117 :: M116
theorem o117 : MOk T 100000 M117 := MOk.add o116 (by decide +kernel)
def a118 : Ment := ⟨1, 207, [.tup [.int 1, .tup [.tup [.int 0, .int 0, .int 1, .int 1, .int 1]]], .lst [.int 1], .lst [.int 0]], .tup [.int 0]⟩
def M118 : List Ment := a118 :: M117
theorem o118 : MOk T 100000 M118 := MOk.add o117 (by decide +kernel)
def a119 : Ment := ⟨1, 207, [.tup [.int 2, .tup [.tup [.int 0, .int 1, .int 1, .int 1, .int 0], .tup [.int 1, .int 0, .int 1, .int 1, .int 1]]], .lst [.int 1, .int 1], .lst [.int 0]], .tup [.int 0]⟩
def M119 : List Ment := a119 :: M118
theorem o119 : MOk T 100000 M119 := MOk.add o118 (by decide +kernel)
def a120 : Ment := ⟨1, 207, [.tup [.int 2, .tup [.tup [.int 0, .int 1, .int 1, .int 1, .int 0], .tup [.int 1, .int 0, .int 1, .int 1, .int 1]]], .lst [.int 1, .int 1], .lst [.int 1]], .tup [.int 1]⟩
def M120 : List Ment := a120 :: M119
theorem o120 : MOk T 100000 M120 := MOk.add o119 (by decide +kernel)
def a121 : Ment := ⟨1, 207, [.tup [.int 2, .tup [.tup [.int 0, .int 1, .int 2, .int 3, .int 1]]], .lst [.int 3, .int 2], .lst [.int 0]], .tup [.int 0]⟩
def M121 : List Ment := a121 :: M120
theorem o121 : MOk T 100000 M121 := MOk.add o120 (by decide +kernel)
def a122 : Ment := ⟨1, 207, [.tup [.int 2, .tup [.tup [.int 0, .int 1, .int 2, .int 3, .int 1]]], .lst [.int 3, .int 2], .lst [.int 1]], .tup [.int 1]⟩
def M122 : List Ment := a122 :: M121
theorem o122 : MOk T 100000 M122 := MOk.add o121 (by decide +kernel)
def a123 : Ment := ⟨1, 207, [.tup [.int 3, .tup [.tup [.int 0, .int 1, .int 1, .int 2, .int 0], .tup [.int 1, .int 2, .int 1, .int 2, .int 0]]], .lst [.int 4, .int 2, .int 1], .lst [.int 0]], .tup [.int 0]⟩
def M123 : List Ment := a123 :: M122
theorem o123 : MOk T 100000 M123 := MOk.add o122 (by decide +kernel)
def a124 : Ment := ⟨1, 207, [.tup [.int 3, .tup [.tup [.int 0, .int 1, .int 1, .int 2, .int 0], .tup [.int 1, .int 2, .int 1, .int 2, .int 0]]], .lst [.int 4, .int 2, .int 1], .lst [.int 1]], .tup [.int 1]⟩
def M124 : List Ment := a124 :: M123
theorem o124 : MOk T 100000 M124 := MOk.add o123 (by decide +kernel)
def a125 : Ment := ⟨1, 207, [.tup [.int 3, .tup [.tup [.int 0, .int 1, .int 1, .int 2, .int 0], .tup [.int 1, .int 2, .int 1, .int 2, .int 0]]], .lst [.int 4, .int 2, .int 1], .lst [.int 2]], .tup [.int 2]⟩
def M125 : List Ment := a125 :: M124
theorem o125 : MOk T 100000 M125 := MOk.add o124 (by decide +kernel)
def a126 : Ment := ⟨1, 619, [.tup []], .non⟩
def M126 : List Ment := a126 :: M125
theorem o126 : MOk T 100000 M126 := MOk.add o125 (by decide +kernel)
def a127 : Ment := ⟨2, 9, [.tup [.int 1, .tup [.tup [.int 0, .int 0, .int 1, .int 1, .int 1]]]], .lst [.tup [.int 0]]⟩
def M127 : List Ment := a127 :: M126
theorem o127 : MOk T 100000 M127 := MOk.add o126 (by decide +kernel)
def a128 : Ment := ⟨2, 9, [.tup [.int 1, .tup []]], .lst [.tup [.int 0]]⟩
def M128 : List Ment := a128 :: M127
theorem o128 : MOk T 100000 M128 := MOk.add o127 (by decide +kernel)
def a129 : Ment := ⟨2, 9, [.tup [.int 2, .tup [.tup [.int 0, .int 1, .int 1, .int 1, .int 0], .tup [.int 1, .int 0, .int 1, .int 1, .int 1]]]], .lst [.tup [.int 0, .int 1]]⟩
def M129 : List Ment := a129 :: M128
theorem o129 : MOk T 100000 M129 := MOk.add o128 (by decide +kernel)
def a130 : Ment := ⟨2, 9, [.tup [.int 2, .tup [.tup [.int 0, .int 1, .int 2, .int 3, .int 1], .tup [.int 1, .int 0, .int 3, .int 2, .int 4]]]], .lst [.tup [.int 0, .int 1]]⟩
def M130 : List Ment := a130 :: M129
theorem o130 : MOk T 100000 M130 := MOk.add o129 (by decide +kernel)
def a131 : Ment := ⟨2, 9, [.tup [.int 2, .tup [.tup [.int 0, .int 1, .int 2, .int 3, .int 1]]]], .lst [.tup [.int 0, .int 1]]⟩
def M131 : List Ment := a131 :: M130
theorem o131 : MOk T 100000 M131 := MOk.add o130 (by decide +kernel)
def a132 : Ment := ⟨2, 9, [.tup [.int 3, .tup [.tup [.int 0, .int 1, .int 1, .int 2, .int 0], .tup [.int 1, .int 2, .int 1, .int 2, .int 0]]]], .lst [.tup [.int 0, .int 1, .int 2]]⟩
def M132 : List Ment := a132 :: M131
theorem o132 : MOk T 100000 M132 := MOk.add o131 (by decide +kernel)
def a133 : Ment := ⟨2, 9, [.tup [.int 3, .tup [.tup [.int 0, .int 2, .int 1, .int 1, .int 0]]]], .lst [.tup [.int 0, .int 2], .tup [.int 1]]⟩
def M133 : List Ment := a133 :: M132
theorem o133 : MOk T 100000 M133 := MOk.add o132 (by decide +kernel)
def a134 : Ment := ⟨2, 34, [.tup [.int 2, .tup [.tup [.int 0, .int 1, .int 1, .int 1, .int 0], .tup [.int 1, .int 0, .int 1, .int 1, .int 1]]], .tup [.int 1, .int 0]], .bl true⟩
def M134 : List Ment := a134 :: M133
theorem o134 : MOk T 100000 M134 := MOk.add o133 (by decide +kernel)
def a135 : Ment := ⟨2, 34, [.tup [.int 2, .tup [.tup [.int 0, .int 1, .int 2, .int 3, .int 1]]], .tup [.int 0, .int 0, .int 0, .int 1, .int 1]], .bl true⟩
def M135 : List Ment := a135 :: M134
theorem o135 : MOk T 100000 M135 := MOk.add o134 (by decide +kernel)
def a136 : Ment := ⟨2, 34, [.tup [.int 2, .tup [.tup [.int 0, .int 1, .int 2, .int 3, .int 1]]], .tup [.int 0, .int 1, .int 0, .int 0, .int 1]], .bl true⟩
def M136 : List Ment := a136 :: M135
theorem o136 : MOk T 100000 M136 := MOk.add o135 (by decide +kernel)
def a137 : Ment := ⟨2, 34, [.tup [.int 2, .tup [.tup [.int 0, .int 1, .int 2, .int 3, .int 1]]], .tup [.int 0, .int 1]], .bl true⟩
def M137 : List Ment := a137 :: M136
theorem o137 : MOk T 100000 M137 := MOk.add o136 (by decide +kernel)
def a138 : Ment := ⟨2, 34, [.tup [.int 2, .tup [.tup [.int 0, .int 1, .int 2, .int 3, .int 1]]], .tup [.int 1, .int 0, .int 0, .int 0, .int 1]], .bl true⟩
def M138 : List Ment := a138 :: M137
theorem o138 : MOk T 100000 M138 := MOk.add o137 (by decide +kernel)
def a139 : Ment := ⟨2, 34, [.tup [.int 3, .tup [.tup [.int 0, .int 1, .int 1, .int 2, .int 0], .tup [.int 1, .int 2, .int 1, .int 2, .int 0]]], .tup [.int 0, .int 0, .int 0, .int 0, .int 1, .int 1, .int 2]], .bl true⟩
def M139 : List Ment := a139 :: M138
theorem o139 : MOk T 100000 M139 := MOk.add o138 (by decide +kernel)
def a140 : Ment := ⟨2, 34, [.tup [.int 3, .tup [.tup [.int 0, .int 1, .int 1, .int 2, .int 0], .tup [.int 1, .int 2, .int 1, .int 2, .int 0]]], .tup [.int 0, .int 0, .int 1, .int 0, .int 0, .int 1, .int 2]], .bl true⟩
def M140 : List Ment := a140 :: M139
theorem o140 : MOk T 100000 M140 := MOk.add o139 (by decide +kernel)
def a141 : Ment := ⟨2, 35, [.tup [.int 2, .tup [.tup [.int 0, .int 1, .int 1, .int 1, .int 0], .tup [.int 1, .int 0, .int 1, .int 1, .int 1]]], .tup [.int 1, .int 0]], .lst [.tup [.int 0, .int 1]]⟩
def M141 : List Ment := a141 :: M140
theorem o141 : MOk T 100000 M141 := MOk.add o140 (by decide +kernel)
def a142 : Ment := ⟨2, 35, [.tup [.int 2, .tup [.tup [.int 0, .int 1, .int 2, .int 3, .int 1]]], .tup [.int 0, .int 0, .int 0, .int 1, .int 1]], .lst [.tup [.int 1], .tup [.int 3], .tup [.int 5], .tup [.int 7], .tup [.int 4], .tup [.int 1]]⟩
def M142 : List Ment := a142 :: M141
theorem o142 : MOk T 100000 M142 := MOk.add o141 (by decide +kernel)
def a143 : Ment := ⟨2, 35, [.tup [.int 2, .tup [.tup [.int 0, .int 1, .int 2, .int 3, .int 1]]], .tup [.int 0, .int 1, .int 0, .int 0, .int 1]], .lst [.tup [.int 1], .tup [.int 3], .tup [.int 0], .tup [.int 2], .tup [.int 4], .tup [.int 1]]⟩
def M143 : List Ment := a143 :: M142
theorem o143 : MOk T 100000 M143 := MOk.add o142 (by decide +kernel)
def a144 : Ment := ⟨2, 35, [.tup [.int 2, .tup [.tup [.int 0, .int 1, .int 2, .int 3, .int 1]]], .tup [.int 1, .int 0, .int 0, .int 0, .int 1]], .lst [.tup [.int 1]]⟩
def M144 : List Ment := a144 :: M143
theorem o144 : MOk T 100000 M144 := MOk.add o143 (by decide +kernel)
def a145 : Ment := ⟨2, 35, [.tup [.int 3, .tup [.tup [.int 0, .int 1, .int 1, .int 2, .int 0], .tup [.int 1, .int 2, .int 1, .int 2, .int 0]]], .tup [.int 0, .int 0, .int 0, .int 0, .int 1, .int 1, .int 2]], .lst [.tup [.int 0, .int 0], .tup [.int 1, .int 0], .tup [.int 2, .int 0], .tup [.int 3, .int 0], .tup [.int 4, .int 0], .tup [.int 2, .int 1], .tup [.int 0, .int 2], .tup [.int 0, .int 0]]⟩
def M145 : List Ment := a145 :: M144
theorem o145 : MOk T 100000 M145 := MOk.add o144 (by decide +kernel)
def a146 : Ment := ⟨2, 35, [.tup [.int 3, .tup [.tup [.int 0, .int 1, .int 1, .int 2, .int 0], .tup [.int 1, .int 2, .int 1, .int 2, .int 0]]], .tup [.int 0, .int 0, .int 1, .int 0, .int 0, .int 1, .int 2]], .lst [.tup [.int 0, .int 0], .tup [.int 1, .int 0], .tup [.int 2, .int 0], .tup [.int 0, .int 1], .tup [.int 1, .int 1], .tup [.int 2, .int 1], .tup [.int 0, .int 2], .tup [.int 0, .int 0]]⟩
def M146 : List Ment := a146 :: M145
theorem o146 : MOk T 100000 M146 := MOk.add o145 (by decide +kernel)
def a147 : Ment := ⟨2, 62, [.int 1, .int 1], .tup [.int 1, .int 1]⟩
def M147 : List Ment := a147 :: M146
theorem o147 : MOk T 100000 M147 := MOk.add o146 (by decide +kernel)
def a148 : Ment := ⟨2, 62, [.int 1, .int 2], .tup [.int 1, .int 2]⟩
def M148 : List Ment := a148 :: M147
theorem o148 : MOk T 100000 M148 := MOk.add o147 (by decide +kernel)
def a149 : Ment := ⟨2, 62, [.int 1, .int 4], .tup [.int 1, .int 4]⟩
def M149 : List Ment := a149 :: M148
theorem o149 : MOk T 100000 M149 := MOk.add o148 (by decide +kernel)
def a150 : Ment := ⟨2, 62, [.int 2, .int 3], .tup [.int 2, .int 3]⟩
def M150 : List Ment := a150 :: M149
theorem o150 : MOk T 100000 M150 := MOk.add o149 (by decide +kernel)
def a151 : Ment := ⟨2, 62, [.int 6, .int 6], .tup [.int 1, .int 1]⟩
def M151 : List Ment := a151 :: M150
theorem o151 : MOk T 100000 M151 := MOk.add o150 (by decide +kernel)
def a152 : Ment := ⟨2, 89, [.tup [.int 1, .tup [.tup [.int 0, .int 0, .int 1, .int 1, .int 1]]], .lst [.int 1]], .tup [.lst [.int 1], .tup [.int 1]]⟩
def M152 : List Ment := a152 :: M151
theorem o152 : MOk T 100000 M152 := MOk.add o151 (by decide +kernel)
def a153 : Ment := ⟨2, 89, [.tup [.int 1, .tup []], .lst [.int 1]], .tup [.lst [.int 1], .tup []]⟩
def M153 : List Ment := a153 :: M152
theorem o153 : MOk T 100000 M153 := MOk.add o152 (by decide +kernel)
def a154 : Ment := ⟨2, 89, [.tup [.int 2, .tup [.tup [.int 0, .int 1, .int 1, .int 1, .int 0], .tup [.int 1, .int 0, .int 1, .int 1, .int 1]]], .lst [.int 1, .int 1]], .tup [.lst [.int 1, .int 1], .tup [.int 0, .int 1]]⟩
def M154 : List Ment := a154 :: M153
theorem o154 : MOk T 100000 M154 := MOk.add o153 (by decide +kernel)
def a155 : Ment := ⟨2, 89, [.tup [.int 2, .tup [.tup [.int 0, .int 1, .int 2, .int 3, .int 1], .tup [.int 1, .int 0, .int 3, .int 2, .int 4]]], .lst [.int 3, .int 2]], .tup [.lst [.int 3, .int 2], .tup [.int 1, .int 4]]⟩
def M155 : List Ment := a155 :: M154
theorem o155 : MOk T 100000 M155 := MOk.add o154 (by decide +kernel)
def a156 : Ment := ⟨2, 89, [.tup [.int 2, .tup [.tup [.int 0, .int 1, .int 2, .int 3, .int 1]]], .lst [.int 3, .int 2]], .tup [.lst [.int 3, .int 2], .tup [.int 1]]⟩
def M156 : List Ment := a156 :: M155
theorem o156 : MOk T 100000 M156 := MOk.add o155 (by decide +kernel)
def a157 : Ment := ⟨2, 89, [.tup [.int 3, .tup [.tup [.int 0, .int 1, .int 1, .int 2, .int 0], .tup [.int 1, .int 2, .int 1, .int 2, .int 0]]], .lst [.int 4, .int 2, .int 1]], .tup [.lst [.int 4, .int 2, .int 1], .tup [.int 0, .int 0]]⟩
def M157 : List Ment := a157 :: M156
theorem o157 : MOk T 100000 M157 := MOk.add o156 (by decide +kernel)
def a158 : Ment := ⟨2, 89, [.tup [.int 3, .tup [.tup [.int 0, .int 2, .int 1, .int 1, .int 0]]], .lst [.int 1, .int 1, .int 1]], .tup [.lst [.int 1, .int 1, .int 1], .tup [.int 0]]⟩
def M158 : List Ment := a158 :: M157
theorem o158 : MOk T 100000 M158 := MOk.add o157 (by decide +kernel)
def a159 : Ment := ⟨2, 164, [.tup [.int 0, .int 0], .int 8], .int 2⟩
def M159 : List Ment := a159 :: M158
theorem o159 : MOk T 100000 M159 := MOk.add o158 (by decide +kernel)
def a160 : Ment := ⟨2, 164, [.tup [.int 0, .int 1, .int 0, .int 0, .int 1], .int 8], .int 5⟩
def M160 : List Ment := a160 :: M159
theorem o160 : MOk T 100000 M160 := MOk.add o159 (by decide +kernel)
def a161 : Ment := ⟨2, 164, [.tup [.int 0, .int 1], .int 7], .int 2⟩
def M161 : List Ment := a161 :: M160
theorem o161 : MOk T 100000 M161 := MOk.add o160 (by decide +kernel)
def a162 : Ment := ⟨2, 164, [.tup [.int 0, .int 1], .int 8], .int 2⟩
def M162 : List Ment := a162 :: M161
theorem o162 : MOk T 100000 M162 := MOk.add o161 (by decide +kernel)
def a163 : Ment := ⟨2, 164, [.tup [.int 0], .int 6], .int 1⟩
def M163 : List Ment := a163 :: M162
theorem o163 : MOk T 100000 M163 := MOk.add o162 (by decide +kernel)
def a164 : Ment := ⟨2, 164, [.tup [.int 0], .int 7], .int 1⟩
def M164 : List Ment := a164 :: M163
theorem o164 : MOk T 100000 M164 := MOk.add o163 (by decide +kernel)
def a165 : Ment := ⟨2, 164, [.tup [.int 1, .int 0, .int 0, .int 0, .int 1], .int 8], .int 5⟩
def M165 : List Ment := a165 :: M164
theorem o165 : MOk T 100000 M165 := MOk.add o164 (by decide +kernel)
def a166 : Ment := ⟨2, 164, [.tup [.int 1, .int 0], .int 8], .int 2⟩
def M166 : List Ment := a166 :: M165
theorem o166 : MOk T 100000 M166 := MOk.add o165 (by decide +kernel)
def a167 : Ment := ⟨2, 164, [.tup [.int 1], .int 7], .int 1⟩
def M167 : List Ment := a167 :: M166
theorem o167 : MOk T 100000 M167 := MOk.add o166 (by decide +kernel)
def a168 : Ment := ⟨2, 164, [.tup [.int 2], .int 6], .int 1⟩
def M168 : List Ment := a168 :: M167
theorem o168 : MOk T 100000 M168 := MOk.add o167 (by decide +kernel)
def a169 : Ment := ⟨2, 166, [.tup [.int 1, .tup [.int 2, .tup [.int 2]]]], .tup [.int 1, .int 2, .int 2]⟩
def M169 : List Ment := a169 :: M168
theorem o169 : MOk T 100000 M169 := MOk.add o168 (by decide +kernel)
def a170 : Ment := ⟨2, 166, [.tup [.tup [.int 2, .tup [.int 0, .int 1]]]], .tup [.int 0, .int 1, .int 0, .int 1]⟩
def M170 : List Ment := a170 :: M169
theorem o170 : MOk T 100000 M170 := MOk.add o169 (by decide +kernel)
def a171 : Ment := ⟨2, 166, [.tup [.tup [.int 2, .tup [.int 0]], .int 1]], .tup [.int 0, .int 0, .int 1]⟩
def M171 : List Ment := a171 :: M170
theorem o171 : MOk T 100000 M171 := MOk.add o170 (by decide +kernel)
def a172 : Ment := ⟨2, 166, [.tup [.tup [.int 3, .tup [.int 0]], .tup [.int 2, .tup [.int 1]]]], .tup [.int 0, .int 0, .int 0, .int 1, .int 1]⟩
def M172 : List Ment := a172 :: M171
theorem o172 : MOk T 100000 M172 := MOk.add o171 (by decide +kernel)
def a173 : Ment := ⟨2, 166, [.tup [.tup [.int 4, .tup [.int 0]], .tup [.int 2, .tup [.int 1]], .int 2]], .tup [.int 0, .int 0, .int 0, .int 0, .int 1, .int 1, .int 2]⟩
def M173 : List Ment := a173 :: M172
theorem o173 : MOk T 100000 M173 := MOk.add o172 (by decide +kernel)
def a174 : Ment := ⟨2, 168, [.tup [.int 1, .tup [.int 2, .tup [.int 2]]]], .tup [.int 1, .int 2]⟩
def M174 : List Ment := a174 :: M173
theorem o174 : MOk T 100000 M174 := MOk.add o173 (by decide +kernel)
def a175 : Ment := ⟨2, 168, [.tup [.tup [.int 2, .tup [.int 0, .int 1]]]], .tup [.int 0, .int 1]⟩
def M175 : List Ment := a175 :: M174
theorem o175 : MOk T 100000 M175 := MOk.add o174 (by decide +kernel)
def a176 : Ment := ⟨2, 168, [.tup [.tup [.int 2, .tup [.int 0]], .int 1]], .tup [.int 0, .int 1]⟩
def M176 : List Ment := a176 :: M175
theorem o176 : MOk T 100000 M176 := MOk.add o175 (by decide +kernel)
def a177 : Ment := ⟨2, 168, [.tup [.tup [.int 4, .tup [.int 0]], .tup [.int 2, .tup [.int 1]], .int 2]], .tup [.int 0, .int 1, .int 2]⟩
def M177 : List Ment := a177 :: M176
theorem o177 : MOk T 100000 M177 := MOk.add o176 (by decide +kernel)
def a178 : Ment := ⟨2, 170, [.tup [.int 1, .tup [.int 2, .tup [.int 2]]]], .int 1⟩
def M178 : List Ment := a178 :: M177
theorem o178 : MOk T 100000 M178 := MOk.add o177 (by decide +kernel)
def a179 : Ment := ⟨2, 185, [.tup [.int 1, .tup [.int 2, .tup [.int 2]]]], .str [49, 32, 40, 50, 32, 50, 41]⟩
def M179 : List Ment := a179 :: M178
theorem o179 : MOk T 100000 M179 := MOk.add o178 (by decide +kernel)
def a180 : Ment := ⟨2, 203, [.lst [.int 1, .int 1, .int 1], .tup [.int 0, .int 1, .int 2]], .int 1⟩
def M180 : List Ment := a180 :: M179
theorem o180 : MOk T 100000 M180 := MOk.add o179 (by decide +kernel)
def a181 : Ment := ⟨2, 203, [.lst [.int 1, .int 1, .int 1], .tup [.int 0, .int 1]], .int 1⟩
def M181 : List Ment := a181 :: M180
theorem o181 : MOk T 100000 M181 := MOk.add o180 (by decide +kernel)
def a182 : Ment := ⟨2, 203, [.lst [.int 1, .int 1, .int 1], .tup [.int 0]], .int 1⟩
def M182 : List Ment := a182 :: M181
theorem o182 : MOk T 100000 M182 := MOk.add o181 (by decide +kernel)
def a183 : Ment := ⟨2, 203, [.lst [.int 1, .int 1, .int 1], .tup [.int 1, .int 2]], .int 1⟩
def M183 : List Ment := a183 :: M182
theorem o183 : MOk T 100000 M183 := MOk.add o182 (by decide +kernel)
def a184 : Ment := ⟨2, 203, [.lst [.int 1, .int 1, .int 1], .tup [.int 1]], .int 1⟩
def M184 : List Ment := a184 :: M183
theorem o184 : MOk T 100000 M184 := MOk.add o183 (by decide +kernel)
def a185 : Ment := ⟨2, 203, [.lst [.int 1, .int 1, .int 1], .tup [.int 2]], .int 1⟩
def M185 : List Ment := a185 :: M184
theorem o185 : MOk T 100000 M185 := MOk.add o184 (by decide +kernel)
def a186 : Ment := ⟨2, 203, [.lst [.int 1, .int 1], .lst [.int 0, .int 1]], .int 1⟩
def M186 : List Ment := a186 :: M185
theorem o186 : MOk T 100000 M186 := MOk.add o185 (by decide +kernel)
def a187 : Ment := ⟨2, 203, [.lst [.int 1, .int 1], .lst [.int 0]], .int 1⟩
def M187 : List Ment := a187 :: M186
theorem o187 : MOk T 100000 M187 := MOk.add o186 (by decide +kernel)
def a188 : Ment := ⟨2, 203, [.lst [.int 1, .int 1], .lst [.int 1]], .int 1⟩
def M188 : List Ment := a188 :: M187
theorem o188 : MOk T 100000 M188 := MOk.add o187 (by decide +kernel)
def a189 : Ment := ⟨2, 203, [.lst [.int 1], .tup [.int 0]], .int 1⟩
def M189 : List Ment := a189 :: M188
theorem o189 : MOk T 100000 M189 := MOk.add o188 (by decide +kernel)
def a190 : Ment := ⟨2, 203, [.lst [.int 3, .int 2], .lst [.int 0, .int 1]], .int 1⟩
def M190 : List Ment := a190 :: M189
theorem o190 : MOk T 100000 M190 := MOk.add o189 (by decide +kernel)
def a191 : Ment := ⟨2, 203, [.lst [.int 3, .int 2], .lst [.int 0]], .int 3⟩
def M191 : List Ment := a191 :: M190
theorem o191 : MOk T 100000 M191 := MOk.add o190 (by decide +kernel)
def a192 : Ment := ⟨2, 203, [.lst [.int 3, .int 2], .lst [.int 1]], .int 2⟩
def M192 : List Ment := a192 :: M191
theorem o192 : MOk T 100000 M192 := MOk.add o191 (by decide +kernel)
def a193 : Ment := ⟨2, 203, [.lst [.int 4, .int 2, .int 1], .lst [.int 0, .int 1, .int 2]], .int 1⟩
def M193 : List Ment := a193 :: M192
theorem o193 : MOk T 100000 M193 := MOk.add o192 (by decide +kernel)
def a194 : Ment := ⟨2, 203, [.lst [.int 4, .int 2, .int 1], .lst [.int 0]], .int 4⟩
def M194 : List Ment := a194 :: M193
theorem o194 : MOk T 100000 M194 := MOk.add o193 (by decide +kernel)
def a195 : Ment := ⟨2, 203, [.lst [.int 4, .int 2, .int 1], .lst [.int 1]], .int 2⟩
def M195 : List Ment := a195 :: M194
theorem o195 : MOk T 100000 M195 := MOk.add o194 (by decide +kernel)
def a196 : Ment := ⟨2, 203, [.lst [.int 4, .int 2, .int 1], .lst [.int 2]], .int 1⟩
def M196 : List Ment := a196 :: M195
theorem o196 : MOk T 100000 M196 := MOk.add o195 (by decide +kernel)
def a197 : Ment := ⟨2, 203, [.lst [.int 4, .int 2, .int 1], .tup [.int 0, .int 1, .int 2]], .int 1⟩
def M197 : List Ment := a197 :: M196
theorem o197 : MOk T 100000 M197 := MOk.add o196 (by decide +kernel)
def a198 : Ment := ⟨2, 203, [.lst [.int 4, .int 2, .int 1], .tup [.int 0, .int 1]], .int 2⟩
def M198 : List Ment := a198 :: M197
theorem o198 : MOk T 100000 M198 := MOk.add o197 (by decide +kernel)
def a199 : Ment := ⟨2, 203, [.lst [.int 4, .int 2, .int 1], .tup [.int 0]], .int 4⟩
def M199 : List Ment := a199 :: M198
theorem o199 : MOk T 100000 M199 := MOk.add o198 (by decide +kernel)
def a200 : Ment := ⟨2, 203, [.lst [.int 4, .int 2, .int 1], .tup [.int 1, .int 2]], .int 1⟩
def M200 : List Ment := a200 :: M199
theorem o200 : MOk T 100000 M200 := MOk.add o199 (by decide +kernel)
def a201 : Ment := ⟨2, 203, [.lst [.int 4, .int 2, .int 1], .tup [.int 1]], .int 2⟩
def M201 : List Ment := a201 :: M200
theorem o201 : MOk T 100000 M201 := MOk.add o200 (by decide +kernel)
def a202 : Ment := ⟨2, 203, [.lst [.int 4, .int 2, .int 1], .tup [.int 2]], .int 1⟩
def M202 : List Ment := a202 :: M201
theorem o202 : MOk T 100000 M202 := MOk.add o201 (by decide +kernel)
def a203 : Ment := ⟨2, 206, [.lst [.int 0, .int 1, .int 2], .lst [.tup [.int 0, .int 1], .tup [.int 1, .int 2]]], .lst [.lst [.int 0], .lst [.int 1], .lst [.int 2]]⟩
def M203 : List Ment := a203 :: M202
theorem o203 : MOk T 100000 M203 := MOk.add o202 (by decide +kernel)
def a204 : Ment := ⟨2, 206, [.lst [.int 0, .int 1], .lst [.tup [.int 0, .int 1], .tup [.int 1, .int 0]]], .lst [.lst [.int 0, .int 1]]⟩
def M204 : List Ment := a204 :: M203
theorem o204 : MOk T 100000 M204 := MOk.add o203 (by decide +kernel)
def a205 : Ment := ⟨2, 206, [.lst [.int 0, .int 1], .lst [.tup [.int 0, .int 1]]], .lst [.lst [.int 0], .lst [.int 1]]⟩
def M205 : List Ment := a205 :: M204
theorem o205 : MOk T 100000 M205 := MOk.add o204 (by decide +kernel)
def a206 : Ment := ⟨2, 522, [.tup [.int 1, .tup []]], .non⟩
def M206 : List Ment := a206 :: M205
theorem o206 : MOk T 100000 M206 := MOk.add o205 (by decide +kernel)
def a207 : Ment := ⟨2, 610, [.tup []], .non⟩
def M207 : List Ment := a207 :: M206
theorem o207 : MOk T 100000 M207 := MOk.add o206 (by decide +kernel)
def a208 : Ment := ⟨2, 619, [.tup [.int 0, .int 0, .int 0]], .non⟩
def M208 : List Ment := a208 :: M207
theorem o208 : MOk T 100000 M208 := MOk.add o207 (by decide +kernel)
def a209 : Ment := ⟨2, 619, [.tup [.int 0, .int 0, .int 1, .int 0, .int 0, .int 1]], .non⟩
def M209 : List Ment := a209 :: M208
theorem o209 : MOk T 100000 M209 := MOk.add o208 (by decide +kernel)
def a210 : Ment := ⟨2, 619, [.tup [.int 0, .int 0]], .non⟩
def M210 : List Ment := a210 :: M209
theorem o210 : MOk T 100000 M210 := MOk.add o209 (by decide +kernel)
def a211 : Ment := ⟨2, 619, [.tup [.int 0, .int 1, .int 0, .int 1, .int 0]], .non⟩
def M211 : List Ment := a211 :: M210
theorem o211 : MOk T 100000 M211 := MOk.add o210 (by decide +kernel)
def a212 : Ment := ⟨2, 619, [.tup [.int 0, .int 1, .int 0, .int 1]], .non⟩
def M212 : List Ment := a212 :: M211
theorem o212 : MOk T 100000 M212 := MOk.add o211 (by decide +kernel)
def a213 : Ment := ⟨2, 628, [.tup []], .int 0⟩
def M213 : List Ment := a213 :: M212
theorem o213 : MOk T 100000 M213 := MOk.add o212 (by decide +kernel)
def a214 : Ment := ⟨2, 640, [.tup [.int 1, .tup []], .tup [.int 0]], .non⟩
def M214 : List Ment := a214 :: M213
theorem o214 : MOk T 100000 M214 := MOk.add o213 (by decide +kernel)
def a215 : Ment := ⟨2, 640, [.tup [.int 3, .tup [.tup [.int 0, .int 1, .int 1, .int 2, .int 0], .tup [.int 1, .int 2, .int 1, .int 2, .int 0]]], .tup [.int 0, .int 1, .int 2]], .non⟩
def M215 : List Ment := a215 :: M214
theorem o215 : MOk T 100000 M215 := MOk.add o214 (by decide +kernel)
def a216 : Ment := ⟨2, 640, [.tup [.int 3, .tup [.tup [.int 0, .int 2, .int 1, .int 1, .int 0]]], .tup [.int 0, .int 1, .int 2]], .non⟩
def M216 : List Ment := a216 :: M215
theorem o216 : MOk T 100000 M216 := MOk.add o215 (by decide +kernel)
def a217 : Ment := ⟨3, 55, [.tup [.int 2, .tup [.tup [.int 0, .int 1, .int 2, .int 3, .int 1]]], .tup [.int 0, .int 0, .int 0, .int 1, .int 1]], .lst [.int 7]⟩
def M217 : List Ment := a217 :: M216
theorem o217 : MOk T 100000 M217 := MOk.add o216 (by decide +kernel)
def a218 : Ment := ⟨3, 55, [.tup [.int 2, .tup [.tup [.int 0, .int 1, .int 2, .int 3, .int 1]]], .tup [.int 0, .int 1, .int 0, .int 0, .int 1]], .lst [.int 4]⟩
def M218 : List Ment := a218 :: M217
theorem o218 : MOk T 100000 M218 := MOk.add o217 (by decide +kernel)
def a219 : Ment := ⟨3, 63, [.tup [.int 1, .int 1], .tup [.int 1, .int 1]], .tup [.int 1, .int 1]⟩
def M219 : List Ment := a219 :: M218
theorem o219 : MOk T 100000 M219 := MOk.add o218 (by decide +kernel)
def a220 : Ment := ⟨3, 63, [.tup [.int 1, .int 1], .tup [.int 1, .int 2]], .tup [.int 1, .int 2]⟩
def M220 : List Ment := a220 :: M219
theorem o220 : MOk T 100000 M220 := MOk.add o219 (by decide +kernel)
def a221 : Ment := ⟨3, 63, [.tup [.int 1, .int 1], .tup [.int 2, .int 3]], .tup [.int 2, .int 3]⟩
def M221 : List Ment := a221 :: M220
theorem o221 : MOk T 100000 M221 := MOk.add o220 (by decide +kernel)
def a222 : Ment := ⟨3, 63, [.tup [.int 1, .int 2], .tup [.int 1, .int 2]], .tup [.int 1, .int 4]⟩
def M222 : List Ment := a222 :: M221
theorem o222 : MOk T 100000 M222 := MOk.add o221 (by decide +kernel)
def a223 : Ment := ⟨3, 63, [.tup [.int 2, .int 3], .tup [.int 3, .int 2]], .tup [.int 1, .int 1]⟩
def M223 : List Ment := a223 :: M222
theorem o223 : MOk T 100000 M223 := MOk.add o222 (by decide +kernel)
def a224 : Ment := ⟨3, 91, [.tup [.int 1, .tup [.tup [.int 0, .int 0, .int 1, .int 1, .int 1]]], .lst [.int 1]], .bl true⟩
def M224 : List Ment := a224 :: M223
theorem o224 : MOk T 100000 M224 := MOk.add o223 (by decide +kernel)
def a225 : Ment := ⟨3, 91, [.tup [.int 1, .tup []], .lst [.int 1]], .bl true⟩
def M225 : List Ment := a225 :: M224
theorem o225 : MOk T 100000 M225 := MOk.add o224 (by decide +kernel)
def a226 : Ment := ⟨3, 91, [.tup [.int 2, .tup [.tup [.int 0, .int 1, .int 1, .int 1, .int 0], .tup [.int 1, .int 0, .int 1, .int 1, .int 1]]], .lst [.int 1, .int 1]], .bl true⟩
def M226 : List Ment := a226 :: M225
theorem o226 : MOk T 100000 M226 := MOk.add o225 (by decide +kernel)
def a227 : Ment := ⟨3, 91, [.tup [.int 2, .tup [.tup [.int 0, .int 1, .int 2, .int 3, .int 1], .tup [.int 1, .int 0, .int 3, .int 2, .int 4]]], .lst [.int 3, .int 2]], .bl true⟩
def M227 : List Ment := a227 :: M226
theorem o227 : MOk T 100000 M227 := MOk.add o226 (by decide +kernel)
def a228 : Ment := ⟨3, 91, [.tup [.int 2, .tup [.tup [.int 0, .int 1, .int 2, .int 3, .int 1]]], .lst [.int 3, .int 2]], .bl true⟩
def M228 : List Ment := a228 :: M227
theorem o228 : MOk T 100000 M228 := MOk.add o227 (by decide +kernel)
def a229 : Ment := ⟨3, 91, [.tup [.int 3, .tup [.tup [.int 0, .int 1, .int 1, .int 2, .int 0], .tup [.int 1, .int 2, .int 1, .int 2, .int 0]]], .lst [.int 4, .int 2, .int 1]], .bl true⟩
def M229 : List Ment := a229 :: M228
theorem o229 : MOk T 100000 M229 := MOk.add o228 (by decide +kernel)
def a230 : Ment := ⟨3, 91, [.tup [.int 3, .tup [.tup [.int 0, .int 2, .int 1, .int 1, .int 0]]], .lst [.int 1, .int 1, .int 1]], .bl true⟩
def M230 : List Ment := a230 :: M229
theorem o230 : MOk T 100000 M230 := MOk.add o229 (by decide +kernel)
def a231 : Ment := ⟨3, 164, [.tup [.int 1, .tup [.int 2, .tup [.int 2]]], .int 7], .int 3⟩
def M231 : List Ment := a231 :: M230
theorem o231 : MOk T 100000 M231 := MOk.add o230 (by decide +kernel)
def a232 : Ment := ⟨3, 164, [.tup [.tup [.int 2, .tup [.int 0, .int 1]]], .int 8], .int 4⟩
def M232 : List Ment := a232 :: M231
theorem o232 : MOk T 100000 M232 := MOk.add o231 (by decide +kernel)
def a233 : Ment := ⟨3, 164, [.tup [.tup [.int 2, .tup [.int 0]], .int 1], .int 7], .int 3⟩
def M233 : List Ment := a233 :: M232
theorem o233 : MOk T 100000 M233 := MOk.add o232 (by decide +kernel)
def a234 : Ment := ⟨3, 164, [.tup [.tup [.int 3, .tup [.int 0]], .tup [.int 2, .tup [.int 1]]], .int 8], .int 5⟩
def M234 : List Ment := a234 :: M233
theorem o234 : MOk T 100000 M234 := MOk.add o233 (by decide +kernel)
def a235 : Ment := ⟨3, 164, [.tup [.tup [.int 4, .tup [.int 0]], .tup [.int 2, .tup [.int 1]], .int 2], .int 8], .int 7⟩
def M235 : List Ment := a235 :: M234
theorem o235 : MOk T 100000 M235 := MOk.add o234 (by decide +kernel)
def a236 : Ment := ⟨3, 166, [.tup [.int 0, .tup [.int 3, .tup [.int 1, .tup [.int 2, .tup [.int 2]]]]]], .tup [.int 0, .int 1, .int 2, .int 2, .int 1, .int 2, .int 2, .int 1, .int 2, .int 2]⟩
def M236 : List Ment := a236 :: M235
theorem o236 : MOk T 100000 M236 := MOk.add o235 (by decide +kernel)
def a237 : Ment := ⟨3, 166, [.tup [.tup [.int 2, .tup [.tup [.int 2, .tup [.int 0]], .int 1]], .int 2]], .tup [.int 0, .int 0, .int 1, .int 0, .int 0, .int 1, .int 2]⟩
def M237 : List Ment := a237 :: M236
theorem o237 : MOk T 100000 M237 := MOk.add o236 (by decide +kernel)
def a238 : Ment := ⟨3, 168, [.tup [.int 0, .tup [.int 3, .tup [.int 1, .tup [.int 2, .tup [.int 2]]]]]], .tup [.int 0, .int 1, .int 2]⟩
def M238 : List Ment := a238 :: M237
theorem o238 : MOk T 100000 M238 := MOk.add o237 (by decide +kernel)
def a239 : Ment := ⟨3, 168, [.tup [.tup [.int 2, .tup [.tup [.int 2, .tup [.int 0]], .int 1]], .int 2]], .tup [.int 0, .int 1, .int 2]⟩
def M239 : List Ment := a239 :: M238
theorem o239 : MOk T 100000 M239 := MOk.add o238 (by decide +kernel)
def a240 : Ment := ⟨3, 170, [.tup [.int 0, .tup [.int 3, .tup [.int 1, .tup [.int 2, .tup [.int 2]]]]]], .int 2⟩
def M240 : List Ment := a240 :: M239
theorem o240 : MOk T 100000 M240 := MOk.add o239 (by decide +kernel)
def a241 : Ment := ⟨3, 185, [.tup [.int 0, .tup [.int 3, .tup [.int 1, .tup [.int 2, .tup [.int 2]]]]]], .str [48, 32, 40, 51, 32, 49, 32, 40, 50, 32, 50, 41, 41]⟩
def M241 : List Ment := a241 :: M240
theorem o241 : MOk T 100000 M241 := MOk.add o240 (by decide +kernel)
def a242 : Ment := ⟨3, 204, [.tup [.int 2, .tup [.tup [.int 0, .int 1, .int 1, .int 1, .int 0], .tup [.int 1, .int 0, .int 1, .int 1, .int 1]]], .lst [.int 1, .int 1], .lst [.int 0, .int 1]], .lst [.tup [.int 0, .int 1]]⟩
def M242 : List Ment := a242 :: M241
theorem o242 : MOk T 100000 M242 := MOk.add o241 (by decide +kernel)
def a243 : Ment := ⟨3, 204, [.tup [.int 2, .tup [.tup [.int 0, .int 1, .int 2, .int 3, .int 1], .tup [.int 1, .int 0, .int 3, .int 2, .int 4]]], .lst [.int 3, .int 2], .lst [.int 0, .int 1]], .lst [.tup [.int 0, .int 1], .tup [.int 1, .int 0]]⟩
def M243 : List Ment := a243 :: M242
theorem o243 : MOk T 100000 M243 := MOk.add o242 (by decide +kernel)
def a244 : Ment := ⟨3, 204, [.tup [.int 2, .tup [.tup [.int 0, .int 1, .int 2, .int 3, .int 1]]], .lst [.int 3, .int 2], .lst [.int 0, .int 1]], .lst [.tup [.int 0, .int 1]]⟩
def M244 : List Ment := a244 :: M243
theorem o244 : MOk T 100000 M244 := MOk.add o243 (by decide +kernel)
def a245 : Ment := ⟨3, 204, [.tup [.int 3, .tup [.tup [.int 0, .int 1, .int 1, .int 2, .int 0], .tup [.int 1, .int 2, .int 1, .int 2, .int 0]]], .lst [.int 4, .int 2, .int 1], .lst [.int 0, .int 1, .int 2]], .lst [.tup [.int 0, .int 1], .tup [.int 1, .int 2]]⟩
def M245 : List Ment := a245 :: M244
theorem o245 : MOk T 100000 M245 := MOk.add o244 (by decide +kernel)
def a246 : Ment := ⟨3, 221, [.tup [.int 3, .tup [.tup [.int 0, .int 1, .int 1, .int 2, .int 0], .tup [.int 1, .int 2, .int 1, .int 2, .int 0]]], .lst [.int 4, .int 2, .int 1], .tup [.int 0, .int 1, .int 2], .int 0, .int 1, .int 2], .int 2⟩
def M246 : List Ment := a246 :: M245
theorem o246 : MOk T 100000 M246 := MOk.add o245 (by decide +kernel)
def a247 : Ment := ⟨3, 221, [.tup [.int 3, .tup [.tup [.int 0, .int 1, .int 1, .int 2, .int 0], .tup [.int 1, .int 2, .int 1, .int 2, .int 0]]], .lst [.int 4, .int 2, .int 1], .tup [.int 0, .int 1, .int 2], .int 0, .int 1, .int 3], .int 4⟩
def M247 : List Ment := a247 :: M246
theorem o247 : MOk T 100000 M247 := MOk.add o246 (by decide +kernel)
def a248 : Ment := ⟨3, 221, [.tup [.int 3, .tup [.tup [.int 0, .int 1, .int 1, .int 2, .int 0], .tup [.int 1, .int 2, .int 1, .int 2, .int 0]]], .lst [.int 4, .int 2, .int 1], .tup [.int 0, .int 1, .int 2], .int 0, .int 2, .int 3], .int 2⟩
def M248 : List Ment := a248 :: M247
theorem o248 : MOk T 100000 M248 := MOk.add o247 (by decide +kernel)
def a249 : Ment := ⟨3, 221, [.tup [.int 3, .tup [.tup [.int 0, .int 1, .int 1, .int 2, .int 0], .tup [.int 1, .int 2, .int 1, .int 2, .int 0]]], .lst [.int 4, .int 2, .int 1], .tup [.int 0, .int 1, .int 2], .int 1, .int 2, .int 3], .int 2⟩
def M249 : List Ment := a249 :: M248
theorem o249 : MOk T 100000 M249 := MOk.add o248 (by decide +kernel)
def a250 : Ment := ⟨3, 221, [.tup [.int 3, .tup [.tup [.int 0, .int 2, .int 1, .int 1, .int 0]]], .lst [.int 1, .int 1, .int 1], .tup [.int 0, .int 1, .int 2], .int 0, .int 1, .int 2], .int 0⟩
def M250 : List Ment := a250 :: M249
theorem o250 : MOk T 100000 M250 := MOk.add o249 (by decide +kernel)
def a251 : Ment := ⟨3, 221, [.tup [.int 3, .tup [.tup [.int 0, .int 2, .int 1, .int 1, .int 0]]], .lst [.int 1, .int 1, .int 1], .tup [.int 0, .int 1, .int 2], .int 0, .int 1, .int 3], .int 1⟩
def M251 : List Ment := a251 :: M250
theorem o251 : MOk T 100000 M251 := MOk.add o250 (by decide +kernel)
def a252 : Ment := ⟨3, 221, [.tup [.int 3, .tup [.tup [.int 0, .int 2, .int 1, .int 1, .int 0]]], .lst [.int 1, .int 1, .int 1], .tup [.int 0, .int 1, .int 2], .int 0, .int 2, .int 3], .int 1⟩
def M252 : List Ment := a252 :: M251
theorem o252 : MOk T 100000 M252 := MOk.add o251 (by decide +kernel)
def a253 : Ment := ⟨3, 221, [.tup [.int 3, .tup [.tup [.int 0, .int 2, .int 1, .int 1, .int 0]]], .lst [.int 1, .int 1, .int 1], .tup [.int 0, .int 1, .int 2], .int 1, .int 2, .int 3], .int 0⟩
def M253 : List Ment := a253 :: M252
theorem o253 : MOk T 100000 M253 := MOk.add o252 (by decide +kernel)
def a254 : Ment := ⟨3, 522, [.tup [.int 1, .tup [.tup [.int 0, .int 0, .int 1, .int 1, .int 1]]]], .non⟩
def M254 : List Ment := a254 :: M253
theorem o254 : MOk T 100000 M254 := MOk.add o253 (by decide +kernel)
def a255 : Ment := ⟨3, 522, [.tup [.int 2, .tup [.tup [.int 0, .int 1, .int 1, .int 1, .int 0], .tup [.int 1, .int 0, .int 1, .int 1, .int 1]]]], .non⟩
def M255 : List Ment := a255 :: M254
theorem o255 : MOk T 100000 M255 := MOk.add o254 (by decide +kernel)
def a256 : Ment := ⟨3, 522, [.tup [.int 2, .tup [.tup [.int 0, .int 1, .int 2, .int 3, .int 1], .tup [.int 1, .int 0, .int 3, .int 2, .int 4]]]], .non⟩
def M256 : List Ment := a256 :: M255
theorem o256 : MOk T 100000 M256 := MOk.add o255 (by decide +kernel)
def a257 : Ment := ⟨3, 522, [.tup [.int 2, .tup [.tup [.int 0, .int 1, .int 2, .int 3, .int 1]]]], .non⟩
def M257 : List Ment := a257 :: M256
theorem o257 : MOk T 100000 M257 := MOk.add o256 (by decide +kernel)
def a258 : Ment := ⟨3, 522, [.tup [.int 3, .tup [.tup [.int 0, .int 1, .int 1, .int 2, .int 0], .tup [.int 1, .int 2, .int 1, .int 2, .int 0]]]], .non⟩
def M258 : List Ment := a258 :: M257
theorem o258 : MOk T 100000 M258 := MOk.add o257 (by decide +kernel)
def a259 : Ment := ⟨3, 522, [.tup [.int 3, .tup [.tup [.int 0, .int 2, .int 1, .int 1, .int 0]]]], .non⟩
def M259 : List Ment := a259 :: M258
theorem o259 : MOk T 100000 M259 := MOk.add o258 (by decide +kernel)
def a260 : Ment := ⟨3, 610, [.tup [.int 0, .int 1, .int 0, .int 0, .int 1]], .non⟩
def M260 : List Ment := a260 :: M259
theorem o260 : MOk T 100000 M260 := MOk.add o259 (by decide +kernel)
def a261 : Ment := ⟨3, 610, [.tup [.int 0, .int 1]], .non⟩
def M261 : List Ment := a261 :: M260
theorem o261 : MOk T 100000 M261 := MOk.add o260 (by decide +kernel)
def a262 : Ment := ⟨3, 610, [.tup [.int 1, .int 0, .int 0, .int 0, .int 1]], .non⟩
def M262 : List Ment := a262 :: M261
theorem o262 : MOk T 100000 M262 := MOk.add o261 (by decide +kernel)
def a263 : Ment := ⟨3, 611, [.tup []], .tup []⟩
def M263 : List Ment := a263 :: M262
theorem o263 : MOk T 100000 M263 := MOk.add o262 (by decide +kernel)
def a264 : Ment := ⟨3, 613, [.tup []], .int 0⟩
def M264 : List Ment := a264 :: M263
theorem o264 : MOk T 100000 M264 := MOk.add o263 (by decide +kernel)
def a265 : Ment := ⟨4, 164, [.tup [.int 0, .tup [.int 3, .tup [.int 1, .tup [.int 2, .tup [.int 2]]]]], .int 8], .int 10⟩
def M265 : List Ment := a265 :: M264
theorem o265 : MOk T 100000 M265 := MOk.add o264 (by decide +kernel)
def a266 : Ment := ⟨4, 164, [.tup [.tup [.int 2, .tup [.tup [.int 2, .tup [.int 0]], .int 1]], .int 2], .int 8], .int 7⟩
def M266 : List Ment := a266 :: M265
theorem o266 : MOk T 100000 M266 := MOk.add o265 (by decide +kernel)
def a267 : Ment := ⟨4, 207, [.tup [.int 2, .tup [.tup [.int 0, .int 1, .int 1, .int 1, .int 0], .tup [.int 1, .int 0, .int 1, .int 1, .int 1]]], .lst [.int 1, .int 1], .lst [.int 0, .int 1]], .tup [.int 0, .int 1]⟩
def M267 : List Ment := a267 :: M266
theorem o267 : MOk T 100000 M267 := MOk.add o266 (by decide +kernel)
def a268 : Ment := ⟨4, 207, [.tup [.int 2, .tup [.tup [.int 0, .int 1, .int 2, .int 3, .int 1], .tup [.int 1, .int 0, .int 3, .int 2, .int 4]]], .lst [.int 3, .int 2], .lst [.int 0, .int 1]], .non⟩
def M268 : List Ment := a268 :: M267
theorem o268 : MOk T 100000 M268 := MOk.add o267 (by decide +kernel)
def a269 : Ment := ⟨4, 207, [.tup [.int 2, .tup [.tup [.int 0, .int 1, .int 2, .int 3, .int 1]]], .lst [.int 3, .int 2], .lst [.int 0, .int 1]], .tup [.tup [.int 3, .tup [.int 0]], .tup [.int 2, .tup [.int 1]]]⟩
def M269 : List Ment := a269 :: M268
theorem o269 : MOk T 100000 M269 := MOk.add o268 (by decide +kernel)
def a270 : Ment := ⟨4, 207, [.tup [.int 3, .tup [.tup [.int 0, .int 1, .int 1, .int 2, .int 0], .tup [.int 1, .int 2, .int 1, .int 2, .int 0]]], .lst [.int 4, .int 2, .int 1], .lst [.int 0, .int 1, .int 2]], .tup [.tup [.int 4, .tup [.int 0]], .tup [.int 2, .tup [.int 1]], .int 2]⟩
def M270 : List Ment := a270 :: M269
theorem o270 : MOk T 100000 M270 := MOk.add o269 (by decide +kernel)
def a271 : Ment := ⟨4, 549, [.tup [.int 1, .tup []]], .lst [.int 1]⟩
def M271 : List Ment := a271 :: M270
theorem o271 : MOk T 100000 M271 := MOk.add o270 (by decide +kernel)
def a272 : Ment := ⟨4, 610, [.tup [.tup [.int 3, .tup [.int 0]], .tup [.int 2, .tup [.int 1]]]], .non⟩
def M272 : List Ment := a272 :: M271
theorem o272 : MOk T 100000 M272 := MOk.add o271 (by decide +kernel)
def a273 : Ment := ⟨4, 620, [.tup [.int 0, .int 0, .int 0]], .tup [.tup [.int 3, .tup [.int 0]]]⟩
def M273 : List Ment := a273 :: M272
theorem o273 : MOk T 100000 M273 := MOk.add o272 (by decide +kernel)
def a274 : Ment := ⟨4, 628, [.tup [.int 0, .int 1, .int 0, .int 1, .int 0]], .int 3⟩
def M274 : List Ment := a274 :: M273
theorem o274 : MOk T 100000 M274 := MOk.add o273 (by decide +kernel)
def a275 : Ment := ⟨4, 629, [.tup [.int 0, .int 0], .tup [.int 0, .int 0]], .bl false⟩
def M275 : List Ment := a275 :: M274
theorem o275 : MOk T 100000 M275 := MOk.add o274 (by decide +kernel)
def a276 : Ment := ⟨4, 629, [.tup [.int 0, .int 1, .int 0, .int 1], .tup [.tup [.int 2, .tup [.int 0, .int 1]]]], .bl true⟩
def M276 : List Ment := a276 :: M275
theorem o276 : MOk T 100000 M276 := MOk.add o275 (by decide +kernel)
def a277 : Ment := ⟨4, 638, [.tup [.int 2, .tup [.tup [.int 0, .int 1, .int 1, .int 1, .int 0], .tup [.int 1, .int 0, .int 1, .int 1, .int 1]]]], .lst []⟩
def M277 : List Ment := a277 :: M276
theorem o277 : MOk T 100000 M277 := MOk.add o276 (by decide +kernel)
def a278 : Ment := ⟨4, 638, [.tup [.int 3, .tup [.tup [.int 0, .int 1, .int 1, .int 2, .int 0], .tup [.int 1, .int 2, .int 1, .int 2, .int 0]]]], .lst [.tup [.int 0, .int 1, .int 2]]⟩
def M278 : List Ment := a278 :: M277
theorem o278 : MOk T 100000 M278 := MOk.add o277 (by decide +kernel)
def a279 : Ment := ⟨4, 638, [.tup [.int 3, .tup [.tup [.int 0, .int 2, .int 1, .int 1, .int 0]]]], .lst [.tup [.int 0, .int 1, .int 2], .tup [.int 0, .int 2, .int 1], .tup [.int 1, .int 0, .int 2]]⟩
def M279 : List Ment := a279 :: M278
theorem o279 : MOk T 100000 M279 := MOk.add o278 (by decide +kernel)
def a280 : Ment := ⟨5, 549, [.tup [.int 1, .tup [.tup [.int 0, .int 0, .int 1, .int 1, .int 1]]]], .lst [.int 1]⟩
def M280 : List Ment := a280 :: M279
theorem o280 : MOk T 100000 M280 := MOk.add o279 (by decide +kernel)
def a281 : Ment := ⟨5, 549, [.tup [.int 2, .tup [.tup [.int 0, .int 1, .int 1, .int 1, .int 0], .tup [.int 1, .int 0, .int 1, .int 1, .int 1]]]], .lst [.int 1, .int 1]⟩
def M281 : List Ment := a281 :: M280
theorem o281 : MOk T 100000 M281 := MOk.add o280 (by decide +kernel)
def a282 : Ment := ⟨5, 549, [.tup [.int 2, .tup [.tup [.int 0, .int 1, .int 2, .int 3, .int 1], .tup [.int 1, .int 0, .int 3, .int 2, .int 4]]]], .lst [.int 3, .int 2]⟩
def M282 : List Ment := a282 :: M281
theorem o282 : MOk T 100000 M282 := MOk.add o281 (by decide +kernel)
def a283 : Ment := ⟨5, 549, [.tup [.int 2, .tup [.tup [.int 0, .int 1, .int 2, .int 3, .int 1]]]], .lst [.int 3, .int 2]⟩
def M283 : List Ment := a283 :: M282
theorem o283 : MOk T 100000 M283 := MOk.add o282 (by decide +kernel)
def a284 : Ment := ⟨5, 549, [.tup [.int 3, .tup [.tup [.int 0, .int 1, .int 1, .int 2, .int 0], .tup [.int 1, .int 2, .int 1, .int 2, .int 0]]]], .lst [.int 4, .int 2, .int 1]⟩
def M284 : List Ment := a284 :: M283
theorem o284 : MOk T 100000 M284 := MOk.add o283 (by decide +kernel)
def a285 : Ment := ⟨5, 549, [.tup [.int 3, .tup [.tup [.int 0, .int 2, .int 1, .int 1, .int 0]]]], .lst [.int 1, .int 1, .int 1]⟩
def M285 : List Ment := a285 :: M284
theorem o285 : MOk T 100000 M285 := MOk.add o284 (by decide +kernel)
def a286 : Ment := ⟨5, 563, [.tup [.int 1, .tup []]], .lst [.int 1]⟩
def M286 : List Ment := a286 :: M285
theorem o286 : MOk T 100000 M286 := MOk.add o285 (by decide +kernel)
def a287 : Ment := ⟨5, 610, [.tup [.int 0, .tup [.int 3, .tup [.int 1, .tup [.int 2, .tup [.int 2]]]]]], .non⟩
def M287 : List Ment := a287 :: M286
theorem o287 : MOk T 100000 M287 := MOk.add o286 (by decide +kernel)
def a288 : Ment := ⟨5, 628, [.tup [.int 0, .int 0, .int 1, .int 0, .int 0, .int 1]], .int 2⟩
def M288 : List Ment := a288 :: M287
theorem o288 : MOk T 100000 M288 := MOk.add o287 (by decide +kernel)
def a289 : Ment := ⟨6, 563, [.tup [.int 1, .tup [.tup [.int 0, .int 0, .int 1, .int 1, .int 1]]]], .lst [.int 1]⟩
def M289 : List Ment := a289 :: M288
theorem o289 : MOk T 100000 M289 := MOk.add o288 (by decide +kernel)
def a290 : Ment := ⟨6, 563, [.tup [.int 2, .tup [.tup [.int 0, .int 1, .int 1, .int 1, .int 0], .tup [.int 1, .int 0, .int 1, .int 1, .int 1]]]], .lst [.int 1, .int 1]⟩
def M290 : List Ment := a290 :: M289
theorem o290 : MOk T 100000 M290 := MOk.add o289 (by decide +kernel)
def a291 : Ment := ⟨6, 563, [.tup [.int 2, .tup [.tup [.int 0, .int 1, .int 2, .int 3, .int 1], .tup [.int 1, .int 0, .int 3, .int 2, .int 4]]]], .lst [.int 3, .int 2]⟩
def M291 : List Ment := a291 :: M290
theorem o291 : MOk T 100000 M291 := MOk.add o290 (by decide +kernel)
def a292 : Ment := ⟨6, 563, [.tup [.int 2, .tup [.tup [.int 0, .int 1, .int 2, .int 3, .int 1]]]], .lst [.int 3, .int 2]⟩
def M292 : List Ment := a292 :: M291
theorem o292 : MOk T 100000 M292 := MOk.add o291 (by decide +kernel)
def a293 : Ment := ⟨6, 563, [.tup [.int 3, .tup [.tup [.int 0, .int 1, .int 1, .int 2, .int 0], .tup [.int 1, .int 2, .int 1, .int 2, .int 0]]]], .lst [.int 4, .int 2, .int 1]⟩
def M293 : List Ment := a293 :: M292
theorem o293 : MOk T 100000 M293 := MOk.add o292 (by decide +kernel)
def a294 : Ment := ⟨6, 563, [.tup [.int 3, .tup [.tup [.int 0, .int 2, .int 1, .int 1, .int 0]]]], .lst [.int 1, .int 1, .int 1]⟩
def M294 : List Ment := a294 :: M293
theorem o294 : MOk T 100000 M294 := MOk.add o293 (by decide +kernel)
def a295 : Ment := ⟨6, 564, [.tup [.int 1, .tup []]], .bl true⟩
def M295 : List Ment := a295 :: M294
theorem o295 : MOk T 100000 M295 := MOk.add o294 (by decide +kernel)
def a296 : Ment := ⟨6, 611, [.tup [.int 0, .tup [.int 3, .tup [.int 1, .tup [.int 2, .tup [.int 2]]]]]], .tup [.int 0, .int 1, .int 2, .int 2, .int 1, .int 2, .int 2, .int 1, .int 2, .int 2]⟩
def M296 : List Ment := a296 :: M295
theorem o296 : MOk T 100000 M296 := MOk.add o295 (by decide +kernel)
def a297 : Ment := ⟨6, 612, [.tup [.int 0, .tup [.int 3, .tup [.int 1, .tup [.int 2, .tup [.int 2]]]]]], .tup [.int 0, .int 1, .int 2]⟩
def M297 : List Ment := a297 :: M296
theorem o297 : MOk T 100000 M297 := MOk.add o296 (by decide +kernel)
def a298 : Ment := ⟨6, 613, [.tup [.int 0, .tup [.int 3, .tup [.int 1, .tup [.int 2, .tup [.int 2]]]]]], .int 2⟩
def M298 : List Ment := a298 :: M297
theorem o298 : MOk T 100000 M298 := MOk.add o297 (by decide +kernel)
def a299 : Ment := ⟨6, 616, [.tup [.int 2, .tup [.tup [.int 0, .int 1, .int 1, .int 1, .int 0], .tup [.int 1, .int 0, .int 1, .int 1, .int 1]]], .tup [.int 1, .int 0]], .bl false⟩
def M299 : List Ment := a299 :: M298
theorem o299 : MOk T 100000 M299 := MOk.add o298 (by decide +kernel)
def a300 : Ment := ⟨6, 616, [.tup [.int 2, .tup [.tup [.int 0, .int 1, .int 2, .int 3, .int 1]]], .tup [.int 0, .int 0, .int 0, .int 1, .int 1]], .bl true⟩
def M300 : List Ment := a300 :: M299
theorem o300 : MOk T 100000 M300 := MOk.add o299 (by decide +kernel)
def a301 : Ment := ⟨6, 616, [.tup [.int 2, .tup [.tup [.int 0, .int 1, .int 2, .int 3, .int 1]]], .tup [.int 0, .int 1, .int 0, .int 0, .int 1]], .bl true⟩
def M301 : List Ment := a301 :: M300
theorem o301 : MOk T 100000 M301 := MOk.add o300 (by decide +kernel)
def a302 : Ment := ⟨6, 616, [.tup [.int 2, .tup [.tup [.int 0, .int 1, .int 2, .int 3, .int 1]]], .tup [.int 0, .int 1]], .bl false⟩
def M302 : List Ment := a302 :: M301
theorem o302 : MOk T 100000 M302 := MOk.add o301 (by decide +kernel)
def a303 : Ment := ⟨6, 616, [.tup [.int 2, .tup [.tup [.int 0, .int 1, .int 2, .int 3, .int 1]]], .tup [.int 1, .int 0, .int 0, .int 0, .int 1]], .bl false⟩
def M303 : List Ment := a303 :: M302
theorem o303 : MOk T 100000 M303 := MOk.add o302 (by decide +kernel)
def a304 : Ment := ⟨6, 616, [.tup [.int 3, .tup [.tup [.int 0, .int 1, .int 1, .int 2, .int 0], .tup [.int 1, .int 2, .int 1, .int 2, .int 0]]], .tup [.int 0, .int 0, .int 0, .int 0, .int 1, .int 1, .int 2]], .bl true⟩
def M304 : List Ment := a304 :: M303
theorem o304 : MOk T 100000 M304 := MOk.add o303 (by decide +kernel)
def a305 : Ment := ⟨6, 616, [.tup [.int 3, .tup [.tup [.int 0, .int 1, .int 1, .int 2, .int 0], .tup [.int 1, .int 2, .int 1, .int 2, .int 0]]], .tup [.int 0, .int 0, .int 1, .int 0, .int 0, .int 1, .int 2]], .bl true⟩
def M305 : List Ment := a305 :: M304
theorem o305 : MOk T 100000 M305 := MOk.add o304 (by decide +kernel)
def a306 : Ment := ⟨6, 622, [.tup [.int 0, .tup [.int 3, .tup [.int 1, .tup [.int 2, .tup [.int 2]]]]]], .str [48, 32, 40, 51, 32, 49, 32, 40, 50, 32, 50, 41, 41]⟩
def M306 : List Ment := a306 :: M305
theorem o306 : MOk T 100000 M306 := MOk.add o305 (by decide +kernel)
def a307 : Ment := ⟨6, 626, [.str [32, 48, 32, 40, 51, 32, 49, 32, 32, 40, 50, 32, 50, 41, 32, 41, 32]], .tup [.int 0, .tup [.int 3, .tup [.int 1, .tup [.int 2, .tup [.int 2]]]]]⟩
def M307 : List Ment := a307 :: M306
theorem o307 : MOk T 100000 M307 := MOk.add o306 (by decide +kernel)
def a308 : Ment := ⟨7, 564, [.tup [.int 1, .tup [.tup [.int 0, .int 0, .int 1, .int 1, .int 1]]]], .bl true⟩
def M308 : List Ment := a308 :: M307
theorem o308 : MOk T 100000 M308 := MOk.add o307 (by decide +kernel)
def a309 : Ment := ⟨7, 564, [.tup [.int 2, .tup [.tup [.int 0, .int 1, .int 1, .int 1, .int 0], .tup [.int 1, .int 0, .int 1, .int 1, .int 1]]]], .bl true⟩
def M309 : List Ment := a309 :: M308
theorem o309 : MOk T 100000 M309 := MOk.add o308 (by decide +kernel)
def a310 : Ment := ⟨7, 564, [.tup [.int 2, .tup [.tup [.int 0, .int 1, .int 2, .int 3, .int 1], .tup [.int 1, .int 0, .int 3, .int 2, .int 4]]]], .bl true⟩
def M310 : List Ment := a310 :: M309
theorem o310 : MOk T 100000 M310 := MOk.add o309 (by decide +kernel)
def a311 : Ment := ⟨7, 564, [.tup [.int 2, .tup [.tup [.int 0, .int 1, .int 2, .int 3, .int 1]]]], .bl true⟩
def M311 : List Ment := a311 :: M310
theorem o311 : MOk T 100000 M311 := MOk.add o310 (by decide +kernel)
def a312 : Ment := ⟨7, 564, [.tup [.int 3, .tup [.tup [.int 0, .int 1, .int 1, .int 2, .int 0], .tup [.int 1, .int 2, .int 1, .int 2, .int 0]]]], .bl true⟩
def M312 : List Ment := a312 :: M311
theorem o312 : MOk T 100000 M312 := MOk.add o311 (by decide +kernel)
def a313 : Ment := ⟨7, 564, [.tup [.int 3, .tup [.tup [.int 0, .int 2, .int 1, .int 1, .int 0]]]], .bl true⟩
def M313 : List Ment := a313 :: M312
theorem o313 : MOk T 100000 M313 := MOk.add o312 (by decide +kernel)
def a314 : Ment := ⟨7, 576, [.tup [.int 1, .tup []]], .non⟩
def M314 : List Ment := a314 :: M313
theorem o314 : MOk T 100000 M314 := MOk.add o313 (by decide +kernel)
def a315 : Ment := ⟨7, 617, [.tup [.int 2, .tup [.tup [.int 0, .int 1, .int 2, .int 3, .int 1]]], .tup [.int 1, .int 0, .int 0, .int 0, .int 1]], .bl false⟩
def M315 : List Ment := a315 :: M314
theorem o315 : MOk T 100000 M315 := MOk.add o314 (by decide +kernel)
def a316 : Ment := ⟨7, 617, [.tup [.int 2, .tup [.tup [.int 0, .int 1, .int 2, .int 3, .int 1]]], .tup [.tup [.int 3, .tup [.int 0]], .tup [.int 2, .tup [.int 1]]]], .bl true⟩
def M316 : List Ment := a316 :: M315
theorem o316 : MOk T 100000 M316 := MOk.add o315 (by decide +kernel)
def a317 : Ment := ⟨7, 618, [.tup [.int 2, .tup [.tup [.int 0, .int 1, .int 2, .int 3, .int 1]]], .tup [.int 0, .int 1, .int 0, .int 0, .int 1]], .tup [.int 4]⟩
def M317 : List Ment := a317 :: M316
theorem o317 : MOk T 100000 M317 := MOk.add o316 (by decide +kernel)
def a318 : Ment := ⟨7, 618, [.tup [.int 2, .tup [.tup [.int 0, .int 1, .int 2, .int 3, .int 1]]], .tup [.int 0, .int 1]], .non⟩
def M318 : List Ment := a318 :: M317
theorem o318 : MOk T 100000 M318 := MOk.add o317 (by decide +kernel)
def a319 : Ment := ⟨7, 618, [.tup [.int 2, .tup [.tup [.int 0, .int 1, .int 2, .int 3, .int 1]]], .tup [.tup [.int 3, .tup [.int 0]], .tup [.int 2, .tup [.int 1]]]], .tup [.int 7]⟩
def M319 : List Ment := a319 :: M318
theorem o319 : MOk T 100000 M319 := MOk.add o318 (by decide +kernel)
def a320 : Ment := ⟨7, 632, [.tup [.int 1, .tup [.tup [.int 0, .int 0, .int 1, .int 1, .int 1]]]], .tup [.int 0]⟩
def M320 : List Ment := a320 :: M319
theorem o320 : MOk T 100000 M320 := MOk.add o319 (by decide +kernel)
def a321 : Ment := ⟨7, 632, [.tup [.int 2, .tup [.tup [.int 0, .int 1, .int 1, .int 1, .int 0], .tup [.int 1, .int 0, .int 1, .int 1, .int 1]]]], .tup [.int 0, .int 1]⟩
def M321 : List Ment := a321 :: M320
theorem o321 : MOk T 100000 M321 := MOk.add o320 (by decide +kernel)
def a322 : Ment := ⟨7, 632, [.tup [.int 2, .tup [.tup [.int 0, .int 1, .int 2, .int 3, .int 1], .tup [.int 1, .int 0, .int 3, .int 2, .int 4]]]], .non⟩
def M322 : List Ment := a322 :: M321
theorem o322 : MOk T 100000 M322 := MOk.add o321 (by decide +kernel)
def a323 : Ment := ⟨7, 632, [.tup [.int 2, .tup [.tup [.int 0, .int 1, .int 2, .int 3, .int 1]]]], .tup [.tup [.int 3, .tup [.int 0]], .tup [.int 2, .tup [.int 1]]]⟩
def M323 : List Ment := a323 :: M322
theorem o323 : MOk T 100000 M323 := MOk.add o322 (by decide +kernel)
def a324 : Ment := ⟨7, 632, [.tup [.int 3, .tup [.tup [.int 0, .int 1, .int 1, .int 2, .int 0], .tup [.int 1, .int 2, .int 1, .int 2, .int 0]]]], .tup [.tup [.int 4, .tup [.int 0]], .tup [.int 2, .tup [.int 1]], .int 2]⟩
def M324 : List Ment := a324 :: M323
theorem o324 : MOk T 100000 M324 := MOk.add o323 (by decide +kernel)
def a325 : Ment := ⟨8, 576, [.tup [.int 1, .tup [.tup [.int 0, .int 0, .int 1, .int 1, .int 1]]]], .non⟩
def M325 : List Ment := a325 :: M324
theorem o325 : MOk T 100000 M325 := MOk.add o324 (by decide +kernel)
def a326 : Ment := ⟨8, 576, [.tup [.int 2, .tup [.tup [.int 0, .int 1, .int 1, .int 1, .int 0], .tup [.int 1, .int 0, .int 1, .int 1, .int 1]]]], .non⟩
def M326 : List Ment := a326 :: M325
theorem o326 : MOk T 100000 M326 := MOk.add o325 (by decide +kernel)
def a327 : Ment := ⟨8, 576, [.tup [.int 2, .tup [.tup [.int 0, .int 1, .int 2, .int 3, .int 1], .tup [.int 1, .int 0, .int 3, .int 2, .int 4]]]], .non⟩
def M327 : List Ment := a327 :: M326
theorem o327 : MOk T 100000 M327 := MOk.add o326 (by decide +kernel)
def a328 : Ment := ⟨8, 576, [.tup [.int 2, .tup [.tup [.int 0, .int 1, .int 2, .int 3, .int 1]]]], .non⟩
def M328 : List Ment := a328 :: M327
theorem o328 : MOk T 100000 M328 := MOk.add o327 (by decide +kernel)
def a329 : Ment := ⟨8, 576, [.tup [.int 3, .tup [.tup [.int 0, .int 1, .int 1, .int 2, .int 0], .tup [.int 1, .int 2, .int 1, .int 2, .int 0]]]], .non⟩
def M329 : List Ment := a329 :: M328
theorem o329 : MOk T 100000 M329 := MOk.add o328 (by decide +kernel)
def a330 : Ment := ⟨8, 576, [.tup [.int 3, .tup [.tup [.int 0, .int 2, .int 1, .int 1, .int 0]]]], .non⟩
def M330 : List Ment := a330 :: M329
theorem o330 : MOk T 100000 M330 := MOk.add o329 (by decide +kernel)
def a331 : Ment := ⟨8, 641, [.tup [.int 1, .tup []], .tup [.int 0]], .tup [.int 0, .tup [.int 0]]⟩
def M331 : List Ment := a331 :: M330
theorem o331 : MOk T 100000 M331 := MOk.add o330 (by decide +kernel)
def a332 : Ment := ⟨9, 633, [.tup [.int 2, .tup [.tup [.int 0, .int 1, .int 1, .int 1, .int 0], .tup [.int 1, .int 0, .int 1, .int 1, .int 1]]]], .tup [.int 0, .int 1]⟩
def M332 : List Ment := a332 :: M331
theorem o332 : MOk T 100000 M332 := MOk.add o331 (by decide +kernel)
def a333 : Ment := ⟨9, 633, [.tup [.int 2, .tup [.tup [.int 0, .int 1, .int 2, .int 3, .int 1], .tup [.int 1, .int 0, .int 3, .int 2, .int 4]]]], .non⟩
def M333 : List Ment := a333 :: M332
theorem o333 : MOk T 100000 M333 := MOk.add o332 (by decide +kernel)
def a334 : Ment := ⟨9, 633, [.tup [.int 2, .tup [.tup [.int 0, .int 1, .int 2, .int 3, .int 1]]]], .tup [.tup [.int 3, .tup [.int 0]], .tup [.int 2, .tup [.int 1]]]⟩
def M334 : List Ment := a334 :: M333
theorem o334 : MOk T 100000 M334 := MOk.add o333 (by decide +kernel)
def a335 : Ment := ⟨9, 634, [.tup [.int 1, .tup [.tup [.int 0, .int 0, .int 1, .int 1, .int 1]]]], .bl true⟩
def M335 : List Ment := a335 :: M334
theorem o335 : MOk T 100000 M335 := MOk.add o334 (by decide +kernel)
def a336 : Ment := ⟨9, 634, [.tup [.int 2, .tup [.tup [.int 0, .int 1, .int 2, .int 3, .int 1], .tup [.int 1, .int 0, .int 3, .int 2, .int 4]]]], .bl false⟩
def M336 : List Ment := a336 :: M335
theorem o336 : MOk T 100000 M336 := MOk.add o335 (by decide +kernel)
def a337 : Ment := ⟨9, 634, [.tup [.int 3, .tup [.tup [.int 0, .int 1, .int 1, .int 2, .int 0], .tup [.int 1, .int 2, .int 1, .int 2, .int 0]]]], .bl true⟩
def M337 : List Ment := a337 :: M336
theorem o337 : MOk T 100000 M337 := MOk.add o336 (by decide +kernel)
def a338 : Ment := ⟨9, 635, [.tup [.int 2, .tup [.tup [.int 0, .int 1, .int 1, .int 1, .int 0], .tup [.int 1, .int 0, .int 1, .int 1, .int 1]]], .tup [.int 1, .int 0]], .bl false⟩
def M338 : List Ment := a338 :: M337
theorem o338 : MOk T 100000 M338 := MOk.add o337 (by decide +kernel)
def a339 : Ment := ⟨9, 635, [.tup [.int 2, .tup [.tup [.int 0, .int 1, .int 2, .int 3, .int 1], .tup [.int 1, .int 0, .int 3, .int 2, .int 4]]], .non], .bl true⟩
def M339 : List Ment := a339 :: M338
theorem o339 : MOk T 100000 M339 := MOk.add o338 (by decide +kernel)
def a340 : Ment := ⟨9, 635, [.tup [.int 3, .tup [.tup [.int 0, .int 1, .int 1, .int 2, .int 0], .tup [.int 1, .int 2, .int 1, .int 2, .int 0]]], .tup [.tup [.int 2, .tup [.tup [.int 2, .tup [.int 0]], .int 1]], .int 2]], .bl true⟩
def M340 : List Ment := a340 :: M339
theorem o340 : MOk T 100000 M340 := MOk.add o339 (by decide +kernel)
def a341 : Ment := ⟨9, 635, [.tup [.int 3, .tup [.tup [.int 0, .int 1, .int 1, .int 2, .int 0], .tup [.int 1, .int 2, .int 1, .int 2, .int 0]]], .tup [.tup [.int 4, .tup [.int 0]], .tup [.int 2, .tup [.int 1]], .int 2]], .bl true⟩
def M341 : List Ment := a341 :: M340
theorem o341 : MOk T 100000 M341 := MOk.add o340 (by decide +kernel)
def a342 : Ment := ⟨9, 641, [.tup [.int 3, .tup [.tup [.int 0, .int 1, .int 1, .int 2, .int 0], .tup [.int 1, .int 2, .int 1, .int 2, .int 0]]], .tup [.int 0, .int 1, .int 2]], .tup [.int 4, .tup [.tup [.int 2, .tup [.tup [.int 2, .tup [.int 0]], .int 1]], .int 2]]⟩
def M342 : List Ment := a342 :: M341
theorem o342 : MOk T 100000 M342 := MOk.add o341 (by decide +kernel)
def a343 : Ment := ⟨9, 641, [.tup [.int 3, .tup [.tup [.int 0, .int 2, .int 1, .int 1, .int 0]]], .tup [.int 0, .int 1, .int 2]], .tup [.int 1, .tup [.int 0, .int 1, .int 2]]⟩
def M343 : List Ment := a343 :: M342
theorem o343 : MOk T 100000 M343 := MOk.add o342 (by decide +kernel)
theorem law_ok : ∃ h, runN T 100000 60 643 [.ref 0] [.dead] = .ok (.bl true) h := MOk.law (M := M343) (o343) (by decide +kernel)
theorem law_eq : ∃ h, Mp.runN T 100000 60 643 [.ref 0] [.dead] = .ok (.bl true) h := law_ok
end Tk37
set_option maxHeartbeats 4000000 in
open PySem PySem.W PySem.Calls PyProof.Rows Tk37 Mq in
theorem PySem.Challenge.cw_rateflows_k37_known_loops_holds : PySem.Challenge.rw_rateflows_k37_known_loops.Holds := by
  w_on
  o_law
  refine HandSHeadRun.head_any (r := OpenLaw.row PySem.Challenge.rw_rateflows_k37_known_loops) (q := view (OpenLaw.row PySem.Challenge.rw_rateflows_k37_known_loops).prog [92]) (H := hkT) (ob := obT) (M := 9000) (loose := loose)
    (d := HandSHeadRun.topDef (OpenLaw.row PySem.Challenge.rw_rateflows_k37_known_loops).prog 92) (kwd := []) obT_eq (by kernel_rfl) (fun s => by kernel_rfl) runT (by kernel_rfl) (by kernel_rfl) (by kernel_rfl) (by rfl)
    (by first | assumption | decide +kernel) (by decide +kernel) ⟨rfl, rfl, rfl, rfl, rfl, by decide +kernel⟩ ?hw ?hc
  case hw => w_witness2
  case hc =>
    refine Mq.walk_mp (l := PySem.Challenge.rw_rateflows_k37_known_loops) (n := 63) (k := 60 + 1) (x := "_law_script") rfl (by decide) (by kernel_rfl) ⟨rfl, by decide, by decide⟩ ?F
    intro w mg fa h Y G hmg0
    have ⟨K, KX, c, cx⟩ := Y
    have hmg : mg ("law" : PySem.Str) = some (.ref fa) := by
      have e : (HandSHeadRun.topDef (OpenLaw.row PySem.Challenge.rw_rateflows_k37_known_loops).prog 92).name = "law" := by kernel_rfl
      rw [← e]
      exact hmg0
    obtain ⟨fd, hb, hF⟩ := Mq.tab_law (ents := ents) (T := T) hT (gci := gci) (cl := cl) (na := na) (wf := 100000) (n := 60) (e := e65) (by simp [ents]) rfl (by decide +kernel) ck (P0 := (PySem.Challenge.rw_rateflows_k37_known_loops).prog) (by rfl) (by kernel_rfl) (w := w) KX G hmg c cx
    exact ⟨K, fd, _, KX, fun s u => hb s [u] rfl, fun H a ns hl hS => Mq.law_spH law_eq hS, hF⟩


