import PyProof.Rows.All
import HandS.ForMost
import KE.SortData
import KE.DataEq
import HandS.TupAny
import HandS.TupMul
import HandS.Style
import HandS.IsInst
import HandS.SetFor
import HandS.Strs
import HandS.SortInts
import HandS.Codes
import OpenK.KMore
import HandS.Comp
import HandS.Walk
import KE.GoesMore
import KE.GoesEnum
import HandS.Zip
import PyProof.Rows.FactsT3
import HandS.Small
import HandS.Conv
import HandS.Ends
import Wide.All
import OpenK.AllK
import Wide.FinOn
import PyProof.ReprBulk
import PySem.Challenge.RW_ledtoone_k57_tables_judged
section
set_option Elab.async false
set_option linter.all false
set_option maxRecDepth 100000
/-! DA: plain data, a small language, its evaluator. My own layer over HandS. -/
namespace DL
open PySem

/-- plain data; un: a name without a value -/
inductive D where
  | un | non | bl (b : Bool) | int (i : Int) | str (x : Str)
  | tup (xs : List D) | lst (xs : List D)
  | dct (tk : Bool) (kvs : List (D × D))

/-- a value and what is owned of it: 0 nothing (never changes), 1 its own object, 2 its own and the objects within -/
structure TV where
  t : Nat
  d : D

abbrev Sl := List TV

def D.isM : D → Bool
  | .lst _ => true
  | .dct _ _ => true
  | _ => false
def D.isD : D → Bool
  | .dct _ _ => true
  | _ => false
def D.isL : D → Bool
  | .lst _ => true
  | _ => false
def D.isUn : D → Bool
  | .un => true
  | _ => false

mutual
def toP : D → PyData
  | .un => .none
  | .non => .none
  | .bl b => .bool b
  | .int i => .int i
  | .str x => .str x
  | .tup xs => .tuple (toPs xs)
  | .lst xs => .list (toPs xs)
  | .dct _ kvs => .dict (toPk kvs)
def toPs : List D → List PyData
  | [] => []
  | x :: xs => toP x :: toPs xs
def toPk : List (D × D) → List (PyData × PyData)
  | [] => []
  | (k, v) :: r => (toP k, toP v) :: toPk r
end

inductive BOp where
  | add | sub | mul | fdiv | mod | pow
  deriving DecidableEq
inductive COp where
  | eq | ne | lt | le | gt | ge | isc | isn | inn | nin
  deriving DecidableEq
inductive B1 where
  | len | abs | int | tuple | list | sum | all | any | repr | sorted | min | max
  deriving DecidableEq
inductive Ty where
  | int | bool | str | tuple | list | dict
  deriving DecidableEq

inductive Op where
  | bin (o : BOp) | cmp (o : COp) | neg | sub | rev | b1 (f : B1) | max2 | min2 | isi (ty : Ty) | sset
  | tup | lst (dp : Bool) | dct (dp tk : Bool)

mutual
inductive E where
  | cst (d : D)
  | glb (x : Str) (d : D)
  | var (i : Nat)
  | op (o : Op) (es : Es)
  | call (f : Nat) (x : Str) (es : Es)
  | callk (f : Nat) (x : Str) (ks : List Str) (pm : List Nat) (es : Es)
  | chain (o o2 : COp) (a b c : E)
  | and (es : Es)
  | or (es : Es)
  | not (a : E)
  | ite (c a b : E)
  | slc (hl hh : Bool) (a lo hi : E)
  | app (i : Nat) (e : E)
  | pop (i : Nat)
  | popi (i : Nat) (e : E)
  | ext (i : Nat) (e : E)
  | appK (i : Nat) (k : E) (e : E)
  | popK (i : Nat) (k : E)
  | neK (i : Nat) (k : E)
  | rg (tp : Bool) (es : Es)
  | ro (a : E)
  | lc (dp : Bool) (tg : List Nat) (it : It) (cs : Es) (e : E)
inductive Es where
  | nil
  | cons (e : E) (r : Es)
inductive It where
  | seq (e : E)
  | rng (es : Es)
  | enum (e : E)
  | zip (a b : E)
end

mutual
inductive S where
  | asg (i : Nat) (e : E)
  | asgT (is : List Nat) (e : E)
  | asgP (is : List Nat) (es : Es)
  | setI (i : Nat) (k e : E)
  | setII (i : Nat) (k1 k2 e : E)
  | exp (e : E)
  | ret (e : E)
  | ite (c : E) (a b : Ss)
  | forr (tg : List Nat) (it : It) (b : Ss)
  | whl (c : E) (b : Ss)
  | brk
  | cnt
  | pss
inductive Ss where
  | nil
  | cons (s : S) (r : Ss)
end

/-! ### results -/
inductive RE where
  | ok (v : TV) (l : Sl)
  | no
inductive RB where
  | ok (b : Bool) (l : Sl)
  | no
/-- an operand: a value, or a name (read last) -/
inductive Od where
  | v (x : TV)
  | r (i : Nat)
inductive RO where
  | ok (os : List Od) (l : Sl)
  | no
inductive RI where
  | ok (xs : List D) (l : Sl)
  | no
inductive RS where
  | nx (l : Sl)
  | rt (v : TV) (l : Sl)
  | bk (l : Sl)
  | ct (l : Sl)
  | no
inductive RC where
  | ok (v : TV) (as : List TV)
  | no

def RE.bnd (r : RE) (f : TV → Sl → RE) : RE := match r with | .ok v l => f v l | .no => .no
def RE.bO (r : RE) (f : TV → Sl → RO) : RO := match r with | .ok v l => f v l | .no => .no
def RE.bS (r : RE) (f : TV → Sl → RS) : RS := match r with | .ok v l => f v l | .no => .no
def RE.bI (r : RE) (f : TV → Sl → RI) : RI := match r with | .ok v l => f v l | .no => .no
def RO.bnd (r : RO) (f : List Od → Sl → RE) : RE := match r with | .ok v l => f v l | .no => .no
def RO.bO (r : RO) (f : List Od → Sl → RO) : RO := match r with | .ok v l => f v l | .no => .no
def RO.bI (r : RO) (f : List Od → Sl → RI) : RI := match r with | .ok v l => f v l | .no => .no
def RO.bS (r : RO) (f : List Od → Sl → RS) : RS := match r with | .ok v l => f v l | .no => .no
def RI.bnd (r : RI) (f : List D → Sl → RE) : RE := match r with | .ok v l => f v l | .no => .no
def RI.bS (r : RI) (f : List D → Sl → RS) : RS := match r with | .ok v l => f v l | .no => .no
def RB.bnd (r : RB) (f : Bool → Sl → RE) : RE := match r with | .ok v l => f v l | .no => .no
def RB.bS (r : RB) (f : Bool → Sl → RS) : RS := match r with | .ok v l => f v l | .no => .no
def RS.bnd (r : RS) (f : Sl → RS) : RS := match r with | .nx l => f l | .rt v l => .rt v l | .bk l => .bk l | .ct l => .ct l | .no => .no

/-! ### slots -/
def gt (l : Sl) (i : Nat) : TV := l.getD i ⟨0, .un⟩
def st (l : Sl) (i : Nat) (v : TV) : Sl := l.set i v
/-- the content of an operand -/
def Od.d (l : Sl) : Od → D
  | .v x => x.d
  | .r i => (gt l i).d
def Od.t (l : Sl) : Od → Nat
  | .v x => x.t
  | .r i => (gt l i).t
/-- a slot whose inner objects are let go -/
def low (l : Sl) (i : Nat) (n : Nat) : Sl := if (gt l i).t ≤ n then l else st l i ⟨n, (gt l i).d⟩
/-- after reading operands so that their objects (n = 0) or what they hold (n = 1) is kept elsewhere -/
def lowO (n : Nat) (l : Sl) : List Od → Sl
  | [] => l
  | .v _ :: r => lowO n l r
  | .r i :: r => lowO n (low l i n) r

/-! ### operations on data -/
def ixN (n : Nat) (i : Int) : Option Nat := if 0 ≤ i then (if i < n then some i.toNat else none) else if -(n : Int) ≤ i then some (i + n).toNat else none
def cutIx (n d : Nat) : Option Int → Nat
  | none => d
  | some v => if v < 0 then (v + (n : Int)).toNat else min v.toNat n
def cut {α : Type} (xs : List α) (lo hi : Option Int) : List α := (xs.drop (cutIx xs.length 0 lo)).take (cutIx xs.length xs.length hi - cutIx xs.length 0 lo)

def dEq (a b : D) : Bool := PyData.eqv (toP a) (toP b)

def lk (kvs : List (D × D)) (k : D) : Option D :=
  match kvs with
  | [] => none
  | (k', v) :: r => if dEq k' k then some v else lk r k
def pt (kvs : List (D × D)) (k v : D) : List (D × D) :=
  match kvs with
  | [] => [(k, v)]
  | (k', v') :: r => if dEq k' k then (k', v) :: r else (k', v') :: pt r k v

/-- the key is of the dict's kind -/
def D.flatK : D → Bool
  | .int _ => true
  | .str _ => true
  | _ => false
def D.isKey (tk : Bool) : D → Bool
  | .int _ => !tk
  | .str _ => !tk
  | .tup xs => tk && xs.all D.flatK
  | _ => false

def small (n : Nat) : Bool := decide (n ≤ 16777216)

def binD (o : BOp) (a b : D) : Option TV :=
  match o, a, b with
  | .add, .int i, .int j => some ⟨0, .int (i + j)⟩
  | .add, .str x, .str y => if small (x.length + y.length) then some ⟨0, .str (x ++ y)⟩ else none
  | .add, .tup x, .tup y => if small (x.length + y.length) then some ⟨0, .tup (x ++ y)⟩ else none
  | .add, .lst x, .lst y => if small (x.length + y.length) then some ⟨1, .lst (x ++ y)⟩ else none
  | .sub, .int i, .int j => some ⟨0, .int (i - j)⟩
  | .mul, .int i, .int j => if decide ((-(2 ^ 64) < i ∧ i < 2 ^ 64) ∨ (-(2 ^ 64) < j ∧ j < 2 ^ 64)) then some ⟨0, .int (i * j)⟩ else none
  | .mul, .lst x, .int j => if decide (j < 2 ^ 62 ∧ -(2 ^ 62) < j) && small (x.length * j.toNat) then some ⟨1, .lst (List.replicate j.toNat x).flatten⟩ else none
  | .mul, .tup x, .int j => if !x.isEmpty && decide (2 ≤ j ∧ j ≤ 1000 ∧ x.length ≤ 1000) then some ⟨0, .tup (List.replicate j.toNat x).flatten⟩ else if j = 1 then some ⟨0, .tup x⟩ else none
  | .fdiv, .int i, .int j => if decide (0 < j ∧ j < 1073741824) then some ⟨0, .int (i / j)⟩ else none
  | .mod, .int i, .int j => if decide (0 < j) then some ⟨0, .int (i % j)⟩ else none
  | .pow, .int i, .int j => if decide (0 ≤ j ∧ j ≤ 1000 ∧ -1000 < i ∧ i < 1000) then some ⟨0, .int (i ^ j.toNat)⟩ else none
  | _, _, _ => none

/-- == is known of it -/
def eqOk (a : D) : Bool := (toP a).plain && decide ((toP a).depth ≤ 64)
def eqOks (xs : List D) : Bool := PyData.plainAll (toPs xs) && decide (PyData.depthAll (toPs xs) ≤ 64)
def inD (x : D) (xs : List D) : Bool := xs.any fun y => dEq y x

def cmpD (o : COp) (a b : D) : Option Bool :=
  match o with
  | .eq => if eqOk a && eqOk b then some (dEq a b) else none
  | .ne => if eqOk a && eqOk b then some (!dEq a b) else none
  | .isc => (match b with
    | .non => some (match a with | .non => true | _ => false)
    | .bl k => (match a with | .bl j => some (j == k) | _ => none)
    | _ => none)
  | .isn => (match b with
    | .non => some (match a with | .non => false | _ => true)
    | .bl k => (match a with | .bl j => some (!(j == k)) | _ => none)
    | _ => none)
  | .inn => (match b with
    | .tup xs => if eqOk a && eqOks xs then some (inD a xs) else none
    | .lst xs => if eqOk a && eqOks xs then some (inD a xs) else none
    | .dct tk kvs => if a.isKey tk then some (lk kvs a).isSome else none
    | _ => none)
  | .nin => (match b with
    | .tup xs => if eqOk a && eqOks xs then some (!inD a xs) else none
    | .lst xs => if eqOk a && eqOks xs then some (!inD a xs) else none
    | .dct tk kvs => if a.isKey tk then some (!(lk kvs a).isSome) else none
    | _ => none)
  | .lt => (match a, b with | .int i, .int j => some (decide (i < j)) | _, _ => none)
  | .le => (match a, b with | .int i, .int j => some (decide (i ≤ j)) | _, _ => none)
  | .gt => (match a, b with | .int i, .int j => some (decide (j < i)) | _, _ => none)
  | .ge => (match a, b with | .int i, .int j => some (decide (j ≤ i)) | _, _ => none)

def subD (a i : D) : Option D :=
  match a with
  | .tup xs => (match i with | .int j => (ixN xs.length j).bind fun k => xs[k]? | _ => none)
  | .lst xs => (match i with | .int j => (ixN xs.length j).bind fun k => xs[k]? | _ => none)
  | .dct tk kvs => if i.isKey tk then lk kvs i else none
  | _ => none

def slcD (a : D) (lo hi : Option Int) : Option TV :=
  match a with
  | .tup xs => some ⟨0, .tup (cut xs lo hi)⟩
  | .lst xs => some ⟨1, .lst (cut xs lo hi)⟩
  | _ => none

def tyD (ty : Ty) (a : D) : Bool :=
  match ty, a with
  | .int, .int _ => true
  | .int, .bl _ => true
  | .bool, .bl _ => true
  | .str, .str _ => true
  | .tuple, .tup _ => true
  | .list, .lst _ => true
  | .dict, .dct _ _ => true
  | _, _ => false

/-- bools alone -/
def blsOf : List D → Option (List Bool)
  | [] => some []
  | .bl b :: r => (blsOf r).map (b :: ·)
  | _ :: _ => none
def intsOf : List D → Option (List Int)
  | [] => some []
  | .int b :: r => (intsOf r).map (b :: ·)
  | _ :: _ => none
def seqOf : D → Option (List D)
  | .tup xs => some xs
  | .lst xs => some xs
  | _ => none
def listOf? : D → Option (List D)
  | .lst xs => some xs
  | _ => none

/-- the order of alike data -/
def dLe (a b : D) : Bool := PySem.W.dataLe false toP a b
def sortD (xs : List D) : List D := xs.mergeSort dLe
def tupNe : D → Bool
  | .tup (_ :: _) => true
  | _ => false
def noTup : D → Bool
  | .tup _ => false
  | .non => false
  | .un => false
  | _ => true
/-- what may be sorted -/
def sortOk (xs : List D) : Bool := (xs.all fun x => xs.all fun y => PySem.W.alike (toP x) (toP y)) && (xs.all tupNe || xs.all noTup) && xs.all (fun x => decide ((toP x).depth ≤ 64)) && small xs.length
def leastI : List Int → Option Int
  | [] => none
  | x :: r => some (r.foldl (fun a b => if b < a then b else a) x)
def mostI : List Int → Option Int
  | [] => none
  | x :: r => some (r.foldl (fun a b => if b > a then b else a) x)
def sortI (xs : List Int) : List Int := xs.mergeSort (fun a b => decide (a ≤ b))

def dInt (xs : List Int) : List D := xs.map D.int

mutual
/-- no dict with tuples as keys -/
def D.noT : D → Bool
  | .tup xs => noTs xs
  | .lst xs => noTs xs
  | .dct tk kvs => !tk && noTk kvs
  | _ => true
def noTs : List D → Bool
  | [] => true
  | x :: r => x.noT && noTs r
def noTk : List (D × D) → Bool
  | [] => true
  | (_, v) :: r => v.noT && noTk r
end
mutual
/-- no list within -/
def D.noL : D → Bool
  | .tup xs => noLs xs
  | .lst _ => false
  | .dct _ kvs => noLk kvs
  | _ => true
def noLs : List D → Bool
  | [] => true
  | x :: r => x.noL && noLs r
def noLk : List (D × D) → Bool
  | [] => true
  | (_, v) :: r => v.noL && noLk r
end
/-- a number put into a rising list -/
def insS (z : Int) : List Int → List Int
  | [] => [z]
  | x :: r => if z < x then z :: x :: r else if z = x then x :: r else x :: insS z r
/-- the numbers, rising, each once -/
def sortS (ns : List Int) : List Int := ns.foldr insS []
def ssetD (a : D) : Option TV := match a with
  | .lst xs => (intsOf xs).bind fun ns => if decide (ns.length < 64) then some ⟨1, .lst ((sortS ns).map D.int)⟩ else none
  | _ => none
def reprD (a : D) : Str := (toP a).shown

def b1D (f : B1) (a : D) : Option TV :=
  match f, a with
  | .len, .tup xs => some ⟨0, .int xs.length⟩
  | .len, .lst xs => some ⟨0, .int xs.length⟩
  | .len, .str x => if small x.length then some ⟨0, .int x.length⟩ else none
  | .abs, .int i => some ⟨0, .int (if i < 0 then -i else i)⟩
  | .int, .int i => some ⟨0, .int i⟩
  | .int, .bl b => some ⟨0, .int (if b then 1 else 0)⟩
  | .tuple, .tup xs => some ⟨0, .tup xs⟩
  | .tuple, .lst xs => some ⟨0, .tup xs⟩
  | .list, .tup xs => some ⟨1, .lst xs⟩
  | .list, .lst xs => some ⟨1, .lst xs⟩
  | .sum, .lst xs => (intsOf xs).map fun ns => ⟨0, .int ns.sum⟩
  | .all, .lst xs => (blsOf xs).map fun bs => ⟨0, .bl (bs.all id)⟩
  | .any, .lst xs => (blsOf xs).map fun bs => ⟨0, .bl (bs.any id)⟩
  | .sorted, .lst xs => (intsOf xs).map fun ns => ⟨1, .lst ((sortI ns).map D.int)⟩
  | .min, .lst xs => (intsOf xs).bind fun ns => (leastI ns).map fun m => ⟨0, .int m⟩
  | .max, .lst xs => (intsOf xs).bind fun ns => (mostI ns).map fun m => ⟨0, .int m⟩
  | .repr, a => if (toP a).showable && decide ((reprD a).length ≤ 16777216) && decide ((toP a).depth ≤ 64) && (a.noT && (!(toP a).hasDict || a.noL)) then some ⟨0, .str (reprD a)⟩ else none
  | _, _ => none

/-! ### operations on operands -/
def okO (t : Option TV) (l : Sl) : RE := match t with | some v => .ok v l | none => .no
def okD (t : Option D) (l : Sl) : RE := match t with | some v => .ok ⟨0, v⟩ l | none => .no
def okB (t : Option Bool) (l : Sl) : RE := match t with | some v => .ok ⟨0, .bl v⟩ l | none => .no
/-- may be put into an owned list -/
def Od.tv (l : Sl) : Od → Option TV
  | .v x => if x.d.isM then (if x.t = 1 then some ⟨1, x.d⟩ else none) else some ⟨0, x.d⟩
  | .r i => if (gt l i).d.isM then none else some ⟨0, (gt l i).d⟩
def dpOk (l : Sl) (os : List Od) : Bool := os.all fun o => (o.tv l).isSome
/-- an element read: where it is an object of its own, the inner objects of its holder are let go -/
def lowSub (l : Sl) (o : Od) (d : D) : Sl := match o with
  | .r i => if d.isM then low l i 1 else l
  | .v _ => l
def mkD (l : Sl) : List (D × D) → List Od → Option (List (D × D))
  | acc, [] => some acc
  | acc, k :: v :: r => if (k.d l).isKey false then mkD l (pt acc (k.d l) (v.d l)) r else none
  | _, _ => none
def applyO (o : Op) (os : List Od) (l : Sl) : RE :=
  match o, os with
  | .bin b, [x, y] => okO (binD b (x.d l) (y.d l)) (match b with | .add => lowO 1 l os | .mul => lowO 1 l os | _ => l)
  | .cmp c, [x, y] => okB (cmpD c (x.d l) (y.d l)) l
  | .neg, [x] => (match x.d l with | .int i => .ok ⟨0, .int (-i)⟩ l | _ => .no)
  | .sub, [x, y] => (match subD (x.d l) (y.d l) with
      | some d => if (x.d l).isD then (if d.isM && decide (1 < x.t l) then .no else .ok ⟨0, d⟩ l) else .ok ⟨0, d⟩ (lowSub l x d)
      | none => .no)
  | .rev, [x] => (match x.d l with | .tup xs => .ok ⟨0, .tup xs.reverse⟩ (lowO 1 l os) | .lst xs => .ok ⟨1, .lst xs.reverse⟩ (lowO 1 l os) | _ => .no)
  | .b1 f, [x] => okO (b1D f (x.d l)) (match f with | .tuple => lowO 1 l os | .list => lowO 1 l os | .sorted => lowO 1 l os | _ => l)
  | .sset, [x] => okO (ssetD (x.d l)) (lowO 1 l os)
  | .max2, [x, y] => (match x.d l, y.d l with | .int i, .int j => .ok ⟨0, .int (if j > i then j else i)⟩ l | _, _ => .no)
  | .min2, [x, y] => (match x.d l, y.d l with | .int i, .int j => .ok ⟨0, .int (if j < i then j else i)⟩ l | _, _ => .no)
  | .isi ty, [x] => (match x.d l with | .dct true _ => .no | d => .ok ⟨0, .bl (tyD ty d)⟩ l)
  | .tup, _ => if small os.length then .ok ⟨0, .tup (os.map (Od.d l))⟩ (lowO 0 l os) else .no
  | .lst false, _ => if small os.length then .ok ⟨1, .lst (os.map (Od.d l))⟩ (lowO 0 l os) else .no
  | .lst true, _ => if small os.length && dpOk l os then .ok ⟨2, .lst (os.map (Od.d l))⟩ l else .no
  | .dct false tk, [] => .ok ⟨1, .dct tk []⟩ l
  | .dct false false, k :: r => if small os.length then (match mkD l [] (k :: r) with | some kvs => .ok ⟨1, .dct false kvs⟩ (lowO 0 l os) | none => .no) else .no
  | .dct true false, k :: r => if small os.length && dpOk l os then (match mkD l [] (k :: r) with | some kvs => .ok ⟨2, .dct false kvs⟩ l | none => .no) else .no
  | .dct _ _, _ => .no
  | _, _ => .no

/-- operands handed to a def: what a name owns goes along; it comes back behind the call -/
def takeO (l : Sl) : List Od → List TV
  | [] => []
  | .v x :: r => x :: takeO l r
  | .r i :: r => gt l i :: takeO l r
/-- no name that owns is handed twice -/
def onceO (l : Sl) : List Od → Bool
  | [] => true
  | .v _ :: r => onceO l r
  | .r i :: r => ((gt l i).t == 0 || r.all fun o => match o with | .r j => !(i == j) | .v _ => true) && onceO l r
def backO : Sl → List Od → List TV → Sl
  | l, .r i :: r, v :: vs => backO (if (gt l i).t = 0 then l else st l i v) r vs
  | l, .v _ :: r, _ :: vs => backO l r vs
  | l, _, _ => l
/-- names handed to a parameter that the def stores anew: let go -/
def lowR (reb : Nat → Bool) : Sl → Nat → List Od → Sl
  | l, _, [] => l
  | l, p, .v _ :: r => lowR reb l (p + 1) r
  | l, p, .r i :: r => lowR reb (if reb p then low l i 0 else l) (p + 1) r

/-! ### targets -/
def setAll : Sl → List Nat → List D → Sl
  | l, i :: is, d :: ds => setAll (st l i ⟨0, d⟩) is ds
  | l, _, _ => l
/-- one name, or the items of a tuple to several -/
def bindT (l : Sl) (tg : List Nat) (d : D) : Option Sl :=
  match tg with
  | [i] => some (st l i ⟨0, d⟩)
  | is => (match d with | .tup ds => if ds.length = is.length then some (setAll l is ds) else none | _ => none)
def clr (l : Sl) : List Nat → Sl
  | [] => l
  | i :: r => clr (st l i ⟨0, .un⟩) r
/-- slots of a list as another has them -/
def rest (l0 l : Sl) : List Nat → Sl
  | [] => l
  | i :: r => rest l0 (st l i (gt l0 i)) r

def rngL (lo hi : Int) : List D := (List.range (hi - lo).toNat).map fun k => D.int (lo + (k : Nat))
def rngC (lo c : Int) (n : Nat) : List D := (List.range n).map fun k => D.int (lo + (k : Nat) * c)
def enumL : Nat → List D → List D
  | _, [] => []
  | k, x :: r => .tup [.int k, x] :: enumL (k + 1) r
def zipL : List D → List D → List D
  | x :: xs, y :: ys => .tup [x, y] :: zipL xs ys
  | _, _ => []

def rgOk (a b : Int) : Bool := decide (-(2 ^ 62) ≤ a ∧ a < 2 ^ 62 ∧ -(2 ^ 62) ≤ b ∧ b < 2 ^ 62 ∧ (b - a).toNat ≤ 2 ^ 24)
def rgE (tp : Bool) (ds : List D) (l : Sl) : RE := match ds with
  | [.int n] => if rgOk 0 n then (if tp then .ok ⟨0, .tup (rngL 0 n)⟩ l else .ok ⟨1, .lst (rngL 0 n)⟩ l) else .no
  | [.int a, .int b] => if rgOk a b then (if tp then .ok ⟨0, .tup (rngL a b)⟩ l else .ok ⟨1, .lst (rngL a b)⟩ l) else .no
  | _ => .no
/-! ### loops -/
def forR (f : D → Sl → RS) : List D → Sl → RS
  | [], l => .nx l
  | x :: xs, l => (match f x l with
    | .nx l' => forR f xs l'
    | .ct l' => forR f xs l'
    | .bk l' => .nx l'
    | .rt v l' => .rt v l'
    | .no => .no)
def whN (c : Sl → RB) (f : Sl → RS) : Nat → Sl → RS
  | 0, _ => .no
  | n + 1, l => (match c l with
    | .no => .no
    | .ok false l' => .nx l'
    | .ok true l' => (match f l' with
      | .nx l2 => whN c f n l2
      | .ct l2 => whN c f n l2
      | .bk l2 => .nx l2
      | .rt v l2 => .rt v l2
      | .no => .no))
open Classical in
noncomputable def whR (c : Sl → RB) (f : Sl → RS) (l : Sl) : RS :=
  if h : ∃ n, whN c f n l ≠ .no then whN c f (Classical.choose h) l else .no
def lcR (f : D → Sl → RE) (dp : Bool) (tst : D → Sl → RB) : List D → List D → Sl → RE
  | [], acc, l => .ok ⟨if dp then 2 else 1, .lst acc⟩ l
  | x :: xs, acc, l => (match tst x l with
    | .no => .no
    | .ok false l' => lcR f dp tst xs acc l'
    | .ok true l' => (match f x l' with
      | .ok v l2 => if small (acc.length + 1) && (!dp || !v.d.isM || v.t == 1) then lcR f dp tst xs (acc ++ [v.d]) l2 else .no
      | .no => .no))

/-- every name's thing is let go: for reading alone -/
def lowA (l : Sl) : Sl := lowO 0 l ((List.range l.length).map Od.r)
def D.isFl : D → Bool
  | .non => true
  | .bl _ => true
  | .int _ => true
  | .str _ => true
  | _ => false
section
variable (cl : Nat → List TV → RC) (rb : Nat → Nat → Bool)

def RE.tst (r : RE) : RB := match r with | .ok ⟨_, .bl b⟩ l => .ok b l | _ => .no

/-- a plain value that nothing changes: for what is put by nested paths -/
def flatV (l : Sl) : E → Option D
  | .cst d => if d.isM then none else some d
  | .var i => if (gt l i).d.isM || (gt l i).d.isUn then none else some (gt l i).d
  | .op (.bin .fdiv) (.cons (.var i) (.cons (.var j) .nil)) => (match (gt l i).d, (gt l j).d with | .int a, .int b => if decide (0 < b ∧ b < 1073741824) then some (.int (a / b)) else none | _, _ => none)
  | _ => none
/-- what stands at a key of a slot's thing -/
def inL (x : TV) (key : D) : Option (List D) :=
  match x with
  | ⟨2, .dct false kd⟩ => (match lk kd key with | some (.lst xs) => if key.isKey false then some xs else none | _ => none)
  | ⟨2, .lst ys⟩ => (match key with | .int j => (match ixN ys.length j with | some m => (match ys[m]? with | some (.lst xs) => some xs | _ => none) | none => none) | _ => none)
  | _ => none
def outL (x : TV) (key : D) (xs : List D) : TV :=
  match x with
  | ⟨2, .dct false kd⟩ => ⟨2, .dct false (pt kd key (.lst xs))⟩
  | ⟨2, .lst ys⟩ => (match key with | .int j => (match ixN ys.length j with | some m => ⟨2, .lst (ys.set m (.lst xs))⟩ | none => ⟨2, .lst ys⟩) | _ => ⟨2, .lst ys⟩)
  | x => x

/-- an operand: a name is read last, anything else now -/
def opd (e : E) (r : Sl → RE) (l : Sl) : RO := match e with
  | .var i => if (gt l i).d.isUn then .no else .ok [.r i] l
  | _ => (r l).bO fun v l' => .ok [.v v] l'

inductive RP where
  | ok (i : Option Int) (l : Sl)
  | no
/-- a part of a slice -/
def partR (h : Bool) (r : Sl → RE) (l : Sl) : RP := if h then (match r l with | .ok ⟨_, .int i⟩ l' => .ok (some i) l' | _ => .no) else .ok none l
def applySl (i j : Option Int) (os : List Od) (l : Sl) : RE := match os with
  | [x] => okO (slcD (x.d l) i j) (lowO 1 l os)
  | _ => .no

/-- an operand whose own objects are let go -/
def dropO : Od → Od
  | .v x => .v ⟨0, x.d⟩
  | .r i => .r i
/-- not the name at i -/
def notI (i : Nat) : List Od → Bool
  | [] => true
  | .v _ :: r => notI i r
  | .r j :: r => !(j == i) && notI i r
/-- an operand that nothing owns -/
def midOk : List Od → Bool
  | [.v x] => x.t == 0
  | [.r _] => true
  | _ => false
/-- a value of its own is not handed to a parameter that is stored anew -/
def rebOk (reb : Nat → Bool) : Nat → List Od → Bool
  | _, [] => true
  | p, .v x :: r => (!reb p || x.t == 0) && rebOk reb (p + 1) r
  | p, .r _ :: r => rebOk reb (p + 1) r
def callO (f : Nat) (os : List Od) (l : Sl) : RE :=
  if onceO (lowR (rb f) l 0 os) os && rebOk (rb f) 0 os then (match cl f (takeO (lowR (rb f) l 0 os) os) with
    | .ok v as => .ok v (backO (lowR (rb f) l 0 os) os as)
    | .no => .no) else .no
mutual
noncomputable def evE : E → Sl → RE
  | .cst d, l => .ok ⟨0, d⟩ l
  | .glb _ d, l => .ok ⟨0, d⟩ l
  | .var i, l => if (gt l i).d.isUn then .no else .ok ⟨0, (gt l i).d⟩ (low l i 0)
  | .op o es, l => (evO es l).bnd fun os l' => applyO o os l'
  | .call f _ es, l => (evO es l).bnd fun os l' => callO cl rb f os l'
  | .callk f _ ks pm es, l => (evO es l).bnd fun os l' => if os.length == ks.length && pm.all (fun j => decide (j < os.length)) then callO cl rb f (pm.map fun j => dropO (os.getD j (.v ⟨0, .un⟩))) l' else .no
  | .chain o o2 a b c, l => (opd a (evE a) l).bnd fun x l1 => (opd b (evE b) l1).bnd fun y l2 => if midOk y then
      (applyO (.cmp o) (x ++ y) l2).bnd fun v l3 => (match v.d with
        | .bl false => .ok ⟨0, .bl false⟩ l3
        | .bl true => (opd c (evE c) l3).bnd fun z l4 => applyO (.cmp o2) (y ++ z) l4
        | _ => .no) else .no
  | .and es, l => evAnd es l
  | .or es, l => evOr es l
  | .not a, l => (evE a l).bnd fun v l' => (match v.d with | .bl b => .ok ⟨0, .bl (!b)⟩ l' | _ => .no)
  | .ite c a b, l => (evE c l).bnd fun v l' => (match v.d with | .bl true => evE a l' | .bl false => evE b l' | _ => .no)
  | .slc hl hh a lo hi, l => (opd a (evE a) l).bnd fun os l1 => (match partR hl (evE lo) l1 with
      | .no => .no
      | .ok i l2 => (match partR hh (evE hi) l2 with
        | .no => .no
        | .ok j l3 => applySl i j os l3))
  | .app i e, l => if (gt l i).d.isL then (opd e (evE e) l).bnd fun os l' => if notI i os then (match gt l' i, os with
      | ⟨1, .lst xs⟩, [o] => if small (xs.length + 1) then .ok ⟨0, .non⟩ (st (lowO 0 l' os) i ⟨1, .lst (xs ++ [o.d l'])⟩) else .no
      | ⟨2, .lst xs⟩, [o] => if small (xs.length + 1) && dpOk l' os then .ok ⟨0, .non⟩ (st l' i ⟨2, .lst (xs ++ [o.d l'])⟩) else .no
      | _, _ => .no) else .no else .no
  | .pop i, l => (match gt l i with
      | ⟨t + 1, .lst xs⟩ => (match xs.getLast? with | some x => .ok ⟨if x.isM then t else 0, x⟩ (st l i ⟨t + 1, .lst xs.dropLast⟩) | none => .no)
      | _ => .no)
  | .popi i e, l => if (gt l i).d.isL then (evE e l).bnd fun v l' => (match gt l' i, v.d with
      | ⟨t + 1, .lst xs⟩, .int k => (match ixN xs.length k with
        | some j => (match xs[j]? with | some x => .ok ⟨if x.isM then t else 0, x⟩ (st l' i ⟨t + 1, .lst (xs.eraseIdx j)⟩) | none => .no)
        | none => .no)
      | _, _ => .no) else .no
  | .ext i e, l => (opd e (evE e) l).bnd fun os l' => (match gt l' i, os with
      | ⟨1, .lst xs⟩, [.v ⟨_, .lst ys⟩] => if small (xs.length + ys.length) then .ok ⟨0, .non⟩ (st l' i ⟨1, .lst (xs ++ ys)⟩) else .no
      | ⟨1, .lst xs⟩, [.r j] => if i = j then .no else (match (gt l' j).d with
          | .lst ys => if small (xs.length + ys.length) then .ok ⟨0, .non⟩ (st (low l' j 1) i ⟨1, .lst (xs ++ ys)⟩) else .no
          | _ => .no)
      | _, _ => .no)
  | .appK i k e, l => (match k with
      | .cst key => (match inL (gt l i) key, flatV l e with
        | some xs, some x => if small (xs.length + 1) then .ok ⟨0, .non⟩ (st l i (outL (gt l i) key (xs ++ [x]))) else .no
        | _, _ => .no)
      | _ => .no)
  | .popK i k, l => (match k with
      | .cst key => (match inL (gt l i) key with
        | some xs => (match xs.getLast? with | some x => .ok ⟨0, x⟩ (st l i (outL (gt l i) key xs.dropLast)) | none => .no)
        | none => .no)
      | _ => .no)
  | .neK i k, l => (match k with
      | .cst key => (match inL (gt l i) key with
        | some xs => okB (cmpD .ne (.lst xs) (.lst [])) l
        | none => .no)
      | _ => .no)
  | .ro a, l => (match evE a (lowA l) with | .ok v _ => if v.d.isFl then .ok ⟨0, v.d⟩ l else .no | .no => .no)
  | .rg tp es, l => (evO es l).bnd fun os l' => rgE tp (os.map (Od.d l')) l'
  | .lc dp tg it cs e, l => (evI it l).bnd fun xs l1 =>
      (lcR (fun x l' => evE e l') dp (fun x l' => match bindT (clr l' tg) tg x with | some l2 => evC cs l2 | none => .no) xs [] l1).bnd fun v l2 => .ok v (rest l1 l2 tg)
noncomputable def evAnd : Es → Sl → RE
  | .nil, _ => .no
  | .cons e .nil, l => (evE e l).bnd fun v l' => (match v.d with | .bl b => .ok ⟨0, .bl b⟩ l' | _ => .no)
  | .cons e (.cons f r), l => (evE e l).bnd fun v l' => (match v.d with | .bl true => evAnd (.cons f r) l' | .bl false => .ok ⟨0, .bl false⟩ l' | _ => .no)
noncomputable def evOr : Es → Sl → RE
  | .nil, _ => .no
  | .cons e .nil, l => (evE e l).bnd fun v l' => (match v.d with | .bl b => .ok ⟨0, .bl b⟩ l' | _ => .no)
  | .cons e (.cons f r), l => (evE e l).bnd fun v l' => (match v.d with | .bl false => evOr (.cons f r) l' | .bl true => .ok ⟨0, .bl true⟩ l' | _ => .no)
noncomputable def evO : Es → Sl → RO
  | .nil, l => .ok [] l
  | .cons e r, l => (opd e (evE e) l).bO fun o l1 => (evO r l1).bO fun os l2 => .ok (o ++ os) l2
noncomputable def evC : Es → Sl → RB
  | .nil, l => .ok true l
  | .cons e _, l => (evE e l).tst
noncomputable def evI : It → Sl → RI
  | .seq e, l => (opd e (evE e) l).bI fun os l' => (match os with
      | [o] => (match seqOf (o.d l') with | some xs => .ok xs (lowO 0 l' os) | none => .no)
      | _ => .no)
  | .rng es, l => (evO es l).bI fun os l' => (match os.map (Od.d l') with
      | [.int n] => if decide (-(2 ^ 62) ≤ n ∧ n < 2 ^ 62) then .ok (rngL 0 n) l' else .no
      | [.int a, .int b] => if decide (-(2 ^ 62) ≤ a ∧ a < 2 ^ 62 ∧ -(2 ^ 62) ≤ b ∧ b < 2 ^ 62) then .ok (rngL a b) l' else .no
      | _ => .no)
  | .enum e, l => (opd e (evE e) l).bI fun os l' => (match os with
      | [o] => (match seqOf (o.d l') with | some xs => .ok (enumL 0 xs) (lowO 0 l' os) | none => .no)
      | _ => .no)
  | .zip a b, l => ((opd a (evE a) l).bO fun x l1 => (opd b (evE b) l1).bO fun y l2 => .ok (x ++ y) l2).bI fun os l' => (match os with
      | [x, y] => (match x.d l', y.d l' with | .tup xs, .tup ys => .ok (zipL xs ys) (lowO 0 l' os) | .lst xs, .lst ys => .ok (zipL xs ys) (lowO 0 l' os) | _, _ => .no)
      | _ => .no)
end
/-- values, from the left -/
noncomputable def evVs : Es → Sl → List TV → (List TV → Sl → RS) → RS
  | .nil, l, acc, k => k acc.reverse l
  | .cons e r, l, acc, k => (evE cl rb e l).bS fun v l' => evVs r l' (v :: acc) k
def setVs : Sl → List Nat → List TV → Sl
  | l, i :: is, v :: vs => setVs (st l i v) is vs
  | l, _, _ => l
def putOk (v : TV) : Bool := !v.d.isM || v.t == 1
def setK (l : Sl) (i : Nat) (k : D) (v : TV) : RS :=
  match gt l i, k with
  | ⟨1, .lst xs⟩, .int j => (match ixN xs.length j with | some m => .nx (st l i ⟨1, .lst (xs.set m v.d)⟩) | none => .no)
  | ⟨2, .lst xs⟩, .int j => (match ixN xs.length j with | some m => if putOk v then .nx (st l i ⟨2, .lst (xs.set m v.d)⟩) else .no | none => .no)
  | ⟨1, .dct false kvs⟩, key => if key.isKey false && small (kvs.length + 1) then .nx (st l i ⟨1, .dct false (pt kvs key v.d)⟩) else .no
  | ⟨2, .dct false kvs⟩, key => if key.isKey false && small (kvs.length + 1) && putOk v then .nx (st l i ⟨2, .dct false (pt kvs key v.d)⟩) else .no
  | _, _ => .no
def setKK (l : Sl) (i : Nat) (k1 k2 : D) (v : TV) : RS :=
  match gt l i, k1, k2 with
  | ⟨2, .lst xs⟩, .int j, .int m => (match ixN xs.length j with
    | some a => (match xs[a]? with
      | some (.lst ys) => (match ixN ys.length m with | some b => .nx (st l i ⟨2, .lst (xs.set a (.lst (ys.set b v.d)))⟩) | none => .no)
      | _ => .no)
    | none => .no)
  | _, _, _ => .no
variable (np : Nat)
mutual
noncomputable def evS : S → Sl → RS
  | .asg i e, l => (evE cl rb e l).bS fun v l' => .nx (st l' i v)
  | .asgT is e, l => (evE cl rb e l).bS fun v l' => (match bindT l' is v.d with | some l2 => .nx l2 | none => .no)
  | .asgP is es, l => evVs cl rb es l [] fun vs l' => .nx (setVs l' is vs)
  | .setI i k e, l => (evE cl rb e l).bS fun v l1 => if (gt l1 i).d.isM then (evE cl rb k l1).bS fun kv l2 => setK l2 i kv.d v else .no
  | .setII i k1 k2 e, l => (evE cl rb e l).bS fun v l1 => (match flatV l1 k1, flatV l1 k2 with | some a, some b => setKK l1 i a b v | _, _ => .no)
  | .exp e, l => (evE cl rb e l).bS fun _ l' => .nx l'
  | .ret e, l => (opd e (evE cl rb e) l).bS fun os l' => (match os with
      | [.v v] => .rt v l'
      | [.r i] => if np ≤ i then .rt (gt l' i) (st l' i ⟨0, .un⟩) else .rt ⟨0, (gt l' i).d⟩ (low l' i 0)
      | _ => .no)
  | .ite c a b, l => (evE cl rb c l).tst.bS fun k l' => if k then evSs a l' else evSs b l'
  | .forr tg it b, l => (evI cl rb it l).bS fun xs l1 => forR (fun x l' => match bindT l' tg x with | some l2 => evSs b l2 | none => .no) xs l1
  | .whl c b, l => whR (fun l' => (evE cl rb c l').tst) (fun l' => evSs b l') l
  | .brk, l => .bk l
  | .cnt, l => .ct l
  | .pss, l => .nx l
noncomputable def evSs : Ss → Sl → RS
  | .nil, l => .nx l
  | .cons s r, l => (evS s l).bnd fun l' => evSs r l'
end
end
/-! ### defs -/
mutual
def asgS : S → Nat → Bool
  | .asg i _, j => i == j
  | .asgT is _, j => is.contains j
  | .asgP is _, j => is.contains j
  | .ite _ a b, j => asgSs a j || asgSs b j
  | .forr tg _ b, j => tg.contains j || asgSs b j
  | .whl _ b, j => asgSs b j
  | _, _ => false
def asgSs : Ss → Nat → Bool
  | .nil, _ => false
  | .cons s r, j => asgS s j || asgSs r j
end
structure FD where
  np : Nat
  nn : Nat
  body : Ss
def FD.reb (fd : FD) (p : Nat) : Bool := asgSs fd.body p
def start (nn : Nat) (args : List TV) : Sl := args ++ List.replicate (nn - args.length) ⟨0, .un⟩
/-- what the parameters hold behind the call -/
def outs (fd : FD) (l : Sl) : Nat → List TV → List TV
  | _, [] => []
  | p, x :: r => (if fd.reb p then ⟨0, x.d⟩ else gt l p) :: outs fd l (p + 1) r
/-- what is handed to a parameter that is stored anew, is not owned -/
def rebT (reb : Nat → Bool) : Nat → List TV → Bool
  | _, [] => true
  | p, x :: r => (!reb p || x.t == 0) && rebT reb (p + 1) r
noncomputable def evF (cl : Nat → List TV → RC) (rb : Nat → Nat → Bool) (fd : FD) (args : List TV) : RC :=
  if args.length = fd.np ∧ rebT fd.reb 0 args = true then (match evSs cl rb fd.np fd.body (start fd.nn args) with
    | .rt v l => .ok v (outs fd l 0 args)
    | .nx l => .ok ⟨0, .non⟩ (outs fd l 0 args)
    | _ => .no) else .no
def rbP (P : Nat → Option FD) (f p : Nat) : Bool := match P f with | some fd => fd.reb p | none => false
noncomputable def evCall (P : Nat → Option FD) : Nat → Nat → List TV → RC
  | 0, _, _ => .no
  | n + 1, f, args => match P f with | some fd => evF (evCall P n) (rbP P) fd args | none => .no
end DL
end

section
set_option Elab.async false
set_option linter.all false
set_option maxRecDepth 100000
/-! DB: how data lie in the abstract heap; what is owned. -/
namespace DL
open PySem L2

abbrev Pd := Addr → Prop
def keyD : D → Option Key
  | .int i => some (.inl i)
  | .str x => some (.inr x)
  | _ => none
def keysD : List D → Option (List Key)
  | [] => some []
  | d :: r => (keyD d).bind fun k => (keysD r).map (k :: ·)

mutual
/-- v holds d; nothing of it may change (U: what may) -/
inductive Fz (H : Hp) (U : Pd) : D → V → Prop
  | non : Fz H U .non .non
  | bl (b : Bool) : Fz H U (.bl b) (.bl b)
  | int (i : Int) : Fz H U (.int i) (.int i)
  | str (x : Str) : Fz H U (.str x) (.str x)
  | tup {a : Addr} {vs : List V} {ds : List D} : H a = some (.tup vs) → ¬ U a → FzL H U ds vs → Fz H U (.tup ds) (.ref a)
  | lst {a : Addr} {vs : List V} {ds : List D} : Rd H a (.lst vs) → ¬ U a → FzL H U ds vs → Fz H U (.lst ds) (.ref a)
  | dk {a : Addr} {ks : List (Key × V)} {ds : List (D × D)} : Rd H a (.dK ks) → ¬ U a → FzK H U ds ks → Fz H U (.dct false ds) (.ref a)
  | dt {a : Addr} {ks : List (List Key × V)} {ds : List (D × D)} : Rd H a (.dT ks) → ¬ U a → FzT H U ds ks → Fz H U (.dct true ds) (.ref a)
inductive FzL (H : Hp) (U : Pd) : List D → List V → Prop
  | nil : FzL H U [] []
  | cons {d : D} {v : V} {ds : List D} {vs : List V} : Fz H U d v → FzL H U ds vs → FzL H U (d :: ds) (v :: vs)
inductive FzK (H : Hp) (U : Pd) : List (D × D) → List (Key × V) → Prop
  | nil : FzK H U [] []
  | cons {k d : D} {c : Key} {v : V} {ds : List (D × D)} {vs : List (Key × V)} : keyD k = some c → Fz H U d v → FzK H U ds vs → FzK H U ((k, d) :: ds) ((c, v) :: vs)
inductive FzT (H : Hp) (U : Pd) : List (D × D) → List (List Key × V) → Prop
  | nil : FzT H U [] []
  | cons {ks : List D} {d : D} {c : List Key} {v : V} {ds : List (D × D)} {vs : List (List Key × V)} : keysD ks = some c → Fz H U d v → FzT H U ds vs → FzT H U ((.tup ks, d) :: ds) ((c, v) :: vs)
end

/-- the step from (H, U) to (H', U'): what is not of O stays -/
structure Go (H : Hp) (U : Pd) (O : Pd) (H' : Hp) (U' : Pd) : Prop where
  keep : ∀ a o, H a = some o → ¬ O a → H' a = some o
  uk : ∀ a, H a ≠ none → ¬ O a → (U' a ↔ U a)
  dom : ∀ a, H a ≠ none → H' a ≠ none

theorem Go.refl (H : Hp) (U O : Pd) : Go H U O H U := ⟨fun _ _ h _ => h, fun _ _ _ => Iff.rfl, fun _ h => h⟩
theorem Go.trans {H H1 H2 : Hp} {U U1 U2 O O1 : Pd} (g : Go H U O H1 U1) (g1 : Go H1 U1 O1 H2 U2) (h : ∀ a, O1 a → O a ∨ H a = none) : Go H U O H2 U2 :=
  ⟨fun a o e n => g1.keep a o (g.keep a o e n) (fun q => (h a q).elim n fun z => by rw [z] at e; cases e),
   fun a e n => (g1.uk a (g.dom a e) fun q => (h a q).elim n fun z => e z).trans (g.uk a e n), fun a e => g1.dom a (g.dom a e)⟩
theorem Go.mono {H H1 : Hp} {U U1 O O' : Pd} (g : Go H U O H1 U1) (h : ∀ a, O a → O' a) : Go H U O' H1 U1 :=
  ⟨fun a o e n => g.keep a o e fun q => n (h a q), fun a e n => g.uk a e fun q => n (h a q), g.dom⟩

theorem nne {α : Type} {x : Option α} {o : α} (h : x = some o) : x ≠ none := fun z => by rw [h] at z; cases z
theorem Rd.keep {H H' : Hp} {a : Addr} {u : HO} (r : Rd H a u) (h : ∀ o, H a = some o → H' a = some o) : Rd H' a u := by
  rcases r with r | ⟨o, r⟩
  · exact .inl (h _ r)
  · exact .inr ⟨o, h _ r⟩
theorem Rd.ne {H : Hp} {a : Addr} {u : HO} (r : Rd H a u) : H a ≠ none := by
  rcases r with r | ⟨o, r⟩ <;> rw [r] <;> exact fun z => nomatch z

section
variable {H H' : Hp} {U U' O : Pd}
mutual
theorem Fz.keep (hk : ∀ a o, H a = some o → ¬ U a → H' a = some o) (hu : ∀ a, H a ≠ none → ¬ U a → ¬ U' a) : ∀ (d : D) (v : V), Fz H U d v → Fz H' U' d v
  | .un, _, h => nomatch h
  | .non, _, h => by cases h; exact .non
  | .bl _, _, h => by cases h; exact .bl _
  | .int _, _, h => by cases h; exact .int _
  | .str _, _, h => by cases h; exact .str _
  | .tup ds, _, h => by
    cases h with
    | tup e n q => exact .tup (hk _ _ e n) (hu _ (nne e) n) (FzL.keep hk hu ds _ q)
  | .lst ds, _, h => by
    cases h with
    | lst e n q => exact .lst (Rd.keep e fun o z => hk _ o z n) (hu _ (Rd.ne e) n) (FzL.keep hk hu ds _ q)
  | .dct _ ds, _, h => by
    cases h with
    | dk e n q => exact .dk (Rd.keep e fun o z => hk _ o z n) (hu _ (Rd.ne e) n) (FzK.keep hk hu ds _ q)
    | dt e n q => exact .dt (Rd.keep e fun o z => hk _ o z n) (hu _ (Rd.ne e) n) (FzT.keep hk hu ds _ q)
theorem FzL.keep (hk : ∀ a o, H a = some o → ¬ U a → H' a = some o) (hu : ∀ a, H a ≠ none → ¬ U a → ¬ U' a) : ∀ (ds : List D) (vs : List V), FzL H U ds vs → FzL H' U' ds vs
  | [], _, h => by cases h; exact .nil
  | d :: ds, _, h => by
    cases h with
    | cons h1 h2 => exact .cons (Fz.keep hk hu d _ h1) (FzL.keep hk hu ds _ h2)
theorem FzK.keep (hk : ∀ a o, H a = some o → ¬ U a → H' a = some o) (hu : ∀ a, H a ≠ none → ¬ U a → ¬ U' a) : ∀ (ds : List (D × D)) (vs : List (Key × V)), FzK H U ds vs → FzK H' U' ds vs
  | [], _, h => by cases h; exact .nil
  | (k, d) :: ds, _, h => by
    cases h with
    | cons h0 h1 h2 => exact .cons h0 (Fz.keep hk hu d _ h1) (FzK.keep hk hu ds _ h2)
theorem FzT.keep (hk : ∀ a o, H a = some o → ¬ U a → H' a = some o) (hu : ∀ a, H a ≠ none → ¬ U a → ¬ U' a) : ∀ (ds : List (D × D)) (vs : List (List Key × V)), FzT H U ds vs → FzT H' U' ds vs
  | [], _, h => by cases h; exact .nil
  | (k, d) :: ds, _, h => by
    cases h with
    | cons h0 h1 h2 => exact .cons h0 (Fz.keep hk hu d _ h1) (FzT.keep hk hu ds _ h2)
end
end

/-- an object of one's own, at a; what it holds never changes -/
def Own1 (H : Hp) (U : Pd) (d : D) (v : V) (a : Addr) : Prop :=
  match d with
  | .lst ds => ∃ vs, v = .ref a ∧ H a = some (.lst vs) ∧ U a ∧ FzL H U ds vs
  | .dct false ds => ∃ ks, v = .ref a ∧ H a = some (.dK ks) ∧ U a ∧ FzK H U ds ks
  | .dct true ds => ∃ ks, v = .ref a ∧ H a = some (.dT ks) ∧ U a ∧ FzT H U ds ks
  | _ => False
/-- within an object that owns what it holds -/
def RepC (H : Hp) (U : Pd) (d : D) (v : V) (A : List Addr) : Prop :=
  (d.isM = false ∧ A = [] ∧ Fz H U d v) ∨ ∃ a, A = [a] ∧ Own1 H U d v a
inductive RepCs (H : Hp) (U : Pd) : List D → List V → List (List Addr) → Prop
  | nil : RepCs H U [] [] []
  | cons {d : D} {v : V} {A : List Addr} {ds : List D} {vs : List V} {As : List (List Addr)} : RepC H U d v A → RepCs H U ds vs As → RepCs H U (d :: ds) (v :: vs) (A :: As)
inductive RepKs (H : Hp) (U : Pd) : List (D × D) → List (Key × V) → List (List Addr) → Prop
  | nil : RepKs H U [] [] []
  | cons {k d : D} {c : Key} {v : V} {A : List Addr} {ds : List (D × D)} {vs : List (Key × V)} {As : List (List Addr)} : keyD k = some c → RepC H U d v A → RepKs H U ds vs As → RepKs H U ((k, d) :: ds) ((c, v) :: vs) (A :: As)

def Rep (H : Hp) (U : Pd) (x : TV) (v : V) (A : List Addr) : Prop :=
  match x with
  | ⟨0, d⟩ => A = [] ∧ Fz H U d v
  | ⟨1, d⟩ => ∃ a, A = [a] ∧ Own1 H U d v a
  | ⟨2, .lst ds⟩ => ∃ a vs As, v = .ref a ∧ H a = some (.lst vs) ∧ U a ∧ A = a :: As.flatten ∧ RepCs H U ds vs As
  | ⟨2, .dct false ds⟩ => ∃ a ks As, v = .ref a ∧ H a = some (.dK ks) ∧ U a ∧ A = a :: As.flatten ∧ RepKs H U ds ks As
  | _ => False

section
variable {H H' : Hp} {U U' O : Pd}
theorem Own1.keep {d : D} {v : V} {a : Addr} (hk : ∀ a o, H a = some o → ¬ U a → H' a = some o) (hu : ∀ a, H a ≠ none → ¬ U a → ¬ U' a)
    (h : Own1 H U d v a) (ha : ∀ o, H a = some o → H' a = some o) (hU : U a → U' a) : Own1 H' U' d v a := by
  match d, h with
  | .lst ds, ⟨vs, e, h1, h2, h3⟩ => exact ⟨vs, e, ha _ h1, hU h2, FzL.keep hk hu _ _ h3⟩
  | .dct false ds, ⟨vs, e, h1, h2, h3⟩ => exact ⟨vs, e, ha _ h1, hU h2, FzK.keep hk hu _ _ h3⟩
  | .dct true ds, ⟨vs, e, h1, h2, h3⟩ => exact ⟨vs, e, ha _ h1, hU h2, FzT.keep hk hu _ _ h3⟩
theorem RepC.keep {d : D} {v : V} {A : List Addr} (hk : ∀ a o, H a = some o → ¬ U a → H' a = some o) (hu : ∀ a, H a ≠ none → ¬ U a → ¬ U' a)
    (h : RepC H U d v A) (ha : ∀ a ∈ A, ∀ o, H a = some o → H' a = some o) (hU : ∀ a ∈ A, U a → U' a) : RepC H' U' d v A := by
  rcases h with ⟨h1, h2, h3⟩ | ⟨a, rfl, h2⟩
  · exact .inl ⟨h1, h2, Fz.keep hk hu _ _ h3⟩
  · exact .inr ⟨a, rfl, h2.keep hk hu (ha a (by simp)) (hU a (by simp))⟩
theorem RepCs.keep (hk : ∀ a o, H a = some o → ¬ U a → H' a = some o) (hu : ∀ a, H a ≠ none → ¬ U a → ¬ U' a) : ∀ {ds : List D} {vs : List V} {As : List (List Addr)},
    RepCs H U ds vs As → (∀ a ∈ As.flatten, ∀ o, H a = some o → H' a = some o) → (∀ a ∈ As.flatten, U a → U' a) → RepCs H' U' ds vs As
  | _, _, _, .nil, _, _ => .nil
  | _, _, _, .cons h1 h2, ha, hU => .cons (h1.keep hk hu (fun a m => ha a (by simp [m])) fun a m => hU a (by simp [m]))
      (RepCs.keep hk hu h2 (fun a m => ha a (by simp at m ⊢; exact .inr m)) fun a m => hU a (by simp at m ⊢; exact .inr m))
theorem RepKs.keep (hk : ∀ a o, H a = some o → ¬ U a → H' a = some o) (hu : ∀ a, H a ≠ none → ¬ U a → ¬ U' a) : ∀ {ds : List (D × D)} {vs : List (Key × V)} {As : List (List Addr)},
    RepKs H U ds vs As → (∀ a ∈ As.flatten, ∀ o, H a = some o → H' a = some o) → (∀ a ∈ As.flatten, U a → U' a) → RepKs H' U' ds vs As
  | _, _, _, .nil, _, _ => .nil
  | _, _, _, .cons h0 h1 h2, ha, hU => .cons h0 (h1.keep hk hu (fun a m => ha a (by simp [m])) fun a m => hU a (by simp [m]))
      (RepKs.keep hk hu h2 (fun a m => ha a (by simp at m ⊢; exact .inr m)) fun a m => hU a (by simp at m ⊢; exact .inr m))
theorem Rep.keep {x : TV} {v : V} {A : List Addr} (hk : ∀ a o, H a = some o → ¬ U a → H' a = some o) (hu : ∀ a, H a ≠ none → ¬ U a → ¬ U' a)
    (h : Rep H U x v A) (ha : ∀ a ∈ A, ∀ o, H a = some o → H' a = some o) (hU : ∀ a ∈ A, U a → U' a) : Rep H' U' x v A := by
  match x, h with
  | ⟨0, d⟩, ⟨h1, h2⟩ => exact ⟨h1, Fz.keep hk hu _ _ h2⟩
  | ⟨1, d⟩, ⟨a, h1, h2⟩ =>
    subst h1
    exact ⟨a, rfl, h2.keep hk hu (ha a (by simp)) (hU a (by simp))⟩
  | ⟨2, .lst ds⟩, ⟨a, vs, As, h1, h2, h3, h4, h5⟩ =>
    subst h4
    exact ⟨a, vs, As, h1, ha a (by simp) _ h2, hU a (by simp) h3, rfl, h5.keep hk hu (fun b m => ha b (List.mem_cons_of_mem _ m)) fun b m => hU b (List.mem_cons_of_mem _ m)⟩
  | ⟨2, .dct false ds⟩, ⟨a, vs, As, h1, h2, h3, h4, h5⟩ =>
    subst h4
    exact ⟨a, vs, As, h1, ha a (by simp) _ h2, hU a (by simp) h3, rfl, h5.keep hk hu (fun b m => ha b (List.mem_cons_of_mem _ m)) fun b m => hU b (List.mem_cons_of_mem _ m)⟩

theorem Own1.at {d : D} {v : V} {a : Addr} (h : Own1 H U d v a) : U a ∧ H a ≠ none ∧ v = .ref a := by
  match d, h with
  | .lst ds, ⟨vs, e, h1, h2, h3⟩ => exact ⟨h2, nne h1, e⟩
  | .dct false ds, ⟨vs, e, h1, h2, h3⟩ => exact ⟨h2, nne h1, e⟩
  | .dct true ds, ⟨vs, e, h1, h2, h3⟩ => exact ⟨h2, nne h1, e⟩
theorem Own1.isM {d : D} {v : V} {a : Addr} (h : Own1 H U d v a) : d.isM = true := by
  match d, h with
  | .lst ds, _ => rfl
  | .dct false ds, _ => rfl
  | .dct true ds, _ => rfl
theorem RepC.at {d : D} {v : V} {A : List Addr} (h : RepC H U d v A) : ∀ a ∈ A, U a ∧ H a ≠ none := by
  rcases h with ⟨h1, rfl, h3⟩ | ⟨a, rfl, h2⟩
  · simp
  · intro b hb
    obtain rfl : b = a := by simpa using hb
    exact ⟨h2.at.1, h2.at.2.1⟩
theorem RepCs.at : ∀ {ds : List D} {vs : List V} {As : List (List Addr)}, RepCs H U ds vs As → ∀ a ∈ As.flatten, U a ∧ H a ≠ none
  | _, _, _, .nil, _, h => by simp at h
  | _, _, _, .cons h1 h2, a, h => by
    simp only [List.flatten_cons, List.mem_append] at h
    rcases h with h | h
    · exact h1.at a h
    · exact h2.at a h
theorem RepKs.at : ∀ {ds : List (D × D)} {vs : List (Key × V)} {As : List (List Addr)}, RepKs H U ds vs As → ∀ a ∈ As.flatten, U a ∧ H a ≠ none
  | _, _, _, .nil, _, h => by simp at h
  | _, _, _, .cons h0 h1 h2, a, h => by
    simp only [List.flatten_cons, List.mem_append] at h
    rcases h with h | h
    · exact h1.at a h
    · exact h2.at a h
/-- what is owned may change, and stands -/
theorem Rep.at {x : TV} {v : V} {A : List Addr} (h : Rep H U x v A) : ∀ a ∈ A, U a ∧ H a ≠ none := by
  match x, h with
  | ⟨0, d⟩, ⟨h1, h2⟩ => subst h1; simp
  | ⟨1, d⟩, ⟨a, h1, h2⟩ =>
    subst h1
    intro b hb
    obtain rfl : b = a := by simpa using hb
    exact ⟨h2.at.1, h2.at.2.1⟩
  | ⟨2, .lst ds⟩, ⟨a, vs, As, h1, h2, h3, h4, h5⟩ =>
    subst h4
    intro b hb
    rcases List.mem_cons.mp hb with rfl | hb
    · exact ⟨h3, nne h2⟩
    · exact h5.at b hb
  | ⟨2, .dct false ds⟩, ⟨a, vs, As, h1, h2, h3, h4, h5⟩ =>
    subst h4
    intro b hb
    rcases List.mem_cons.mp hb with rfl | hb
    · exact ⟨h3, nne h2⟩
    · exact h5.at b hb

/-! ### letting go -/
/-- without some addresses -/
def wo (U : Pd) (A : List Addr) : Pd := fun a => U a ∧ a ∉ A
theorem Own1.froz {d : D} {v : V} {a : Addr} (h : Own1 H U d v a) (hu : ∀ b, U' b → U b) (ha : ¬ U' a) : Fz H U' d v := by
  have hk : ∀ a o, H a = some o → ¬ U a → H a = some o := fun _ _ e _ => e
  have h2 : ∀ a, H a ≠ none → ¬ U a → ¬ U' a := fun a _ n z => n (hu a z)
  match d, h with
  | .lst ds, ⟨vs, e, h1, _, h3⟩ => subst e; exact .lst (.inl h1) ha (FzL.keep hk h2 _ _ h3)
  | .dct false ds, ⟨vs, e, h1, _, h3⟩ => subst e; exact .dk (.inl h1) ha (FzK.keep hk h2 _ _ h3)
  | .dct true ds, ⟨vs, e, h1, _, h3⟩ => subst e; exact .dt (.inl h1) ha (FzT.keep hk h2 _ _ h3)
theorem RepC.froz {d : D} {v : V} {A : List Addr} (h : RepC H U d v A) (hu : ∀ b, U' b → U b) (ha : ∀ a ∈ A, ¬ U' a) : Fz H U' d v := by
  rcases h with ⟨h1, rfl, h3⟩ | ⟨a, rfl, h2⟩
  · exact Fz.keep (fun _ _ e _ => e) (fun a _ n z => n (hu a z)) _ _ h3
  · exact h2.froz hu (ha a (by simp))
theorem RepCs.froz (hu : ∀ b, U' b → U b) : ∀ {ds : List D} {vs : List V} {As : List (List Addr)}, RepCs H U ds vs As → (∀ a ∈ As.flatten, ¬ U' a) → FzL H U' ds vs
  | _, _, _, .nil, _ => .nil
  | _, _, _, .cons h1 h2, ha => .cons (h1.froz hu fun a m => ha a (by simp [m])) (RepCs.froz hu h2 fun a m => ha a (by simp at m ⊢; exact .inr m))
theorem RepKs.froz (hu : ∀ b, U' b → U b) : ∀ {ds : List (D × D)} {vs : List (Key × V)} {As : List (List Addr)}, RepKs H U ds vs As → (∀ a ∈ As.flatten, ¬ U' a) → FzK H U' ds vs
  | _, _, _, .nil, _ => .nil
  | _, _, _, .cons h0 h1 h2, ha => .cons h0 (h1.froz hu fun a m => ha a (by simp [m])) (RepKs.froz hu h2 fun a m => ha a (by simp at m ⊢; exact .inr m))
theorem Rep.froz {x : TV} {v : V} {A : List Addr} (h : Rep H U x v A) (hu : ∀ b, U' b → U b) (ha : ∀ a ∈ A, ¬ U' a) : Fz H U' x.d v := by
  match x, h with
  | ⟨0, d⟩, ⟨h1, h2⟩ => exact Fz.keep (fun _ _ e _ => e) (fun a _ n z => n (hu a z)) _ _ h2
  | ⟨1, d⟩, ⟨a, h1, h2⟩ => subst h1; exact h2.froz hu (ha a (by simp))
  | ⟨2, .lst ds⟩, ⟨a, vs, As, h1, h2, h3, h4, h5⟩ =>
    subst h4 h1
    exact .lst (.inl h2) (ha a (by simp)) (h5.froz hu fun b m => ha b (List.mem_cons_of_mem _ m))
  | ⟨2, .dct false ds⟩, ⟨a, vs, As, h1, h2, h3, h4, h5⟩ =>
    subst h4 h1
    exact .dk (.inl h2) (ha a (by simp)) (h5.froz hu fun b m => ha b (List.mem_cons_of_mem _ m))
/-- the inner objects let go -/
theorem Rep.low1 {x : TV} {v : V} {A : List Addr} (h : Rep H U x v A) (ht : 1 ≤ x.t) (nd : A.Nodup) : ∃ a r, A = a :: r ∧ ∀ U', (∀ b, U' b → U b) → U' a → (∀ b ∈ r, ¬ U' b) → Rep H U' ⟨1, x.d⟩ v [a] := by
  match x, h with
  | ⟨0, d⟩, _ => exact absurd ht (Nat.not_succ_le_zero 0)
  | ⟨1, d⟩, ⟨a, h1, h2⟩ =>
    subst h1
    refine ⟨a, [], rfl, fun U' hu ha _ => ⟨a, rfl, h2.keep (fun _ _ e _ => e) (fun b _ n z => n (hu b z)) (fun _ e => e) fun _ => ha⟩⟩
  | ⟨2, .lst ds⟩, ⟨a, vs, As, h1, h2, h3, h4, h5⟩ =>
    subst h4
    exact ⟨a, As.flatten, rfl, fun U' hu ha hr => ⟨a, rfl, vs, h1, h2, ha, h5.froz hu hr⟩⟩
  | ⟨2, .dct false ds⟩, ⟨a, vs, As, h1, h2, h3, h4, h5⟩ =>
    subst h4
    exact ⟨a, As.flatten, rfl, fun U' hu ha hr => ⟨a, rfl, vs, h1, h2, ha, h5.froz hu hr⟩⟩
end

/-! ### the state -/
structure Sim (H : Hp) (U : Pd) (l : Sl) (σ : L2.St) (As : Nat → List Addr) : Prop where
  len : l.length = σ.length
  rep : ∀ i x, l[i]? = some x → (x = ⟨0, .un⟩ ∧ As i = [] ∧ σ[i]? = some none) ∨ ∃ v, σ[i]? = some (some v) ∧ Rep H U x v (As i)
  nd : ∀ i, (As i).Nodup
  dj : ∀ i j, i ≠ j → ∀ a, a ∈ As i → a ∉ As j
  out : ∀ i, l.length ≤ i → As i = []
  um : ∀ a, U a → H a ≠ none
def Own (As : Nat → List Addr) : Pd := fun a => ∃ i, a ∈ As i

section
variable {H H' : Hp} {U U' O : Pd} {l l' : Sl} {σ : L2.St} {As As' : Nat → List Addr}
theorem Sim.own (S : Sim H U l σ As) {a : Addr} (h : Own As a) : U a ∧ H a ≠ none := by
  obtain ⟨i, hi⟩ := h
  by_cases hl : l.length ≤ i
  · rw [S.out i hl] at hi; simp at hi
  · obtain ⟨x, hx⟩ : ∃ x, l[i]? = some x := ⟨_, List.getElem?_eq_getElem (by omega)⟩
    rcases S.rep i x hx with ⟨_, e, _⟩ | ⟨v, _, r⟩
    · rw [e] at hi; simp at hi
    · exact r.at a hi
/-- the state stands where what is frozen and what is owned stands -/
theorem Sim.keep (S : Sim H U l σ As) (hk : ∀ a o, H a = some o → ¬ U a → H' a = some o) (hu : ∀ a, H a ≠ none → ¬ U a → ¬ U' a)
    (ho : ∀ a, Own As a → (∀ o, H a = some o → H' a = some o) ∧ U' a) (hm : ∀ a, U' a → H' a ≠ none) : Sim H' U' l σ As :=
  ⟨S.len, fun i x hx => (S.rep i x hx).imp (fun h => h) fun ⟨v, e, r⟩ => ⟨v, e, r.keep hk hu (fun a m => (ho a ⟨i, m⟩).1) fun a m _ => (ho a ⟨i, m⟩).2⟩, S.nd, S.dj, S.out, hm⟩
/-- a new object; it may be owned by none of the names -/
theorem Sim.fresh (S : Sim H U l σ As) {p : Addr} {o : HO} (hp : H p = none) (hU : ∀ a, U' a → a = p ∨ U a) (hU2 : ∀ a, Own As a → U' a) : Sim (upd H p o) U' l σ As := by
  refine S.keep (fun a o' e _ => by rw [upd_ne (ne_of_none e hp)]; exact e) (fun a h n z => ?_) (fun a h => ⟨fun o' e => by rw [upd_ne (ne_of_none e hp)]; exact e, hU2 a h⟩) fun a h => ?_
  · rcases hU a z with rfl | z
    · exact h hp
    · exact n z
  · by_cases e : a = p
    · subst e; rw [upd_same]; exact fun z => nomatch z
    · rw [upd_ne e]
      rcases hU a h with z | z
      · exact absurd z e
      · exact S.um a z
theorem gt_at {i : Nat} (h : i < l.length) : l[i]? = some (gt l i) := by
  unfold gt; rw [List.getElem?_eq_getElem h, List.getD_eq_getElem?_getD, List.getElem?_eq_getElem h]; rfl
theorem gt_out {i : Nat} (h : l.length ≤ i) : gt l i = ⟨0, .un⟩ := by
  unfold gt; rw [List.getD_eq_getElem?_getD, List.getElem?_eq_none h]; rfl
/-- a slot that is read -/
theorem Sim.get (S : Sim H U l σ As) {i : Nat} (h : (gt l i).d.isUn = false) : i < l.length ∧ ∃ v, σ[i]? = some (some v) ∧ Rep H U (gt l i) v (As i) := by
  by_cases hl : l.length ≤ i
  · rw [gt_out hl] at h; exact absurd h (by decide)
  · refine ⟨by omega, ?_⟩
    rcases S.rep i _ (gt_at (by omega)) with ⟨e, _⟩ | r
    · rw [e] at h; exact absurd h (by decide)
    · exact r
theorem Rep.notUn {x : TV} {v : V} {A : List Addr} (h : Rep H U x v A) : x.d.isUn = false := by
  match x, h with
  | ⟨0, d⟩, ⟨_, h2⟩ => cases h2 <;> rfl
  | ⟨1, d⟩, ⟨a, _, h2⟩ => exact (match d, h2 with | .lst _, _ => rfl | .dct false _, _ => rfl | .dct true _, _ => rfl)
  | ⟨2, .lst ds⟩, _ => rfl
  | ⟨2, .dct false ds⟩, _ => rfl
/-- a slot set anew -/
theorem Sim.put (S : Sim H U l σ As) {i : Nat} {x : TV} {v : V} {A : List Addr} (r : Rep H U x v A) (nd : A.Nodup) (hd : ∀ j, j ≠ i → ∀ a, a ∈ A → a ∉ As j) (hi : i < l.length) :
    Sim H U (st l i x) (σ.set i (some v)) (fun j => if j = i then A else As j) := by
  refine ⟨by unfold st; rw [List.length_set, List.length_set]; exact S.len, fun j y hy => ?_, fun j => ?_, fun j k hjk a ha => ?_, fun j hj => ?_, S.um⟩
  · by_cases e : j = i
    · subst e
      unfold st at hy
      rw [List.getElem?_set_self hi] at hy
      cases hy
      simp only [if_pos]
      exact .inr ⟨v, by rw [List.getElem?_set_self (by rw [← S.len]; exact hi)], r⟩
    · unfold st at hy
      rw [List.getElem?_set_ne (Ne.symm e)] at hy
      simp only [if_neg e]
      rw [List.getElem?_set_ne (Ne.symm e)]
      exact S.rep j y hy
  · by_cases e : j = i
    · simp only [if_pos e]; exact nd
    · simp only [if_neg e]; exact S.nd j
  · by_cases e : j = i
    · subst e
      simp only [if_pos] at ha
      simp only [if_neg (Ne.symm hjk)]
      exact hd k (Ne.symm hjk) a ha
    · simp only [if_neg e] at ha
      by_cases e2 : k = i
      · simp only [if_pos e2]
        exact fun z => hd j e a z ha
      · simp only [if_neg e2]
        exact S.dj j k hjk a ha
  · unfold st at hj
    rw [List.length_set] at hj
    simp only [if_neg (show j ≠ i by omega)]
    exact S.out j hj
/-- what a slot owns is let go, as far as it is told -/
theorem Sim.weak (S : Sim H U l σ As) {i : Nat} {x : TV} {v : V} {A : List Addr} (hv : σ[i]? = some (some v)) (hi : i < l.length) (hu : ∀ b, U' b → U b) (hA : ∀ a ∈ A, a ∈ As i) (nd : A.Nodup)
    (hk : ∀ a, Own As a → a ∉ As i → U' a) (r : Rep H U' x v A) : Sim H U' (st l i x) σ (fun j => if j = i then A else As j) := by
  have S' : Sim H U l σ As := S
  refine ⟨by unfold st; rw [List.length_set]; exact S.len, fun j y hy => ?_, fun j => ?_, fun j k hjk a ha => ?_, fun j hj => ?_, fun a h => S.um a (hu a h)⟩
  · by_cases e : j = i
    · subst e
      unfold st at hy
      rw [List.getElem?_set_self hi] at hy
      cases hy
      simp only [if_pos]
      exact .inr ⟨v, hv, r⟩
    · unfold st at hy
      rw [List.getElem?_set_ne (Ne.symm e)] at hy
      simp only [if_neg e]
      refine (S.rep j y hy).imp (fun h => h) fun ⟨w, e1, r1⟩ => ⟨w, e1, r1.keep (fun _ _ e _ => e) (fun b _ n z => n (hu b z)) (fun _ _ _ e => e) fun a m _ => hk a ⟨j, m⟩ (S.dj j i e a m)⟩
  · by_cases e : j = i
    · simp only [if_pos e]; exact nd
    · simp only [if_neg e]; exact S.nd j
  · by_cases e : j = i
    · subst e
      simp only [if_pos] at ha
      simp only [if_neg (Ne.symm hjk)]
      exact S.dj j k hjk a (hA a ha)
    · simp only [if_neg e] at ha
      by_cases e2 : k = i
      · simp only [if_pos e2]
        subst e2
        exact fun z => S.dj j k hjk a ha (hA a z)
      · simp only [if_neg e2]
        exact S.dj j k hjk a ha
  · unfold st at hj
    rw [List.length_set] at hj
    simp only [if_neg (show j ≠ i by omega)]
    exact S.out j hj
/-- lowering one slot: what stays as it was -/
theorem Sim.low (S : Sim H U l σ As) (i n : Nat) (hn : n = 0 ∨ n = 1) : ∃ U' As', Sim H U' (low l i n) σ As' ∧ (∀ b, U' b → U b) ∧ (∀ a, U a → a ∉ As i → U' a) ∧ (∀ j a, a ∈ As' j → a ∈ As j) ∧ (∀ a, Own As' a → U' a) ∧
    (n = 0 → ∀ a ∈ As i, ¬ U' a) := by
  unfold DL.low
  by_cases ht : (gt l i).t ≤ n
  · rw [if_pos ht]
    refine ⟨U, As, S, fun _ h => h, fun _ h _ => h, fun _ _ h => h, fun a h => (S.own h).1, fun e a ha => ?_⟩
    subst e
    by_cases hl : l.length ≤ i
    · rw [S.out i hl] at ha; simp at ha
    · have h0 : (gt l i).t = 0 := by omega
      rcases S.rep i _ (gt_at (by omega)) with ⟨_, e, _⟩ | ⟨v, _, r⟩
      · rw [e] at ha; simp at ha
      · have : gt l i = ⟨0, (gt l i).d⟩ := by cases hg : gt l i; rw [hg] at h0; simp at h0; subst h0; rfl
        rw [this] at r
        rw [r.1] at ha; simp at ha
  · rw [if_neg ht]
    have hi : i < l.length := by
      refine Nat.lt_of_not_le fun h => ht ?_
      rw [gt_out h]; exact Nat.zero_le _
    rcases S.rep i _ (gt_at hi) with ⟨e, _⟩ | ⟨v, hv, r⟩
    · rw [e] at ht; exact absurd (Nat.zero_le _) ht
    · rcases hn with rfl | rfl
      · have hu : ∀ b, wo U (As i) b → U b := fun b h => h.1
        have hf := r.froz (U' := wo U (As i)) hu fun a m z => z.2 m
        refine ⟨wo U (As i), _, S.weak (A := []) hv hi hu (by simp) (by simp) (fun a h n => ⟨(S.own h).1, n⟩) ⟨rfl, hf⟩, hu, fun a h n => ⟨h, n⟩, fun j a h => ?_, fun a ⟨j, h⟩ => ?_, fun _ a m z => z.2 m⟩
        · by_cases e : j = i
          · simp [e] at h
          · simpa [e] using h
        · by_cases e : j = i
          · simp [e] at h
          · simp only [if_neg e] at h
            exact ⟨(S.own ⟨j, h⟩).1, S.dj j i e a h⟩
      · obtain ⟨a, q, eA, hR⟩ := r.low1 (by omega) (S.nd i)
        have hnd := S.nd i
        rw [eA] at hnd
        have hu : ∀ b, wo U q b → U b := fun b h => h.1
        have ha : U a := (r.at a (by rw [eA]; simp)).1
        have hR' := hR (wo U q) hu ⟨ha, (List.nodup_cons.mp hnd).1⟩ fun b m z => z.2 m
        refine ⟨wo U q, _, S.weak (A := [a]) hv hi hu (by rw [eA]; simp) (by simp) (fun b h n => ⟨(S.own h).1, fun z => n (by rw [eA]; exact List.mem_cons_of_mem _ z)⟩) hR', hu,
          fun b h n => ⟨h, fun z => n (by rw [eA]; exact List.mem_cons_of_mem _ z)⟩, fun j b h => ?_, fun b ⟨j, h⟩ => ?_, fun e => absurd e (by decide)⟩
        · by_cases e : j = i
          · simp only [if_pos e] at h
            rw [e, eA]; simp at h; simp [h]
          · simpa [e] using h
        · by_cases e : j = i
          · simp only [if_pos e] at h
            obtain rfl : b = a := by simpa using h
            exact ⟨ha, (List.nodup_cons.mp hnd).1⟩
          · simp only [if_neg e] at h
            exact ⟨(S.own ⟨j, h⟩).1, fun z => S.dj j i e b h (by rw [eA]; exact List.mem_cons_of_mem _ z)⟩
end
end DL
end

section
set_option Elab.async false
set_option linter.all false
set_option maxRecDepth 100000
/-! DC: readings over data: an expression, operands. -/
namespace DL
open PySem L2

/-- from (H, U), where O may be changed, to (H', U', l', As') and a value that owns B -/
structure Core (H : Hp) (U : Pd) (O : Pd) (l' : Sl) (σ : L2.St) (H' : Hp) (U' : Pd) (As' : Nat → List Addr) (B : List Addr) : Prop where
  sim : Sim H' U' l' σ As'
  nd : B.Nodup
  ap : ∀ a ∈ B, ¬ Own As' a
  bm : ∀ a ∈ B, U' a ∧ H' a ≠ none
  src : ∀ a ∈ B, O a ∨ H a = none
  sub : ∀ a, Own As' a → O a ∨ H a = none
  go : Go H U O H' U'

/-- what the next step may change: what the names own, and what the values at hand own -/
def Ow (As : Nat → List Addr) (B : List Addr) : Pd := fun a => Own As a ∨ a ∈ B

section
variable {H H' H1 H2 : Hp} {U U' U1 U2 O : Pd} {l l' l1 l2 : Sl} {σ : L2.St} {As As' As1 As2 : Nat → List Addr} {A B B1 B2 : List Addr} {x : TV} {v : V}

theorem Core.same (S : Sim H U l σ As) (h : ∀ a, Own As a → O a) : Core H U O l σ H U As [] :=
  ⟨S, by simp, by simp, by simp, by simp, fun a q => .inl (h a q), Go.refl _ _ _⟩
theorem Core.after {σ' : L2.St} (c : Core H U O l1 σ H1 U1 As1 B1) (d : Core H1 U1 (Ow As1 B1) l2 σ' H2 U2 As2 B2) : Core H U O l2 σ' H2 U2 As2 B2 := by
  have hO : ∀ a, Ow As1 B1 a → O a ∨ H a = none := fun a h => h.elim (c.sub a) (c.src a)
  have hn : ∀ a, H1 a = none → H a = none := fun a h => Classical.byContradiction fun n => c.go.dom a n h
  exact ⟨d.sim, d.nd, d.ap, d.bm, fun a m => (d.src a m).elim (hO a) fun z => .inr (hn a z), fun a m => (d.sub a m).elim (hO a) fun z => .inr (hn a z), c.go.trans d.go hO⟩
theorem Core.step {σ' : L2.St} (c : Core H U O l1 σ H1 U1 As1 B1) (d : Core H1 U1 (Own As1) l2 σ' H2 U2 As2 B2) : Core H U O l2 σ' H2 U2 As2 (B1 ++ B2) := by
  have hn : ∀ a, H1 a = none → H a = none := fun a h => Classical.byContradiction fun n => c.go.dom a n h
  have hb : ∀ a ∈ B1, ∀ P : Prop, (Own As1 a ∨ H1 a = none → P) → (Own As1 a ∨ H1 a = none) → False := fun a m _ _ q => q.elim (c.ap a m) (c.bm a m).2
  have hb' : ∀ a ∈ B1, ¬ (Own As1 a ∨ H1 a = none) := fun a m q => q.elim (c.ap a m) (c.bm a m).2
  refine ⟨d.sim, ?_, fun a m => ?_, fun a m => ?_, fun a m => ?_, fun a m => ?_, c.go.trans d.go fun a q => c.sub a q⟩
  · exact List.nodup_append.mpr ⟨c.nd, d.nd, fun a m b m' e => hb' a m (by subst e; exact d.src a m')⟩
  · rcases List.mem_append.mp m with m | m
    · exact fun q => hb' a m (d.sub a q)
    · exact d.ap a m
  · rcases List.mem_append.mp m with m | m
    · exact ⟨(d.go.uk a (c.bm a m).2 (c.ap a m)).mpr (c.bm a m).1, d.go.dom a (c.bm a m).2⟩
    · exact d.bm a m
  · rcases List.mem_append.mp m with m | m
    · exact c.src a m
    · exact (d.src a m).elim (c.sub a) fun z => .inr (hn a z)
  · exact (d.sub a m).elim (c.sub a) fun z => .inr (hn a z)
/-- a value at hand stays through a step that may not change what it owns -/
theorem Rep.over (r : Rep H U x v A) (g : Go H U O H' U') (hO : ∀ a, O a → U a) (hA : ∀ a ∈ A, ¬ O a) : Rep H' U' x v A :=
  r.keep (fun a o e n => g.keep a o e fun q => n (hO a q)) (fun a h n q => n ((g.uk a h fun z => n (hO a z)).mp q)) (fun a m o e => g.keep a o e (hA a m)) fun a m q => (g.uk a (r.at a m).2 (hA a m)).mpr q
theorem Fz.over {d : D} (r : Fz H U d v) (g : Go H U O H' U') (hO : ∀ a, O a → U a) : Fz H' U' d v :=
  Fz.keep (fun a o e n => g.keep a o e fun q => n (hO a q)) (fun a h n q => n ((g.uk a h fun z => n (hO a z)).mp q)) _ _ r
theorem FzL.over {d : List D} {vs : List V} (r : FzL H U d vs) (g : Go H U O H' U') (hO : ∀ a, O a → U a) : FzL H' U' d vs :=
  FzL.keep (fun a o e n => g.keep a o e fun q => n (hO a q)) (fun a h n q => n ((g.uk a h fun z => n (hO a z)).mp q)) _ _ r
theorem Sim.ownU (S : Sim H U l σ As) : ∀ a, Own As a → U a := fun a h => (S.own h).1
end

/-! ### an expression -/
def AftE (H : Hp) (U : Pd) (As : Nat → List Addr) (x : TV) (l' : Sl) (σ : L2.St) (v : V) (H' : Hp) : Prop :=
  ∃ U' As' A, Core H U (Own As) l' σ H' U' As' A ∧ Rep H' U' x v A
def tE (r : Sl → RE) : TE := fun σ H Q => ∃ U l As, Sim H U l σ As ∧ ∃ x l', r l = .ok x l' ∧ ∀ v H', AftE H U As x l' σ v H' → Q v H'

/-! ### operands -/
inductive OdR (H : Hp) (U : Pd) (σ : L2.St) : Od → V → List Addr → Prop
  | v {x : TV} {v : V} {A : List Addr} : Rep H U x v A → OdR H U σ (.v x) v A
  | r {i : Nat} {v : V} : σ[i]? = some (some v) → OdR H U σ (.r i) v []
inductive Ods (H : Hp) (U : Pd) (σ : L2.St) : List Od → List V → List Addr → Prop
  | nil : Ods H U σ [] [] []
  | cons {o : Od} {v : V} {A : List Addr} {os : List Od} {vs : List V} {B : List Addr} : OdR H U σ o v A → Ods H U σ os vs B → Ods H U σ (o :: os) (v :: vs) (A ++ B)
def AftO (H : Hp) (U : Pd) (As : Nat → List Addr) (os : List Od) (l' : Sl) (σ : L2.St) (vs : List V) (H' : Hp) : Prop :=
  ∃ U' As' B, Core H U (Own As) l' σ H' U' As' B ∧ Ods H' U' σ os vs B
def tO1 (r : Sl → RO) : TE := fun σ H Q => ∃ U l As, Sim H U l σ As ∧ ∃ o l', r l = .ok [o] l' ∧ ∀ v H', AftO H U As [o] l' σ [v] H' → Q v H'
def tO (r : Sl → RO) : TA := fun σ H Q => ∃ U l As, Sim H U l σ As ∧ ∃ os l', r l = .ok os l' ∧ ∀ vs H', AftO H U As os l' σ vs H' → Q vs H'

section
variable {H H' H1 H2 : Hp} {U U' U1 U2 O : Pd} {l l' l1 l2 : Sl} {σ : L2.St} {As As' As1 As2 : Nat → List Addr} {A B B1 B2 : List Addr} {x : TV} {v : V}
theorem Ods.at {os : List Od} {vs : List V} (h : Ods H U σ os vs B) : ∀ a ∈ B, U a ∧ H a ≠ none := by
  induction h with
  | nil => simp
  | cons h1 _ ih =>
    intro a m
    rcases List.mem_append.mp m with m | m
    · cases h1 with
      | v r => exact r.at a m
      | r _ => simp at m
    · exact ih a m
theorem Ods.over {os : List Od} {vs : List V} (h : Ods H U σ os vs B) (g : Go H U O H' U') (hO : ∀ a, O a → U a) (hB : ∀ a ∈ B, ¬ O a) : Ods H' U' σ os vs B := by
  induction h with
  | nil => exact .nil
  | cons h1 _ ih =>
    refine .cons ?_ (ih fun a m => hB a (List.mem_append_right _ m))
    cases h1 with
    | v r => exact .v (r.over g hO fun a m => hB a (List.mem_append_left _ m))
    | r e => exact .r e
theorem Ods.append {os os' : List Od} {vs vs' : List V} (h : Ods H U σ os vs B1) (h' : Ods H U σ os' vs' B2) : Ods H U σ (os ++ os') (vs ++ vs') (B1 ++ B2) := by
  induction h with
  | nil => exact h'
  | cons h1 _ ih => rw [List.append_assoc]; exact .cons h1 ih
theorem Ods.length {os : List Od} {vs : List V} (h : Ods H U σ os vs B) : os.length = vs.length := by
  induction h with
  | nil => rfl
  | cons _ _ ih => rw [List.length_cons, List.length_cons, ih]
theorem AftO.cons {os os' : List Od} {vs vs' : List V} (h : AftO H U As os l1 σ vs H1) (k : ∀ U1 As1 B1, Core H U (Own As) l1 σ H1 U1 As1 B1 → Ods H1 U1 σ os vs B1 → AftO H1 U1 As1 os' l2 σ vs' H2) :
    AftO H U As (os ++ os') l2 σ (vs ++ vs') H2 := by
  obtain ⟨U1, As1, B1, c, r⟩ := h
  obtain ⟨U2, As2, B2, c2, r2⟩ := k U1 As1 B1 c r
  exact ⟨U2, As2, B1 ++ B2, c.step c2, (r.over c2.go c.sim.ownU c.ap).append r2⟩

variable {X : Cx} {e : Expr} {es : List Expr}
theorem pe_imp {t t' : TE} (h : PE X e t) (k : ∀ σ H Q, t' σ H Q → t σ H Q) : PE X e t' := ⟨fun pins s σ H Q I q => h.run pins s σ H Q I (k σ H Q q)⟩
theorem pt_imp {t t' : TT} (h : PT X e t) (k : ∀ σ H Q, t' σ H Q → t σ H Q) : PT X e t' := ⟨fun pins s σ H Q I q => h.run pins s σ H Q I (k σ H Q q)⟩
theorem pa_imp {t t' : TA} (h : PA X es t) (k : ∀ σ H Q, t' σ H Q → t σ H Q) : PA X es t' := ⟨fun pos pins s σ H Q I q => h.run pos pins s σ H Q I (k σ H Q q)⟩
theorem ps_imp {s : Stmt} {t t' : TS} (h : PS X s t) (k : ∀ D σ H, t' D σ H → t D σ H) : PS X s t' := ⟨fun pins s σ H D I q => h.run pins s σ H D I (k D σ H q)⟩
theorem pss_imp {s : List Stmt} {t t' : TS} (h : PSs X s t) (k : ∀ D σ H, t' D σ H → t D σ H) : PSs X s t' := ⟨fun pins s σ H D I q => h.run pins s σ H D I (k D σ H q)⟩

theorem opd_var {i : Nat} {r : Sl → RE} (h : PE X e (tVar i)) : PE X e (tO1 (opd (.var i) r)) := by
  refine pe_imp h fun σ H Q q => ?_
  obtain ⟨U, l, As, S, o, l', e1, k⟩ := q
  have e1 : (if (gt l i).d.isUn then RO.no else RO.ok [Od.r i] l) = RO.ok [o] l' := e1
  cases hu : (gt l i).d.isUn with
  | true => rw [hu] at e1; simp at e1
  | false =>
    rw [hu] at e1
    simp at e1
    obtain ⟨rfl, rfl⟩ := e1
    obtain ⟨_, v, hv, _⟩ := S.get hu
    exact ⟨v, hv, k v H ⟨U, As, [], Core.same S fun _ h => h, by simpa using Ods.cons (OdR.r hv) .nil⟩⟩
theorem opd_v {r : Sl → RE} {il : E} (h : PE X e (tE r)) (hi : ∀ i, il ≠ .var i) : PE X e (tO1 (opd il r)) := by
  refine pe_imp h fun σ H Q q => ?_
  obtain ⟨U, l, As, S, o, l', e1, k⟩ := q
  have e2 : opd il r l = (r l).bO fun v l' => .ok [.v v] l' := by
    unfold opd
    cases il <;> first | rfl | exact absurd rfl (hi _)
  rw [e2] at e1
  cases hr : r l with
  | no => rw [hr] at e1; cases e1
  | ok x l2 =>
    rw [hr] at e1
    simp [RE.bO] at e1
    obtain ⟨rfl, rfl⟩ := e1
    refine ⟨U, l, As, S, x, l2, hr, fun v H' ⟨U', As', A, c, rp⟩ => k v H' ⟨U', As', A, c, ?_⟩⟩
    have := Ods.cons (OdR.v (σ := σ) rp) .nil
    simpa using this
/-- operands from the left -/
theorem tO_cons {ra : Sl → RO} {rb : Sl → RO} {σ : L2.St} {H : Hp} {Q : List V → Hp → Prop} (hs : ∀ l os l', ra l = .ok os l' → ∃ o, os = [o])
    (h : tO (fun l => (ra l).bO fun o l1 => (rb l1).bO fun os l2 => .ok (o ++ os) l2) σ H Q) : tCons (tO1 ra) (tO rb) σ H Q := by
  obtain ⟨U, l, As, S, os, l', e, k⟩ := h
  dsimp only at e
  cases h1 : ra l with
  | no => rw [h1] at e; cases e
  | ok o1 l1 =>
    rw [h1] at e
    obtain ⟨o, rfl⟩ := hs _ _ _ h1
    simp only [RO.bO] at e
    cases h2 : rb l1 with
    | no => rw [h2] at e; cases e
    | ok os2 l2 =>
      rw [h2] at e
      simp only [RO.ok.injEq] at e
      obtain ⟨rfl, rfl⟩ := e
      refine ⟨U, l, As, S, o, l1, h1, fun v H1 a1 => ?_⟩
      have a1' := a1
      obtain ⟨U1, As1, B1, c1, r1⟩ := a1
      refine ⟨U1, l1, As1, c1.sim, os2, l2, h2, fun vs H2 a2 => k (v :: vs) H2 ?_⟩
      obtain ⟨U2, As2, B2, c2, r2⟩ := a2
      exact ⟨U2, As2, B1 ++ B2, c1.step c2, (r1.over c2.go c1.sim.ownU c1.ap).append r2⟩
theorem tO_nil {σ : L2.St} {H : Hp} {Q : List V → Hp → Prop} (h : tO (fun l => .ok [] l) σ H Q) : tNil σ H Q := by
  obtain ⟨U, l, As, S, os, l', e, k⟩ := h
  cases e
  exact k [] H ⟨U, As, [], Core.same S fun _ h => h, .nil⟩
theorem opd_one {il : E} {r : Sl → RE} {l l' : Sl} {os : List Od} (h : opd il r l = .ok os l') : ∃ o, os = [o] := by
  unfold opd at h
  split at h
  · split at h
    · cases h
    · cases h; exact ⟨_, rfl⟩
  · cases hr : r l with
    | no => rw [hr] at h; cases h
    | ok x l2 => rw [hr] at h; simp only [RE.bO, RO.ok.injEq] at h; obtain ⟨rfl, _⟩ := h; exact ⟨_, rfl⟩
/-- two operands -/
theorem tO_two {ra rb : Sl → RO} {σ : L2.St} {H : Hp} {R : V → V → Hp → Prop} (ha : ∀ l os l', ra l = .ok os l' → ∃ o, os = [o]) (hb : ∀ l os l', rb l = .ok os l' → ∃ o, os = [o])
    (h : tO (fun l => (ra l).bO fun o l1 => (rb l1).bO fun os l2 => .ok (o ++ os) l2) σ H (fun vs H' => ∀ x y, vs = [x, y] → R x y H')) : tO1 ra σ H fun x H1 => tO1 rb σ H1 fun y H2 => R x y H2 := by
  obtain ⟨U, l, As, S, o, l1, h1, k⟩ := tO_cons ha h
  refine ⟨U, l, As, S, o, l1, h1, fun v H1 a1 => ?_⟩
  obtain ⟨U1, l1', As1, S1, os, l2, h2, k2⟩ := k v H1 a1
  obtain ⟨o2, rfl⟩ := hb _ _ _ h2
  refine ⟨U1, l1', As1, S1, o2, l2, h2, fun w H2 a2 => k2 [w] H2 a2 v w rfl⟩
/-- one operand -/
theorem tO_one {ra : Sl → RO} {σ : L2.St} {H : Hp} {R : V → Hp → Prop} (ha : ∀ l os l', ra l = .ok os l' → ∃ o, os = [o])
    (h : tO ra σ H (fun vs H' => ∀ x, vs = [x] → R x H')) : tO1 ra σ H R := by
  obtain ⟨U, l, As, S, os, l1, h1, k⟩ := h
  obtain ⟨o, rfl⟩ := ha _ _ _ h1
  exact ⟨U, l, As, S, o, l1, h1, fun v H1 a1 => k [v] H1 a1 v rfl⟩

/-! ### reading what operands hold -/
abbrev Nv : Pd := fun _ => False
theorem Rep.den (r : Rep H U x v A) : Fz H Nv x.d v := r.froz (fun _ h => h.elim) fun _ _ h => h
theorem Sim.den (S : Sim H U l σ As) {i : Nat} {v : V} (h : σ[i]? = some (some v)) : Rep H U (gt l i) v (As i) := by
  have hi : i < l.length := by
    rw [S.len]
    exact Classical.byContradiction fun n => by rw [List.getElem?_eq_none (by omega)] at h; cases h
  rcases S.rep i _ (gt_at hi) with ⟨_, _, e⟩ | ⟨w, e, r⟩
  · rw [e] at h; cases h
  · rw [e] at h; cases h; exact r
theorem OdR.den {o : Od} (S : Sim H U l σ As) (h : OdR H U σ o v A) : Fz H Nv (o.d l) v := by
  cases h with
  | v r => exact r.den
  | r e => exact (S.den e).den
theorem Ods.den {os : List Od} {vs : List V} (S : Sim H U l σ As) (h : Ods H U σ os vs B) : FzL H Nv (os.map (Od.d l)) vs := by
  induction h with
  | nil => exact .nil
  | cons h1 _ ih => exact .cons (h1.den S) ih
end
end DL
end

section
set_option Elab.async false
set_option linter.all false
set_option maxRecDepth 100000
/-! DD: the operations. -/
namespace DL
open PySem L2

/-- operands at hand -/
structure At (H : Hp) (U : Pd) (l : Sl) (σ : L2.St) (As : Nat → List Addr) (B : List Addr) (os : List Od) (vs : List V) : Prop where
  sim : Sim H U l σ As
  nd : B.Nodup
  ap : ∀ a ∈ B, ¬ Own As a
  ods : Ods H U σ os vs B
/-- behind an operation on operands -/
def FO (f : List Od → Sl → RE) (vs : List V) (σ : L2.St) (H : Hp) (Q : VK) : Prop :=
  ∃ U l As B os, At H U l σ As B os vs ∧ ∃ x l2, f os l = .ok x l2 ∧ ∀ v H2, (∃ U2 As2 A, Core H U (Ow As B) l2 σ H2 U2 As2 A ∧ Rep H2 U2 x v A) → Q v H2

section
variable {H H' H1 H2 : Hp} {U U' U1 U2 O : Pd} {l l' l1 l2 : Sl} {σ : L2.St} {As As' As1 As2 : Nat → List Addr} {A B B1 B2 : List Addr} {x : TV} {v : V}
  {f : List Od → Sl → RE} {vs : List V} {Q : VK} {os : List Od}

theorem tE_bnd {ro : Sl → RO} (h : tE (fun l => (ro l).bnd f) σ H Q) : tO ro σ H fun vs H' => FO f vs σ H' Q := by
  obtain ⟨U, l, As, S, x, l', e, k⟩ := h
  dsimp only at e
  cases h1 : ro l with
  | no => rw [h1] at e; cases e
  | ok os l1 =>
    rw [h1] at e
    refine ⟨U, l, As, S, os, l1, h1, fun vs H1 ⟨U1, As1, B1, c, r⟩ => ⟨U1, l1, As1, B1, os, ⟨c.sim, c.nd, c.ap, r⟩, x, l', e, fun v H2 ⟨U2, As2, A, c2, r2⟩ => k v H2 ⟨U2, As2, A, c.after c2, r2⟩⟩⟩
theorem At.owU (a : At H U l σ As B os vs) : ∀ p, Ow As B p → U p := fun p h => h.elim (a.sim.ownU p) fun m => (a.ods.at p m).1
theorem At.den (a : At H U l σ As B os vs) : FzL H Nv (os.map (Od.d l)) vs := a.ods.den a.sim
/-- a result that is no object, nothing else changed -/
theorem FO.sc {d : D} (a : At H U l σ As B os vs) (hd : Fz H U d v) (k : ∀ v H2, (∃ U2 As2 A, Core H U (Ow As B) l σ H2 U2 As2 A ∧ Rep H2 U2 ⟨0, d⟩ v A) → Q v H2) : Q v H :=
  k v H ⟨U, As, [], Core.same a.sim fun _ h => .inl h, rfl, hd⟩
theorem low_d {i j n : Nat} : (gt (low l i n) j).d = (gt l j).d := by
  unfold low
  by_cases h : (gt l i).t ≤ n
  · rw [if_pos h]
  · rw [if_neg h]
    have hi : i < l.length := Nat.lt_of_not_le fun q => h (by rw [gt_out q]; exact Nat.zero_le _)
    by_cases e : j = i
    · subst e
      unfold gt st
      rw [List.getD_eq_getElem?_getD, List.getElem?_set_self hi]; rfl
    · unfold gt st
      rw [List.getD_eq_getElem?_getD, List.getElem?_set_ne (Ne.symm e), ← List.getD_eq_getElem?_getD]
theorem low_t {i n : Nat} : (gt (low l i n) i).t ≤ n := by
  unfold low
  by_cases h : (gt l i).t ≤ n
  · rw [if_pos h]; exact h
  · rw [if_neg h]
    have hi : i < l.length := Nat.lt_of_not_le fun q => h (by rw [gt_out q]; exact Nat.zero_le _)
    unfold gt st
    rw [List.getD_eq_getElem?_getD, List.getElem?_set_self hi]; exact Nat.le_refl _
theorem low_le {i j n : Nat} : (gt (low l i n) j).t ≤ (gt l j).t := by
  unfold low
  by_cases h : (gt l i).t ≤ n
  · rw [if_pos h]; exact Nat.le_refl _
  · rw [if_neg h]
    have hi : i < l.length := Nat.lt_of_not_le fun q => h (by rw [gt_out q]; exact Nat.zero_le _)
    by_cases e : j = i
    · subst e
      unfold gt st
      rw [List.getD_eq_getElem?_getD, List.getElem?_set_self hi]
      show n ≤ _
      unfold gt at h
      omega
    · unfold gt st
      rw [List.getD_eq_getElem?_getD, List.getElem?_set_ne (Ne.symm e), ← List.getD_eq_getElem?_getD]
      exact Nat.le_refl _
theorem lowO_d {n j : Nat} : ∀ (os : List Od) (l : Sl), (gt (lowO n l os) j).d = (gt l j).d
  | [], _ => rfl
  | .v _ :: r, l => lowO_d r l
  | .r i :: r, l => (lowO_d r _).trans low_d
theorem lowO_le {n j : Nat} : ∀ (os : List Od) (l : Sl), (gt (lowO n l os) j).t ≤ (gt l j).t
  | [], _ => Nat.le_refl _
  | .v _ :: r, l => lowO_le r l
  | .r i :: r, l => Nat.le_trans (lowO_le r _) low_le
theorem lowO_t {n i : Nat} : ∀ (os : List Od) (l : Sl), Od.r i ∈ os → (gt (lowO n l os) i).t ≤ n
  | [], _, h => by simp at h
  | .v _ :: r, l, h => lowO_t r l (by simpa using h)
  | .r j :: r, l, h => by
    by_cases e : i = j
    · subst e; exact Nat.le_trans (lowO_le r _) low_t
    · exact lowO_t r _ (by simpa [e] using h)
/-- lowering names: what stays -/
theorem Sim.lows (n : Nat) (hn : n = 0 ∨ n = 1) : ∀ (os : List Od) {l : Sl} {U : Pd} {As : Nat → List Addr}, Sim H U l σ As → ∃ U' As', Sim H U' (lowO n l os) σ As' ∧ (∀ b, U' b → U b) ∧ (∀ a, U a → (∀ i, a ∉ As i) → U' a) ∧ (∀ j a, a ∈ As' j → a ∈ As j) := by
  intro os
  induction os with
  | nil => exact fun {l U As} S => ⟨U, As, S, fun _ h => h, fun _ h _ => h, fun _ _ h => h⟩
  | cons o r ih =>
    intro l U As S
    cases o with
    | v x => exact ih S
    | r i =>
      obtain ⟨U1, As1, S1, h1, h2, h3, h4, _⟩ := S.low i n hn
      obtain ⟨U2, As2, S2, k1, k2, k3⟩ := ih S1
      exact ⟨U2, As2, S2, fun b q => h1 b (k1 b q), fun a q n => k2 a (h2 a q (n i)) fun j m => n j (h3 j a m), fun j a m => h3 j a (k3 j a m)⟩
/-- the operands' temporaries let go, too -/
theorem At.lows (a : At H U l σ As B os vs) (n : Nat) (hn : n = 0 ∨ n = 1) : ∃ U' As', Sim H U' (lowO n l os) σ As' ∧ (∀ b, U' b → U b) ∧ (∀ p, U p → ¬ Ow As B p → U' p) ∧ (∀ p, Own As' p → Own As p) ∧ (∀ p ∈ B, ¬ U' p) := by
  obtain ⟨U1, As1, S, h1, h2, h3⟩ := Sim.lows n hn os a.sim
  have hu : ∀ b, wo U1 B b → U1 b := fun b h => h.1
  refine ⟨wo U1 B, As1, S.keep (fun _ _ e _ => e) (fun b _ n z => n (hu b z)) (fun p h => ⟨fun _ e => e, (S.own h).1, fun m => ?_⟩) (fun p h => S.um p h.1), fun b h => h1 b h.1, fun p h n => ⟨h2 p h fun i m => n (.inl ⟨i, m⟩), fun m => n (.inr m)⟩, fun p ⟨j, h⟩ => ⟨j, h3 j p h⟩, fun p m h => h.2 m⟩
  obtain ⟨j, hj⟩ := h
  exact a.ap p m ⟨j, h3 j p hj⟩
/-- an operand that is let go whole -/
theorem OdR.froz {o : Od} (S : Sim H U l σ As) (S' : Sim H U' l' σ As') (h : OdR H U σ o v A) (hu : ∀ b, U' b → U b) (hA : ∀ p ∈ A, ¬ U' p) (hd : ∀ i, o = .r i → (gt l' i).d = (gt l i).d ∧ (gt l' i).t = 0) : Fz H U' (o.d l) v := by
  cases h with
  | v r => exact r.froz hu hA
  | r e =>
    rename_i i
    obtain ⟨e1, e2⟩ := hd i rfl
    have r := S'.den e
    have hg : gt l' i = ⟨0, (gt l i).d⟩ := by
      cases hq : gt l' i with
      | mk t d => rw [hq] at e1 e2; simp at e1 e2; subst e1 e2; rfl
    rw [hg] at r
    exact r.2
theorem Ods.froz (S : Sim H U l σ As) (S' : Sim H U' l' σ As') (h : Ods H U σ os vs B) (hu : ∀ b, U' b → U b) (hB : ∀ p ∈ B, ¬ U' p) (hd : ∀ i, Od.r i ∈ os → (gt l' i).d = (gt l i).d ∧ (gt l' i).t = 0) : FzL H U' (os.map (Od.d l)) vs := by
  induction h with
  | nil => exact .nil
  | cons h1 _ ih => exact .cons (h1.froz S S' hu (fun p m => hB p (List.mem_append_left _ m)) fun i e => hd i (by simp [e])) (ih (fun p m => hB p (List.mem_append_right _ m)) fun i m => hd i (List.mem_cons_of_mem _ m))
theorem At.froz (a : At H U l σ As B os vs) (S' : Sim H U' (lowO 0 l os) σ As') (hu : ∀ b, U' b → U b) (hB : ∀ p ∈ B, ¬ U' p) : FzL H U' (os.map (Od.d l)) vs :=
  a.ods.froz a.sim S' hu hB fun i m => ⟨lowO_d os l, Nat.le_zero.mp (lowO_t os l m)⟩
/-- what an operand that is a list or tuple holds -/
def Els (H : Hp) (U : Pd) (d : D) (v : V) : Prop := ∀ ds, seqOf d = some ds → ∃ a ws, v = .ref a ∧ ((d = .tup ds ∧ H a = some (.tup ws)) ∨ (d = .lst ds ∧ Rd H a (.lst ws))) ∧ FzL H U ds ws
theorem Fz.els {d : D} (h : Fz H U d v) : Els H U d v := by
  intro ds e
  cases h with
  | tup h1 h2 h3 => cases e; exact ⟨_, _, rfl, .inl ⟨rfl, h1⟩, h3⟩
  | lst h1 h2 h3 => cases e; exact ⟨_, _, rfl, .inr ⟨rfl, h1⟩, h3⟩
  | _ => cases e
theorem Own1.els {d : D} {a : Addr} (h : Own1 H U d v a) : Els H U d v := by
  match d, h with
  | .lst ds, ⟨vs, e, h1, _, h3⟩ => exact fun _ q => by cases q; exact ⟨_, _, e, .inr ⟨rfl, .inl h1⟩, h3⟩
  | .dct false ds, _ => exact fun _ q => nomatch q
  | .dct true ds, _ => exact fun _ q => nomatch q
theorem OdR.els {o : Od} (S : Sim H U l σ As) (S' : Sim H U' l' σ As') (h : OdR H U σ o v A) (hu : ∀ b, U' b → U b) (hA : ∀ p ∈ A, ¬ U' p) (hd : ∀ i, o = .r i → (gt l' i).d = (gt l i).d ∧ (gt l' i).t ≤ 1) : Els H U' (o.d l) v := by
  cases h with
  | v r => exact (r.froz hu hA).els
  | r e =>
    rename_i i
    obtain ⟨e1, e2⟩ := hd i rfl
    have r := S'.den e
    show Els H U' (gt l i).d v
    rw [← e1]
    match hq : gt l' i with
    | ⟨0, d⟩ => rw [hq] at r; exact r.2.els
    | ⟨1, d⟩ =>
      rw [hq] at r
      obtain ⟨a, _, h⟩ := r
      exact h.els
    | ⟨t + 2, d⟩ => rw [hq] at e2; exact absurd e2 (by simp)
theorem Ods.els (S : Sim H U l σ As) (S' : Sim H U' l' σ As') (h : Ods H U σ os vs B) (hu : ∀ b, U' b → U b) (hB : ∀ p ∈ B, ¬ U' p) (hd : ∀ i, Od.r i ∈ os → (gt l' i).d = (gt l i).d ∧ (gt l' i).t ≤ 1) :
    ∀ (j : Nat) (o : Od) (w : V), os[j]? = some o → vs[j]? = some w → Els H U' (o.d l) w := by
  induction h with
  | nil => intro j o w e; simp at e
  | cons h1 _ ih =>
    intro j o w e e2
    cases j with
    | zero =>
      simp at e e2
      subst e e2
      exact h1.els S S' hu (fun p m => hB p (List.mem_append_left _ m)) fun i e => hd i (by simp [e])
    | succ j => exact ih (fun p m => hB p (List.mem_append_right _ m)) (fun i m => hd i (List.mem_cons_of_mem _ m)) j o w (by simpa using e) (by simpa using e2)
/-- a new object at p that nobody owns (a tuple, a frozen one) or that the result owns -/
theorem Core.new {p : Addr} {o : HO} (S' : Sim H U' l' σ As') (hu : ∀ b, U' b → U b) (hU : ∀ q, U q → ¬ O q → U' q) (hs : ∀ q, Own As' q → O q) (hp : H p = none) :
    Core H U O l' σ (upd H p o) (fun a => a = p ∨ U' a) As' [p] ∧ Core H U O l' σ (upd H p o) U' As' [] := by
  have np : ∀ q, H q ≠ none → q ≠ p := fun q h e => h (by rw [e]; exact hp)
  have hpU : ¬ U' p := fun h => S'.um p h hp
  have gk : ∀ a o', H a = some o' → upd H p o a = some o' := fun a o' e => by rw [upd_ne (ne_of_none e hp)]; exact e
  have gd : ∀ a, H a ≠ none → upd H p o a ≠ none := fun a e => by rw [upd_ne (np a e)]; exact e
  have pO : ¬ Own As' p := fun h => (S'.own h).2 hp
  constructor
  · refine ⟨S'.fresh hp (fun a h => h) (fun a h => .inr (S'.own h).1), by simp, fun a m => ?_, fun a m => ?_, fun a m => ?_, fun a h => .inl (hs a h), fun a o' e _ => gk a o' e, fun a e n => ⟨fun h => ?_, fun h => .inr (hU a h n)⟩, gd⟩
    · obtain rfl : a = p := by simpa using m
      exact pO
    · obtain rfl : a = p := by simpa using m
      exact ⟨.inl rfl, by rw [upd_same]; exact fun z => nomatch z⟩
    · obtain rfl : a = p := by simpa using m
      exact .inr hp
    · exact h.elim (fun q => absurd q (np a e)) (hu a)
  · exact ⟨S'.fresh hp (fun a h => .inr h) (fun a h => (S'.own h).1), by simp, by simp, by simp, by simp, fun a h => .inl (hs a h), fun a o' e _ => gk a o' e, fun a e n => ⟨hu a, fun h => hU a h n⟩, gd⟩
/-- nothing new: names lowered -/
theorem Core.lowd (S' : Sim H U' l' σ As') (hu : ∀ b, U' b → U b) (hU : ∀ q, U q → ¬ O q → U' q) (hs : ∀ q, Own As' q → O q) : Core H U O l' σ H U' As' [] :=
  ⟨S', by simp, by simp, by simp, by simp, fun a h => .inl (hs a h), fun a o' e _ => e, fun a e n => ⟨hu a, fun h => hU a h n⟩, fun _ e => e⟩
theorem FzL.up {ds : List D} {ws : List V} {p : Addr} {o : HO} {U2 : Pd} (h : FzL H U ds ws) (hp : H p = none) (hu : ∀ a, U2 a → a = p ∨ U a) : FzL (upd H p o) U2 ds ws :=
  FzL.keep (fun a o e _ => by rw [upd_ne (ne_of_none e hp)]; exact e) (fun a e n z => (hu a z).elim (fun q => e (by rw [q]; exact hp)) n) _ _ h
/-- a new list of things that never change: the operands' names lowered -/
theorem FO.newL {ds : List D} {ws : List V} {p : Addr} (a : At H U l σ As B os vs) (hp : H p = none)
    (hs : ∀ U' As', Sim H U' (lowO 1 l os) σ As' → (∀ b, U' b → U b) → (∀ p ∈ B, ¬ U' p) → FzL H U' ds ws)
    (k : ∀ v H2, (∃ U2 As2 A, Core H U (Ow As B) (lowO 1 l os) σ H2 U2 As2 A ∧ Rep H2 U2 ⟨1, .lst ds⟩ v A) → Q v H2) : Q (.ref p) (upd H p (.lst ws)) := by
  obtain ⟨U', As', S', hu, hU, hA, hB⟩ := a.lows 1 (.inr rfl)
  have hz := hs U' As' S' hu hB
  refine k _ _ ⟨_, As', [p], (Core.new S' hu hU (fun q h => .inl (hA q h)) hp).1, p, rfl, ws, rfl, upd_same, .inl rfl, hz.up hp fun a h => h⟩
theorem FO.newT {ds : List D} {ws : List V} {p : Addr} (a : At H U l σ As B os vs) (hp : H p = none)
    (hs : ∀ U' As', Sim H U' (lowO 1 l os) σ As' → (∀ b, U' b → U b) → (∀ p ∈ B, ¬ U' p) → FzL H U' ds ws)
    (k : ∀ v H2, (∃ U2 As2 A, Core H U (Ow As B) (lowO 1 l os) σ H2 U2 As2 A ∧ Rep H2 U2 ⟨0, .tup ds⟩ v A) → Q v H2) : Q (.ref p) (upd H p (.tup ws)) := by
  obtain ⟨U', As', S', hu, hU, hA, hB⟩ := a.lows 1 (.inr rfl)
  have hz := hs U' As' S' hu hB
  refine k _ _ ⟨_, As', [], (Core.new S' hu hU (fun q h => .inl (hA q h)) hp).2, rfl, .tup upd_same (fun h => S'.um p h hp) (hz.up hp fun a h => .inr h)⟩
/-- a result that stood before -/
theorem FO.old {d : D} (a : At H U l σ As B os vs)
    (hs : ∀ U' As', Sim H U' (lowO 1 l os) σ As' → (∀ b, U' b → U b) → (∀ p ∈ B, ¬ U' p) → Fz H U' d v)
    (k : ∀ v H2, (∃ U2 As2 A, Core H U (Ow As B) (lowO 1 l os) σ H2 U2 As2 A ∧ Rep H2 U2 ⟨0, d⟩ v A) → Q v H2) : Q v H := by
  obtain ⟨U', As', S', hu, hU, hA, hB⟩ := a.lows 1 (.inr rfl)
  exact k _ _ ⟨_, As', [], Core.lowd S' hu hU fun q h => .inl (hA q h), rfl, hs U' As' S' hu hB⟩
theorem At.els (a : At H U l σ As B os vs) (S' : Sim H U' (lowO 1 l os) σ As') (hu : ∀ b, U' b → U b) (hB : ∀ p ∈ B, ¬ U' p) : ∀ (j : Nat) (o : Od) (w : V), os[j]? = some o → vs[j]? = some w → Els H U' (o.d l) w :=
  a.ods.els a.sim S' hu hB fun i m => ⟨lowO_d os l, lowO_t os l m⟩
theorem FzL.append {d1 d2 : List D} {v1 v2 : List V} (h : FzL H U d1 v1) (h' : FzL H U d2 v2) : FzL H U (d1 ++ d2) (v1 ++ v2) := by
  match d1, v1, h with
  | [], _, .nil => exact h'
  | _ :: _, _, .cons a b => exact .cons a (FzL.append b h')
theorem FzL.length : ∀ {ds : List D} {vs : List V}, FzL H U ds vs → ds.length = vs.length
  | [], _, .nil => rfl
  | _ :: _, _, .cons _ b => by rw [List.length_cons, List.length_cons, FzL.length b]
theorem FzL.get : ∀ {ds : List D} {vs : List V} {i : Nat} {d : D}, FzL H U ds vs → ds[i]? = some d → ∃ v, vs[i]? = some v ∧ Fz H U d v
  | [], _, _, _, .nil, e => by simp at e
  | _ :: _, _, 0, _, .cons a _, e => by simp at e; subst e; exact ⟨_, rfl, a⟩
  | _ :: _, _, i + 1, _, .cons _ b, e => by
    obtain ⟨v, h1, h2⟩ := FzL.get (i := i) b (by simpa using e)
    exact ⟨v, by simpa using h1, h2⟩
theorem FzL.take : ∀ {ds : List D} {vs : List V} (n : Nat), FzL H U ds vs → FzL H U (ds.take n) (vs.take n)
  | _, _, 0, _ => .nil
  | [], _, n + 1, .nil => .nil
  | _ :: _, _, n + 1, .cons a b => .cons a (FzL.take n b)
theorem FzL.drop : ∀ {ds : List D} {vs : List V} (n : Nat), FzL H U ds vs → FzL H U (ds.drop n) (vs.drop n)
  | _, _, 0, h => h
  | [], _, n + 1, .nil => .nil
  | _ :: _, _, n + 1, .cons _ b => FzL.drop n b
theorem FzL.rev : ∀ {ds : List D} {vs : List V}, FzL H U ds vs → FzL H U ds.reverse vs.reverse
  | [], _, .nil => .nil
  | _ :: _, _, .cons a b => by rw [List.reverse_cons, List.reverse_cons]; exact (FzL.rev b).append (.cons a .nil)
theorem FzL.rep {ds : List D} {vs : List V} (h : FzL H U ds vs) : ∀ n : Nat, FzL H U (List.replicate n ds).flatten (List.replicate n vs).flatten
  | 0 => .nil
  | n + 1 => by rw [List.replicate_succ, List.replicate_succ, List.flatten_cons, List.flatten_cons]; exact h.append (FzL.rep h n)
theorem FzL.same {ds : List D} {vs ws : List V} : FzL H U ds vs → FzL H U ds ws → ds.length = 0 → vs = ws := by
  intro a b e
  match ds, a, b with
  | [], .nil, .nil => rfl
end
end DL
end

section
set_option Elab.async false
set_option linter.all false
set_option maxRecDepth 100000
/-! DE: the operations' rules. -/
namespace DL
open PySem L2

structure Gd (X : Cx) : Prop where
  calm : X.calm = true
  un : X.A.units + 200 < cLine
  hd : X.A.handled = none
  gs : X.A.guards = some []

theorem Ods.one {H U σ os x B} (h : Ods H U σ os [x] B) : ∃ o, os = [o] := by
  cases h with
  | cons h1 h2 => cases h2; exact ⟨_, rfl⟩
theorem Ods.two {H U σ os x y B} (h : Ods H U σ os [x, y] B) : ∃ o p, os = [o, p] := by
  cases h with
  | cons h1 h2 => obtain ⟨p, rfl⟩ := h2.one; exact ⟨_, _, rfl⟩
theorem Ods.three {H U σ os x y z B} (h : Ods H U σ os [x, y, z] B) : ∃ o p q, os = [o, p, q] := by
  cases h with
  | cons h1 h2 => obtain ⟨p, q, rfl⟩ := h2.two; exact ⟨_, _, _, rfl⟩

section
variable {H H' : Hp} {U U' O : Pd} {l l' l2 : Sl} {σ : L2.St} {As As' : Nat → List Addr} {A B : List Addr} {x : TV} {v w y : V} {d e : D} {vs : List V} {Q : VK} {os : List Od} {o p q : Od}
/-- what is no object of its own is known whole -/
theorem Rep.imm (r : Rep H U x v A) (h : x.d.isM = false) : Fz H U x.d v ∧ A = [] := by
  match x, r with
  | ⟨0, d⟩, ⟨h1, h2⟩ => exact ⟨h2, h1⟩
  | ⟨1, d⟩, ⟨a, h1, h2⟩ => rw [h2.isM] at h; cases h
  | ⟨2, .lst ds⟩, _ => cases h
  | ⟨2, .dct false ds⟩, _ => cases h
theorem OdR.imm (S : Sim H U l σ As) (r : OdR H U σ o v A) (h : (o.d l).isM = false) : Fz H U (o.d l) v := by
  cases r with
  | v r => exact (r.imm h).1
  | r e => exact ((S.den e).imm h).1
theorem Ods.imm (S : Sim H U l σ As) (r : Ods H U σ os vs B) : ∀ (j : Nat) (o : Od) (w : V), os[j]? = some o → vs[j]? = some w → (o.d l).isM = false → Fz H U (o.d l) w := by
  induction r with
  | nil => intro j o w e; simp at e
  | cons h1 _ ih =>
    intro j o w e e2 h
    cases j with
    | zero => simp at e e2; subst e e2; exact h1.imm S h
    | succ j => exact ih j o w (by simpa using e) (by simpa using e2) h
theorem At.imm (a : At H U l σ As B os vs) (j : Nat) (o : Od) (w : V) (e : os[j]? = some o) (e2 : vs[j]? = some w) (h : (o.d l).isM = false) : Fz H U (o.d l) w := a.ods.imm a.sim j o w e e2 h
theorem Fz.sub (h : Fz H U d v) (hu : ∀ b, U' b → U b) : Fz H U' d v := Fz.keep (fun _ _ e _ => e) (fun a _ n z => n (hu a z)) _ _ h
theorem FzL.sub {ds : List D} {vs : List V} (h : FzL H U ds vs) (hu : ∀ b, U' b → U b) : FzL H U' ds vs := FzL.keep (fun _ _ e _ => e) (fun a _ n z => n (hu a z)) _ _ h

theorem okO_some {t : Option TV} {l l2 : Sl} {x : TV} (h : okO t l = .ok x l2) : t = some x ∧ l2 = l := by
  cases t with
  | none => cases h
  | some v => cases h; exact ⟨rfl, rfl⟩
theorem okB_some {t : Option Bool} {l l2 : Sl} {x : TV} (h : okB t l = .ok x l2) : ∃ b, t = some b ∧ l2 = l ∧ x = ⟨0, .bl b⟩ := by
  cases t with
  | none => cases h
  | some v => cases h; exact ⟨_, rfl, rfl, rfl⟩
theorem Fz.int_inv {i : Int} (h : Fz H U (.int i) v) : v = .int i := by cases h; rfl
theorem Fz.bl_inv {i : Bool} (h : Fz H U (.bl i) v) : v = .bl i := by cases h; rfl
theorem Fz.str_inv {i : Str} (h : Fz H U (.str i) v) : v = .str i := by cases h; rfl
theorem Fz.non_inv (h : Fz H U .non v) : v = .non := by cases h; rfl
theorem Fz.tup_inv {ds : List D} (h : Fz H U (.tup ds) v) : ∃ a ws, v = .ref a ∧ H a = some (.tup ws) ∧ ¬ U a ∧ FzL H U ds ws := by cases h with | tup h1 h2 h3 => exact ⟨_, _, rfl, h1, h2, h3⟩
theorem Fz.lst_inv {ds : List D} (h : Fz H U (.lst ds) v) : ∃ a ws, v = .ref a ∧ Rd H a (.lst ws) ∧ ¬ U a ∧ FzL H U ds ws := by cases h with | lst h1 h2 h3 => exact ⟨_, _, rfl, h1, h2, h3⟩

theorem two_den {f g : D} {v w : V} (h : FzL H U [f, g] [v, w]) : Fz H U f v ∧ Fz H U g w := by
  cases h with
  | cons h1 h2 => cases h2 with | cons h2 _ => exact ⟨h1, h2⟩

/-! ### + * - // % ** -/
def bop : BOp → Operator
  | .add => .Add
  | .sub => .Sub
  | .mul => .Mult
  | .fdiv => .FloorDiv
  | .mod => .Mod
  | .pow => .Pow
theorem small_le {n : Nat} (h : small n = true) : n ≤ sizeLine := by rw [sizeLine_eq]; exact of_decide_eq_true h

variable {X : Cx}
theorem Inv.lstR {pins : List (Addr × Obj)} {s : Shared} {a : Addr} {xs : List V} (I : Inv X pins σ H s) (h : Rd H a (.lst xs)) :
    xs.length ≤ sizeLine ∧ ∃ (its : List Value) (n : Nat), Vals xs its ∧ xs.length = its.length ∧ s.heap.get? a = some { cls := .type "list", data := .seq its.toArray n } := by
  obtain ⟨h1, its, n, h2, h3⟩ := h.ok I.hok
  exact ⟨h1, its, n, h2, h2.length, h3⟩
def rCatR : R2 := fun x y H Q => ∃ a b xs ys, x = .ref a ∧ y = .ref b ∧ Rd H a (.lst xs) ∧ Rd H b (.lst ys) ∧ xs.length + ys.length ≤ sizeLine ∧ ∀ p, H p = none → Q (.ref p) (upd H p (.lst (xs ++ ys)))
theorem op_catR : OpR X (binaryOp .Add) rCatR := by
  rintro pins s σ H x y v u Q I rx ry ⟨a, b, xs, ys, rfl, rfl, ha, hb, hz, q⟩
  cases rx; cases ry
  obtain ⟨_, i1, n1, r1, l1, e1⟩ := Inv.lstR I ha
  obtain ⟨_, i2, n2, r2, l2, e2⟩ := Inv.lstR I hb
  refine PySem.P.add_list e1 e2 ?_ (by simp only [List.size_toArray]; omega)
  rw [show i1.toArray ++ i2.toArray = (i1 ++ i2).toArray by simp]
  refine ⟨.ref _, _, I.lnew (t' := s.toks) (r1.append r2) ?_, rfl, q _ I.fresh⟩
  simpa using hz
/-- a frozen list times an int: by copying; only tracked lists here -/
theorem Rd.lock {a : Addr} {u : HO} (h : Rd H a u) : H a = some u ∨ ∃ o, H a = some (.frz o u) := h

theorem At.up1 (a : At H U l σ As B os vs) {d : D} {w : V} (h : Fz H U d w) : ∀ U' As', Sim H U' (lowO 1 l os) σ As' → (∀ b, U' b → U b) → (∀ p ∈ B, ¬ U' p) → Fz H U' d w := fun _ _ _ hu _ => h.sub hu

theorem op_bin_add : OpR X (binaryOp .Add) (fun x y H Q => ∃ σ, FO (applyO (.bin .add)) [x, y] σ H Q) := by
  rintro pins s σ H x y v u Q I rx ry ⟨σ', U, l, As, B, os, a, r, l2, e, k⟩
  obtain ⟨o, p, rfl⟩ := a.ods.two
  obtain ⟨e1, rfl⟩ := okO_some e
  obtain ⟨h1, h2⟩ := two_den a.den
  have i1 := a.imm 0 o x rfl rfl
  have i2 := a.imm 1 p y rfl rfl
  have el1 := fun U' As' S' hu hB => a.els (U' := U') (As' := As') S' hu hB 0 o x rfl rfl
  have el2 := fun U' As' S' hu hB => a.els (U' := U') (As' := As') S' hu hB 1 p y rfl rfl
  generalize o.d l = d1 at *
  generalize p.d l = d2 at *
  cases h1 <;> cases h2 <;> simp only [binD] at e1 <;> try (cases e1; done)
  case int.int i j =>
    cases e1
    exact op_add pins s σ H _ _ v u Q I rx ry ⟨i, j, rfl, rfl, FO.old a (a.up1 (.int _)) k⟩
  case str.str i j =>
    split at e1
    case isTrue hz =>
      cases e1
      exact op_add_str pins s σ H _ _ v u Q I rx ry ⟨i, j, rfl, rfl, small_le hz, FO.old a (a.up1 (.str _)) k⟩
    case isFalse => cases e1
  case tup.tup b1 v1 d1 h1 n1 f1 b2 v2 d2 h2 n2 f2 =>
    split at e1
    case isFalse => cases e1
    case isTrue hz =>
      cases e1
      obtain ⟨_, w1, q1, g1, m1, t1⟩ := (i1 rfl).tup_inv
      cases q1
      obtain ⟨_, w2, q2, g2, m2, t2⟩ := (i2 rfl).tup_inv
      cases q2
      rw [h1] at g1; cases g1
      rw [h2] at g2; cases g2
      refine op_catA pins s σ H _ _ v u Q I rx ry ⟨_, _, _, _, rfl, rfl, .inl (.inl h1), .inl (.inl h2), by rw [← t1.length, ← t2.length]; exact small_le hz, fun e => ?_, fun _ e => ?_, fun _ _ p hp => ?_⟩
      · subst e
        cases d1 with
        | nil => exact FO.old a (a.up1 (by rw [List.nil_append]; exact i2 rfl)) k
        | cons _ _ => cases t1
      · subst e
        cases d2 with
        | nil => exact FO.old a (a.up1 (by rw [List.append_nil]; exact i1 rfl)) k
        | cons _ _ => cases t2
      · exact FO.newT a hp (fun U' As' S' hu hB => (t1.append t2).sub hu) k
  case lst.lst b1 v1 d1 h1 n1 f1 b2 v2 d2 h2 n2 f2 =>
    split at e1
    case isFalse => cases e1
    case isTrue hz =>
      cases e1
      refine op_catR pins s σ H _ _ v u Q I rx ry ⟨_, _, _, _, rfl, rfl, h1, h2, by rw [← f1.length, ← f2.length]; exact small_le hz, fun p hp => ?_⟩
      refine FO.newL a hp (fun U' As' S' hu hB => ?_) k
      obtain ⟨_, w1, q1, g1, t1⟩ := el1 U' As' S' hu hB d1 rfl
      obtain ⟨_, w2, q2, g2, t2⟩ := el2 U' As' S' hu hB d2 rfl
      cases q1; cases q2
      have z1 : w1 = v1 := by
        rcases g1 with ⟨q, _⟩ | ⟨_, q⟩
        · cases q
        · exact I.list_inj (.inl q) (.inl h1)
      have z2 : w2 = v2 := by
        rcases g2 with ⟨q, _⟩ | ⟨_, q⟩
        · cases q
        · exact I.list_inj (.inl q) (.inl h2)
      subst z1 z2
      exact t1.append t2
end
end DL
end

section
set_option Elab.async false
set_option linter.all false
set_option maxRecDepth 100000
/-! DEB: a tuple once is itself. -/
namespace DL
open PySem PySem.Spec PyProof.Rows L2
theorem tup_once (a : Addr) (xs : Array Value) (m : Nat) (e : Option Addr) (z : Array (Option Value)) (u : Tok) :
    Meets (Builtin.«tuple.__mul__» ⟨[.ref a, .int 1 u], []⟩) (fun _ R s => s.heap.get? a = some { cls := .type "tuple", dict := e, data := .seq xs m, slots := z } ∧ R (.ok (.ret (.ref a))) s) := by
  refine .of_wp fun P w A R s h => ?_
  obtain ⟨hp, g, d, tk, os⟩ := s
  obtain ⟨ha, h⟩ := h
  have f1 := AutoSeq1.idx_int
  have c1 : (xs.isEmpty || ((1 : Int) == 1)) = true := by simp
  wp_walk using wpAny_loadPart' ha
  exact ⟨_, rfl, h⟩
def rOnce (K : PySem.W.Frag) : R2 := fun x y H Q => ∃ l xs, x = .ref l ∧ y = .int 1 ∧ SqT K H l xs ∧ Q (.ref l) H
theorem op_once {X : Cx} : OpR X (binaryOp .Mult) (rOnce X.K) := by
  rintro pins s σ H x y v u Q I rx ry ⟨l, xs, rfl, rfl, hT, q⟩
  cases rx
  obtain ⟨t, rfl⟩ := ry
  obtain ⟨its, _, ⟨⟨cls, e, da, z⟩, ho, hc, m, hd⟩, _⟩ := I.tuple hT
  simp only at hc hd
  subst hc hd
  refine wpAny_binaryOp_repeat_ref (T := "tuple") (U := "int") (by decide) ⟨_, ho, rfl⟩ (fun st => typeIs_int st 1 t) noFill_tuple_mul F.fills_int_mul F.slot_int_rmul repeat_tuple F.slot_int_index.lookup ?_
  refine call_meets F.slot_int_rmul (typeIs_int s 1 t) F.entry_int_rmul (F.args_int_rmul_2 _ _) (int_rmul_tuple 1 t l its.toArray m e z) ⟨ho, rfl, ⟨_, ho, rfl⟩, ?_⟩
  exact call_meets F.slot_tuple_mul ⟨_, ho, rfl⟩ F.entry_tuple_mul (F.args_tuple_mul_2 _ _) (tup_once l its.toArray m e z t) ⟨ho, ⟨.ref l, H, I, rfl, q⟩⟩
end DL
end

section
set_option Elab.async false
set_option linter.all false
set_option maxRecDepth 100000
/-! DF: further operations' rules. -/
namespace DL
open PySem PySem.Spec PyProof.Rows L2
section
variable {H H' : Hp} {U U' O : Pd} {l l' l2 : Sl} {σ : L2.St} {As As' : Nat → List Addr} {A B : List Addr} {x : TV} {v w y : V} {d e : D} {vs : List V} {Q : VK} {os : List Od} {o p q : Od} {X : Cx}

theorem one_den {f : D} {v : V} (h : FzL H U [f] [v]) : Fz H U f v := by
  cases h with | cons h1 h2 => exact h1
theorem three_den {f g h : D} {v w y : V} (q : FzL H U [f, g, h] [v, w, y]) : Fz H U f v ∧ Fz H U g w ∧ Fz H U h y := by
  cases q with | cons h1 h2 => exact ⟨h1, two_den h2⟩
theorem op_bin_sub : OpR X (binaryOp .Sub) (fun x y H Q => ∃ σ, FO (applyO (.bin .sub)) [x, y] σ H Q) := by
  rintro pins s σ H x y v u Q I rx ry ⟨σ', U, l, As, B, os, a, r, l2, e, k⟩
  obtain ⟨o, p, rfl⟩ := a.ods.two
  obtain ⟨e1, e2⟩ := okO_some e
  subst l2
  obtain ⟨h1, h2⟩ := two_den a.den
  generalize o.d l = d1 at *
  generalize p.d l = d2 at *
  cases h1 <;> cases h2 <;> simp only [binD] at e1 <;> try (cases e1; done)
  case int.int i j =>
    cases e1
    exact op_sub pins s σ H _ _ v u Q I rx ry ⟨i, j, rfl, rfl, FO.sc a (.int _) k⟩
theorem op_bin_fdiv : OpR X (binaryOp .FloorDiv) (fun x y H Q => ∃ σ, FO (applyO (.bin .fdiv)) [x, y] σ H Q) := by
  rintro pins s σ H x y v u Q I rx ry ⟨σ', U, l, As, B, os, a, r, l2, e, k⟩
  obtain ⟨o, p, rfl⟩ := a.ods.two
  obtain ⟨e1, e2⟩ := okO_some e
  subst l2
  obtain ⟨h1, h2⟩ := two_den a.den
  generalize o.d l = d1 at *
  generalize p.d l = d2 at *
  cases h1 <;> cases h2 <;> simp only [binD] at e1 <;> try (cases e1; done)
  case int.int i j =>
    split at e1
    case isFalse => cases e1
    case isTrue hz =>
      cases e1
      exact op_fdiv pins s σ H _ _ v u Q I rx ry ⟨i, j, rfl, rfl, of_decide_eq_true (p := 0 < j ∧ j < 1073741824) hz, FO.sc a (.int _) k⟩
theorem op_bin_mod : OpR X (binaryOp .Mod) (fun x y H Q => ∃ σ, FO (applyO (.bin .mod)) [x, y] σ H Q) := by
  rintro pins s σ H x y v u Q I rx ry ⟨σ', U, l, As, B, os, a, r, l2, e, k⟩
  obtain ⟨o, p, rfl⟩ := a.ods.two
  obtain ⟨e1, e2⟩ := okO_some e
  subst l2
  obtain ⟨h1, h2⟩ := two_den a.den
  generalize o.d l = d1 at *
  generalize p.d l = d2 at *
  cases h1 <;> cases h2 <;> simp only [binD] at e1 <;> try (cases e1; done)
  case int.int i j =>
    split at e1
    case isFalse => cases e1
    case isTrue hz =>
      cases e1
      exact op_mod pins s σ H _ _ v u Q I rx ry ⟨i, j, rfl, rfl, of_decide_eq_true hz, FO.sc a (.int _) k⟩
theorem op_bin_pow : OpR X (binaryOp .Pow) (fun x y H Q => ∃ σ, FO (applyO (.bin .pow)) [x, y] σ H Q) := by
  rintro pins s σ H x y v u Q I rx ry ⟨σ', U, l, As, B, os, a, r, l2, e, k⟩
  obtain ⟨o, p, rfl⟩ := a.ods.two
  obtain ⟨e1, e2⟩ := okO_some e
  subst l2
  obtain ⟨h1, h2⟩ := two_den a.den
  generalize o.d l = d1 at *
  generalize p.d l = d2 at *
  cases h1 <;> cases h2 <;> simp only [binD] at e1 <;> try (cases e1; done)
  case int.int i j =>
    split at e1
    case isFalse => cases e1
    case isTrue hz =>
      cases e1
      have hz := of_decide_eq_true hz
      exact op_pow pins s σ H _ _ v u Q I rx ry ⟨i, j, rfl, rfl, ⟨hz.1, by omega, by omega⟩, FO.sc a (.int _) k⟩
/-- a list times an int, also a locked one -/
def rRepR : R2 := fun x y H Q => ∃ a k xs, x = .ref a ∧ y = .int k ∧ Rd H a (.lst xs) ∧ (-(2 ^ 62) < k ∧ k < 2 ^ 62) ∧ xs.length * k.toNat ≤ sizeLine ∧ ∀ p, H p = none → Q (.ref p) (upd H p (.lst (List.replicate k.toNat xs).flatten))
theorem op_repR : OpR X (binaryOp .Mult) rRepR := by
  rintro pins s σ H x y v u Q I rx ry ⟨a, k, xs, rfl, rfl, ha, hk, hz, q⟩
  rcases ha with ha | ⟨ob, ha⟩
  · exact op_rep pins s σ H _ _ v u Q I rx ry ⟨a, k, xs, rfl, rfl, ha, by omega, by omega, hz, q⟩
  · -- the list is read as if it were tracked by itself
    have I2 : Inv X pins σ H s := I
    have hobj := I.hok a _ ha
    have q2 := hobj.2
    have J : ∀ Q' : VK, (∀ p, H p = none → Q' (.ref p) (upd H p (.lst (List.replicate k.toNat xs).flatten))) → wpAny (model X.prog X.w) X.A (binaryOp .Mult v u) (EP X pins σ Q') X.xe s := by
      intro Q' q'
      cases rx
      obtain ⟨t, rfl⟩ := ry
      obtain ⟨z, its, n, r, e⟩ := q2
      have hl := r.length
      have hn : its.toArray.size * k.toNat ≤ sizeLine := by rw [List.size_toArray, ← hl]; exact hz
      have h16 : (sizeLine : Nat) ≤ (2 ^ 63 - 1) / 8 := by decide
      have c1 : ¬ its.toArray.size * k.toNat > (2 ^ 63 - 1) / 8 := by omega
      have c2 : ¬ (!Builtin.List.listFitsIndex k) = true := by rw [fitsIndex_both (by omega) (by omega)]; exact Bool.false_ne_true
      have c3 : ¬ Builtin.List.listTooLong (its.toArray.size * k.toNat) = true := by rw [notLongL hn]; exact Bool.false_ne_true
      have c4 : List.foldl (fun x1 x2 => x1 ++ x2) #[] (List.replicate (if its.toArray.isEmpty = true then 0 else k.toNat) its.toArray) = (List.replicate k.toNat its).flatten.toArray := by
        have f0 := fun m : Nat => foldl_rep its m []
        simp only [List.nil_append] at f0
        rw [f0]
        cases its with
        | nil => simp
        | cons a r' => rw [if_neg (by simp)]
      refine wpAny_binaryOp_repeat_ref (T := "list") (U := "int") (by decide) ⟨_, e, rfl⟩ (fun s' => typeIs_int s' k t) noFill_list_mul F.fills_int_mul F.slot_int_rmul repeat_list F.slot_int_index.lookup ?_
      refine call_meets F.slot_int_rmul (typeIs_int s k t) F.entry_int_rmul (F.args_int_rmul_2 _ _) (int___rmul___int_list k t a its.toArray n) ⟨e, rfl, ⟨_, e, rfl⟩, ?_⟩
      refine call_meets F.slot_list_mul ⟨_, e, rfl⟩ F.entry_list_mul (F.args_list_mul_2 _ _) (AutoListH.list___mul___list_int_3 a its.toArray n k t c2 c1 c3) ⟨e, ?_⟩
      rw [c4]
      refine ⟨.ref _, _, I.lnew (t' := s.toks) (r.rep k.toNat) ?_, rfl, q' _ I.fresh⟩
      rw [PyProof.Rows.lm_len_rep_flat, Nat.mul_comm]
      exact hz
    exact J Q q
theorem op_bin_mul : OpR X (binaryOp .Mult) (fun x y H Q => ∃ σ, FO (applyO (.bin .mul)) [x, y] σ H Q) := by
  rintro pins s σ H x y v u Q I rx ry ⟨σ', U, l, As, B, os, a, r, l2, e, k⟩
  obtain ⟨o, p, rfl⟩ := a.ods.two
  obtain ⟨e1, rfl⟩ := okO_some e
  obtain ⟨h1, h2⟩ := two_den a.den
  have i1 := a.imm 0 o x rfl rfl
  have el1 := fun U' As' S' hu hB => a.els (U' := U') (As' := As') S' hu hB 0 o x rfl rfl
  generalize o.d l = d1 at *
  generalize p.d l = d2 at *
  cases h1 <;> cases h2 <;> simp only [binD] at e1 <;> try (cases e1; done)
  case int.int i j =>
    split at e1
    case isFalse => cases e1
    case isTrue hz =>
      cases e1
      exact op_mul pins s σ H _ _ v u Q I rx ry ⟨i, j, rfl, rfl, of_decide_eq_true (p := (-(2 ^ 64) < i ∧ i < 2 ^ 64) ∨ (-(2 ^ 64) < j ∧ j < 2 ^ 64)) hz, FO.old a (a.up1 (.int _)) k⟩
  case tup.int b1 v1 d1 h1 n1 f1 j =>
    split at e1
    case isFalse =>
      split at e1
      case isFalse => cases e1
      case isTrue hj =>
        cases e1
        subst hj
        obtain ⟨_, w1, q1, g1, m1, t1⟩ := (i1 rfl).tup_inv
        cases q1
        rw [h1] at g1; cases g1
        exact op_once pins s σ H _ _ v u Q I rx ry ⟨_, _, rfl, rfl, .inl (.inl h1), FO.old a (fun U' As' S' hu hB => .tup h1 (fun z => m1 (hu _ z)) (t1.sub hu)) k⟩
    case isTrue hz =>
      cases e1
      simp only [Bool.and_eq_true, decide_eq_true_eq] at hz
      obtain ⟨_, w1, q1, g1, m1, t1⟩ := (i1 rfl).tup_inv
      cases q1
      rw [h1] at g1; cases g1
      refine op_repT pins s σ H _ _ v u Q I rx ry ⟨_, j, _, rfl, rfl, .inl (.inl h1), fun e => ?_, hz.2.1, hz.2.2.1, by rw [← t1.length]; exact hz.2.2.2, fun p hp => FO.newT a hp (fun U' As' S' hu hB => (t1.rep j.toNat).sub hu) k⟩
      subst e
      cases d1 with
      | nil => simp at hz
      | cons _ _ => cases t1
  case lst.int b1 v1 d1 h1 n1 f1 j =>
    split at e1
    case isFalse => cases e1
    case isTrue hz =>
      cases e1
      simp only [Bool.and_eq_true, decide_eq_true_eq] at hz
      refine op_repR pins s σ H _ _ v u Q I rx ry ⟨_, j, _, rfl, rfl, h1, ⟨hz.1.2, hz.1.1⟩, by rw [← f1.length]; exact small_le hz.2, fun p hp => FO.newL a hp (fun U' As' S' hu hB => ?_) k⟩
      obtain ⟨_, w1, q1, g1, t1⟩ := el1 U' As' S' hu hB d1 rfl
      cases q1
      have z1 : w1 = v1 := by
        rcases g1 with ⟨q, _⟩ | ⟨_, q⟩
        · cases q
        · exact I.list_inj (.inl q) (.inl h1)
      subst z1
      exact t1.rep j.toNat
theorem op_bin (b : BOp) : OpR X (binaryOp (bop b)) (fun x y H Q => ∃ σ, FO (applyO (.bin b)) [x, y] σ H Q) := by
  cases b
  · exact op_bin_add
  · exact op_bin_sub
  · exact op_bin_mul
  · exact op_bin_fdiv
  · exact op_bin_mod
  · exact op_bin_pow

/-! ### comparisons -/
mutual
theorem Fz.dp {K : PySem.W.Frag} : ∀ (d : D) (v : V), Fz H U d v → (toP d).plain = true → Dp K H v (toP d)
  | .un, _, h, _ => nomatch h
  | .non, _, h, _ => by cases h; exact .non
  | .bl _, _, h, _ => by cases h; exact .bl _
  | .int _, _, h, _ => by cases h; exact .int _
  | .str _, _, h, _ => by cases h; exact .str _
  | .tup ds, _, h, hp => by
    cases h with
    | tup h1 h2 h3 => exact .tup (.inl (.inl h1)) (FzL.dp ds _ h3 hp)
  | .lst ds, _, h, hp => by
    cases h with
    | lst h1 h2 h3 => exact .lst (.inl h1) (FzL.dp ds _ h3 hp)
  | .dct _ _, _, _, hp => nomatch hp
theorem FzL.dp {K : PySem.W.Frag} : ∀ (ds : List D) (vs : List V), FzL H U ds vs → PyData.plainAll (toPs ds) = true → DpAll K H vs (toPs ds)
  | [], _, h, _ => by cases h; exact .nil
  | d :: ds, _, h, hp => by
    cases h with
    | cons h1 h2 =>
      simp only [toPs, PyData.plainAll, Bool.and_eq_true] at hp
      exact .cons (Fz.dp d _ h1 hp.1) (FzL.dp ds _ h2 hp.2)
end
theorem eqOk_plain {d : D} (h : eqOk d = true) : (toP d).plain = true ∧ (toP d).depth ≤ 64 := by
  unfold eqOk at h
  simp only [Bool.and_eq_true, decide_eq_true_eq] at h
  exact h
def cop : COp → CmpOp
  | .eq => .Eq
  | .ne => .NotEq
  | .lt => .Lt
  | .le => .LtE
  | .gt => .Gt
  | .ge => .GtE
  | .isc => .Is
  | .isn => .IsNot
  | .inn => .In
  | .nin => .NotIn
theorem reads_of {pins : List (Addr × Obj)} {s : Shared} {u : Value} (I : Inv X pins σ H s) (h : Fz H U d v) (hp : (toP d).plain = true) (r : RelV v u) : ∃ as, PySem.Reads s.heap u (toP d) as :=
  Dp.reads I _ _ _ (h.dp (K := X.K) _ _ hp) r

/-- keys of a dict -/
theorem keyD_kV {k : D} {c : Key} (h : keyD k = some c) (r : Fz H U k v) : v = kV c := by
  cases r <;> simp only [keyD] at h <;> cases h <;> rfl
theorem keyD_eq {k j : D} {c c' : Key} (h : keyD k = some c) (h' : keyD j = some c') : dEq k j = decide (c = c') := by
  cases k <;> simp only [keyD] at h <;> try (cases h; done)
  all_goals (cases h; cases j <;> simp only [keyD] at h' <;> try (cases h'; done))
  all_goals (cases h'; unfold dEq toP PyData.eqv; rw [Bool.eq_iff_iff]; simp)
theorem lk_K {ds : List (D × D)} {ks : List (Key × V)} {k : D} {c : Key} (hk : keyD k = some c) (h : FzK H U ds ks) : (∀ d, lk ds k = some d → ∃ v, valV ks c = some v ∧ Fz H U d v) ∧ (lk ds k = none → valV ks c = none) := by
  match ds, ks, h with
  | [], _, .nil => exact ⟨fun d e => by simp [lk] at e, fun _ => rfl⟩
  | (k', d') :: ds, (c', v') :: ks, .cons h0 h1 h2 =>
    have ih := lk_K hk h2
    have e := keyD_eq h0 hk
    by_cases hc : c' = c
    · have e1 : dEq k' k = true := by rw [e, decide_eq_true hc]
      refine ⟨fun d q => ?_, fun q => ?_⟩
      · simp only [lk, e1, if_true] at q
        cases q
        refine ⟨v', ?_, h1⟩
        subst hc
        simp [valV]
      · simp only [lk, e1, if_true] at q
        cases q
    · have e1 : dEq k' k = false := by rw [e, decide_eq_false hc]
      refine ⟨fun d q => ?_, fun q => ?_⟩
      · simp only [lk, e1, Bool.false_eq_true, if_false] at q
        obtain ⟨v, h3, h4⟩ := ih.1 d q
        exact ⟨v, by rw [← h3]; unfold valV; rw [List.find?_cons_of_neg (by simpa using hc)], h4⟩
      · simp only [lk, e1, Bool.false_eq_true, if_false] at q
        rw [← ih.2 q]; unfold valV; rw [List.find?_cons_of_neg (by simpa using hc)]
end
end DL
end

section
set_option Elab.async false
set_option linter.all false
set_option maxRecDepth 100000
/-! DG: comparisons, subscripts, slices, displays, built-in functions. -/
namespace DL
open PySem PySem.Spec PyProof.Rows L2
section
variable {H H' : Hp} {U U' O : Pd} {l l' l2 : Sl} {σ : L2.St} {As As' : Nat → List Addr} {A B : List Addr} {x : TV} {v w y : V} {d e : D} {vs : List V} {Q : VK} {os : List Od} {o p q : Od} {X : Cx}

theorem FzL.keys : ∀ {ds : List D} {ws : List V} {c : List Key}, keysD ds = some c → FzL H U ds ws → ws = c.map kV
  | [], _, c, h, .nil => by simp [keysD] at h; subst h; rfl
  | d :: ds, _, c, h, .cons h1 h2 => by
    simp only [keysD] at h
    cases h3 : keyD d with
    | none => rw [h3] at h; cases h
    | some k =>
      rw [h3] at h
      cases h4 : keysD ds with
      | none => rw [h4] at h; cases h
      | some ks =>
        rw [h4] at h
        cases h
        rw [List.map_cons, keyD_kV h3 h1, FzL.keys h4 h2]
theorem keysD_eq : ∀ {a b : List D} {c c' : List Key}, keysD a = some c → keysD b = some c' → PyData.eqvAll (toPs a) (toPs b) = decide (c = c')
  | [], [], c, c', h, h' => by simp [keysD] at h h'; subst h h'; simp [toPs, PyData.eqvAll]
  | [], y :: ys, c, c', h, h' => by
    simp only [keysD] at h h'
    cases h
    cases h3 : keyD y with
    | none => rw [h3] at h'; cases h'
    | some k =>
      rw [h3] at h'
      cases h4 : keysD ys with
      | none => rw [h4] at h'; cases h'
      | some ks => rw [h4] at h'; cases h'; simp [toPs, PyData.eqvAll]
  | x :: xs, [], c, c', h, h' => by
    simp only [keysD] at h h'
    cases h'
    cases h3 : keyD x with
    | none => rw [h3] at h; cases h
    | some k =>
      rw [h3] at h
      cases h4 : keysD xs with
      | none => rw [h4] at h; cases h
      | some ks => rw [h4] at h; cases h; simp [toPs, PyData.eqvAll]
  | x :: xs, y :: ys, c, c', h, h' => by
    simp only [keysD] at h h'
    cases h3 : keyD x with
    | none => rw [h3] at h; cases h
    | some k =>
      rw [h3] at h
      cases h4 : keysD xs with
      | none => rw [h4] at h; cases h
      | some ks =>
        rw [h4] at h
        cases h5 : keyD y with
        | none => rw [h5] at h'; cases h'
        | some k' =>
          rw [h5] at h'
          cases h6 : keysD ys with
          | none => rw [h6] at h'; cases h'
          | some ks' =>
            rw [h6] at h'
            cases h; cases h'
            have e1 : PyData.eqv (toP x) (toP y) = decide (k = k') := keyD_eq h3 h5
            simp only [toPs, PyData.eqvAll, e1, keysD_eq h4 h6, ← Bool.decide_and, List.cons.injEq]
theorem flat_keys : ∀ {ds : List D}, ds.all D.flatK = true → ∃ c, keysD ds = some c
  | [], _ => ⟨[], rfl⟩
  | d :: ds, h => by
    rw [List.all_cons, Bool.and_eq_true] at h
    obtain ⟨c, hc⟩ := flat_keys h.2
    cases d <;> simp only [D.flatK] at h <;> try (exact absurd h.1 (by decide))
    · exact ⟨_, by simp only [keysD, keyD, hc]; rfl⟩
    · exact ⟨_, by simp only [keysD, keyD, hc]; rfl⟩
theorem lk_T {ds : List (D × D)} {ks : List (List Key × V)} {k : List D} {c : List Key} (hk : keysD k = some c) (h : FzT H U ds ks) : (∀ d, lk ds (.tup k) = some d → ∃ v, valV ks c = some v ∧ Fz H U d v) ∧ (lk ds (.tup k) = none → valV ks c = none) := by
  match ds, ks, h with
  | [], _, .nil => exact ⟨fun d e => by simp [lk] at e, fun _ => rfl⟩
  | (.tup k', d') :: ds, (c', v') :: ks, .cons h0 h1 h2 =>
    have ih := lk_T hk h2
    have e : dEq (.tup k') (.tup k) = decide (c' = c) := keysD_eq h0 hk
    by_cases hc : c' = c
    · have e1 : dEq (.tup k') (.tup k) = true := by rw [e, decide_eq_true hc]
      refine ⟨fun d q => ?_, fun q => ?_⟩
      · simp only [lk, e1, if_true] at q
        cases q
        refine ⟨v', ?_, h1⟩
        subst hc
        simp [valV]
      · simp only [lk, e1, if_true] at q
        cases q
    · have e1 : dEq (.tup k') (.tup k) = false := by rw [e, decide_eq_false hc]
      refine ⟨fun d q => ?_, fun q => ?_⟩
      · simp only [lk, e1, Bool.false_eq_true, if_false] at q
        obtain ⟨v, h3, h4⟩ := ih.1 d q
        exact ⟨v, by rw [← h3]; unfold valV; rw [List.find?_cons_of_neg (by simpa using hc)], h4⟩
      · simp only [lk, e1, Bool.false_eq_true, if_false] at q
        rw [← ih.2 q]; unfold valV; rw [List.find?_cons_of_neg (by simpa using hc)]
/-- a look into a dict: the key's value, or none -/
theorem dget_of {tk : Bool} {kd : List (D × D)} {k : D} {a : Addr} {yv : V} {U2 : Pd} (h : Fz H U (.dct tk kd) (.ref a)) (hk : Fz H U2 k yv) (ik : k.isKey tk = true) :
    ∃ r, DGet H a yv r ∧ (∀ d, lk kd k = some d → ∃ v, r = some v ∧ Fz H U d v) ∧ (lk kd k = none → r = none) := by
  cases h with
  | dk h1 h2 h3 =>
    rename_i ks
    obtain ⟨c, hc⟩ : ∃ c, keyD k = some c := by
      cases k <;> simp only [D.isKey] at ik <;> first | exact ⟨_, rfl⟩ | (exact absurd ik (by simp))
    have e := keyD_kV hc hk
    subst e
    obtain ⟨q1, q2⟩ := lk_K hc h3
    exact ⟨valV ks c, .inl ⟨ks, c, h1, rfl, rfl⟩, q1, q2⟩
  | dt h1 h2 h3 =>
    rename_i ks
    cases k <;> simp only [D.isKey] at ik <;> try (exact absurd ik (by decide))
    rename_i js
    obtain ⟨c, hc⟩ := flat_keys (ds := js) (by rw [Bool.true_and] at ik; exact ik)
    obtain ⟨b, ws, rfl, hb, _, hf⟩ := hk.tup_inv
    obtain ⟨q1, q2⟩ := lk_T hc h3
    exact ⟨valV ks c, .inr ⟨ks, c, b, h1, rfl, by rw [hb, FzL.keys hc hf], rfl⟩, q1, q2⟩

theorem toP_depth_le (g : Gd X) {a b : PyData} (h : a.depth ≤ 64) : X.A.units + min a.depth b.depth < cLine := by
  have := g.un
  have : min a.depth b.depth ≤ 64 := Nat.le_trans (Nat.min_le_left _ _) h
  omega

theorem eqOks_plain {xs : List D} (h : eqOks xs = true) : PyData.plainAll (toPs xs) = true ∧ PyData.depthAll (toPs xs) ≤ 64 := by
  unfold eqOks at h
  simp only [Bool.and_eq_true, decide_eq_true_eq] at h
  exact h
theorem in_any {d : D} : ∀ {xs : List D}, ((toPs xs).any fun y => PyData.eqv y (toP d)) = inD d xs
  | [] => rfl
  | z :: zs => by unfold inD; simp only [toPs, List.any_cons]; rw [in_any]; rfl
theorem Fz.dct_ref {tk : Bool} {kd : List (D × D)} (h : Fz H U (.dct tk kd) v) : ∃ a, v = .ref a := by cases h <;> exact ⟨_, rfl⟩

theorem op_cmp (g : Gd X) (c : COp) : OpR X (compareOp (cop c)) (fun x y H Q => ∃ σ, FO (applyO (.cmp c)) [x, y] σ H Q) := by
  rintro pins s σ H x y v u Q I rx ry ⟨σ', U, l, As, B, os, a, r, l2, e, k⟩
  obtain ⟨o, p, rfl⟩ := a.ods.two
  obtain ⟨b, e1, rfl, rfl⟩ := okB_some e
  obtain ⟨h1, h2⟩ := two_den a.den
  have fin : ∀ s', Inv X pins σ H s' → EP X pins σ Q (.bool b) s' := fun s' J => ⟨.bl b, H, J, rfl, FO.sc a (.bl b) k⟩
  have hun := g.un
  cases c
  case eq =>
    simp only [cmpD] at e1
    split at e1
    case isFalse => cases e1
    case isTrue hq =>
      cases e1
      rw [Bool.and_eq_true] at hq
      obtain ⟨p1, g1⟩ := eqOk_plain hq.1
      obtain ⟨p2, g2⟩ := eqOk_plain hq.2
      obtain ⟨as, r1⟩ := reads_of I h1 p1 rx
      obtain ⟨bs, r2⟩ := reads_of I h2 p2 ry
      exact SeqAt.eq_plain r1 r2 p1 p2 (toP_depth_le g g1) (fin s I)
  case ne =>
    simp only [cmpD] at e1
    split at e1
    case isFalse => cases e1
    case isTrue hq =>
      cases e1
      rw [Bool.and_eq_true] at hq
      obtain ⟨p1, g1⟩ := eqOk_plain hq.1
      obtain ⟨p2, g2⟩ := eqOk_plain hq.2
      obtain ⟨as, r1⟩ := reads_of I h1 p1 rx
      obtain ⟨bs, r2⟩ := reads_of I h2 p2 ry
      exact SeqAt.ne_plain r1 r2 p1 p2 (toP_depth_le g g1) (fin s I)
  case lt =>
    simp only [cmpD] at e1
    generalize o.d l2 = d1 at *
    generalize p.d l2 = d2 at *
    cases h1 <;> cases h2 <;> simp only at e1 <;> try (cases e1; done)
    cases e1
    exact op_lt pins s σ H _ _ v u Q I rx ry ⟨_, _, rfl, rfl, FO.sc a (.bl _) k⟩
  case le =>
    simp only [cmpD] at e1
    generalize o.d l2 = d1 at *
    generalize p.d l2 = d2 at *
    cases h1 <;> cases h2 <;> simp only at e1 <;> try (cases e1; done)
    cases e1
    exact op_le pins s σ H _ _ v u Q I rx ry ⟨_, _, rfl, rfl, FO.sc a (.bl _) k⟩
  case gt =>
    simp only [cmpD] at e1
    generalize o.d l2 = d1 at *
    generalize p.d l2 = d2 at *
    cases h1 <;> cases h2 <;> simp only at e1 <;> try (cases e1; done)
    cases e1
    exact op_gt pins s σ H _ _ v u Q I rx ry ⟨_, _, rfl, rfl, FO.sc a (.bl _) k⟩
  case ge =>
    simp only [cmpD] at e1
    generalize o.d l2 = d1 at *
    generalize p.d l2 = d2 at *
    cases h1 <;> cases h2 <;> simp only at e1 <;> try (cases e1; done)
    cases e1
    exact op_ge pins s σ H _ _ v u Q I rx ry ⟨_, _, rfl, rfl, FO.sc a (.bl _) k⟩
  case isc =>
    simp only [cmpD] at e1
    generalize o.d l2 = d1 at *
    generalize p.d l2 = d2 at *
    cases h2 <;> simp only at e1 <;> try (cases e1; done)
    · refine op_isN pins s σ H _ _ v u Q I rx ry ⟨rfl, ?_⟩
      have : decide (x = V.non) = b := by cases h1 <;> simp only at e1 <;> cases e1 <;> rfl
      rw [this]
      exact FO.sc a (.bl b) k
    · cases h1 <;> simp only at e1 <;> try (cases e1; done)
      cases e1
      refine op_isBl pins s σ H _ _ v u Q I rx ry ⟨_, _, rfl, rfl, ?_⟩
      rename_i j i
      rw [show decide (i = j) = (i == j) by rw [Bool.eq_iff_iff]; simp]
      exact FO.sc a (.bl _) k
  case isn =>
    simp only [cmpD] at e1
    generalize o.d l2 = d1 at *
    generalize p.d l2 = d2 at *
    cases h2 <;> simp only at e1 <;> try (cases e1; done)
    · refine op_notN pins s σ H _ _ v u Q I rx ry ⟨rfl, ?_⟩
      have : (!decide (x = V.non)) = b := by cases h1 <;> simp only at e1 <;> cases e1 <;> rfl
      rw [this]
      exact FO.sc a (.bl b) k
    · cases h1 <;> simp only at e1 <;> try (cases e1; done)
      cases e1
      refine op_notBl pins s σ H _ _ v u Q I rx ry ⟨_, _, rfl, rfl, ?_⟩
      rename_i j i
      rw [show (!decide (i = j)) = !(i == j) by cases i <;> cases j <;> rfl]
      exact FO.sc a (.bl _) k
  case inn =>
    simp only [cmpD] at e1
    cases hd : p.d l2 <;> rw [hd] at e1 h2 <;> simp only at e1 <;> try (cases e1; done)
    case tup xs =>
      split at e1
      case isFalse => cases e1
      case isTrue hq =>
        cases e1
        rw [Bool.and_eq_true] at hq
        obtain ⟨p1, g1⟩ := eqOk_plain hq.1
        obtain ⟨p2, g2⟩ := eqOks_plain hq.2
        obtain ⟨as, r1⟩ := reads_of I h1 p1 rx
        obtain ⟨bs, r2⟩ := reads_of I h2 (show (toP (.tup xs)).plain = true from p2) ry
        exact SeqAt.in_tuple_data r2 r1 p2 p1 (by have := Nat.min_le_left (PyData.depthAll (toPs xs)) (toP (o.d l2)).depth; omega) (by rw [in_any]; exact fin s I)
    case lst xs =>
      split at e1
      case isFalse => cases e1
      case isTrue hq =>
        cases e1
        rw [Bool.and_eq_true] at hq
        obtain ⟨p1, g1⟩ := eqOk_plain hq.1
        obtain ⟨p2, g2⟩ := eqOks_plain hq.2
        obtain ⟨as, r1⟩ := reads_of I h1 p1 rx
        obtain ⟨bs, r2⟩ := reads_of I h2 (show (toP (.lst xs)).plain = true from p2) ry
        exact SeqAt.in_list_data r2 r1 p2 p1 (by have := Nat.min_le_left (PyData.depthAll (toPs xs)) (toP (o.d l2)).depth; omega) (by rw [in_any]; exact fin s I)
    case dct tk kd =>
      split at e1
      case isFalse => cases e1
      case isTrue hq =>
        cases e1
        obtain ⟨c, rfl⟩ := h2.dct_ref
        cases ry
        obtain ⟨r, g1, g2, g3⟩ := dget_of h2 h1 hq
        refine d_in (by omega) I g1 rx fun s' J => ?_
        have : r.isSome = (lk kd (o.d l2)).isSome := by
          cases hl : lk kd (o.d l2) with
          | none => rw [g3 hl]; rfl
          | some d => obtain ⟨w, hw, _⟩ := g2 d hl; rw [hw]; rfl
        rw [this]
        exact fin s' J
  case nin =>
    simp only [cmpD] at e1
    cases hd : p.d l2 <;> rw [hd] at e1 h2 <;> simp only at e1 <;> try (cases e1; done)
    case tup xs =>
      split at e1
      case isFalse => cases e1
      case isTrue hq =>
        cases e1
        rw [Bool.and_eq_true] at hq
        obtain ⟨p1, g1⟩ := eqOk_plain hq.1
        obtain ⟨p2, g2⟩ := eqOks_plain hq.2
        obtain ⟨as, r1⟩ := reads_of I h1 p1 rx
        obtain ⟨bs, r2⟩ := reads_of I h2 (show (toP (.tup xs)).plain = true from p2) ry
        exact SeqAt.notIn_tuple_data r2 r1 p2 p1 (by have := Nat.min_le_left (PyData.depthAll (toPs xs)) (toP (o.d l2)).depth; omega) (by rw [in_any]; exact fin s I)
    case lst xs =>
      split at e1
      case isFalse => cases e1
      case isTrue hq =>
        cases e1
        rw [Bool.and_eq_true] at hq
        obtain ⟨p1, g1⟩ := eqOk_plain hq.1
        obtain ⟨p2, g2⟩ := eqOks_plain hq.2
        obtain ⟨as, r1⟩ := reads_of I h1 p1 rx
        obtain ⟨bs, r2⟩ := reads_of I h2 (show (toP (.lst xs)).plain = true from p2) ry
        exact SeqAt.notIn_list_data r2 r1 p2 p1 (by have := Nat.min_le_left (PyData.depthAll (toPs xs)) (toP (o.d l2)).depth; omega) (by rw [in_any]; exact fin s I)
    case dct tk kd =>
      split at e1
      case isFalse => cases e1
      case isTrue hq =>
        cases e1
        obtain ⟨c, rfl⟩ := h2.dct_ref
        cases ry
        obtain ⟨r, g1, g2, g3⟩ := dget_of h2 h1 hq
        refine d_notIn (by omega) I g1 rx fun s' J => ?_
        have : r.isSome = (lk kd (o.d l2)).isSome := by
          cases hl : lk kd (o.d l2) with
          | none => rw [g3 hl]; rfl
          | some d => obtain ⟨w, hw, _⟩ := g2 d hl; rw [hw]; rfl
        rw [this]
        exact fin s' J

/-! ### x[i] -/
def rIxD : R2 := fun x y H Q => ∃ a w, x = .ref a ∧ DGet H a y (some w) ∧ Q w H
theorem ix_dict (g : Gd X) : IxR X rIxD := by
  rintro value slice pins s σ H x y v u Q I rx ry ⟨a, w, rfl, gd, q⟩ hs
  cases rx
  have := g.un
  exact tail_any (dict_typeIs I gd) PySem.F.slot_dict_getitem.lookup (d_getItem (by omega) I gd ry fun w' s' J rw' => ⟨w, H, J, rw', q⟩) hs
theorem ixN_eq (n : Nat) (i : Int) : DL.ixN n i = L2.ixN n i := rfl
/-- keys that match, and something of each value -/
inductive KR (P : D → V → Prop) : List (D × D) → List (Key × V) → Prop
  | nil : KR P [] []
  | cons {k d : D} {c : Key} {v : V} {ds : List (D × D)} {vs : List (Key × V)} : keyD k = some c → P d v → KR P ds vs → KR P ((k, d) :: ds) ((c, v) :: vs)
theorem FzK.kr : ∀ {ds : List (D × D)} {vs : List (Key × V)}, FzK H U ds vs → KR (Fz H U) ds vs
  | _, _, .nil => .nil
  | _, _, .cons a b c => .cons a b (FzK.kr c)
theorem RepC.imm {d : D} {v : V} {A : List Addr} (h : RepC H U d v A) (hm : d.isM = false) : Fz H U d v := by
  rcases h with ⟨_, _, h⟩ | ⟨a, _, h⟩
  · exact h
  · rw [h.isM] at hm; cases hm
theorem RepKs.kr : ∀ {ds : List (D × D)} {vs : List (Key × V)} {As : List (List Addr)}, RepKs H U ds vs As → KR (fun d v => d.isM = false → Fz H U d v) ds vs
  | _, _, _, .nil => .nil
  | _, _, _, .cons a b c => .cons a (fun hm => b.imm hm) (RepKs.kr c)
theorem KR.lk {P : D → V → Prop} {ds : List (D × D)} {ks : List (Key × V)} {k : D} {c : Key} (hk : keyD k = some c) (h : KR P ds ks) : ∀ d, lk ds k = some d → ∃ v, valV ks c = some v ∧ P d v := by
  induction h with
  | nil => intro d e; simp [DL.lk] at e
  | @cons k' d' c' v' ds ks h0 h1 h2 ih =>
    intro d q
    have e := keyD_eq h0 hk
    by_cases hc : c' = c
    · have e1 : dEq k' k = true := by rw [e, decide_eq_true hc]
      simp only [DL.lk, e1, if_true] at q
      cases q
      subst hc
      exact ⟨v', by simp [valV], h1⟩
    · have e1 : dEq k' k = false := by rw [e, decide_eq_false hc]
      simp only [DL.lk, e1, Bool.false_eq_true, if_false] at q
      obtain ⟨v, h3, h4⟩ := ih d q
      exact ⟨v, by rw [← h3]; unfold valV; rw [List.find?_cons_of_neg (by simpa using hc)], h4⟩
theorem FzT.lk {ds : List (D × D)} {ks : List (List Key × V)} {k : List D} {c : List Key} (hk : keysD k = some c) (h : FzT H U ds ks) : ∀ d, lk ds (.tup k) = some d → ∃ v, valV ks c = some v ∧ Fz H U d v := (lk_T hk h).1
/-- a dict at an operand: a value of it -/
theorem Rep.dval {tk : Bool} {kd : List (D × D)} {k d : D} {v yv : V} {U2 : Pd} (r : Rep H U x v A) (hx : x.d = .dct tk kd) (hk : Fz H U2 k yv) (ik : k.isKey tk = true) (hl : lk kd k = some d) (ht : d.isM = true → x.t ≤ 1) :
    ∃ a w, v = .ref a ∧ DGet H a yv (some w) ∧ Fz H U d w := by
  have keyK : tk = false → ∃ c, keyD k = some c ∧ yv = kV c := fun e => by
    subst e
    obtain ⟨c, hc⟩ : ∃ c, keyD k = some c := by cases k <;> simp only [D.isKey] at ik <;> first | exact ⟨_, rfl⟩ | (exact absurd ik (by simp))
    exact ⟨c, hc, keyD_kV hc hk⟩
  have keyT : tk = true → ∃ js c b, k = .tup js ∧ keysD js = some c ∧ yv = .ref b ∧ H b = H b ∧ ∃ ws, FzL H U2 js ws ∧ (H b = some (.tup ws)) := fun e => by
    subst e
    cases k <;> simp only [D.isKey] at ik <;> try (exact absurd ik (by decide))
    rename_i js
    obtain ⟨c, hc⟩ := flat_keys (ds := js) (by rw [Bool.true_and] at ik; exact ik)
    obtain ⟨b, ws, rfl, hb, _, hf⟩ := hk.tup_inv
    exact ⟨js, c, b, rfl, hc, rfl, rfl, ws, hf, hb⟩
  match x, r with
  | ⟨0, _⟩, ⟨_, h⟩ =>
    simp only at hx; subst hx
    cases h with
    | dk h1 h2 h3 =>
      obtain ⟨c, hc, rfl⟩ := keyK rfl
      obtain ⟨w, q1, q2⟩ := h3.kr.lk hc d hl
      exact ⟨_, w, rfl, .inl ⟨_, c, h1, rfl, q1.symm⟩, q2⟩
    | dt h1 h2 h3 =>
      obtain ⟨js, c, b, rfl, hc, rfl, _, ws, hf, hb⟩ := keyT rfl
      obtain ⟨w, q1, q2⟩ := h3.lk hc d hl
      exact ⟨_, w, rfl, .inr ⟨_, c, b, h1, rfl, by rw [hb, FzL.keys hc hf], q1.symm⟩, q2⟩
  | ⟨1, _⟩, ⟨a, _, h⟩ =>
    simp only at hx; subst hx
    cases tk with
    | false =>
      obtain ⟨ks, e, h1, _, h3⟩ := h
      obtain ⟨c, hc, rfl⟩ := keyK rfl
      obtain ⟨w, q1, q2⟩ := h3.kr.lk hc d hl
      exact ⟨_, w, e, .inl ⟨_, c, .inl h1, rfl, q1.symm⟩, q2⟩
    | true =>
      obtain ⟨ks, e, h1, _, h3⟩ := h
      obtain ⟨js, c, b, rfl, hc, rfl, _, ws, hf, hb⟩ := keyT rfl
      obtain ⟨w, q1, q2⟩ := h3.lk hc d hl
      exact ⟨_, w, e, .inr ⟨_, c, b, .inl h1, rfl, by rw [hb, FzL.keys hc hf], q1.symm⟩, q2⟩
  | ⟨2, .lst _⟩, _ => cases hx
  | ⟨2, .dct false _⟩, ⟨a, ks, As, e, h1, _, _, h5⟩ =>
    simp only at hx; cases hx
    obtain ⟨c, hc, rfl⟩ := keyK rfl
    obtain ⟨w, q1, q2⟩ := h5.kr.lk hc d hl
    have hm : d.isM = false := by
      cases hm : d.isM with
      | false => rfl
      | true => exact absurd (ht hm) (by simp)
    exact ⟨_, w, e, .inl ⟨_, c, .inl h1, rfl, q1.symm⟩, q2 hm⟩
/-- a list or tuple at an operand: an item that is no object -/
theorem RepCs.get : ∀ {ds : List D} {vs : List V} {As : List (List Addr)} {i : Nat} {d : D}, RepCs H U ds vs As → ds[i]? = some d → ∃ v A, vs[i]? = some v ∧ As[i]? = some A ∧ RepC H U d v A
  | _, _, _, _, _, .nil, e => by simp at e
  | _, _, _, 0, _, .cons a _, e => by simp at e; subst e; exact ⟨_, _, rfl, rfl, a⟩
  | _, _, _, i + 1, _, .cons _ b, e => by
    obtain ⟨v, A, h1, h2, h3⟩ := RepCs.get (i := i) b (by simpa using e)
    exact ⟨v, A, by simpa using h1, by simpa using h2, h3⟩
theorem RepCs.length : ∀ {ds : List D} {vs : List V} {As : List (List Addr)}, RepCs H U ds vs As → ds.length = vs.length
  | _, _, _, .nil => rfl
  | _, _, _, .cons _ b => by rw [List.length_cons, List.length_cons, RepCs.length b]
theorem Els.item {ds : List D} {d : D} {v : V} {j : Nat} (e : Els H U x.d v) (hx : seqOf x.d = some ds) (hj : ds[j]? = some d) :
    ∃ a ws w, v = .ref a ∧ ((x.d = .tup ds ∧ H a = some (.tup ws)) ∨ (x.d = .lst ds ∧ Rd H a (.lst ws))) ∧ ds.length = ws.length ∧ ws[j]? = some w ∧ Fz H U d w := by
  obtain ⟨a, ws, h1, h2, h3⟩ := e ds hx
  obtain ⟨w, h4, h5⟩ := h3.get hj
  exact ⟨a, ws, w, h1, h2, h3.length, h4, h5⟩
theorem Rep.item {ds : List D} {d : D} {v : V} {j : Nat} (r : Rep H U x v A) (hx : seqOf x.d = some ds) (hj : ds[j]? = some d) (hm : d.isM = false) :
    ∃ a ws w, v = .ref a ∧ ((x.d = .tup ds ∧ H a = some (.tup ws)) ∨ (x.d = .lst ds ∧ Rd H a (.lst ws))) ∧ ds.length = ws.length ∧ ws[j]? = some w ∧ Fz H U d w := by
  match x, r with
  | ⟨0, _⟩, ⟨_, h⟩ => exact Els.item (x := ⟨_, _⟩) h.els hx hj
  | ⟨1, _⟩, ⟨a, _, h⟩ => exact Els.item (x := ⟨_, _⟩) h.els hx hj
  | ⟨2, .lst es⟩, ⟨a, ws, As, e, h1, _, _, h5⟩ =>
    cases hx
    obtain ⟨w, A', q1, q2, q3⟩ := h5.get hj
    exact ⟨a, ws, w, e, .inr ⟨rfl, .inl h1⟩, h5.length, q1, q3.imm hm⟩
  | ⟨2, .dct false _⟩, _ => cases hx
theorem OdR.rep (S : Sim H U l σ As) (r : OdR H U σ o v A) : ∃ x A', x.d = o.d l ∧ x.t = o.t l ∧ Rep H U x v A' := by
  cases r with
  | v r => exact ⟨_, _, rfl, rfl, r⟩
  | r e => exact ⟨_, _, rfl, rfl, S.den e⟩
/-- an item of an operand, read -/
theorem At.item {d : D} {ds : List D} {r : List Od} {rv : List V} {j : Nat} (a : At H U l σ As B (o :: r) (v :: rv)) (hx : seqOf (o.d l) = some ds) (hj : ds[j]? = some d)
    (k : ∀ v H2, (∃ U2 As2 A, Core H U (Ow As B) (lowSub l o d) σ H2 U2 As2 A ∧ Rep H2 U2 ⟨0, d⟩ v A) → Q v H2) :
    ∃ p ws w, v = .ref p ∧ (H p = some (.tup ws) ∨ Rd H p (.lst ws)) ∧ ds.length = ws.length ∧ ws[j]? = some w ∧ Q w H := by
  obtain ⟨h1, h2⟩ : ∃ A, OdR H U σ o v A ∧ ∀ p ∈ A, p ∈ B := by
    cases a.ods with | cons h1 h2 => exact ⟨_, h1, fun p m => List.mem_append_left _ m⟩
  obtain ⟨h1, h2⟩ := h2
  obtain ⟨x, A', e1, e2, rp⟩ := h1.rep a.sim
  rw [← e1] at hx
  cases hm : d.isM with
  | false =>
    have e : lowSub l o d = l := by unfold lowSub; cases o <;> simp [hm]
    rw [e] at k
    obtain ⟨p, ws, w, q1, q2, q3, q4, q5⟩ := rp.item hx hj hm
    exact ⟨p, ws, w, q1, q2.imp (fun h => h.2) (fun h => h.2), q3, q4, FO.sc a q5 k⟩
  | true =>
    cases h1 with
    | v r =>
      rename_i xt
      have e : lowSub l (.v xt) d = l := rfl
      rw [e] at k
      have hu2 : ∀ b, wo U B b → U b := fun b h => h.1
      have S2 : Sim H (wo U B) l σ As := a.sim.keep (fun _ _ e _ => e) (fun b _ n z => n z.1) (fun p h => ⟨fun _ e => e, (a.sim.own h).1, fun m => a.ap p m h⟩) fun p h => a.sim.um p h.1
      have el : Els H (wo U B) xt.d v := (r.froz hu2 fun p m z => z.2 (h2 p m)).els
      obtain ⟨p, ws, w, q1, q2, q3, q4, q5⟩ := el.item (x := xt) (by rw [show xt.d = x.d from e1.symm]; exact hx) hj
      exact ⟨p, ws, w, q1, q2.imp (fun h => h.2) (fun h => h.2), q3, q4, k w H ⟨wo U B, As, [], Core.lowd S2 hu2 (fun q h n => ⟨h, fun m => n (.inr m)⟩) (fun q h => .inl h), rfl, q5⟩⟩
    | r ei =>
      rename_i i
      have e : lowSub l (.r i) d = low l i 1 := by unfold lowSub; simp [hm]
      rw [e] at k
      obtain ⟨U', As', S', hu, hU, hA, _, _⟩ := a.sim.low i 1 (.inr rfl)
      have el : Els H U' (gt l i).d v := OdR.els (o := .r i) a.sim S' (.r ei) hu (by simp) fun j ej => by cases ej; exact ⟨low_d, low_t⟩
      obtain ⟨p, ws, w, q1, q2, q3, q4, q5⟩ := el.item (x := gt l i) (by rw [show (gt l i).d = x.d from e1.symm]; exact hx) hj
      exact ⟨p, ws, w, q1, q2.imp (fun h => h.2) (fun h => h.2), q3, q4, k w H ⟨U', As', [], Core.lowd S' hu (fun q h n => hU q h fun m => n (.inl ⟨i, m⟩)) (fun q ⟨j, h⟩ => .inl ⟨j, hA j q h⟩), rfl, q5⟩⟩
theorem ixN_get {α : Type} {xs : List α} {i : Int} {d : α} (h : ((ixN xs.length i).bind fun k => xs[k]?) = some d) : ∃ j, ixN xs.length i = some j ∧ xs[j]? = some d := by
  cases hj : ixN xs.length i with
  | none => rw [hj] at h; cases h
  | some j => rw [hj] at h; exact ⟨j, rfl, h⟩
theorem ix_sub (g : Gd X) : IxR X (fun x y H Q => ∃ σ, FO (applyO .sub) [x, y] σ H Q) := by
  rintro value slice pins s σ H x y v u Q I rx ry ⟨σ', U, l, As, B, os, a, r, l2, e, k⟩ hs
  obtain ⟨o, p, rfl⟩ := a.ods.two
  obtain ⟨h1, h2⟩ := two_den a.den
  simp only [applyO] at e
  cases hsub : subD (o.d l) (p.d l) with
  | none => rw [hsub] at e; cases e
  | some d =>
    rw [hsub] at e
    simp only at e
    cases hd : o.d l with
    | dct tk kd =>
      rw [hd] at e hsub
      simp only [D.isD, if_true] at e
      split at e
      case isTrue => cases e
      case isFalse hq =>
        cases e
        simp only [subD] at hsub
        split at hsub
        case isFalse => cases hsub
        case isTrue ik =>
          have ho : ∃ A, OdR H U σ' o x A := by cases a.ods with | cons h1 h2 => exact ⟨_, h1⟩
          obtain ⟨A, ho⟩ := ho
          obtain ⟨tv, A', e1, e2, rp⟩ := ho.rep a.sim
          obtain ⟨b, w, rfl, q1, q2⟩ := rp.dval (e1.trans hd) h2 ik hsub fun hm => by
            rw [hm] at hq
            simp only [Bool.true_and, decide_eq_true_eq] at hq
            omega
          exact ix_dict g value slice pins s σ H _ _ v u Q I rx ry ⟨b, w, rfl, q1, FO.sc a q2 k⟩ hs
    | tup xs =>
      rw [hd] at e hsub
      simp only [D.isD, Bool.false_eq_true, if_false] at e
      cases e
      simp only [subD] at hsub
      cases hp : p.d l with
      | int i =>
        rw [hp] at hsub h2
        obtain ⟨j, hj, hg⟩ := ixN_get hsub
        obtain ⟨q, ws, w, rfl, q2, q3, q4, q5⟩ := a.item (by rw [hd]; rfl) hg k
        have hb : ∃ ws', H q = some (.tup ws') := by rw [hd] at h1; obtain ⟨c, ws', ec, h, _⟩ := h1.tup_inv; cases ec; exact ⟨ws', h⟩
        obtain ⟨ws', hb⟩ := hb
        have hw : H q = some (.tup ws) := by
          rcases q2 with q2 | q2
          · exact q2
          · rcases q2 with q2 | ⟨_, q2⟩ <;> rw [hb] at q2 <;> cases q2
        refine ix_tup value slice pins s σ H _ _ v u Q I rx ry ⟨q, ws, i, w, rfl, h2.int_inv, .inl (.inl hw), ?_, q5⟩ hs
        unfold atI
        rw [← ixN_eq, ← q3, hj]
        exact q4
      | _ => rw [hp] at hsub; cases hsub
    | lst xs =>
      rw [hd] at e hsub
      simp only [D.isD, Bool.false_eq_true, if_false] at e
      cases e
      simp only [subD] at hsub
      cases hp : p.d l with
      | int i =>
        rw [hp] at hsub h2
        obtain ⟨j, hj, hg⟩ := ixN_get hsub
        obtain ⟨q, ws, w, rfl, q2, q3, q4, q5⟩ := a.item (by rw [hd]; rfl) hg k
        have hw : Rd H q (.lst ws) := by
          rcases q2 with q2 | q2
          · rw [hd] at h1
            obtain ⟨c, ws', ec, h, _⟩ := h1.lst_inv
            cases ec
            rcases h with h | ⟨_, h⟩ <;> rw [q2] at h <;> cases h
          · exact q2
        refine ix_list value slice pins s σ H _ _ v u Q I rx ry ⟨q, ws, i, w, rfl, h2.int_inv, .inl hw, ?_, q5⟩ hs
        unfold atI
        rw [← ixN_eq, ← q3, hj]
        exact q4
      | _ => rw [hp] at hsub; cases hsub
    | _ => rw [hd] at hsub; cases hsub
end
end DL
end

section
set_option Elab.async false
set_option linter.all false
set_option maxRecDepth 100000
/-! DH: slices, displays, built-in functions. -/
namespace DL
open PySem PySem.Spec PyProof.Rows L2
section
variable {H H' : Hp} {U U' O : Pd} {l l' l2 : Sl} {σ : L2.St} {As As' : Nat → List Addr} {A B : List Addr} {x : TV} {v w y : V} {d e : D} {vs : List V} {Q : VK} {os : List Od} {o p q : Od} {X : Cx}

/-! ### slices -/
theorem cutIx_eq (n d : Nat) (i : Option Int) : cutIx n d i = HT.sIx n d i := by cases i <;> rfl
theorem FzL.cut {ds : List D} {ws : List V} (h : FzL H U ds ws) (lo hi : Option Int) : FzL H U (DL.cut ds lo hi) (cutV ws lo hi) := by
  unfold DL.cut cutV
  rw [cutIx_eq, cutIx_eq, h.length]
  exact (h.drop _).take _
def FS (i j : Option Int) (vs : List V) (σ : L2.St) (H : Hp) (Q : VK) : Prop := FO (applySl i j) vs σ H Q
theorem sl_all : SlR X (fun x i j H Q => ∃ σ, FS i j [x] σ H Q) := by
  have h : SlR X (fun x i j H Q => rSlL X.K x i j H Q ∨ rSlA X.K x i j H Q) := sl_list.or sl_tupA
  rintro pins s σ H x v vl vu lo hi sl Q I rx hs pl pu ⟨σ', U, l, As, B, os, a, r, l2, e, k⟩
  refine h pins s σ H x v vl vu lo hi sl Q I rx hs pl pu ?_
  obtain ⟨o, rfl⟩ := a.ods.one
  obtain ⟨e1, e2⟩ := okO_some e
  subst l2
  have h1 := one_den a.den
  have i1 := a.imm 0 o x rfl rfl
  have el1 := fun U' As' S' hu hB => a.els (U' := U') (As' := As') S' hu hB 0 o x rfl rfl
  generalize o.d l = d1 at *
  cases h1 <;> simp only [slcD] at e1 <;> try (cases e1; done)
  case tup b1 v1 d1 h1 n1 f1 =>
    cases e1
    right
    obtain ⟨_, w1, q1, g1, m1, t1⟩ := (i1 rfl).tup_inv
    cases q1
    rw [h1] at g1; cases g1
    refine ⟨_, _, rfl, .inl (.inl h1), fun q => ?_, fun _ p hp => FO.newT a hp (fun U' As' S' hu hB => (t1.cut lo hi).sub hu) k⟩
    have : DL.cut d1 lo hi = d1 := by
      unfold DL.cut
      rw [cutIx_eq, cutIx_eq, t1.length, q.1, q.2, ← t1.length]
      simp
    rw [this] at k
    exact FO.old a (a.up1 (i1 rfl)) k
  case lst b1 v1 d1 h1 n1 f1 =>
    cases e1
    left
    refine ⟨_, _, rfl, .inl h1, fun p hp => FO.newL a hp (fun U' As' S' hu hB => ?_) k⟩
    obtain ⟨_, w1, q1, g1, t1⟩ := el1 U' As' S' hu hB d1 rfl
    cases q1
    have z1 : w1 = v1 := by
      rcases g1 with ⟨q, _⟩ | ⟨_, q⟩
      · cases q
      · exact I.list_inj (.inl q) (.inl h1)
    subst z1
    exact t1.cut lo hi

/-! ### displays -/
theorem dsp_tup {H : Hp} {Q : VK} (h : ∃ σ, FO (applyO .tup) vs σ H Q) : vs.length ≤ sizeLine ∧ ∀ p, H p = none → Q (.ref p) (upd H p (.tup vs)) := by
  obtain ⟨σ', U, l, As, B, os, a, r, l2, e, k⟩ := h
  simp only [applyO] at e
  split at e
  case isFalse => cases e
  case isTrue hz =>
    cases e
    refine ⟨by rw [← a.ods.length]; exact small_le hz, fun p hp => ?_⟩
    obtain ⟨U', As', S', hu, hU, hA, hB⟩ := a.lows 0 (.inl rfl)
    have hf := a.froz S' hu hB
    exact k _ _ ⟨_, As', [], (Core.new S' hu hU (fun q h => .inl (hA q h)) hp).2, rfl, .tup upd_same (fun h => S'.um p h hp) (hf.up hp fun a h => .inr h)⟩
theorem dsp_lst {H : Hp} {Q : VK} (h : ∃ σ, FO (applyO (.lst false)) vs σ H Q) : vs.length ≤ sizeLine ∧ ∀ p, H p = none → Q (.ref p) (upd H p (.lst vs)) := by
  obtain ⟨σ', U, l, As, B, os, a, r, l2, e, k⟩ := h
  simp only [applyO] at e
  split at e
  case isFalse => cases e
  case isTrue hz =>
    cases e
    refine ⟨by rw [← a.ods.length]; exact small_le hz, fun p hp => ?_⟩
    obtain ⟨U', As', S', hu, hU, hA, hB⟩ := a.lows 0 (.inl rfl)
    have hf := a.froz S' hu hB
    exact k _ _ ⟨_, As', [p], (Core.new S' hu hU (fun q h => .inl (hA q h)) hp).1, p, rfl, vs, rfl, upd_same, .inl rfl, hf.up hp fun a h => h⟩
theorem Ods.kids (S : Sim H U l σ As) (h : Ods H U σ os vs B) (ok : dpOk l os = true) : ∃ Cs, Cs.flatten = B ∧ RepCs H U (os.map (Od.d l)) vs Cs := by
  induction h with
  | nil => exact ⟨[], rfl, .nil⟩
  | @cons o v A os vs B h1 h2 ih =>
    unfold dpOk at ok ih
    rw [List.all_cons, Bool.and_eq_true] at ok
    obtain ⟨Cs, e, r⟩ := ih ok.2
    refine ⟨A :: Cs, by rw [List.flatten_cons, e], .cons ?_ r⟩
    cases h1 with
    | v rp =>
      rename_i tv
      show RepC H U tv.d v A
      have ok1 := ok.1
      simp only [Od.tv] at ok1
      cases hm : tv.d.isM with
      | false =>
        obtain ⟨q1, q2⟩ := rp.imm hm
        exact .inl ⟨hm, q2, q1⟩
      | true =>
        rw [hm] at ok1
        simp only [if_true] at ok1
        split at ok1
        case isFalse => cases ok1
        case isTrue ht =>
          have : tv = ⟨1, tv.d⟩ := by cases tv; simp only at ht; subst ht; rfl
          rw [this] at rp
          obtain ⟨a, q1, q2⟩ := rp
          exact .inr ⟨a, q1, q2⟩
    | r e =>
      rename_i i
      show RepC H U (gt l i).d v []
      have ok1 := ok.1
      simp only [Od.tv] at ok1
      cases hm : (gt l i).d.isM with
      | false => exact .inl ⟨hm, rfl, ((S.den e).imm hm).1⟩
      | true => rw [hm] at ok1; simp at ok1
theorem RepCs.up {ds : List D} {ws : List V} {Cs : List (List Addr)} {p : Addr} {o : HO} (h : RepCs H U ds ws Cs) (hp : H p = none) : RepCs (upd H p o) (fun a => a = p ∨ U a) ds ws Cs :=
  h.keep (fun a o e _ => by rw [upd_ne (ne_of_none e hp)]; exact e) (fun a e n z => z.elim (fun q => e (by rw [q]; exact hp)) n) (fun a _ o e => by rw [upd_ne (ne_of_none e hp)]; exact e) fun a _ h => .inr h
theorem dsp_dlst {H : Hp} {Q : VK} (h : ∃ σ, FO (applyO (.lst true)) vs σ H Q) : vs.length ≤ sizeLine ∧ ∀ p, H p = none → Q (.ref p) (upd H p (.lst vs)) := by
  obtain ⟨σ', U, l, As, B, os, a, r, l2, e, k⟩ := h
  simp only [applyO] at e
  split at e
  case isFalse => cases e
  case isTrue hz =>
    cases e
    rw [Bool.and_eq_true] at hz
    refine ⟨by rw [← a.ods.length]; exact small_le hz.1, fun p hp => ?_⟩
    obtain ⟨Cs, hc, r⟩ := a.ods.kids a.sim hz.2
    subst hc
    have hb := a.ods.at
    have pB : p ∉ Cs.flatten := fun m => (hb p m).2 hp
    have pO : ¬ Own As p := fun h => (a.sim.own h).2 hp
    have np : ∀ q, H q ≠ none → q ≠ p := fun q h e => h (by rw [e]; exact hp)
    refine k _ _ ⟨fun q => q = p ∨ U q, As, p :: Cs.flatten, ⟨a.sim.fresh hp (fun _ h => h) (fun q h => .inr (a.sim.own h).1), List.nodup_cons.mpr ⟨pB, a.nd⟩, fun q m => ?_, fun q m => ?_, fun q m => ?_, fun q h => .inl (.inl h), ⟨fun q o' e _ => by rw [upd_ne (ne_of_none e hp)]; exact e, fun q e n => ⟨fun h => h.elim (fun z => absurd z (np q e)) fun h => h, fun h => .inr h⟩, fun q e => by rw [upd_ne (np q e)]; exact e⟩⟩, p, vs, Cs, rfl, upd_same, .inl rfl, rfl, r.up hp⟩
    · rcases List.mem_cons.mp m with rfl | m
      · exact pO
      · exact a.ap q m
    · rcases List.mem_cons.mp m with rfl | m
      · exact ⟨.inl rfl, nne upd_same⟩
      · exact ⟨.inr (hb q m).1, by rw [upd_ne (np q (hb q m).2)]; exact (hb q m).2⟩
    · rcases List.mem_cons.mp m with rfl | m
      · exact .inr hp
      · exact .inl (.inr m)

/-! ### built-in functions -/
theorem un_negD : UnR X (unaryOp .USub) (fun x H Q => ∃ σ, FO (applyO .neg) [x] σ H Q) := by
  rintro pins s σ H x v Q I rx ⟨σ', U, l, As, B, os, a, r, l2, e, k⟩
  obtain ⟨o, rfl⟩ := a.ods.one
  have h1 := one_den a.den
  simp only [applyO] at e
  generalize o.d l = d1 at *
  cases h1 <;> simp only at e <;> try (cases e; done)
  cases e
  exact un_neg pins s σ H _ v Q I rx ⟨_, rfl, FO.sc a (.int _) k⟩
theorem blsOf_eq : ∀ {ds : List D} {bs : List Bool} {ws : List V}, blsOf ds = some bs → FzL H U ds ws → ws = bs.map V.bl
  | [], bs, _, h, .nil => by simp [blsOf] at h; subst h; rfl
  | .bl b :: ds, bs, _, h, .cons h1 h2 => by
    simp only [blsOf] at h
    cases h3 : blsOf ds with
    | none => rw [h3] at h; cases h
    | some cs => rw [h3] at h; cases h; rw [List.map_cons, h1.bl_inv, blsOf_eq h3 h2]
theorem intsOf_eq : ∀ {ds : List D} {bs : List Int} {ws : List V}, intsOf ds = some bs → FzL H U ds ws → ws = bs.map V.int
  | [], bs, _, h, .nil => by simp [intsOf] at h; subst h; rfl
  | .int b :: ds, bs, _, h, .cons h1 h2 => by
    simp only [intsOf] at h
    cases h3 : intsOf ds with
    | none => rw [h3] at h; cases h
    | some cs => rw [h3] at h; cases h; rw [List.map_cons, h1.int_inv, intsOf_eq h3 h2]

theorem b1_one {f : B1} {x : TV} (h : applyO (.b1 f) os l = .ok x l2) : ∃ o, os = [o] := by
  match os, h with
  | [o], _ => exact ⟨o, rfl⟩
  | [], h => cases h
  | _ :: _ :: _, h => cases h
theorem Ods.vone {o : Od} (h : Ods H U σ [o] vs B) : ∃ x, vs = [x] := by cases h with | cons _ h2 => cases h2; exact ⟨_, rfl⟩
theorem Ods.vtwo {o p : Od} (h : Ods H U σ [o, p] vs B) : ∃ x y, vs = [x, y] := by cases h with | cons _ h2 => cases h2 with | cons _ h3 => cases h3; exact ⟨_, _, rfl⟩
theorem cr_len : CallR X (.builtin "len") (fun xs H Q => ∃ σ, FO (applyO (.b1 .len)) xs σ H Q) := by
  rintro pins s σ H xs us Q I r ⟨σ', U, l, As, B, os, a, x', l2, e, k⟩
  obtain ⟨o, rfl⟩ := b1_one e
  obtain ⟨x, rfl⟩ := a.ods.vone
  · skip
    have h1 := one_den a.den
    obtain ⟨e1, e2⟩ := okO_some e
    subst l2
    generalize o.d l = d1 at *
    cases h1 <;> simp only [b1D] at e1 <;> try (cases e1; done)
    · split at e1
      case isFalse => cases e1
      case isTrue hz =>
        cases e1
        exact call_len pins s σ H _ us Q I r ⟨_, _, rfl, ⟨small_le hz, rfl⟩, FO.sc a (.int _) k⟩
    · cases e1
      rename_i h2 n f
      exact call_len pins s σ H _ us Q I r ⟨_, _, rfl, .inr ⟨_, .inl (.inl h2), rfl⟩, by rw [← f.length]; exact FO.sc a (.int _) k⟩
    · cases e1
      rename_i h2 n f
      exact call_len pins s σ H _ us Q I r ⟨_, _, rfl, .inl ⟨_, .inl h2, rfl⟩, by rw [← f.length]; exact FO.sc a (.int _) k⟩
theorem cr_abs : CallR X (.builtin "abs") (fun xs H Q => ∃ σ, FO (applyO (.b1 .abs)) xs σ H Q) := by
  rintro pins s σ H xs us Q I r ⟨σ', U, l, As, B, os, a, x', l2, e, k⟩
  obtain ⟨o, rfl⟩ := b1_one e
  obtain ⟨x, rfl⟩ := a.ods.vone
  · skip
    have h1 := one_den a.den
    obtain ⟨e1, e2⟩ := okO_some e
    subst l2
    generalize o.d l = d1 at *
    cases h1 <;> simp only [b1D] at e1 <;> try (cases e1; done)
    cases e1
    exact call_abs pins s σ H _ us Q I r ⟨_, rfl, FO.sc a (.int _) k⟩
theorem cr_int : CallR X (.type "int") (fun xs H Q => ∃ σ, FO (applyO (.b1 .int)) xs σ H Q) := by
  rintro pins s σ H xs us Q I r ⟨σ', U, l, As, B, os, a, x', l2, e, k⟩
  obtain ⟨o, rfl⟩ := b1_one e
  obtain ⟨x, rfl⟩ := a.ods.vone
  · skip
    have h1 := one_den a.den
    obtain ⟨e1, e2⟩ := okO_some e
    subst l2
    generalize o.d l = d1 at *
    cases h1 <;> simp only [b1D] at e1 <;> try (cases e1; done)
    · cases e1
      exact call_int1 pins s σ H _ us Q I r (.inr ⟨_, rfl, FO.sc a (.int _) k⟩)
    · cases e1
      exact call_int1 pins s σ H _ us Q I r (.inl ⟨_, rfl, FO.sc a (.int _) k⟩)
theorem cr_allD (g : Gd X) : CallR X (.builtin "all") (fun xs H Q => ∃ σ, FO (applyO (.b1 .all)) xs σ H Q) := by
  rintro pins s σ H xs us Q I r ⟨σ', U, l, As, B, os, a, x', l2, e, k⟩
  obtain ⟨o, rfl⟩ := b1_one e
  obtain ⟨x, rfl⟩ := a.ods.vone
  · skip
    have h1 := one_den a.den
    obtain ⟨e1, e2⟩ := okO_some e
    subst l2
    generalize o.d l = d1 at *
    cases h1 <;> simp only [b1D] at e1 <;> try (cases e1; done)
    rename_i ws ds h2 n f
    cases hb : blsOf ds with
    | none => rw [hb] at e1; cases e1
    | some bs =>
      rw [hb] at e1
      cases e1
      have := blsOf_eq hb f
      subst this
      exact cr_all g.calm pins s σ H _ us Q I r ⟨_, bs, rfl, .inl h2, FO.sc a (.bl _) k⟩
theorem cr_anyD (g : Gd X) : CallR X (.builtin "any") (fun xs H Q => ∃ σ, FO (applyO (.b1 .any)) xs σ H Q) := by
  rintro pins s σ H xs us Q I r ⟨σ', U, l, As, B, os, a, x', l2, e, k⟩
  obtain ⟨o, rfl⟩ := b1_one e
  obtain ⟨x, rfl⟩ := a.ods.vone
  · skip
    have h1 := one_den a.den
    obtain ⟨e1, e2⟩ := okO_some e
    subst l2
    generalize o.d l = d1 at *
    cases h1 <;> simp only [b1D] at e1 <;> try (cases e1; done)
    rename_i ws ds h2 n f
    cases hb : blsOf ds with
    | none => rw [hb] at e1; cases e1
    | some bs =>
      rw [hb] at e1
      cases e1
      have := blsOf_eq hb f
      subst this
      exact cr_any g.calm pins s σ H _ us Q I r ⟨_, bs, rfl, .inl h2, FO.sc a (.bl _) k⟩
theorem cr_sumD (g : Gd X) : CallR X (.builtin "sum") (fun xs H Q => ∃ σ, FO (applyO (.b1 .sum)) xs σ H Q) := by
  rintro pins s σ H xs us Q I r ⟨σ', U, l, As, B, os, a, x', l2, e, k⟩
  obtain ⟨o, rfl⟩ := b1_one e
  obtain ⟨x, rfl⟩ := a.ods.vone
  · skip
    have h1 := one_den a.den
    obtain ⟨e1, e2⟩ := okO_some e
    subst l2
    generalize o.d l = d1 at *
    cases h1 <;> simp only [b1D] at e1 <;> try (cases e1; done)
    rename_i ws ds h2 n f
    cases hb : intsOf ds with
    | none => rw [hb] at e1; cases e1
    | some bs =>
      rw [hb] at e1
      cases e1
      have := intsOf_eq hb f
      subst this
      exact cr_sum g.calm pins s σ H _ us Q I r ⟨_, bs, rfl, .inl h2, FO.sc a (.int _) k⟩
theorem cr_listD : CallR X (.type "list") (fun xs H Q => ∃ σ, FO (applyO (.b1 .list)) xs σ H Q) := by
  rintro pins s σ H xs us Q I r ⟨σ', U, l, As, B, os, a, x', l2, e, k⟩
  obtain ⟨o, rfl⟩ := b1_one e
  obtain ⟨x, rfl⟩ := a.ods.vone
  · skip
    have h1 := one_den a.den
    obtain ⟨e1, e2⟩ := okO_some e
    subst l2
    have i1 := a.imm 0 o x rfl rfl
    have el1 := fun U' As' S' hu hB => a.els (U' := U') (As' := As') S' hu hB 0 o x rfl rfl
    generalize o.d l = d1 at *
    cases h1 <;> simp only [b1D] at e1 <;> try (cases e1; done)
    · cases e1
      rename_i h2 n f
      obtain ⟨_, w1, q1, g1, m1, t1⟩ := (i1 rfl).tup_inv
      cases q1
      rw [h2] at g1; cases g1
      exact call_list_of pins s σ H _ us Q I r ⟨_, _, rfl, .inr (.inl (.inl h2)), fun p hp => FO.newL a hp (fun U' As' S' hu hB => t1.sub hu) k⟩
    · cases e1
      rename_i v1 ds h2 n f
      refine call_list_of pins s σ H _ us Q I r ⟨_, _, rfl, .inl (.inl h2), fun p hp => FO.newL a hp (fun U' As' S' hu hB => ?_) k⟩
      obtain ⟨_, w1, q1, g1, t1⟩ := el1 U' As' S' hu hB ds rfl
      cases q1
      have z1 : w1 = v1 := by
        rcases g1 with ⟨q, _⟩ | ⟨_, q⟩
        · cases q
        · exact I.list_inj (.inl q) (.inl h2)
      subst z1
      exact t1
theorem cr_tupleD : CallR X (.type "tuple") (fun xs H Q => ∃ σ, FO (applyO (.b1 .tuple)) xs σ H Q) := by
  rintro pins s σ H xs us Q I r ⟨σ', U, l, As, B, os, a, x', l2, e, k⟩
  obtain ⟨o, rfl⟩ := b1_one e
  obtain ⟨x, rfl⟩ := a.ods.vone
  · skip
    have h1 := one_den a.den
    obtain ⟨e1, e2⟩ := okO_some e
    subst l2
    have i1 := a.imm 0 o x rfl rfl
    have el1 := fun U' As' S' hu hB => a.els (U' := U') (As' := As') S' hu hB 0 o x rfl rfl
    generalize o.d l = d1 at *
    cases h1 <;> simp only [b1D] at e1 <;> try (cases e1; done)
    · cases e1
      rename_i h2 n f
      exact call_tuple_of pins s σ H _ us Q I r ⟨_, _, rfl, .inr ⟨.inl (.inl h2), FO.old a (a.up1 (i1 rfl)) k⟩⟩
    · cases e1
      rename_i v1 ds h2 n f
      refine call_tuple_of pins s σ H _ us Q I r ⟨_, _, rfl, .inl ⟨.inl h2, fun p hp => FO.newT a hp (fun U' As' S' hu hB => ?_) k⟩⟩
      obtain ⟨_, w1, q1, g1, t1⟩ := el1 U' As' S' hu hB ds rfl
      cases q1
      have z1 : w1 = v1 := by
        rcases g1 with ⟨q, _⟩ | ⟨_, q⟩
        · cases q
        · exact I.list_inj (.inl q) (.inl h2)
      subst z1
      exact t1
theorem cr_max2 (g : Gd X) : CallR X (.builtin "max") (fun xs H Q => ∃ σ, FO (applyO .max2) xs σ H Q) := by
  rintro pins s σ H xs us Q I r ⟨σ', U, l, As, B, os, a, x', l2, e, k⟩
  obtain ⟨o, p, rfl⟩ : ∃ o p, os = [o, p] := by
    match os, e with
    | [o, p], _ => exact ⟨o, p, rfl⟩
    | [], h => cases h
    | [_], h => cases h
    | _ :: _ :: _ :: _, h => cases h
  obtain ⟨x, y, rfl⟩ := a.ods.vtwo
  · skip
    obtain ⟨h1, h2⟩ := two_den a.den
    simp only [applyO] at e
    generalize o.d l = d1 at *
    generalize p.d l = d2 at *
    cases h1 <;> cases h2 <;> simp only at e <;> try (cases e; done)
    cases e
    exact call_max2 g.calm pins s σ H _ us Q I r ⟨_, _, rfl, FO.sc a (.int _) k⟩
theorem cr_min2 (g : Gd X) : CallR X (.builtin "min") (fun xs H Q => ∃ σ, FO (applyO .min2) xs σ H Q) := by
  rintro pins s σ H xs us Q I r ⟨σ', U, l, As, B, os, a, x', l2, e, k⟩
  obtain ⟨o, p, rfl⟩ : ∃ o p, os = [o, p] := by
    match os, e with
    | [o, p], _ => exact ⟨o, p, rfl⟩
    | [], h => cases h
    | [_], h => cases h
    | _ :: _ :: _ :: _, h => cases h
  obtain ⟨x, y, rfl⟩ := a.ods.vtwo
  · skip
    obtain ⟨h1, h2⟩ := two_den a.den
    simp only [applyO] at e
    generalize o.d l = d1 at *
    generalize p.d l = d2 at *
    cases h1 <;> cases h2 <;> simp only at e <;> try (cases e; done)
    cases e
    exact call_min2 g.calm pins s σ H _ us Q I r ⟨_, _, rfl, FO.sc a (.int _) k⟩
end
end DL
end

section
set_option Elab.async false
set_option linter.all false
set_option maxRecDepth 100000
/-! DI: repr; a reversed slice; isinstance. -/
namespace DL
open PySem PySem.Spec PyProof.Rows L2
section
variable {H H' : Hp} {U U' O : Pd} {l l' l2 : Sl} {σ : L2.St} {As As' : Nat → List Addr} {A B : List Addr} {x : TV} {v w y : V} {d e : D} {vs : List V} {Q : VK} {os : List Od} {o p q : Od} {X : Cx} {pins : List (Addr × Obj)} {s : Shared}

mutual
theorem Fz.reads (I : Inv X pins σ H s) : ∀ (d : D) (v : V) (u : Value), Fz H U d v → d.noT = true → RelV v u → ∃ as, PySem.Reads s.heap u (toP d) as ∧ (d.noL = true → sysModules ∉ as)
  | .un, _, _, h, _, _ => nomatch h
  | .non, _, _, h, _, r => by cases h; cases r; exact ⟨_, .none, by simp⟩
  | .bl b, _, _, h, _, r => by cases h; cases r; exact ⟨_, .bool _, by simp⟩
  | .int i, _, _, h, _, r => by cases h; obtain ⟨t, rfl⟩ := r; exact ⟨_, .int _ _, by simp⟩
  | .str i, _, _, h, _, r => by cases h; obtain ⟨t, rfl⟩ := r; exact ⟨_, .str _ _, by simp⟩
  | .tup ds, _, _, h, hn, r => by
    cases h with
    | tup h1 h2 h3 =>
      cases r
      obtain ⟨its, rv, ⟨o, ho, hc, n, hd⟩, _⟩ := I.tuple (SqT.of h1)
      obtain ⟨as, q1, q2⟩ := FzL.reads I ds _ its h3 hn rv
      exact ⟨_, .tuple ho hc hd q1, q2⟩
  | .lst ds, _, _, h, hn, r => by
    cases h with
    | lst h1 h2 h3 =>
      cases r
      obtain ⟨its, rv, ⟨o, n, ho, hc, _, hd⟩, _⟩ := I.list (.inl h1)
      obtain ⟨as, q1, q2⟩ := FzL.reads I ds _ its h3 hn rv
      exact ⟨_, .list ho hc hd q1, fun z => nomatch z⟩
  | .dct false ds, _, _, h, hn, r => by
    cases h with
    | dk h1 h2 h3 =>
      cases r
      obtain ⟨_, hsy, ws, kv, o, es, ep, ho, hx, hd, _, hp, _⟩ := h1.ok I.hok
      obtain ⟨as, bs, q1, q2, q3, q4⟩ := FzK.reads I ds _ ws es.toList h3 (by simpa [D.noT] using hn) kv hp
      refine ⟨_, .dict (as := as) (bs := bs) ho hx.1 hd q1 q2, ?_⟩
      · intro z
        simp only [List.cons_append, List.mem_cons, List.mem_append, not_or]
        exact ⟨fun e => by rw [← e] at hsy; exact absurd hsy (by decide), q3, q4 (by simpa [D.noL] using z)⟩
  | .dct true ds, _, _, h, hn, r => by cases hn
theorem FzL.reads (I : Inv X pins σ H s) : ∀ (ds : List D) (vs : List V) (us : List Value), FzL H U ds vs → noTs ds = true → Vals vs us → ∃ as, PySem.ReadsAll s.heap us (toPs ds) as ∧ (noLs ds = true → sysModules ∉ as)
  | [], _, _, h, _, r => by cases h; cases r; exact ⟨_, .nil, by simp⟩
  | d :: ds, _, _, h, hn, r => by
    cases h with
    | cons h1 h2 =>
      cases r with
      | cons r1 r2 =>
        simp only [noTs, Bool.and_eq_true] at hn
        obtain ⟨as, q1, q2⟩ := Fz.reads I d _ _ h1 hn.1 r1
        obtain ⟨bs, q3, q4⟩ := FzL.reads I ds _ _ h2 hn.2 r2
        exact ⟨_, .cons q1 q3, fun z => by simp only [noLs, Bool.and_eq_true] at z; simp only [List.mem_append, not_or]; exact ⟨q2 z.1, q4 z.2⟩⟩
theorem FzK.reads (I : Inv X pins σ H s) : ∀ (ds : List (D × D)) (ks : List (Key × V)) (ws : List (Key × Value)) (es : List DictEntry), FzK H U ds ks → noTk ds = true → KV ks ws → Pairs (mixKind X.prog X.w) es ws →
    ∃ as bs, PySem.ReadsAll s.heap (es.map (·.key)) ((toPk ds).map (·.1)) as ∧ PySem.ReadsAll s.heap (es.map (·.val)) ((toPk ds).map (·.2)) bs ∧ sysModules ∉ as ∧ (noLk ds = true → sysModules ∉ bs)
  | [], _, _, _, h, _, r, p => by cases h; cases r; cases p; exact ⟨_, _, .nil, .nil, by simp, by simp⟩
  | (k, d) :: ds, _, _, _, h, hn, r, p => by
    cases h with
    | cons h0 h1 h2 =>
      cases r with
      | cons r1 r2 =>
        cases p with
        | cons p1 p2 p3 =>
          simp only [noTk, Bool.and_eq_true] at hn
          obtain ⟨as, bs, q1, q2, q3, q4⟩ := FzK.reads I ds _ _ _ h2 hn.2 r2 p3
          obtain ⟨cs, q5, q6⟩ := Fz.reads I d _ _ h1 hn.1 r1.2
          rw [← p2] at q5
          rw [← r1.1] at p1
          have hk : ∀ (c : Key) (en : DictEntry), keyD k = some c → (mixKind X.prog X.w).is c en.key = true → ∃ z, PySem.Reads s.heap en.key (toP k) z ∧ sysModules ∉ z := fun c en h0 p1 => by
            rcases keyIs_shape p1 with ⟨i, t, e1, e2⟩ | ⟨y, t, e1, e2⟩
            · cases k <;> simp only [keyD] at h0 <;> cases h0 <;> cases e1
              rw [e2]; exact ⟨_, .int _ _, by simp⟩
            · cases k <;> simp only [keyD] at h0 <;> cases h0 <;> cases e1
              rw [e2]; exact ⟨_, .str _ _, by simp⟩
          obtain ⟨z, k1, k2⟩ := hk _ _ h0 p1
          exact ⟨_, _, .cons k1 q1, .cons q5 q2, by simp only [List.mem_append, not_or]; exact ⟨k2, q3⟩, fun z => by simp only [noLk, Bool.and_eq_true] at z; simp only [List.mem_append, not_or]; exact ⟨q6 z.1, q4 z.2⟩⟩
end
theorem cr_reprD (g : Gd X) : CallR X (.builtin "repr") (fun xs H Q => ∃ σ, FO (applyO (.b1 .repr)) xs σ H Q) := by
  rintro pins s σ H xs us Q I r ⟨σ', U, l, As, B, os, a, x', l2, e, k⟩
  obtain ⟨o, rfl⟩ := b1_one e
  obtain ⟨x, rfl⟩ := a.ods.vone
  have h1 := one_den a.den
  obtain ⟨e1, e2⟩ := okO_some e
  subst l2
  simp only [b1D] at e1
  split at e1
  case isFalse => cases e1
  case isTrue hz =>
    cases e1
    simp only [Bool.and_eq_true, decide_eq_true_eq] at hz
    obtain ⟨⟨⟨hs, hl⟩, hdp⟩, hnt, hdl⟩ := hz
    obtain ⟨u, rfl, ru⟩ := vals1 r
    obtain ⟨as, hr, hsys⟩ := Fz.reads I _ _ _ h1 hnt ru
    have q := FO.sc a (.str (reprD (o.d l))) k
    have hl' : (reprD (o.d l)).length ≤ sizeLine := by rw [sizeLine_eq]; exact hl
    have hun := g.un
    unfold reprD at q hl' 
    generalize o.d l = d1 at *
    cases h1
    case non => cases ru; exact P.repr_of_none ⟨.str _, H, I.tok _, ⟨_, rfl⟩, q⟩
    case bl b => cases ru; exact P.repr_of_bool ⟨.str _, H, I.tok _, ⟨_, rfl⟩, q⟩
    case int i => obtain ⟨t, rfl⟩ := ru; exact P.repr_of_int (of_decide_eq_true hs) ⟨.str _, H, I.tok _, ⟨_, rfl⟩, q⟩
    case str i => obtain ⟨t, rfl⟩ := ru; exact P.repr_of_str ⟨.str _, H, I.tok _, ⟨_, rfl⟩, q⟩ hl'
    all_goals
      cases ru
      exact repr_of_reads' hr hs (fun z => hsys (by rw [z] at hdl; simpa using hdl)) g.gs (by omega) (fun _ _ e => e) (fun h' u tk hk => ⟨.str _, H, I.kept hk, ⟨_, rfl⟩, q⟩) hl'

/-! ### x[::-1] of a tuple -/
theorem HT_sliceRev {prog : Program} {w : World} {A : Around} {E : Value → Shared → Prop} {s : Shared} {sl : Addr} {vl vu vt : Value} {n : Nat} {Q : Int × Int × Nat → Shared → Prop} (hs : s.heap.IsSliceOf sl vl vu vt) (pl : IsPart vl none) (pu : IsPart vu none) (pt : IsPart vt (some (-1)))
    (h : Q ((n : Int) - 1, -1, n) s) : wpAny (model prog w) A (Builtin.Slice.sliceApplied (.ref sl) (pure (n : Int))) Q E s := by
  obtain ⟨so, hso, hsc, hsd⟩ := id hs
  unfold Builtin.Slice.sliceApplied Builtin.Slice.sliceFields
  refine wpAny_bind (wpAny_bind (wpAny_field hso hsd (x := vl) rfl (wpAny_bind (wpAny_field hso hsd (x := vu) rfl (wpAny_bind (wpAny_field hso hsd (x := vt) rfl (wpAny_pure ?_)))))))
  refine wpAny_bind (HT.slicePart_ pt ?_)
  show wpAny _ _ (if ((-1 : Int) == 0) = true then _ else _) _ _ s
  rw [if_neg (by decide)]
  refine wpAny_bind (HT.slicePart_ pl (wpAny_bind (HT.slicePart_ pu (wpAny_bind (wpAny_pure ?_)))))
  show wpAny _ _ (pure ((n : Int) - 1, (-1 : Int), Builtin.Slice.slicePlaces ((n : Int) - 1) (-1) (-1))) _ _ s
  have e : Builtin.Slice.slicePlaces ((n : Int) - 1) (-1) (-1) = n := by
    unfold Builtin.Slice.slicePlaces
    rw [if_neg (by decide)]
    by_cases hn : (n : Int) - 1 > -1
    · rw [if_pos hn]
      rw [show (- -1 : Int) = 1 from rfl, Int.ediv_one]; omega
    · rw [if_neg hn]; omega
  rw [e]
  exact wpAny_pure h
theorem rev_pick (xs : Array Value) : ((List.range xs.size).filterMap fun (m : Nat) => xs[((xs.size : Int) - 1 + (m : Int) * -1).toNat]?).toArray = xs.toList.reverse.toArray := by
  congr 1
  have h : ∀ (k : Nat), k ≤ xs.size → ((List.range k).filterMap fun (m : Nat) => xs[((xs.size : Int) - 1 + (m : Int) * -1).toNat]?) = xs.toList.reverse.take k := by
    intro k
    induction k with
    | zero => intro _; simp
    | succ k ih =>
      intro hk
      have e1 : ((xs.size : Int) - 1 + (k : Int) * -1).toNat = xs.size - 1 - k := by omega
      have hlt : xs.size - 1 - k < xs.size := by omega
      rw [List.range_succ, List.filterMap_append, ih (by omega), List.take_succ]
      congr 1
      simp only [List.filterMap_cons, List.filterMap_nil, e1]
      rw [Array.getElem?_eq_getElem hlt, List.getElem?_reverse (by simpa using (by omega : k < xs.size))]
      simp [hlt]
  rw [h _ (Nat.le_refl _), List.take_of_length_le (by simp)]
theorem getItem_tuple_rev {prog : Program} {w : World} {A : Around} {E : Value → Shared → Prop} {s : Shared} {t sl : Addr} {items : Array Value} {vl vu vt : Value} {Q : Value → Shared → Prop} (ht : IsTup s.heap t items) (hs : s.heap.IsSliceOf sl vl vu vt) (pl : IsPart vl none) (pu : IsPart vu none) (pt : IsPart vt (some (-1)))
    (h : Q (.ref s.heap.objs.size) { s with heap := s.heap.push { cls := .type "tuple", data := .seq items.toList.reverse.toArray } }) (hsz : items.size ≤ sizeLine) : wpAny (model prog w) A (getItem (.ref t) (.ref sl)) Q E s := by
  have hok : sizeOk (.seq items.toList.reverse.toArray) := by
    show items.toList.reverse.toArray.size ≤ sizeLine
    simpa using hsz
  obtain ⟨so, hso, hsc, hsd⟩ := id hs
  have hty : s.TypeIs (.ref sl) "slice" := ⟨so, hso, hsc⟩
  unfold getItem
  try with_reducible refine wpAny_holding ?_
  first | refine wpAny_bind (wpAny_pure ?_) | skip
  refine wpAny_bind (wpAny_sequenceKey ht.typeIs (by decide) ?_)
  refine wpAny_bind (wpAny_callSpecial?_slot (name := Str.ofString "__getitem__") ht.typeIs slot_tuple_getitem (wpAny_call_entry slot_tuple_getitem ht.typeIs entry_tuple_getitem ?_ (args_tuple_getitem _ _)))
  show wpAny _ _ (Builtin.Tuple.tupleItemsOf (.ref t) >>= _) _ _ s
  refine wpAny_bind (tupleItemsOf_ ht ?_)
  refine wpAny_bind (wpAny_typeOf hty ?_)
  rw [if_pos (by decide)]
  refine wpAny_bind (HT_sliceRev hs pl pu pt ?_)
  have hno : ¬ ((((items.size : Int) - 1) == 0 && (-1 : Int) == 1 && items.size == items.size) = true) := by simp
  show wpAny _ _ (if ((((items.size : Int) - 1) == 0 && (-1 : Int) == 1 && items.size == items.size) = true) then _ else _) _ _ s
  rw [if_neg hno, rev_pick]
  first
    | exact wpAny_bind (m := Builtin.Tuple.tupleExact _) (wpAny_newObj_type (wpAny_pure ⟨_, rfl, wpAny_pure h⟩) hok)
    | exact wpAny_bind (m := Builtin.Tuple.tupleExact _) (wpAny_newObj_type (wpAny_bind (wpAny_pure (wpAny_pure ⟨_, rfl, wpAny_pure h⟩))) hok)
    | exact wpAny_bind (wpAny_bind (m := Builtin.Tuple.tupleExact _) (wpAny_newObj_type (wpAny_pure (wpAny_pure ⟨_, rfl, wpAny_pure h⟩)) hok))
    | exact wpAny_bind (wpAny_bind (m := Builtin.Tuple.tupleExact _) (wpAny_newObj_type (wpAny_pure ⟨_, rfl, wpAny_pure h⟩) hok))
end
end DL
end

section
set_option Elab.async false
set_option linter.all false
set_option maxRecDepth 100000
/-! DL1: sorted(set(list of ints)). -/
namespace DL
open PySem PySem.Spec PyProof.Rows L2
/-- an empty set's object -/
abbrev noSet (w : World) : Obj := { cls := .type "set", dict := none, data := .set #[] 0 (.fresh 0 0 (!w.params.followText "set-order")) }
section
variable {P : Program} {w : World} {A : Around} {E : Value → Shared → Prop} {s : Shared}
set_option maxHeartbeats 3200000 in
theorem set_lst {l : Addr} {xs : Array Value} (ns : List Int) {Q : Value → Shared → Prop} (hh : A.handled = none) (hl : s.heap.IsList l xs) (hx : IntsAre xs.toList ns) (hb : ns.length + 1 < scanBound)
    (k : ∀ (h2 : Heap) (tk c : Nat), SetR w h2 s.heap.objs.size (fun j => decide (j ∈ ns)) c → c ≤ ns.length → (∀ b o, s.heap.get? b = some o → h2.get? b = some o) → Q (.ref s.heap.objs.size) { s with heap := h2, toks := tk }) :
    wpAny (model P w) A (call (.type "set") [.ref l]) Q E s := by
  have hsz : xs.size = ns.length := by rw [← Array.length_toList]; exact IntsAre.length hx
  obtain ⟨c0, tl0, hm0⟩ := F.called_set.mro
  have a1 := F.called_set.made
  have a2 := F.called_set.sub
  have a3 := F.called_set.notType
  have a4 := F.called_set.canCreate
  have a5 := F.typeCall_set_1 (.ref l)
  refine wpAny_call (codeAny_of_tree (?_ : wpAny _ _ (callAny (.type "set") _) _ _ _))
  refine wpAny_pure ⟨Code.quiet_builtin _ (by decide +kernel), codeAny_builtin F.entry_type_call (?_ : wpAny _ _ _ _ _ _)⟩
  rw [Around.under_plain (weight_type_call_type "set" [.ref l] []) rfl]
  repeat (any_goals (first | assumption | wp_step))
  refine codeAny_mono (code_set_led1 (.ref l) (E := E) (Q₁ := fun r1 s1 => r1 = .ref s.heap.objs.size ∧ s1 = { s with heap := s.heap.push (noSet w) }) ⟨rfl, rfl⟩) fun r1 s1 h1 => ?_
  rcases r1 with e | fl
  · exact h1
  rcases fl with _ | _ | _ | ob
  · exact h1.elim
  · exact h1.elim
  · exact h1.elim
  · obtain ⟨rfl, rfl⟩ := h1
    have hS : (s.heap.push (noSet w)).get? s.heap.objs.size = some (noSet w) := Heap.get?_push_size _ rfl
    have hT : Shared.TypeIs { s with heap := s.heap.push (noSet w) } (.ref s.heap.objs.size) "set" := ⟨_, hS, rfl⟩
    have b1 := F.called_set.init.lookup
    have b2 := F.called_set.init.bind (.ref s.heap.objs.size)
    repeat (any_goals (first | assumption | wp_step))
    refine codeAny_mono (codeAny_call_builtin (R := wants (fun r2 s2 => r2 = .none ∧ ∃ h2 tk c, s2 = { s with heap := h2, toks := tk } ∧ SetR w h2 s.heap.objs.size (fun j => decide (j ∈ ns)) c ∧ c ≤ ns.length ∧
        (∀ b o, s.heap.get? b = some o → h2.get? b = some o)) E) F.called_set.init.plain F.entry_set_init (check_set_init_1 hT ?_)) fun r2 s2 h2 => ?_
    · obtain ⟨⟨cl, dc, da, sl⟩, ol, rfl, nl, rfl⟩ := hl
      have ol2 : (s.heap.push (noSet w)).get? l = some { cls := .type "list", dict := dc, data := .seq xs nl, slots := sl } := Heap.get?_push_of_some _ ol
      have d1 := F.sub_list_set
      have d2 := F.sub_list_frozenset
      have d3 : (Value.type "list" == Value.type "dict") = false := by decide
      have d4 : (s.heap.push (noSet w)).IsList l xs := ⟨_, ol2, rfl, nl, rfl⟩
      unfold Builtin.«set.__init__» noKeywords Builtin.Frozenset.updateFrom
      generalize hG : pyIter = G
      wp_walk
      subst hG
      refine wpAny_pyIter_list d4 (wpAny_bind (wpAny_runValue ?_))
      have e1 : l < s.heap.objs.size := Heap.lt_size ol
      have e2 : (s.heap.push (noSet w)).objs.size = s.heap.objs.size + 1 := Heap.size_push ..
      have e3 : A.in1.in1.in1.handled = none := by simp [hh]
      have e4 : l ≠ (s.heap.push (noSet w)).objs.size := Nat.ne_of_lt (by rw [e2]; exact Nat.lt_succ_of_lt e1)
      have e5 : s.heap.objs.size ∉ [(s.heap.push (noSet w)).objs.size, l] := by
        intro m
        rcases List.mem_cons.mp m with q | q
        · rw [e2] at q
          exact Nat.ne_of_lt (Nat.lt_succ_self _) q
        · exact Nat.ne_of_gt e1 (List.mem_singleton.mp q)
      have e6 : ∀ (i : Nat) (v : Value), xs[i]? = some v → ∃ z t, ns[i]? = some z ∧ v = .int z t := fun i v hv => by
        have hi : i < ns.length := hsz ▸ (Array.getElem?_eq_some_iff.mp hv).1
        obtain ⟨t, q⟩ := PyProof.Rows.IntsAre.int_at hx i v (by rw [Array.getElem?_toList]; exact hv)
        refine ⟨ns[i], t, List.getElem?_eq_getElem hi, q.trans ?_⟩
        rw [List.getD_eq_getElem?_getD, List.getElem?_eq_getElem hi]; rfl
      refine set_update_ints ((Walks.list e3 _ l e4 xs).toS) s.heap.objs.size e5 ns hsz hb e6 (xs.size - 0) 0 _ (by omega) (Nat.zero_le _) ⟨⟨_, Heap.get?_push_size _ rfl, rfl, rfl⟩, (d4.push _)⟩ ?g1 ?g2
      case g1 =>
        exact ⟨0, Nat.le_refl 0, setR_new_at (Heap.get?_push_of_some _ hS)⟩
      case g2 =>
        rintro ⟨h3, g3, dr3, tk3, os3⟩ c3 mv hc3 hR
        have f1 : g3 = s.gens := mv.gens
        have f2 : dr3 = s.drawn := mv.drawn
        have f3 : os3 = s.os := mv.os
        subst f1 f2 f3
        rw [hsz] at hc3
        refine (?_ : wpAny _ _ _ _ _ _)
        refine wpAny_pure ((?_ : wpAny _ _ (ret Value.none) _ _ _))
        refine wpAny_pure ⟨rfl, h3, tk3, c3, rfl, hR, hc3, fun b o e => ?_⟩
        have q0 : b < s.heap.objs.size := Heap.lt_size e
        refine mv.heap b o (fun m => ?_) (Heap.get?_push_of_some _ (Heap.get?_push_of_some _ e))
        rcases List.mem_cons.mp m with q | q
        · exact Nat.ne_of_lt q0 q
        · have q := List.mem_singleton.mp q
          rw [e2] at q
          exact Nat.ne_of_lt (Nat.lt_succ_of_lt q0) q
    · rcases r2 with e | fl
      · exact h2
      rcases fl with _ | _ | _ | r
      · exact h2.elim
      · exact h2.elim
      · exact h2.elim
      · obtain ⟨rfl, h3, tk, c3, rfl, hR, hc, hk⟩ := h2
        repeat (any_goals (first | assumption | wp_step))
        exact k _ _ _ hR hc hk
end
end DL
end

section
set_option Elab.async false
set_option linter.all false
set_option maxRecDepth 100000
/-! DLB: sorted(set(..)), sorted(..), min(..), max(..) of ints -/
namespace DL
open PySem PySem.Spec PyProof.Rows L2
/-! ### rising lists -/
theorem insS_mem {z : Int} : ∀ {l : List Int} {y : Int}, y ∈ insS z l ↔ y = z ∨ y ∈ l
  | [], y => by simp [insS]
  | x :: r, y => by
    unfold insS
    split
    · simp
    · split
      · rename_i h; subst h; simp
      · rw [List.mem_cons, insS_mem, List.mem_cons]
        constructor
        · rintro (h | h | h)
          · exact .inr (.inl h)
          · exact .inl h
          · exact .inr (.inr h)
        · rintro (h | h | h)
          · exact .inr (.inl h)
          · exact .inl h
          · exact .inr (.inr h)
theorem insS_rise {z : Int} : ∀ {l : List Int}, l.Pairwise (· < ·) → (insS z l).Pairwise (· < ·)
  | [], _ => by simp [insS]
  | x :: r, h => by
    obtain ⟨h1, h2⟩ := List.pairwise_cons.mp h
    unfold insS
    split
    · rename_i hz
      refine List.pairwise_cons.mpr ⟨fun y hy => ?_, h⟩
      rcases List.mem_cons.mp hy with rfl | q
      · exact hz
      · have := h1 y q; omega
    · split
      · exact h
      · rename_i a b
        refine List.pairwise_cons.mpr ⟨fun y hy => ?_, insS_rise h2⟩
        rcases insS_mem.mp hy with rfl | q
        · omega
        · exact h1 y q
theorem sortS_mem {ns : List Int} {y : Int} : y ∈ sortS ns ↔ y ∈ ns := by
  induction ns with
  | nil => simp [sortS]
  | cons z r ih =>
    show y ∈ insS z (sortS r) ↔ _
    rw [insS_mem, ih, List.mem_cons]
theorem sortS_rise (ns : List Int) : (sortS ns).Pairwise (· < ·) := by
  induction ns with
  | nil => exact List.Pairwise.nil
  | cons z r ih => exact insS_rise ih
/-- two rising lists of the same members -/
theorem rise_eq : ∀ {l m : List Int}, l.Pairwise (· < ·) → m.Pairwise (· < ·) → (∀ y, y ∈ l ↔ y ∈ m) → l = m
  | [], [], _, _, _ => rfl
  | [], y :: m, _, _, h => absurd ((h y).mpr (by simp)) (by simp)
  | y :: l, [], _, _, h => absurd ((h y).mp (by simp)) (by simp)
  | x :: l, y :: m, hl, hm, h => by
    obtain ⟨a1, a2⟩ := List.pairwise_cons.mp hl
    obtain ⟨b1, b2⟩ := List.pairwise_cons.mp hm
    have e : x = y := by
      rcases List.mem_cons.mp ((h x).mp (by simp)) with q | q
      · exact q
      · rcases List.mem_cons.mp ((h y).mpr (by simp)) with q2 | q2
        · exact q2.symm
        · have := b1 x q; have := a1 y q2; omega
    subst e
    refine congrArg (x :: ·) (rise_eq a2 b2 fun z => ⟨fun hz => ?_, fun hz => ?_⟩)
    · rcases List.mem_cons.mp ((h z).mp (by simp [hz])) with q | q
      · have := a1 z hz; omega
      · exact q
    · rcases List.mem_cons.mp ((h z).mpr (by simp [hz])) with q | q
      · have := b1 z hz; omega
      · exact q
theorem sortI_le (ns : List Int) : (sortI ns).Pairwise (· ≤ ·) := by
  have h := List.pairwise_mergeSort (le := fun a b : Int => decide (a ≤ b)) (fun a b c h1 h2 => by simp only [decide_eq_true_eq] at *; omega) (fun a b => by simp only [Bool.or_eq_true, decide_eq_true_eq]; omega) ns
  exact h.imp fun h => by simpa using h
theorem sortI_perm (ns : List Int) : (sortI ns).Perm ns := List.mergeSort_perm ..
theorem le_perm_eq : ∀ {l m : List Int}, l.Pairwise (· ≤ ·) → m.Pairwise (· ≤ ·) → l.Perm m → l = m := fun hl hm h =>
  h.eq_of_pairwise (fun a b _ _ h1 h2 => by omega) hl hm
section
variable {X : Cx} {a : Expr} {ta : TE} {p p2 q pos : Pos}
theorem intsFz {H : Hp} {U : Pd} : ∀ ns : List Int, FzL H U (ns.map D.int) (ns.map V.int)
  | [] => .nil
  | n :: r => .cons (.int n) (intsFz r)
theorem pe_sset (g : Gd X) (hg : Gl X "sorted") (hm : X.mg "sorted" = none) (hg2 : Gl X "set") (hm2 : X.mg "set" = none) (ha : PE X a ta)
    (na : starEach [a] X.env = (false, eval a X.env) :: starEach [] X.env) : PE X (.Call (.Name "sorted" p) [.Call (.Name "set" p2) [a] [] q] [] pos) (tUn (fun x H Q => ∃ σ, FO (applyO .sset) [x] σ H Q) ta) := by
  refine ⟨fun pins s σ H Q I h => ?_⟩
  refine Call_ (ld_blt I hg hm (show bootBuiltins "sorted" = some (.builtin "sorted") by decide +kernel) ?_)
  refine PyProof.Rows.callWith_builtin1 (PyProof.Rows.args_cons ?_ rfl) rfl rfl
  refine Call_ (ld_blt I hg2 hm2 boot_set ?_)
  refine PyProof.Rows.callWith_type1 (PyProof.Rows.args_cons (thn (ha.run pins s σ H _ I h) fun v s1 ⟨x, H1, I1, r1, q1⟩ => PyProof.Rows.args_nil ?_) na) na rfl
  obtain ⟨σ', U, l, As, B, os, at0, x', l2, e, k⟩ := q1
  obtain ⟨o, rfl⟩ := at0.ods.one
  have h1 := one_den at0.den
  obtain ⟨e1, e2⟩ := okO_some (t := ssetD (o.d l)) e
  subst l2
  generalize o.d l = d1 at *
  cases h1 <;> simp only [ssetD] at e1 <;> try (cases e1; done)
  rename_i ws ds h2 n f
  cases hb : intsOf ds with
  | none => rw [hb] at e1; cases e1
  | some ns =>
    rw [hb] at e1
    simp only [Option.bind_some] at e1
    split at e1
    case isFalse => cases e1
    case isTrue hz =>
      have hz := of_decide_eq_true hz
      cases e1
      have := intsOf_eq hb f
      subst this
      cases r1
      obtain ⟨its, rv, hl, _⟩ := I1.list (.inl h2)
      refine set_lst ns (I1.ok.hd g.calm) hl.isList rv.ints (by unfold scanBound; omega) fun h' tk c R hc kk => ?_
      refine PyProof.Rows.args_nil ?_
      have I2 : Inv X pins σ H1 { s1 with heap := h', toks := tk } := I1.kept fun b o e => kk b o e
      refine sorted_set R (I2.ok.hd g.calm) (by omega) fun s' p0 out c0 ns2 k2 g2 o2 hp hg3 hi hs hm3 hl3 => ?_
      have hlen : (ns2.map V.int).length ≤ sizeLine := by rw [List.length_map, hl3, sizeLine_eq]; omega
      have hn : H1 p0 = none := I2.hok.fresh hp
      have J : Inv X pins σ (upd H1 p0 (.lst (ns2.map V.int))) { { s1 with heap := h', toks := tk } with heap := s'.heap, gens := s'.gens, drawn := s'.drawn, toks := s'.toks } :=
        I2.call (ch := []) (Un.laid k2 hp hn) (I2.hok.laid k2 hp ⟨hlen, out.toList, c0, vals_of_ints hi, hg3⟩) (by rw [g2]; exact I2.bare) (fun _ z => nomatch z)
      have es : s' = { { s1 with heap := h', toks := tk } with heap := s'.heap, gens := s'.gens, drawn := s'.drawn, toks := s'.toks } := by
        cases s'
        cases s1
        cases o2
        rfl
      have hns : ns2 = sortS ns := rise_eq hs (sortS_rise ns) fun y => by rw [hm3 y, sortS_mem, decide_eq_true_eq]
      subst hns
      rw [es]
      exact ⟨.ref p0, _, J, rfl, FO.newL at0 hn (fun _ _ _ _ _ => intsFz _) k⟩
theorem cr_sortedD : CallR X (.builtin "sorted") (fun xs H Q => ∃ σ, FO (applyO (.b1 .sorted)) xs σ H Q) := by
  rintro pins s σ H xs us Q I r ⟨σ', U, l, As, B, os, a, x', l2, e, k⟩
  obtain ⟨o, rfl⟩ := b1_one e
  obtain ⟨x, rfl⟩ := a.ods.vone
  · skip
    have h1 := one_den a.den
    obtain ⟨e1, e2⟩ := okO_some e
    subst l2
    generalize o.d l = d1 at *
    cases h1 <;> simp only [b1D] at e1 <;> try (cases e1; done)
    rename_i ws ds h2 n f
    cases hb : intsOf ds with
    | none => rw [hb] at e1; cases e1
    | some ns =>
      rw [hb] at e1
      cases e1
      have := intsOf_eq hb f
      subst this
      refine cr_sortedI pins s σ H _ us Q I r ⟨_, ns, rfl, .inl h2, fun ns2 p0 hp hs hn => ?_⟩
      have hns : ns2 = sortI ns := le_perm_eq hs (sortI_le ns) (hp.trans (sortI_perm ns).symm)
      subst hns
      exact FO.newL a hn (fun _ _ _ _ _ => intsFz _) k
theorem least_of {ns : List Int} {m : Int} (h : leastI ns = some m) : ns ≠ [] ∧ m ∈ ns ∧ ∀ y ∈ ns, m ≤ y := by
  cases ns with
  | nil => cases h
  | cons x r =>
    have key : ∀ (r : List Int) (x : Int), (r.foldl (fun a b => if b < a then b else a) x ∈ x :: r) ∧ ∀ y ∈ x :: r, r.foldl (fun a b => if b < a then b else a) x ≤ y := by
      intro r
      induction r with
      | nil => intro x; simp
      | cons z r ih =>
        intro x
        obtain ⟨i1, i2⟩ := ih (if z < x then z else x)
        simp only [List.foldl_cons]
        refine ⟨?_, fun y hy => ?_⟩
        · rcases List.mem_cons.mp i1 with q | q
          · rw [q]; split <;> simp
          · simp [q]
        · have i3 := i2 (if z < x then z else x) (by simp)
          by_cases h3 : y = x ∨ y = z
          · revert i3
            generalize List.foldl _ _ r = F
            intro i3
            split at i3 <;> rcases h3 with rfl | rfl <;> omega
          · refine i2 y ?_
            rcases List.mem_cons.mp hy with q | hy
            · exact absurd (.inl q) h3
            · rcases List.mem_cons.mp hy with q | hy
              · exact absurd (.inr q) h3
              · simp [hy]
    cases h
    exact ⟨by simp, key r x⟩
theorem most_of {ns : List Int} {m : Int} (h : mostI ns = some m) : ns ≠ [] ∧ m ∈ ns ∧ ∀ y ∈ ns, y ≤ m := by
  cases ns with
  | nil => cases h
  | cons x r =>
    have key : ∀ (r : List Int) (x : Int), (r.foldl (fun a b => if b > a then b else a) x ∈ x :: r) ∧ ∀ y ∈ x :: r, y ≤ r.foldl (fun a b => if b > a then b else a) x := by
      intro r
      induction r with
      | nil => intro x; simp
      | cons z r ih =>
        intro x
        obtain ⟨i1, i2⟩ := ih (if z > x then z else x)
        simp only [List.foldl_cons]
        refine ⟨?_, fun y hy => ?_⟩
        · rcases List.mem_cons.mp i1 with q | q
          · rw [q]; split <;> simp
          · simp [q]
        · have i3 := i2 (if z > x then z else x) (by simp)
          by_cases h3 : y = x ∨ y = z
          · revert i3
            generalize List.foldl _ _ r = F
            intro i3
            split at i3 <;> rcases h3 with rfl | rfl <;> omega
          · refine i2 y ?_
            rcases List.mem_cons.mp hy with q | hy
            · exact absurd (.inl q) h3
            · rcases List.mem_cons.mp hy with q | hy
              · exact absurd (.inr q) h3
              · simp [hy]
    cases h
    exact ⟨by simp, key r x⟩
theorem cr_minD (g : Gd X) : CallR X (.builtin "min") (fun xs H Q => ∃ σ, FO (applyO (.b1 .min)) xs σ H Q) := by
  rintro pins s σ H xs us Q I r ⟨σ', U, l, As, B, os, a, x', l2, e, k⟩
  obtain ⟨o, rfl⟩ := b1_one e
  obtain ⟨x, rfl⟩ := a.ods.vone
  · skip
    have h1 := one_den a.den
    obtain ⟨e1, e2⟩ := okO_some e
    subst l2
    generalize o.d l = d1 at *
    cases h1 <;> simp only [b1D] at e1 <;> try (cases e1; done)
    rename_i ws ds h2 n f
    cases hb : intsOf ds with
    | none => rw [hb] at e1; cases e1
    | some ns =>
      rw [hb] at e1
      simp only [Option.bind_some] at e1
      cases hm : leastI ns with
      | none => rw [hm] at e1; cases e1
      | some m =>
        rw [hm] at e1
        cases e1
        have := intsOf_eq hb f
        subst this
        obtain ⟨q1, q2, q3⟩ := least_of hm
        refine cr_min g.calm pins s σ H _ us Q I r ⟨_, ns, rfl, .inl h2, List.length_pos_iff.mpr q1, fun m2 h3 h4 => ?_⟩
        obtain rfl : m2 = m := by have := q3 m2 h3; have := h4 m q2; omega
        exact FO.sc a (.int _) k
theorem cr_maxD (g : Gd X) : CallR X (.builtin "max") (fun xs H Q => ∃ σ, FO (applyO (.b1 .max)) xs σ H Q) := by
  rintro pins s σ H xs us Q I r ⟨σ', U, l, As, B, os, a, x', l2, e, k⟩
  obtain ⟨o, rfl⟩ := b1_one e
  obtain ⟨x, rfl⟩ := a.ods.vone
  · skip
    have h1 := one_den a.den
    obtain ⟨e1, e2⟩ := okO_some e
    subst l2
    generalize o.d l = d1 at *
    cases h1 <;> simp only [b1D] at e1 <;> try (cases e1; done)
    rename_i ws ds h2 n f
    cases hb : intsOf ds with
    | none => rw [hb] at e1; cases e1
    | some ns =>
      rw [hb] at e1
      simp only [Option.bind_some] at e1
      cases hm : mostI ns with
      | none => rw [hm] at e1; cases e1
      | some m =>
        rw [hm] at e1
        cases e1
        have := intsOf_eq hb f
        subst this
        obtain ⟨q1, q2, q3⟩ := most_of hm
        refine cr_max g.calm pins s σ H _ us Q I r ⟨_, ns, rfl, .inl h2, List.length_pos_iff.mpr q1, fun m2 h3 h4 => ?_⟩
        obtain rfl : m2 = m := by have := q3 m2 h3; have := h4 m q2; omega
        exact FO.sc a (.int _) k
end
end DL
end

section
set_option Elab.async false
set_option linter.all false
set_option maxRecDepth 100000
/-! DJ: defs and their calls. -/
namespace DL
open PySem PySem.Spec PyProof.Rows L2

/-- arguments at hand -/
inductive Ars (H : Hp) (U : Pd) : List TV → List V → List Addr → Prop
  | nil : Ars H U [] [] []
  | cons {x : TV} {v : V} {A : List Addr} {xs : List TV} {vs : List V} {B : List Addr} : Rep H U x v A → Ars H U xs vs B → Ars H U (x :: xs) (v :: vs) (A ++ B)

/-- a def at f, called with such arguments, where what runs around is quiet -/
structure FnG (P : Program) (w : World) (K : PySem.W.Frag) (mg : Str → Option Value) (base : Heap) (k : Nat) (f : Addr) (fd : FuncData) (ps : List Str) (sp : Sp) : Prop where
  len : ∀ vs H Q E, sp vs H Q E → vs.length = ps.length
  run : ∀ (A : Around) (outer : List Env) (s : Shared) (H : Hp) (args : PySem.Args) (us : List Value) (vs : List V) (Q : VK) (E : XK), Room k A → A.guards = some [] → Env0 P w K mg base A outer s H → BindsTo s fd args (ps.zip us) → Vals vs us → sp vs H Q E →
    codeAny (model P w) A (.call (.ref f) args) (CR C8.CX0 outer P w H s Q E) s
theorem FnG.mono {P : Program} {w : World} {K : PySem.W.Frag} {mg : Str → Option Value} {base : Heap} {k j : Nat} {f : Addr} {fd : FuncData} {ps : List Str} {sp : Sp} (F : FnG P w K mg base k f fd ps sp) (h : k ≤ j) : FnG P w K mg base j f fd ps sp :=
  ⟨F.len, fun A outer s H args us vs Q E hr hg e b r q => F.run A outer s H args us vs Q E (hr.mono h) hg e b r q⟩
theorem FnG.ok {P : Program} {w : World} {K : PySem.W.Frag} {mg : Str → Option Value} {base : Heap} {k : Nat} {f : Addr} {fd : FuncData} {ps : List Str} {sp : Sp} (F : FnG P w K mg base k f fd ps sp) (hg : ∀ A, Room k A → A.guards = some []) : FnOk P w K mg base C8.CX0 k f fd ps sp :=
  ⟨F.len, fun A outer s H args us vs Q E hr e b r q => F.run A outer s H args us vs Q E hr (hg A hr) e b r q⟩

/-- what a call of f gives, by an evaluator of calls -/
def spC (c : List TV → RC) (n : Nat) : Sp := fun vs H Q _ => vs.length = n ∧ ∃ U xs B, Ars H U xs vs B ∧ B.Nodup ∧ (∀ a, U a → H a ≠ none) ∧ ∃ v ys, c xs = .ok v ys ∧
  ∀ w H' U' A C, Go H U (fun a => a ∈ B) H' U' → (∀ a, U' a → H' a ≠ none) → Rep H' U' v w A → Ars H' U' ys vs C → (A ++ C).Nodup → (∀ a ∈ A ++ C, a ∈ B ∨ H a = none) → Q w H'

section
variable {X : Cx} {k : Nat} {f : Addr} {fd : FuncData} {ps : List Str} {sp : Sp} {x : Str} {p pos : Pos} {e : Expr} {es : List Expr} {t : TA} {E : XK}
theorem run_fg {pins : List (Addr × Obj)} {σ : L2.St} {H : Hp} {s : Shared} {Q : VK} {us zs : List Value} {vs : List V} {args : PySem.Args} (F : FnG X.prog X.w X.K X.mg X.base k f fd ps sp) (hr : Room k X.A) (hg : X.A.guards = some [])
    (hb : BindsTo s fd args (ps.zip us)) (I : Inv X pins σ H s) (r : Vals vs us) (h : sp vs H Q E) (e : args = ⟨args.pos, args.kw⟩ := by rfl) : codeAny (model X.prog X.w) X.A (.call (.ref f) args) (fun r s' => match r with | .ok (.ret u) => EP X pins σ Q u s' | _ => False) s := by
  refine codeAny_mono (F.run X.A X.stack s H args us vs Q E hr hg I.env0 hb r h) fun r s' q => ?_
  cases r with
  | error e => exact False.elim q
  | ok fl =>
    cases fl with
    | ret u => exact I.after q
    | next => exact False.elim q
    | brk => exact False.elim q
    | cont => exact False.elim q

/-! ### operands handed over, and back -/
variable {H H' : Hp} {U U' U1 O : Pd} {l l' l1 l2 : Sl} {σ : L2.St} {As As' As1 : Nat → List Addr} {A B B2 C : List Addr} {v w : V} {vs : List V} {Q : VK} {os : List Od} {o : Od}
theorem Sim.lowRs (reb : Nat → Bool) : ∀ (os : List Od) (p : Nat) {l : Sl} {U : Pd} {As : Nat → List Addr}, Sim H U l σ As → ∃ U' As', Sim H U' (lowR reb l p os) σ As' ∧ (∀ b, U' b → U b) ∧ (∀ a, U a → (∀ i, a ∉ As i) → U' a) ∧ (∀ j a, a ∈ As' j → a ∈ As j) := by
  intro os
  induction os with
  | nil => exact fun p {l U As} S => ⟨U, As, S, fun _ h => h, fun _ h _ => h, fun _ _ h => h⟩
  | cons o r ih =>
    intro p l U As S
    cases o with
    | v x => exact ih (p + 1) S
    | r i =>
      show ∃ U' As', Sim H U' (lowR reb (if reb p then DL.low l i 0 else l) (p + 1) r) σ As' ∧ _
      cases hr : reb p with
      | false => exact ih (p + 1) S
      | true =>
        obtain ⟨V1, As1, S1, h1, h2, h3, h4, _⟩ := S.low i 0 (.inl rfl)
        obtain ⟨V2, As2, S2, k1, k2, k3⟩ := ih (p + 1) S1
        exact ⟨V2, As2, S2, fun b q => h1 b (k1 b q), fun a q n => k2 a (h2 a q (n i)) fun j m => n j (h3 j a m), fun j a m => h3 j a (k3 j a m)⟩
/-- the arguments that the operands make -/
theorem takes (S : Sim H U1 l1 σ As1) (hu : ∀ b, U1 b → U b) (hU : ∀ a, U a → ¬ Own As a → U1 a) (hs : ∀ a, Own As1 a → Own As a) : ∀ {os : List Od} {vs : List V} {B : List Addr}, Ods H U σ os vs B → B.Nodup → (∀ a ∈ B, ¬ Own As a) → onceO l1 os = true →
    ∃ B2, Ars H U1 (takeO l1 os) vs B2 ∧ B2.Nodup ∧ (∀ a ∈ B2, a ∈ B ∨ ∃ i, Od.r i ∈ os ∧ (gt l1 i).t ≠ 0 ∧ a ∈ As1 i) ∧ (∀ i, Od.r i ∈ os → (gt l1 i).t ≠ 0 → ∀ a ∈ As1 i, a ∈ B2) := by
  intro os vs B h
  induction h with
  | nil => exact fun _ _ _ => ⟨[], .nil, by simp, by simp, fun i m => by simp at m⟩
  | @cons o v A os vs B h1 h2 ih =>
    intro nd ap on
    obtain ⟨n1, n2, n3⟩ := List.nodup_append.mp nd
    cases h1 with
    | @v x _ _ rp =>
      obtain ⟨B2, q1, q2, q3, q4⟩ := ih n2 (fun a m => ap a (List.mem_append_right _ m)) on
      have rp1 : Rep H U1 x v A := rp.keep (fun _ _ e _ => e) (fun a _ n z => n (hu a z)) (fun _ _ _ e => e) fun a m h => hU a h (ap a (List.mem_append_left _ m))
      refine ⟨A ++ B2, .cons rp1 q1, List.nodup_append.mpr ⟨n1, q2, fun a m b m' e => ?_⟩, fun a m => ?_, fun i m ht a ma => List.mem_append_right _ (q4 i (by simpa using m) ht a ma)⟩
      · subst e
        rcases q3 a m' with z | ⟨i, _, _, z⟩
        · exact n3 a m a z rfl
        · exact ap a (List.mem_append_left _ m) (hs a ⟨i, z⟩)
      · rcases List.mem_append.mp m with m | m
        · exact .inl (List.mem_append_left _ m)
        · rcases q3 a m with z | ⟨i, z1, z2, z3⟩
          · exact .inl (List.mem_append_right _ z)
          · exact .inr ⟨i, List.mem_cons_of_mem _ z1, z2, z3⟩
    | @r i _ e =>
      have on' : ((gt l1 i).t == 0 || os.all fun o => match o with | .r j => !(i == j) | .v _ => true) = true ∧ onceO l1 os = true := by
        have : onceO l1 (.r i :: os) = (((gt l1 i).t == 0 || os.all fun o => match o with | .r j => !(i == j) | .v _ => true) && onceO l1 os) := rfl
        rw [this, Bool.and_eq_true] at on
        exact on
      obtain ⟨B2, q1, q2, q3, q4⟩ := ih n2 (fun a m => ap a (List.mem_append_right _ m)) on'.2
      have rp := S.den e
      have hz : (gt l1 i).t = 0 → As1 i = [] := fun hz => by
        have : gt l1 i = ⟨0, (gt l1 i).d⟩ := by cases hg : gt l1 i; rw [hg] at hz; simp at hz; subst hz; rfl
        rw [this] at rp
        exact rp.1
      refine ⟨As1 i ++ B2, .cons rp q1, List.nodup_append.mpr ⟨S.nd i, q2, fun a m b m' e' => ?_⟩, fun a m => ?_, fun j m ht a ma => ?_⟩
      · subst e'
        rcases q3 a m' with z | ⟨j, z1, z2, z3⟩
        · exact ap a (List.mem_append_right _ z) (hs a ⟨i, m⟩)
        · by_cases hij : i = j
          · subst hij
            have h0 := on'.1
            rw [Bool.or_eq_true] at h0
            rcases h0 with h0 | h0
            · exact z2 (by simpa using h0)
            · have := List.all_eq_true.mp h0 _ z1
              simp at this
          · exact S.dj i j hij a m z3
      · rcases List.mem_append.mp m with m | m
        · by_cases ht : (gt l1 i).t = 0
          · rw [hz ht] at m; simp at m
          · exact .inr ⟨i, by simp, ht, m⟩
        · rcases q3 a m with z | ⟨j, z1, z2, z3⟩
          · exact .inl (by simpa using z)
          · exact .inr ⟨j, List.mem_cons_of_mem _ z1, z2, z3⟩
      · rcases List.mem_cons.mp m with z | z
        · cases z; exact List.mem_append_left _ ma
        · exact List.mem_append_right _ (q4 j z ht a ma)
/-- the state but for some slots, which hold nothing now -/
structure SimX (H : Hp) (U : Pd) (l : Sl) (σ : L2.St) (As : Nat → List Addr) (T : Nat → Prop) : Prop where
  len : l.length = σ.length
  rep : ∀ i x, ¬ T i → l[i]? = some x → (x = ⟨0, .un⟩ ∧ As i = [] ∧ σ[i]? = some none) ∨ ∃ v, σ[i]? = some (some v) ∧ Rep H U x v (As i)
  emp : ∀ i, T i → As i = [] ∧ i < l.length
  nd : ∀ i, (As i).Nodup
  dj : ∀ i j, i ≠ j → ∀ a, a ∈ As i → a ∉ As j
  out : ∀ i, l.length ≤ i → As i = []
  um : ∀ a, U a → H a ≠ none
theorem SimX.sim {T : Nat → Prop} (S : SimX H U l σ As T) (h : ∀ i, ¬ T i) : Sim H U l σ As := ⟨S.len, fun i x e => S.rep i x (h i) e, S.nd, S.dj, S.out, S.um⟩
theorem SimX.put {T : Nat → Prop} (S : SimX H U l σ As T) {i : Nat} {x : TV} (ti : T i) (hv : σ[i]? = some (some v)) (r : Rep H U x v A) (nd : A.Nodup) (hd : ∀ j a, a ∈ A → a ∉ As j) :
    SimX H U (st l i x) σ (fun j => if j = i then A else As j) (fun j => T j ∧ j ≠ i) := by
  have hi := (S.emp i ti).2
  refine ⟨by unfold st; rw [List.length_set]; exact S.len, fun j y nt hy => ?_, fun j ⟨tj, ne⟩ => ?_, fun j => ?_, fun j k hjk a ha => ?_, fun j hj => ?_, S.um⟩
  · by_cases e : j = i
    · subst e
      unfold st at hy
      rw [List.getElem?_set_self hi] at hy
      cases hy
      simp only [if_pos]
      exact .inr ⟨v, hv, r⟩
    · unfold st at hy
      rw [List.getElem?_set_ne (Ne.symm e)] at hy
      simp only [if_neg e]
      exact S.rep j y (fun t => nt ⟨t, e⟩) hy
  · simp only [if_neg ne]
    unfold st
    rw [List.length_set]
    exact S.emp j tj
  · by_cases e : j = i
    · simp only [if_pos e]; exact nd
    · simp only [if_neg e]; exact S.nd j
  · by_cases e : j = i
    · simp only [if_pos e] at ha
      by_cases e2 : k = i
      · exact absurd (e.trans e2.symm) hjk
      · simp only [if_neg e2]; exact hd k a ha
    · simp only [if_neg e] at ha
      by_cases e2 : k = i
      · simp only [if_pos e2]; exact fun z => hd j a z ha
      · simp only [if_neg e2]; exact S.dj j k hjk a ha
  · unfold st at hj
    rw [List.length_set] at hj
    simp only [if_neg (show j ≠ i by omega)]
    exact S.out j hj
/-- the parameters' values come back to the names -/
theorem backs : ∀ {os : List Od} {vs : List V} {ys : List TV} {C : List Addr} {l : Sl} {As : Nat → List Addr}, Ars H U ys vs C → C.Nodup → (∀ (i : Nat) (v : V) (p : Nat), os[p]? = some (Od.r i) → vs[p]? = some v → σ[i]? = some (some v)) → onceO l os = true →
    SimX H U l σ As (fun i => Od.r i ∈ os ∧ (gt l i).t ≠ 0) → (∀ a ∈ C, ∀ j, a ∉ As j) → os.length = vs.length →
    ∃ As', Sim H U (backO l os ys) σ As' ∧ ∀ a, Own As' a → Own As a ∨ a ∈ C := by
  intro os
  induction os with
  | nil =>
    intro vs ys C l As h nd hv on S ap hl
    have e : backO l [] ys = l := by cases ys <;> rfl
    rw [e]
    exact ⟨As, S.sim fun i ⟨m, _⟩ => by simp at m, fun a h => .inl h⟩
  | cons o r ih =>
    intro vs ys C l As h nd hv on S ap hl
    cases h with
    | nil => simp at hl
    | @cons y v A ys vs B h1 h2 =>
      obtain ⟨n1, n2, n3⟩ := List.nodup_append.mp nd
      cases o with
      | v x =>
        obtain ⟨As', S', hs⟩ := ih (l := l) (As := As) h2 n2 (fun i w p e1 e2 => hv i w (p + 1) (by simpa using e1) (by simpa using e2)) on
          ⟨S.len, fun i x nt e => S.rep i x (fun t => nt ⟨by simpa using t.1, t.2⟩) e, fun i t => S.emp i ⟨by simp [t.1], t.2⟩, S.nd, S.dj, S.out, S.um⟩ (fun a m => ap a (List.mem_append_right _ m)) (by simpa using hl)
        exact ⟨As', S', fun a q => (hs a q).imp (fun z => z) (fun z => List.mem_append_right _ z)⟩
      | r i =>
        have on' : ((gt l i).t == 0 || r.all fun o => match o with | .r j => !(i == j) | .v _ => true) = true ∧ onceO l r = true := by
          have : onceO l (.r i :: r) = (((gt l i).t == 0 || r.all fun o => match o with | .r j => !(i == j) | .v _ => true) && onceO l r) := rfl
          rw [this, Bool.and_eq_true] at on
          exact on
        by_cases ht : (gt l i).t = 0
        · have e : backO l (.r i :: r) (y :: ys) = backO l r ys := by show backO (if (gt l i).t = 0 then l else st l i y) r ys = _; rw [if_pos ht]
          rw [e]
          obtain ⟨As', S', hs⟩ := ih (l := l) (As := As) h2 n2 (fun j w p e1 e2 => hv j w (p + 1) (by simpa using e1) (by simpa using e2)) on'.2
            ⟨S.len, fun j x nt e => S.rep j x (fun t => nt ⟨by
              rcases List.mem_cons.mp t.1 with z | z
              · cases z; exact absurd ht t.2
              · exact z, t.2⟩) e, fun j t => S.emp j ⟨List.mem_cons_of_mem _ t.1, t.2⟩, S.nd, S.dj, S.out, S.um⟩ (fun a m => ap a (List.mem_append_right _ m)) (by simpa using hl)
          exact ⟨As', S', fun a q => (hs a q).imp (fun z => z) (fun z => List.mem_append_right _ z)⟩
        · have e : backO l (.r i :: r) (y :: ys) = backO (st l i y) r ys := by show backO (if (gt l i).t = 0 then l else st l i y) r ys = _; rw [if_neg ht]
          rw [e]
          have hni : ∀ j, Od.r j ∈ r → j ≠ i := fun j m e => by
            subst e
            rcases Bool.or_eq_true _ _ |>.mp on'.1 with z | z
            · exact ht (by simpa using z)
            · have := List.all_eq_true.mp z _ m
              simp at this
          have gne : ∀ j, j ≠ i → gt (st l i y) j = gt l j := fun j e => by unfold gt st; rw [List.getD_eq_getElem?_getD, List.getElem?_set_ne (Ne.symm e), ← List.getD_eq_getElem?_getD]
          have S1 := S.put (x := y) ⟨by simp, ht⟩ (hv i v 0 rfl rfl) h1 n1 (fun j a m => ap a (List.mem_append_left _ m) j)
          have on2 : ∀ r' : List Od, (∀ j, Od.r j ∈ r' → j ≠ i) → onceO (st l i y) r' = onceO l r' := by
            intro r'
            induction r' with
            | nil => intro _; rfl
            | cons q t ih2 =>
              intro hq
              cases q with
              | v x => exact ih2 fun j m => hq j (List.mem_cons_of_mem _ m)
              | r j =>
                show (((gt (st l i y) j).t == 0 || _) && onceO (st l i y) t) = (((gt l j).t == 0 || _) && onceO l t)
                rw [gne j (hq j (by simp)), ih2 fun j m => hq j (List.mem_cons_of_mem _ m)]
          obtain ⟨As', S', hs⟩ := ih (l := st l i y) (As := fun j => if j = i then A else As j) h2 n2 (fun j w p e1 e2 => hv j w (p + 1) (by simpa using e1) (by simpa using e2)) (by rw [on2 r hni]; exact on'.2)
            ⟨S1.len, fun j x nt e => S1.rep j x (fun t => nt ⟨by
              rcases List.mem_cons.mp t.1.1 with z | z
              · cases z; exact absurd rfl t.2
              · exact z, by rw [gne j t.2]; exact t.1.2⟩) e, fun j t => S1.emp j ⟨⟨List.mem_cons_of_mem _ t.1, by rw [← gne j (hni j t.1)]; exact t.2⟩, hni j t.1⟩, S1.nd, S1.dj, S1.out, S1.um⟩
            (fun a m j => by
              by_cases e : j = i
              · simp only [if_pos e]; exact fun z => n3 a z a m rfl
              · simp only [if_neg e]; exact ap a (List.mem_append_right _ m) j) (by simpa using hl)
          refine ⟨As', S', fun a q => ?_⟩
          rcases hs a q with ⟨j, z⟩ | z
          · by_cases e : j = i
            · simp only [if_pos e] at z; exact .inr (List.mem_append_left _ z)
            · simp only [if_neg e] at z; exact .inl ⟨j, z⟩
          · exact .inr (List.mem_append_right _ z)
theorem Ods.rs {os : List Od} {vs : List V} (h : Ods H U σ os vs B) : ∀ (i : Nat) (v : V) (p : Nat), os[p]? = some (Od.r i) → vs[p]? = some v → σ[i]? = some (some v) := by
  induction h with
  | nil => intro i v p e; simp at e
  | cons h1 _ ih =>
    intro i v p e1 e2
    cases p with
    | zero => simp at e1 e2; subst e1 e2; cases h1 with | r e => exact e
    | succ p => exact ih i v p (by simpa using e1) (by simpa using e2)
theorem callO_sp {cl : Nat → List TV → RC} {rb : Nat → Nat → Bool} {g n : Nat} {x : TV} {E : XK} (a : At H U l σ As B os vs) (hn : os.length = n) (hc : callO cl rb g os l = .ok x l2)
    (k : ∀ v H2, (∃ U2 As2 A, Core H U (Ow As B) l2 σ H2 U2 As2 A ∧ Rep H2 U2 x v A) → Q v H2) : spC (cl g) n vs H Q E := by
  unfold callO at hc
  split at hc
  case isFalse => cases hc
  case isTrue on =>
    rw [Bool.and_eq_true] at on
    generalize hl1 : lowR (rb g) l 0 os = l1 at hc on
    cases hr : cl g (takeO l1 os) with
    | no => rw [hr] at hc; cases hc
    | ok v ys =>
      rw [hr] at hc
      cases hc
      obtain ⟨U1, As1, S1, h1, h2, h3⟩ := Sim.lowRs (rb g) os 0 a.sim
      rw [hl1] at S1
      have hs : ∀ p, Own As1 p → Own As p := fun p ⟨j, z⟩ => ⟨j, h3 j p z⟩
      have h2' : ∀ p, U p → ¬ Own As p → U1 p := fun p q nn => h2 p q fun i m => nn ⟨i, m⟩
      obtain ⟨B2, q1, q2, q3, q4⟩ := takes (l1 := l1) S1 h1 h2' hs a.ods a.nd a.ap on.1
      have hB2 : ∀ p ∈ B2, Ow As B p := fun p m => by
        rcases q3 p m with z | ⟨i, _, _, z⟩
        · exact .inr z
        · exact .inl (hs p ⟨i, z⟩)
      have hB2U : ∀ p ∈ B2, U1 p := fun p m => by
        rcases q3 p m with z | ⟨i, _, _, z⟩
        · exact h2' p (a.ods.at p z).1 (a.ap p z)
        · exact (S1.own ⟨i, z⟩).1
      refine ⟨by rw [← a.ods.length]; exact hn, U1, takeO l1 os, B2, q1, q2, S1.um, _, ys, hr, fun w H' U' A C go um rw' ra nd src => ?_⟩
      obtain ⟨nA, nC, nAC⟩ := List.nodup_append.mp nd
      -- the state without what was handed over
      let As2 : Nat → List Addr := fun i => open Classical in if Od.r i ∈ os ∧ (gt l1 i).t ≠ 0 then [] else As1 i
      have sub2 : ∀ i p, p ∈ As2 i → p ∈ As1 i ∧ ¬ (Od.r i ∈ os ∧ (gt l1 i).t ≠ 0) := fun i p m => by
        by_cases hq : Od.r i ∈ os ∧ (gt l1 i).t ≠ 0
        · have e : As2 i = [] := if_pos hq
          rw [e] at m; simp at m
        · have e : As2 i = As1 i := if_neg hq
          rw [e] at m; exact ⟨m, hq⟩
      have nB : ∀ i p, p ∈ As2 i → p ∉ B2 := fun i p m m2 => by
        obtain ⟨m1, hq⟩ := sub2 i p m
        rcases q3 p m2 with z | ⟨j, z1, z2, z3⟩
        · exact a.ap p z (hs p ⟨i, m1⟩)
        · by_cases e : i = j
          · subst e; exact hq ⟨z1, z2⟩
          · exact S1.dj i j e p m1 z3
      have SX : SimX H' U' l1 σ As2 (fun i => Od.r i ∈ os ∧ (gt l1 i).t ≠ 0) := by
        refine ⟨S1.len, fun i x nt hx => ?_, fun i t => ⟨if_pos t, ?_⟩, fun i => ?_, fun i j hij p m m2 => S1.dj i j hij p (sub2 i p m).1 (sub2 j p m2).1, fun i hi => ?_, um⟩
        · have e : As2 i = As1 i := if_neg nt
          rw [e]
          refine (S1.rep i x hx).imp (fun h => h) fun ⟨z, e1, rz⟩ => ⟨z, e1, rz.over go hB2U fun p m => nB i p (by rw [e]; exact m)⟩
        · exact Classical.byContradiction fun z => t.2 (by rw [gt_out (by omega)])
        · by_cases hq : Od.r i ∈ os ∧ (gt l1 i).t ≠ 0
          · have e : As2 i = [] := if_pos hq
            rw [e]; simp
          · have e : As2 i = As1 i := if_neg hq
            rw [e]; exact S1.nd i
        · by_cases hq : Od.r i ∈ os ∧ (gt l1 i).t ≠ 0
          · exact if_pos hq
          · have e : As2 i = As1 i := if_neg hq
            rw [e]; exact S1.out i hi
      have fr : ∀ p ∈ A ++ C, ∀ i, p ∉ As2 i := fun p m i m2 => by
        rcases src p m with z | z
        · exact nB i p m2 z
        · exact (S1.own ⟨i, (sub2 i p m2).1⟩).2 z
      obtain ⟨As', S', hs'⟩ := backs (l := l1) ra nC a.ods.rs on.1 SX (fun p m => fr p (List.mem_append_right _ m)) a.ods.length
      refine k w H' ⟨U', As', A, ⟨S', nA, fun p m q => ?_, rw'.at, fun p m => ?_, fun p q => ?_, ⟨fun p o e nn => ?_, fun p e nn => ?_, go.dom⟩⟩, rw'⟩
      · rcases hs' p q with ⟨i, z⟩ | z
        · exact fr p (List.mem_append_left _ m) i z
        · exact nAC p m p z rfl
      · exact (src p (List.mem_append_left _ m)).imp (hB2 p) fun z => z
      · rcases hs' p q with ⟨i, z⟩ | z
        · exact .inl (.inl (hs p ⟨i, (sub2 i p z).1⟩))
        · exact (src p (List.mem_append_right _ z)).imp (hB2 p) fun z => z
      · exact go.keep p o e fun m => nn (hB2 p m)
      · refine (go.uk p e fun m => nn (hB2 p m)).trans ⟨h1 p, fun z => h2' p z fun q => nn (.inl q)⟩
end
end DL
end

section
set_option Elab.async false
set_option linter.all false
set_option maxRecDepth 100000
/-! DK: a piece of the language and a piece of the text agree; expressions. -/
namespace DL
open PySem PySem.Spec PyProof.Rows L2

structure Pg where
  P : Nat → Option FD
  cs : List (Str × Int)
  nm : Nat → Str
  kws : List (Nat × List Str × List Nat)
def biNames : List Str := ["len", "abs", "int", "tuple", "list", "sum", "all", "any", "repr", "isinstance", "bool", "str", "dict", "range", "enumerate", "zip", "min", "max", "sorted", "set"]

def nmOk (x : Str) : Bool := !(x == ("__debug__" : Str)) && !(x == ("__classdict__" : Str)) && !(x == ("__name__" : Str))
def vis (sc : Scope) (x : Str) : Bool := match sc.names.lookup x with | some .local => true | some .cell => true | some .free => true | _ => false
def glo (sc : Scope) (x : Str) : Bool := (match sc.names.lookup x with | some .globalImplicit => true | _ => false) && nmOk x
def nix (N : List Str) (i : Nat) (x : Str) : Bool := match N[i]? with | some y => decide (y = x) | none => false
def b1n : B1 → Str
  | .len => "len"
  | .abs => "abs"
  | .int => "int"
  | .tuple => "tuple"
  | .list => "list"
  | .sum => "sum"
  | .all => "all"
  | .any => "any"
  | .repr => "repr"
  | .sorted => "sorted"
  | .min => "min"
  | .max => "max"
def tyn : Ty → Str
  | .int => "int"
  | .bool => "bool"
  | .str => "str"
  | .tuple => "tuple"
  | .list => "list"
  | .dict => "dict"
def notSl : Expr → Bool
  | .Slice _ _ _ _ => false
  | _ => true
def nRo : Expr → Bool
  | .Starred _ _ => false
  | .ListComp _ _ _ _ => false
  | _ => true
def notSet : Expr → Bool
  | .Set _ _ _ => false
  | _ => true
def interK : List (Option Expr) → List Expr → Option (List Expr)
  | [], [] => some []
  | some k :: ks, v :: vs => (interK ks vs).map fun r => k :: v :: r
  | _, _ => none
/-- the parts of an operation's text -/
def dsO (o : Op) (sc : Scope) (e : Expr) : Option (List Expr) :=
  match o, e with
  | .bin b, .BinOp l op r _ => if op = bop b then some [l, r] else none
  | .cmp c, .Compare l [op] [r] _ => if op = cop c ∧ notSet r = true then some [l, r] else none
  | .neg, .UnaryOp .USub a _ => some [a]
  | .sub, .Subscript a i _ => if notSl i = true then some [a, i] else none
  | .rev, .Subscript a (.Slice none none (some (.UnaryOp .USub (.Constant (.int 1) _ _) _)) _) _ => some [a]
  | .b1 f, .Call (.Name x _) [a] [] _ => if x = b1n f ∧ glo sc x = true then some [a] else none
  | .max2, .Call (.Name x _) [a, b] [] _ => if x = "max" ∧ glo sc x = true then some [a, b] else none
  | .min2, .Call (.Name x _) [a, b] [] _ => if x = "min" ∧ glo sc x = true then some [a, b] else none
  | .isi ty, .Call (.Name x _) [a, .Name t _] [] _ => if x = "isinstance" ∧ glo sc x = true ∧ t = tyn ty ∧ glo sc t = true then some [a] else none
  | .sset, .Call (.Name x _) [.Call (.Name y _) [a] [] _] [] _ => if x = "sorted" ∧ y = "set" ∧ glo sc x = true ∧ glo sc y = true then some [a] else none
  | .tup, .Tuple es _ _ => some es
  | .lst _, .List es _ => some es
  | .dct _ _, .Dict ks vs _ => if ks.length ≤ 15 then interK ks vs else none
  | _, _ => none
def kwArgs : List Keyword → List Str → Option (List Expr)
  | [], [] => some []
  | ⟨some n, e, _⟩ :: r, k :: ks => if n = k then (kwArgs r ks).map (e :: ·) else none
  | _, _ => none
/-- a comprehension's target -/
def mTg (N : List Str) (sc : Scope) : List Nat → Expr → Bool
  | [i], .Name x _ => nix N i x && (match sc.names.lookup x with | some .local => true | some .cell => true | _ => false)
  | is, .Tuple es _ _ => decide (2 ≤ is.length) && mTgs N sc is es
  | _, _ => false
where mTgs (N : List Str) (sc : Scope) : List Nat → List Expr → Bool
  | [], [] => true
  | i :: is, .Name x _ :: es => nix N i x && (match sc.names.lookup x with | some .local => true | some .cell => true | _ => false) && mTgs N sc is es
  | _, _ => false
def ownOf (N : List Str) : List Nat → List (Str × Nat)
  | [] => []
  | i :: r => (N.getD i Str.empty, i) :: ownOf N r
def nodupB : List Nat → Bool
  | [] => true
  | i :: r => !r.contains i && nodupB r
def mNm (N : List Str) (sc : Scope) (i : Nat) : Expr → Bool
  | .Name y _ => nix N i y && vis sc y && nmOk y
  | _ => false

def rgN (tp : Bool) : Str := match tp with | true => "tuple" | false => "list"
def mCst : E → Expr → Bool
  | .cst (.int i), .Constant (.int j) _ _ => decide (i = j)
  | .cst (.str x), .Constant (.str y) _ _ => decide (x = y)
  | _, _ => false
mutual
def mE (G : Pg) (N : List Str) : E → Scope → Expr → Bool
  | .cst .non, _, .Constant .none _ _ => true
  | .cst (.bl b), _, .Constant (.bool c) _ _ => b == c
  | .cst (.int i), _, .Constant (.int j) _ _ => decide (i = j)
  | .cst (.str x), _, .Constant (.str y) _ _ => decide (x = y)
  | .glb x (.int i), sc, .Name y _ => decide (x = y) && glo sc y && (match G.cs.lookup y with | some j => decide (i = j) | none => false)
  | .var i, sc, .Name y p => mNm N sc i (.Name y p)
  | .op o es, sc, e => (match dsO o sc e with | some args => mEs G N es sc args | none => false)
  | .call f x es, sc, .Call (.Name y _) args [] _ => decide (x = y) && decide (x = G.nm f) && glo sc y && mEs G N es sc args
  | .callk f x ks pm es, sc, .Call (.Name y _) [] kws _ => decide (x = y) && decide (x = G.nm f) && glo sc y && G.kws.contains (f, ks, pm) && decide (ks ≠ []) && (match kwArgs kws ks with | some args => mEs G N es sc args | none => false)
  | .chain o o2 a b c, sc, .Compare l [op, op2] [m, r] _ => decide (op = cop o) && decide (op2 = cop o2) && notSet r && mE G N a sc l && mE G N b sc m && mE G N c sc r
  | .and es, sc, .BoolOp .And args _ => mEs G N es sc args
  | .or es, sc, .BoolOp .Or args _ => mEs G N es sc args
  | .not a, sc, .UnaryOp .Not e _ => mT a && mE G N a sc e
  | .ite c a b, sc, .IfExp x y z _ => mT c && mE G N c sc x && mE G N a sc y && mE G N b sc z
  | .slc hl hh a lo hi, sc, .Subscript e (.Slice l u none _) _ => mE G N a sc e &&
      (match l with | none => !hl | some l => hl && mE G N lo sc l) && (match u with | none => !hh | some u => hh && mE G N hi sc u)
  | .rg tp es, sc, .Call (.Name x _) [.Call (.Name y _) args [] _] [] _ => decide (x = rgN tp) && glo sc x && decide (y = "range") && glo sc y && mEs G N es sc args
  | .ro a, sc, e => nRo e && mE G N a sc e
  | .app i a, sc, .Call (.Attribute (.Name y p) m ap) [e] [] cp => mNm N sc i (.Name y p) && decide (m = "append") && (ap.endLine == cp.line) && mE G N a sc e
  | .pop i, sc, .Call (.Attribute (.Name y p) m ap) [] [] cp => mNm N sc i (.Name y p) && decide (m = "pop") && (ap.endLine == cp.line)
  | .popi i a, sc, .Call (.Attribute (.Name y p) m ap) [e] [] cp => mNm N sc i (.Name y p) && decide (m = "pop") && (ap.endLine == cp.line) && mE G N a sc e
  | .appK i k a, sc, .Call (.Attribute (.Subscript (.Name y p) ke _) m ap) [e] [] cp => mNm N sc i (.Name y p) && mCst k ke && decide (m = "append") && (ap.endLine == cp.line) && mE G N a sc e
  | .popK i k, sc, .Call (.Attribute (.Subscript (.Name y p) ke _) m ap) [] [] cp => mNm N sc i (.Name y p) && mCst k ke && decide (m = "pop") && (ap.endLine == cp.line)
  | .neK i k, sc, .Compare (.Subscript (.Name y p) ke _) [.NotEq] [.List [] _] _ => mNm N sc i (.Name y p) && mCst k ke
  | .lc dp tg it cs e, sc, .ListComp elt [⟨t, i, ifs, ay⟩] scope _ => decide (ay = 0) && notSet i && nodupB tg && mI G N it sc t i && blkC N sc scope (ownOf N tg) && mTg N scope tg t && mCs G N cs (relS scope sc) ifs && mE G N e (relS scope sc) elt
  | _, _, _ => false
def mEs (G : Pg) (N : List Str) : Es → Scope → List Expr → Bool
  | .nil, _, [] => true
  | .cons a r, sc, e :: es => mE G N a sc e && mEs G N r sc es
  | _, _, _ => false
def mCs (G : Pg) (N : List Str) : Es → Scope → List Expr → Bool
  | .nil, _, [] => true
  | .cons a .nil, sc, [e] => mT a && mE G N a sc e
  | _, _, _ => false
/-- a source of items; the target too, where a tuple must be written -/
def mI (G : Pg) (N : List Str) : It → Scope → Expr → Expr → Bool
  | .seq a, sc, _, e => mE G N a sc e
  | .rng es, sc, _, .Call (.Name x _) args [] _ => decide (x = "range") && glo sc x && mEs G N es sc args
  | .enum a, sc, .Tuple _ _ _, .Call (.Name x _) [e] [] _ => decide (x = "enumerate") && glo sc x && mE G N a sc e
  | .zip a b, sc, .Tuple _ _ _, .Call (.Name x _) [e, f] [] _ => decide (x = "zip") && glo sc x && mE G N a sc e && mE G N b sc f
  | _, _, _, _ => false
/-- what may be tested -/
def mT : E → Bool
  | .and es => mTs es
  | .or es => mTs es
  | .not a => mT a
  | .ro a => mT a
  | .op (.cmp _) _ => true
  | .op (.b1 _) _ => true
  | .op (.isi _) _ => true
  | .chain _ _ _ _ _ => true
  | .call _ _ _ => true
  | .callk _ _ _ _ _ => true
  | .var _ => true
  | .cst (.bl _) => true
  | .neK _ _ => true
  | _ => false
def mTs : Es → Bool
  | .nil => true
  | .cons a r => mT a && mTs r
end

structure Ez (X : Cx) (G : Pg) (n : Nat) : Prop where
  gd : Gd X
  room : Room n X.A
  nd : X.N.Nodup
  cst : ∀ x i, G.cs.lookup x = some i → ∃ t, X.mg x = some (.int i t)
  bi : ∀ x, biNames.contains x = true → X.mg x = none
  fn : ∀ f fd, G.P f = some fd → ∃ a F ps, X.mg (G.nm f) = some (.ref a) ∧ PySem.W.keepIn X.K (.ref a) = true ∧ FnG X.prog X.w X.K X.mg X.base n a F ps (spC (evCall G.P n f) fd.np) ∧ ps.length = fd.np ∧
    (∀ (s : Shared) (us : List Value), us.length = ps.length → BindsTo s F ⟨us, []⟩ (ps.zip us)) ∧
    ∀ ks pm, (f, ks, pm) ∈ G.kws → ∀ (s : Shared) (ws : List Value), ws.length = ks.length → BindsTo s F ⟨[], ks.zip ws⟩ (ps.zip (pm.map fun j => ws.getD j .none))

/-! ### what matches is no star, no set .. -/
section
variable {G : Pg} {N : List Str} {sc : Scope} {env : Env} {es : List Expr}
theorem dsO_star {o : Op} {v : Expr} {p : Pos} : dsO o sc (.Starred v p) = none := by cases o <;> rfl
theorem mE_star {il : E} {v : Expr} {p : Pos} : mE G N il sc (.Starred v p) = false := by
  cases il with
  | op o es => simp only [mE, dsO_star]
  | cst d => cases d <;> rfl
  | glb x d => cases d <;> rfl
  | _ => rfl
theorem dsO_slice {o : Op} {a b c : Option Expr} {p : Pos} : dsO o sc (.Slice a b c p) = none := by cases o <;> rfl
theorem star_of {il : E} {e : Expr} (h : mE G N il sc e = true) : starEach (e :: es) env = (false, eval e env) :: starEach es env := by
  cases e <;> first | rfl | (rw [mE_star] at h; cases h)
theorem anyStar (pos : Pos) : ∀ {ils : Es} {es : List Expr}, mEs G N ils sc es = true → (backTo pos (starEach es env)).any (·.1) = false
  | .nil, [], _ => rfl
  | .cons a r, e :: es, h => by
    simp only [mEs, Bool.and_eq_true] at h
    rw [star_of h.1]
    show (false || (backTo pos (starEach es env)).any (·.1)) = false
    rw [anyStar pos h.2]; rfl
theorem plainIx {b : Expr} (h : notSl b = true) : PlainIx b := fun o i => by
  cases b <;> first | rfl | (cases h)
theorem marks {op : CmpOp} {b : Expr} (h : notSet b = true) : behindInMarks op b = false := by
  cases b <;> first | rfl | (cases h)
theorem lmarks {op op2 : CmpOp} {m b : Expr} (h : notSet b = true) : lastMarks [op, op2] [m, b] = false := marks h
theorem fold_of {i : Expr} (h : notSet i = true) : ∀ x, foldedSetIterable i env x = pure x := fun x => by
  cases i <;> first | rfl | (cases h)
theorem nix_of {i : Nat} {x : Str} (h : nix N i x = true) : N[i]? = some x := by
  unfold nix at h
  cases hi : N[i]? with
  | none => rw [hi] at h; cases h
  | some y => rw [hi] at h; rw [of_decide_eq_true h]
theorem nmOk_of {x : Str} (h : nmOk x = true) : (x == ("__debug__" : Str)) = false ∧ (x == ("__classdict__" : Str)) = false ∧ x ≠ "__name__" := by
  unfold nmOk at h
  simp only [Bool.and_eq_true, Bool.not_eq_true'] at h
  exact ⟨h.1.1, h.1.2, fun e => by have := h.2; rw [e] at this; simp at this⟩
theorem vis_of {x : Str} (h : vis sc x = true) : Vis sc x := by
  unfold vis at h
  unfold Vis
  cases hk : sc.names.lookup x with
  | none => rw [hk] at h; cases h
  | some k => rw [hk] at h; cases k <;> simp at h <;> simp
theorem glo_of {X : Cx} {x : Str} (h : glo X.env.scope x = true) : Gl X x ∧ nmOk x = true := by
  unfold glo at h
  rw [Bool.and_eq_true] at h
  refine ⟨?_, h.2⟩
  show X.env.scope.names.lookup x = some .globalImplicit
  cases hk : X.env.scope.names.lookup x with
  | none => rw [hk] at h; exact absurd h.1 (by decide)
  | some k => rw [hk] at h; cases k <;> first | rfl | exact absurd h.1 (by decide)
end

/-! ### readings of a few operands -/
section
variable {X : Cx} {σ : L2.St} {H : Hp} {Q : VK}
variable {cl : Nat → List TV → RC} {rb : Nat → Nat → Bool}
theorem evO_one {b : E} : evO cl rb (.cons b .nil) = opd b (evE cl rb b) := by
  funext l
  simp only [evO]
  cases opd b (evE cl rb b) l with
  | no => rfl
  | ok os l' => simp [RO.bO]
theorem rd_one {a : E} {f : List Od → Sl → RE} (h : tE (fun l => (evO cl rb (.cons a .nil) l).bnd f) σ H Q) : tO1 (opd a (evE cl rb a)) σ H fun x H1 => FO f [x] σ H1 Q := by
  have h1 := tE_bnd h
  rw [evO_one] at h1
  exact tO_one (fun _ _ _ e => opd_one e) (by
    obtain ⟨U, l, As, S, os, l', e, k⟩ := h1
    exact ⟨U, l, As, S, os, l', e, fun vs H' a x hx => by subst hx; exact k _ H' a⟩)
theorem rd_two {a b : E} {f : List Od → Sl → RE} (h : tE (fun l => (evO cl rb (.cons a (.cons b .nil)) l).bnd f) σ H Q) :
    tO1 (opd a (evE cl rb a)) σ H fun x H1 => tO1 (opd b (evE cl rb b)) σ H1 fun y H2 => FO f [x, y] σ H2 Q := by
  have h1 := tE_bnd h
  have e0 : evO cl rb (.cons a (.cons b .nil)) = fun l => (opd a (evE cl rb a) l).bO fun o l1 => (opd b (evE cl rb b) l1).bO fun os l2 => .ok (o ++ os) l2 := by
    funext l
    show (opd a (evE cl rb a) l).bO _ = _
    congr 1
    funext o l1
    rw [evO_one]
  rw [e0] at h1
  exact tO_two (fun _ _ _ e => opd_one e) (fun _ _ _ e => opd_one e) (by
    obtain ⟨U, l, As, S, os, l', e, k⟩ := h1
    exact ⟨U, l, As, S, os, l', e, fun vs H' a x y hx => by subst hx; exact k _ H' a⟩)
/-- the value of a name, let go -/
theorem pe_alias {e : Expr} {i : Nat} (h : PE X e (tVar i)) : PE X e (tE (evE cl rb (.var i))) := by
  refine pe_imp h fun σ H Q q => ?_
  obtain ⟨U, l, As, S, x, l', e1, k⟩ := q
  simp only [evE] at e1
  split at e1
  case isTrue => cases e1
  case isFalse hu =>
    cases e1
    obtain ⟨hi, v, hv, r⟩ := S.get (i := i) (by cases hq : (gt l i).d.isUn with | true => exact absurd hq hu | false => rfl)
    refine ⟨v, hv, k v H ?_⟩
    obtain ⟨U', As', S', h1, h2, h3, h4, h5⟩ := S.low i 0 (.inl rfl)
    refine ⟨U', As', [], Core.lowd S' h1 (fun q a n => h2 q a fun m => n ⟨i, m⟩) (fun q ⟨j, m⟩ => ⟨j, h3 j q m⟩), rfl, r.froz h1 (h5 rfl)⟩
theorem tE_const {e : Expr} {d : D} {v : V} (h : PE X e (tC v)) (hd : ∀ H U, Fz H U d v) : PE X e (tE fun l => .ok ⟨0, d⟩ l) := by
  refine pe_imp h fun σ H Q q => ?_
  obtain ⟨U, l, As, S, x, l', e1, k⟩ := q
  cases e1
  exact k v H ⟨U, As, [], Core.same S fun _ h => h, rfl, hd H U⟩
/-- a value at hand that is its own step -/
theorem tE_fin {r : Sl → RE} {U : Pd} {l : Sl} {As : Nat → List Addr} {x : TV} {l' : Sl} (S : Sim H U l σ As) (e : r l = .ok x l') (k : ∀ v H', AftE H U As x l' σ v H' → Q v H') : tE r σ H Q := ⟨U, l, As, S, x, l', e, k⟩
/-- two steps, the second from where the first ended -/
theorem tE_seq {r : Sl → RE} {g : TV → Sl → RE} (h : tE (fun l => (r l).bnd g) σ H Q) : tE r σ H fun v H1 => ∃ U l As x A, Sim H1 U l σ As ∧ Rep H1 U x v A ∧ A.Nodup ∧ (∀ a ∈ A, ¬ Own As a) ∧ ∃ y l2, g x l = .ok y l2 ∧
    ∀ w H2, (∃ U2 As2 B, Core H1 U (Ow As A) l2 σ H2 U2 As2 B ∧ Rep H2 U2 y w B) → Q w H2 := by
  obtain ⟨U, l, As, S, y, l2, e, k⟩ := h
  dsimp only at e
  cases h1 : r l with
  | no => rw [h1] at e; cases e
  | ok x l1 =>
    rw [h1] at e
    exact ⟨U, l, As, S, x, l1, h1, fun v H1 ⟨U1, As1, A, c, rp⟩ => ⟨U1, l1, As1, x, A, c.sim, rp, c.nd, c.ap, y, l2, e, fun w H2 ⟨U2, As2, B, c2, r2⟩ => k w H2 ⟨U2, As2, B, c.after c2, r2⟩⟩⟩
end

/-! ### tests -/
def tT (r : Sl → RB) : TT := fun σ H Q => ∃ U l As, Sim H U l σ As ∧ ∃ b l', r l = .ok b l' ∧ ∀ H', (∃ U' As', Core H U (Own As) l' σ H' U' As' []) → Q b H'
section
variable {X : Cx} {σ : L2.St} {H : Hp} {Q : VK}
variable {cl : Nat → List TV → RC} {rb : Nat → Nat → Bool}
theorem tst_some {r : RE} {b : Bool} {l : Sl} (h : r.tst = .ok b l) : ∃ t, r = .ok ⟨t, .bl b⟩ l := by
  cases r with
  | no => cases h
  | ok v l' =>
    obtain ⟨t, d⟩ := v
    cases d <;> simp only [RE.tst] at h <;> cases h
    exact ⟨t, rfl⟩
theorem Rep.bl {U : Pd} {t : Nat} {b : Bool} {v : V} {A : List Addr} (r : Rep H U ⟨t, .bl b⟩ v A) : v = .bl b ∧ A = [] := by
  obtain ⟨h1, h2⟩ := r.imm rfl
  exact ⟨h1.bl_inv, h2⟩
/-- a test by its value -/
theorem tst_rd {r : Sl → RE} {Qb : Bool → Hp → Prop} (h : tT (fun l => (r l).tst) σ H Qb) : tE r σ H fun v H' => ∃ c, v = .bl c ∧ Qb c H' := by
  obtain ⟨U, l, As, S, b, l', e, k⟩ := h
  obtain ⟨t, e'⟩ := tst_some e
  refine ⟨U, l, As, S, _, l', e', fun v H' ⟨U', As', A, c, rp⟩ => ?_⟩
  obtain ⟨rfl, rfl⟩ := rp.bl
  exact ⟨b, rfl, k H' ⟨U', As', c⟩⟩
theorem pt_plain {e : Expr} {r : Sl → RE} (h : PE X e (tE r)) (he : ∀ whole, isTrue e X.env whole = (do let v ← whole; standAt e.pos; holding [v] (truthy v))) : PT X e (tT fun l => (r l).tst) :=
  pt_imp (pt_val h he) fun σ H Q q => tst_rd q
end
end DL
end

section
set_option Elab.async false
set_option linter.all false
set_option maxRecDepth 100000
/-! DM: targets, walks, comprehensions. -/
namespace DL
open PySem PySem.Spec PyProof.Rows L2
section
variable {H H' H1 : Hp} {U U' U1 O : Pd} {l l' l1 l2 : Sl} {σ σ' : L2.St} {As As' As1 : Nat → List Addr} {A B : List Addr} {x : TV} {v w : V} {d : D} {vs : List V} {Q : VK} {X : Cx} {tg : List Nat} {N : List Str}

theorem ownOf_snd : ∀ tg : List Nat, (ownOf N tg).map (·.2) = tg
  | [] => rfl
  | i :: r => by simp [ownOf, ownOf_snd r]
theorem clr_len : ∀ (tg : List Nat) (l : Sl), (clr l tg).length = l.length
  | [], _ => rfl
  | i :: r, l => by rw [clr, clr_len r]; unfold st; rw [List.length_set]
theorem clr_get : ∀ (tg : List Nat) (l : Sl) (j : Nat), (clr l tg)[j]? = if j ∈ tg ∧ j < l.length then some ⟨0, .un⟩ else l[j]?
  | [], l, j => by simp [clr]
  | i :: r, l, j => by
    have hl : (st l i ⟨0, .un⟩).length = l.length := by unfold st; rw [List.length_set]
    rw [clr, clr_get r, hl]
    by_cases hr : j ∈ r ∧ j < l.length
    · rw [if_pos hr, if_pos ⟨List.mem_cons_of_mem _ hr.1, hr.2⟩]
    · rw [if_neg hr]
      by_cases e : j = i
      · subst e
        by_cases hj : j < l.length
        · rw [if_pos ⟨by simp, hj⟩]; unfold st; rw [List.getElem?_set_self hj]
        · rw [if_neg (fun z => hj z.2)]; unfold st; rw [List.getElem?_eq_none (by rw [List.length_set]; omega), List.getElem?_eq_none (by omega)]
      · have : ¬ (j ∈ i :: r ∧ j < l.length) := fun z => hr ⟨by rcases List.mem_cons.mp z.1 with q | q; exact absurd q e; exact q, z.2⟩
        rw [if_neg this]; unfold st; rw [List.getElem?_set_ne (Ne.symm e)]
theorem wipe_get : ∀ (tg : List Nat) (σ : L2.St) (j : Nat), (wipe σ tg)[j]? = if j ∈ tg ∧ j < σ.length then some none else σ[j]?
  | [], σ, j => by simp [wipe]
  | i :: r, σ, j => by
    show ((wipe σ r).set i none)[j]? = _
    by_cases e : j = i
    · subst e
      by_cases hj : j < σ.length
      · rw [if_pos ⟨by simp, hj⟩, List.getElem?_set_self (by rw [wipe_length]; exact hj)]
      · rw [if_neg (fun z => hj z.2), List.getElem?_eq_none (by rw [List.length_set, wipe_length]; omega), List.getElem?_eq_none (by omega)]
    · rw [List.getElem?_set_ne (Ne.symm e), wipe_get r]
      by_cases hr : j ∈ r ∧ j < σ.length
      · rw [if_pos hr, if_pos ⟨List.mem_cons_of_mem _ hr.1, hr.2⟩]
      · have : ¬ (j ∈ i :: r ∧ j < σ.length) := fun z => hr ⟨by rcases List.mem_cons.mp z.1 with q | q; exact absurd q e; exact q, z.2⟩
        rw [if_neg hr, if_neg this]
theorem wipe_same (h : ∀ j, j ∉ tg → σ'[j]? = σ[j]?) (hl : σ'.length = σ.length) : wipe σ' tg = wipe σ tg := by
  refine List.ext_getElem? fun j => ?_
  rw [wipe_get, wipe_get, hl]
  by_cases hj : j ∈ tg ∧ j < σ.length
  · rw [if_pos hj, if_pos hj]
  · rw [if_neg hj, if_neg hj]
    by_cases hm : j ∈ tg
    · have : σ.length ≤ j := by
        refine Nat.le_of_not_lt fun z => hj ⟨hm, z⟩
      rw [List.getElem?_eq_none (by omega), List.getElem?_eq_none this]
    · exact h j hm
theorem rest_len : ∀ (tg : List Nat) (l0 l : Sl), (rest l0 l tg).length = l.length
  | [], _, _ => rfl
  | i :: r, l0, l => by rw [rest, rest_len r]; unfold st; rw [List.length_set]
theorem rest_get : ∀ (tg : List Nat) (l0 l : Sl) (j : Nat), (rest l0 l tg)[j]? = if j ∈ tg ∧ j < l.length then some (gt l0 j) else l[j]?
  | [], l0, l, j => by simp [rest]
  | i :: r, l0, l, j => by
    have hl : (st l i (gt l0 i)).length = l.length := by unfold st; rw [List.length_set]
    rw [rest, rest_get r, hl]
    by_cases hr : j ∈ r ∧ j < l.length
    · rw [if_pos hr, if_pos ⟨List.mem_cons_of_mem _ hr.1, hr.2⟩]
    · rw [if_neg hr]
      by_cases e : j = i
      · subst e
        by_cases hj : j < l.length
        · rw [if_pos ⟨by simp, hj⟩]; unfold st; rw [List.getElem?_set_self hj]
        · rw [if_neg (fun z => hj z.2)]; unfold st; rw [List.getElem?_eq_none (by rw [List.length_set]; omega), List.getElem?_eq_none (by omega)]
      · have : ¬ (j ∈ i :: r ∧ j < l.length) := fun z => hr ⟨by rcases List.mem_cons.mp z.1 with q | q; exact absurd q e; exact q, z.2⟩
        rw [if_neg this]; unfold st; rw [List.getElem?_set_ne (Ne.symm e)]
open Classical in
noncomputable def hid (As : Nat → List Addr) (tg : List Nat) : Nat → List Addr := fun i => if i ∈ tg then [] else As i
theorem hid_in {i : Nat} {a : Addr} (h : a ∈ hid As tg i) : i ∉ tg ∧ a ∈ As i := by
  unfold hid at h
  by_cases hi : i ∈ tg
  · rw [if_pos hi] at h; simp at h
  · rw [if_neg hi] at h; exact ⟨hi, h⟩
theorem Sim.wipe (S : Sim H U l σ As) : Sim H U (clr l tg) (L2.wipe σ tg) (hid As tg) := by
  refine ⟨by rw [clr_len, wipe_length]; exact S.len, fun i x hx => ?_, fun i => ?_, fun i j hij a m m2 => S.dj i j hij a (hid_in m).2 (hid_in m2).2, fun i hi => ?_, S.um⟩
  · rw [clr_get] at hx
    rw [wipe_get, ← S.len]
    by_cases hi : i ∈ tg ∧ i < l.length
    · rw [if_pos hi] at hx
      cases hx
      rw [if_pos hi]
      exact .inl ⟨rfl, if_pos hi.1, rfl⟩
    · rw [if_neg hi] at hx
      rw [if_neg hi]
      have hn : i ∉ tg := fun m => hi ⟨m, by
        refine Nat.lt_of_not_le fun z => ?_
        rw [List.getElem?_eq_none z] at hx; cases hx⟩
      have e : hid As tg i = As i := if_neg hn
      rw [e]
      exact S.rep i x hx
  · by_cases hi : i ∈ tg
    · have e : hid As tg i = [] := if_pos hi
      rw [e]; simp
    · have e : hid As tg i = As i := if_neg hi
      rw [e]; exact S.nd i
  · rw [clr_len] at hi
    by_cases hm : i ∈ tg
    · exact if_pos hm
    · have e : hid As tg i = As i := if_neg hm
      rw [e]; exact S.out i hi

/-! ### targets -/
def gNms (X : Cx) : List Nat → TGs
  | [] => gNil
  | i :: r => gCons (gName i) (gNms X r)
def gTg (X : Cx) : List Nat → TG
  | [i] => gName i
  | is => gTup X.K is.length (gNms X is)
def locOk (X : Cx) (x : Str) : Prop := X.env.scope.names.lookup x = some .local ∨ (X.env.scope.names.lookup x = some .cell ∧ X.fn x = true)
theorem locOk.loc {x : Str} (h : locOk X x) : Loc X.env.scope x ∧ (X.fn x = true ∨ X.env.scope.names.lookup x = some .local) := by
  rcases h with h | ⟨h, f⟩
  · exact ⟨.inl h, .inr h⟩
  · exact ⟨.inr h, .inl f⟩
def ScOk (X : Cx) (sc : Scope) : Prop := ∀ x, (sc.names.lookup x = some .local → X.env.scope.names.lookup x = some .local) ∧ (sc.names.lookup x = some .cell → X.env.scope.names.lookup x = some .cell ∧ X.fn x = true)
theorem pgs_names {sc : Scope} (nd : X.N.Nodup) (hf : ScOk X sc) : ∀ {is : List Nat} {es : List Expr}, mTg.mTgs X.N sc is es = true → PGs X es (gNms X is) ∧ (assignEach es X.env).length = is.length ∧ (assignEach es X.env).findIdx? (·.1) = none
  | [], [], _ => ⟨pgs_nil, rfl, rfl⟩
  | i :: is, .Name x p :: es, h => by
    simp only [mTg.mTgs, Bool.and_eq_true] at h
    obtain ⟨h1, h2, h3⟩ := pgs_names nd hf h.2
    have hl : locOk X x := by
      cases hk : sc.names.lookup x with
      | none => rw [hk] at h; exact absurd h.1.2 (by decide)
      | some k => rw [hk] at h; cases k <;> first | exact .inl ((hf x).1 hk) | exact .inr ((hf x).2 hk) | exact absurd h.1.2 (by decide)
    refine ⟨pgs_cons (pg_name nd (nix_of h.1.1) hl.loc.1 hl.loc.2) h1, ?_, ?_⟩
    · show (assignEach es X.env).length + 1 = is.length + 1
      rw [h2]
    · show List.findIdx? _ ((false, assign (.Name x p) X.env) :: assignEach es X.env) = none
      rw [List.findIdx?_cons]
      simp [h3]
  | [], e :: es, h => by cases e <;> cases h
  | i :: is, [], h => by cases h
  | i :: is, .BoolOp _ _ _ :: es, h => by cases h
  | i :: is, .NamedExpr _ _ _ :: es, h => by cases h
  | i :: is, .BinOp _ _ _ _ :: es, h => by cases h
  | i :: is, .UnaryOp _ _ _ :: es, h => by cases h
  | i :: is, .Lambda _ _ _ _ :: es, h => by cases h
  | i :: is, .IfExp _ _ _ _ :: es, h => by cases h
  | i :: is, .Dict _ _ _ :: es, h => by cases h
  | i :: is, .Set _ _ _ :: es, h => by cases h
  | i :: is, .ListComp _ _ _ _ :: es, h => by cases h
  | i :: is, .SetComp _ _ _ _ :: es, h => by cases h
  | i :: is, .DictComp _ _ _ _ _ :: es, h => by cases h
  | i :: is, .GeneratorExp _ _ _ _ :: es, h => by cases h
  | i :: is, .Await _ _ :: es, h => by cases h
  | i :: is, .Yield _ _ :: es, h => by cases h
  | i :: is, .YieldFrom _ _ :: es, h => by cases h
  | i :: is, .Compare _ _ _ _ :: es, h => by cases h
  | i :: is, .Call _ _ _ _ :: es, h => by cases h
  | i :: is, .FormattedValue _ _ _ _ :: es, h => by cases h
  | i :: is, .JoinedStr _ _ :: es, h => by cases h
  | i :: is, .Constant _ _ _ :: es, h => by cases h
  | i :: is, .Attribute _ _ _ :: es, h => by cases h
  | i :: is, .Subscript _ _ _ :: es, h => by cases h
  | i :: is, .Starred _ _ :: es, h => by cases h
  | i :: is, .List _ _ :: es, h => by cases h
  | i :: is, .Tuple _ _ _ :: es, h => by cases h
  | i :: is, .Slice _ _ _ _ :: es, h => by cases h
theorem mTg_len {sc : Scope} : ∀ {is : List Nat} {es : List Expr}, mTg.mTgs N sc is es = true → is.length = es.length ∧ ∀ i ∈ is, i < N.length
  | [], [], _ => ⟨rfl, by simp⟩
  | i :: is, .Name x p :: es, h => by
    simp only [mTg.mTgs, Bool.and_eq_true] at h
    obtain ⟨h1, h2⟩ := mTg_len h.2
    refine ⟨by simp [h1], fun j hj => ?_⟩
    rcases List.mem_cons.mp hj with rfl | hj
    · have := nix_of h.1.1
      exact Classical.byContradiction fun z => by rw [List.getElem?_eq_none (by omega)] at this; cases this
    · exact h2 j hj
  | [], e :: es, h => by cases e <;> cases h
  | i :: is, [], h => by cases h
  | i :: is, e :: es, h => by
    cases e <;> first | (exfalso; revert h; simp [mTg.mTgs]; done) | skip
    simp only [mTg.mTgs, Bool.and_eq_true] at h
    obtain ⟨h1, h2⟩ := mTg_len h.2
    refine ⟨by simp [h1], fun j hj => ?_⟩
    rcases List.mem_cons.mp hj with rfl | hj
    · have := nix_of h.1.1
      exact Classical.byContradiction fun z => by rw [List.getElem?_eq_none (by omega)] at this; cases this
    · exact h2 j hj
theorem pg_target {sc : Scope} (g : X.calm = true) (nd : X.N.Nodup) (hf : ScOk X sc) {is : List Nat} {t : Expr} (h : mTg X.N sc is t = true) : PG X t (gTg X is) ∧ (∀ i ∈ is, i < X.N.length) := by
  have many : ∀ {is : List Nat} {es : List Expr} {k : Nat} {p : Pos}, (decide (2 ≤ is.length) && mTg.mTgs X.N sc is es) = true → PG X (.Tuple es k p) (gTg X is) ∧ ∀ i ∈ is, i < X.N.length := fun {is es k p} h => by
    rw [Bool.and_eq_true, decide_eq_true_eq] at h
    obtain ⟨h1, h2, h3⟩ := pgs_names nd hf h.2
    have e : gTg X is = gTup X.K is.length (gNms X is) := by
      match is, h.1 with
      | _ :: _ :: _, _ => rfl
    rw [e]
    exact ⟨pg_tup g h1 h2 h3, (mTg_len h.2).2⟩
  match is, t, h with
  | [i], .Name x p, h =>
    simp only [mTg, Bool.and_eq_true] at h
    have hl : locOk X x := by
      cases hk : sc.names.lookup x with
      | none => rw [hk] at h; exact absurd h.2 (by decide)
      | some k => rw [hk] at h; cases k <;> first | exact .inl ((hf x).1 hk) | exact .inr ((hf x).2 hk) | exact absurd h.2 (by decide)
    have hn := nix_of h.1
    refine ⟨pg_name nd hn hl.loc.1 hl.loc.2, fun j hj => ?_⟩
    obtain rfl : j = i := by simpa using hj
    exact Classical.byContradiction fun z => by rw [List.getElem?_eq_none (by omega)] at hn; cases hn
  | [], .Tuple es k p, h => exact many h
  | [_], .Tuple es k p, h => exact many h
  | _ :: _ :: _, .Tuple es k p, h => exact many h
/-- storing frozen values -/
theorem sets_ok : ∀ {is : List Nat} {ds : List D} {ws : List V} {l : Sl} {σ : L2.St} {As : Nat → List Addr} {Qs : L2.St → Hp → Prop}, Sim H U l σ As → FzL H U ds ws → ds.length = is.length → (∀ i ∈ is, i < l.length) →
    (∀ σ2 As2, Sim H U (setAll l is ds) σ2 As2 → (∀ j, j ∉ is → σ2[j]? = σ[j]?) → σ2.length = σ.length → (∀ a, Own As2 a → Own As a) → Qs σ2 H) → gNms X is ws σ H Qs
  | [], [], _, l, σ, As, Qs, S, .nil, _, _, k => ⟨rfl, k σ As S (fun _ _ => rfl) rfl fun _ h => h⟩
  | i :: is, d :: ds, _, l, σ, As, Qs, S, .cons h1 h2, hl, hi, k => by
    rename_i w ws
    refine ⟨w, ws, rfl, ?_⟩
    show gNms X is ws (σ.set i (some w)) H Qs
    have S1 := S.put (i := i) (x := ⟨0, d⟩) (v := w) (A := []) ⟨rfl, h1⟩ (by simp) (by simp) (hi i (by simp))
    refine sets_ok S1 h2 (by simpa using hl) (fun j m => by unfold st; rw [List.length_set]; exact hi j (List.mem_cons_of_mem _ m)) fun σ2 As2 S2 e2 l2 o2 => k σ2 As2 S2 (fun j nj => ?_) (by rw [l2, List.length_set]) fun a h => ?_
    · rw [e2 j fun m => nj (List.mem_cons_of_mem _ m), List.getElem?_set_ne (fun e => nj (by simp [e]))]
    · obtain ⟨j, m⟩ := o2 a h
      by_cases e : j = i
      · simp [e] at m
      · simp only [if_neg e] at m; exact ⟨j, m⟩
theorem bindT_many {is : List Nat} (hn : is.length ≠ 1) (h : bindT l is d = some l2) : ∃ ds, d = .tup ds ∧ ds.length = is.length ∧ l2 = setAll l is ds := by
  match is, hn with
  | [], _ =>
    cases d <;> simp only [bindT] at h <;> try (cases h; done)
    split at h
    case isTrue q => cases h; exact ⟨_, rfl, q, rfl⟩
    case isFalse => cases h
  | _ :: _ :: _, _ =>
    cases d <;> simp only [bindT] at h <;> try (cases h; done)
    split at h
    case isTrue q => cases h; exact ⟨_, rfl, q, rfl⟩
    case isFalse => cases h
  | [_], hn => exact absurd rfl hn
theorem bind_ok {is : List Nat} {Qs : L2.St → Hp → Prop} (S : Sim H U l σ As) (f : Fz H U d v) (hb : bindT l is d = some l2) (hi : ∀ i ∈ is, i < l.length)
    (k : ∀ σ2 As2, Sim H U l2 σ2 As2 → (∀ j, j ∉ is → σ2[j]? = σ[j]?) → σ2.length = σ.length → (∀ a, Own As2 a → Own As a) → Qs σ2 H) : gTg X is v σ H Qs := by
  have many : (∃ ds, d = .tup ds ∧ ds.length = is.length ∧ l2 = setAll l is ds) → gTup X.K is.length (gNms X is) v σ H Qs := fun ⟨ds, e1, e2, e3⟩ => by
    subst e1 e3
    obtain ⟨a, ws, rfl, h1, h2, h3⟩ := f.tup_inv
    exact ⟨a, ws, rfl, .inl (.inl h1), by rw [← h3.length]; exact e2, sets_ok S h3 e2 hi k⟩
  match is, hb, many, hi, k with
  | [i], hb, _, hi, k =>
    cases hb
    have S1 := S.put (i := i) (x := ⟨0, d⟩) (v := v) (A := []) ⟨rfl, f⟩ (by simp) (by simp) (hi i (by simp))
    refine k _ _ S1 (fun j nj => List.getElem?_set_ne (fun e => nj (by simp [e]))) (by rw [List.length_set]) fun a ⟨j, m⟩ => ?_
    by_cases e : j = i
    · simp [e] at m
    · simp only [if_neg e] at m; exact ⟨j, m⟩
  | [], hb, many, _, _ => exact many (bindT_many (by simp) hb)
  | _ :: _ :: _, hb, many, _, _ => exact many (bindT_many (by simp) hb)

/-! ### walks -/
/-- the items xs are walked, as long as what is frozen stays -/
def Wk (J : L2.It) (H : Hp) (U : Pd) (xs : List D) : Prop := ∀ H2 U2, (∀ a o, H a = some o → ¬ U a → H2 a = some o) → (∀ a, H a ≠ none → ¬ U a → ¬ U2 a) → (∀ a, U2 a → H2 a ≠ none) →
  J.stop xs.length H2 ∧ ∀ i d, xs[i]? = some d → J.go i H2 ∧ ∀ x Hb, J.yld i H2 x Hb → (Hb = H2 ∨ ∃ T o, H2 T = none ∧ Hb = upd H2 T (.tup o)) ∧ Fz Hb U2 d x
def tI (r : Sl → RI) : TI := fun σ H R => ∃ U l As, Sim H U l σ As ∧ ∃ xs l', r l = .ok xs l' ∧ ∀ J H', (∃ U' As', Core H U (Own As) l' σ H' U' As' [] ∧ Wk J H' U' xs) → R J H'
theorem wk_tup {K : PySem.W.Frag} {a : Addr} {ws : List V} {ds : List D} (h : H a = some (.tup ws)) (n : ¬ U a) (f : FzL H U ds ws) : Wk (Itt K a) H U ds := by
  intro H2 U2 hk hu hm
  have h2 : SqT K H2 a ws := .inl (.inl (hk _ _ h n))
  have f2 := FzL.keep hk hu _ _ f
  have w := walk_tup (K := K) (a := a) (xs := ws)
  refine ⟨by rw [f.length]; exact w.stops H2 h2, fun i d e => ?_⟩
  obtain ⟨y, e1, e2⟩ := f2.get e
  have hi : i < ws.length := Classical.byContradiction fun z => by rw [List.getElem?_eq_none (by omega)] at e1; cases e1
  refine ⟨w.goes i H2 hi h2, fun x Hb q => ?_⟩
  obtain ⟨rfl, e3⟩ := w.yields i H2 x Hb hi h2 q
  rw [e1] at e3; cases e3
  exact ⟨.inl rfl, e2⟩
theorem wk_lst {K : PySem.W.Frag} {a : Addr} {ws : List V} {ds : List D} (h : Rd H a (.lst ws)) (n : ¬ U a) (f : FzL H U ds ws) : Wk (Itl K a) H U ds := by
  intro H2 U2 hk hu hm
  have h2 : SqL K H2 a ws := .inl (Rd.keep h fun o e => hk _ o e n)
  have f2 := FzL.keep hk hu _ _ f
  have w := walk_list (K := K) (a := a) (xs := ws)
  refine ⟨by rw [f.length]; exact w.stops H2 h2, fun i d e => ?_⟩
  obtain ⟨y, e1, e2⟩ := f2.get e
  have hi : i < ws.length := Classical.byContradiction fun z => by rw [List.getElem?_eq_none (by omega)] at e1; cases e1
  refine ⟨w.goes i H2 hi h2, fun x Hb q => ?_⟩
  obtain ⟨rfl, e3⟩ := w.yields i H2 x Hb hi h2 q
  rw [e1] at e3; cases e3
  exact ⟨.inl rfl, e2⟩
theorem wk_rng {lo hi : Int} : Wk (Itr lo (hi - lo).toNat) H U (rngL lo hi) := by
  intro H2 U2 hk hu hm
  have hl : (rngL lo hi).length = (hi - lo).toNat := by unfold rngL; simp
  refine ⟨by rw [hl]; exact Nat.le_refl _, fun i d e => ?_⟩
  have hi' : i < (hi - lo).toNat := Classical.byContradiction fun z => by rw [List.getElem?_eq_none (by omega)] at e; cases e
  refine ⟨hi', fun x Hb q => ?_⟩
  obtain ⟨rfl, rfl⟩ := q
  refine ⟨.inl rfl, ?_⟩
  have : d = .int (lo + (i : Nat)) := by
    unfold rngL at e
    rw [List.getElem?_map, List.getElem?_range hi'] at e
    cases e; rfl
  subst this
  exact .int _
end
end DL
end

section
set_option Elab.async false
set_option linter.all false
set_option maxRecDepth 100000
/-! DN: enumerate over a tuple. -/
namespace DL
open PySem PySem.Spec PyProof.Rows L2

set_option maxHeartbeats 1000000 in
theorem enum1_new {v : Value} {o : Obj} {H : Heap → Prop} (B : Begins v o H) :
    Meets (Builtin.«enumerate.__new__» ⟨[.type "enumerate", v], []⟩) (fun _ R s => H s.heap ∧
      R (.ok (.ret (.ref (s.heap.push o).objs.size))) { s with heap := (s.heap.push o).push { cls := .type "enumerate", data := .fields #[.none, .bool false, .ref s.heap.objs.size, rawInt 0, .none, .none] } }) :=
  .of_wp fun prog w A R s h => by
    obtain ⟨hp, g, d, tk, os⟩ := s
    obtain ⟨h1, h⟩ := h
    have hsub := sub_enumerate
    have q1 : ∀ {A' : Around} {E : Value → Shared → Prop} {Q : Value → Shared → Prop}, Q (.ref hp.objs.size) ⟨hp.push o, g, d, tk, os⟩ → wpAny (model prog w) A' (pyIter v) Q E ⟨hp, g, d, tk, os⟩ :=
      fun q => B.iter prog w _ _ ⟨hp, g, d, tk, os⟩ _ h1 q
    wp_walk using q1
    refine wpAny_stack_any fun st => wpAny_pure ?_
    split
    · rename_i c _ _ _ _ _
      cases (c == Value.type "enumerate") <;> (wp_walk using q1; exact ⟨_, rfl, h⟩)
    · wp_walk using q1
      exact ⟨_, rfl, h⟩
theorem enum1_call {prog : Program} {w : World} {A : Around} {E : Value → Shared → Prop} {s : Shared} {v : Value} {o : Obj} {H : Heap → Prop} {Q : Value → Shared → Prop} (B : Begins v o H) (h1 : H s.heap)
    (h : ∀ h', IsEnum h' (s.heap.objs.size + 1) s.heap.objs.size 0 .none → h'.get? s.heap.objs.size = some o → h'.objs.size = s.heap.objs.size + 2 → (∀ b o, s.heap.get? b = some o → h'.get? b = some o) → Q (.ref (s.heap.objs.size + 1)) { s with heap := h' }) :
    wpAny (model prog w) A (call (.type "enumerate") [v]) Q E s := by
  refine callType_new F.called_enumerate (by decide) (F.typeCall_enumerate_1 _) (F.newCall_enumerate_1 _) (fun obj => F.args_object_init_2 obj _) F.entry_enumerate_new (enum1_new B) ⟨h1, ?_⟩
  have hz : (s.heap.push o).objs.size = s.heap.objs.size + 1 := Heap.size_push ..
  show _ ∧ _
  rw [hz]
  have he : IsEnum ((s.heap.push o).push { cls := .type "enumerate", data := .fields #[.none, .bool false, .ref s.heap.objs.size, rawInt 0, .none, .none] }) (s.heap.objs.size + 1) s.heap.objs.size 0 .none := by
    have q := Heap.get?_push_size (s.heap.push o) (o := { cls := .type "enumerate", data := .fields #[.none, .bool false, .ref s.heap.objs.size, rawInt 0, .none, .none] }) rfl
    rw [hz] at q; exact q
  exact ⟨⟨_, he, rfl⟩, h _ he (Heap.get?_push_of_some _ (Heap.get?_push_size _ B.free)) (by rw [Heap.size_push, hz]) fun b o x => Heap.get?_push_of_some _ (Heap.get?_push_of_some _ x)⟩

def IeT (a : Addr) : L2.It :=
  ⟨fun i H => ∃ xs x, H a = some (.tup xs) ∧ xs[i]? = some x,
   fun i H v H' => ∃ T x, v = .ref T ∧ H T = none ∧ H' = upd H T (.tup [.int (i : Nat), x]) ∧ ∀ xs, H a = some (.tup xs) → xs[i]? = some x,
   fun i H => ∃ xs, H a = some (.tup xs) ∧ xs.length ≤ i⟩
theorem turn_eT {P : Program} {w : World} {K : PySem.W.Frag} {elts : List Expr} {kk : Nat} {tpos : Pos} (a e it : Addr) :
    Turn P w K (.Tuple elts kk tpos) (IeT a) [e, it] e (fun i h => (∃ old, IsEnum h e it ((i : Nat) : Int) old) ∧ h.IsTupleIter it a i ∧ e ≠ it) where
  mem := by simp
  obj := fun i h st b hb => by
    obtain ⟨⟨old, he⟩, ⟨o, ho, hc, hd⟩, _⟩ := st
    rcases (show b = e ∨ b = it by simpa using hb) with rfl | rfl
    · exact ⟨_, he, fun v q => nomatch q⟩
    · exact ⟨o, ho, fun v q => by rw [hd] at q; cases q⟩
  keep := fun i h h' st k => ⟨st.1.elim fun old he => ⟨old, k e (by simp) _ he⟩, st.2.1.at fun o q => k it (by simp) o q, st.2.2⟩
  item := by
    intro X hP hw hK hc i pins s σ H E I hf st hg
    subst hP hw hK
    obtain ⟨⟨old, he⟩, hit, hne⟩ := st
    obtain ⟨xs, x, hq, hx⟩ := hg
    obtain ⟨its, rv, p, hz⟩ := I.tuple (SqT.of hq)
    obtain ⟨u, hu, ru⟩ := rv.get hx
    have hA := I.ok.hd hc
    have hin : i < its.toArray.size := by
      rw [List.size_toArray]
      exact Classical.byContradiction fun z => by rw [List.getElem?_eq_none (by omega)] at hu; cases hu
    have nea : ∀ b ∈ [e, it], b ≠ a := fun b hb z => by have := (hf b hb).1; rw [z, hq] at this; cases this
    have D := Draws.tuple (prog := X.prog) (w := X.w) (A := X.A.in1) (by simpa using hA) it a (Ne.symm (nea it (by simp))) its.toArray
    have hel : e < s.heap.objs.size := Heap.lt_size he
    have hil : it < s.heap.objs.size := by obtain ⟨_, q, _⟩ := hit; exact Heap.lt_size q
    refine wpAny_pyNext_enum_itemD D he ⟨hit, p⟩ hin hne (by simp only [List.mem_cons, List.not_mem_nil, or_false, not_or]; exact ⟨hne, nea e (by simp)⟩) fun x1 h' tk hx1 ho hst hT hsz hk => ?_
    have hux : x1 = u := by
      have z : its.toArray[i]? = some x1 := hx1
      have z2 : its.toArray[i]? = some u := by simpa using hu
      rw [z] at z2; exact Option.some.inj z2
    subst hux
    refine ⟨_, rfl, wpAny_letOwnedTupleGo_enum (s := { s with heap := h', toks := tk + 1 }) ho fun h2 he' sb => ?_⟩
    have hT2 : h2.get? s.heap.objs.size = some { cls := .type "tuple", data := .seq #[.int i tk, x1] } := (sb.2 _ (Nat.ne_of_gt hel)).trans hT
    have new : ObjOk X.prog X.w (upd H s.heap.objs.size (.tup [.int (i : Nat), x])) h2 s.heap.objs.size (.tup [.int (i : Nat), x]) :=
      ⟨by show 2 ≤ sizeLine; decide, [.int i tk, x1], .cons ⟨_, rfl⟩ (.cons ru .nil), ⟨_, hT2, rfl, _, rfl⟩⟩
    have I1 : Inv X pins σ (upd H s.heap.objs.size (.tup [.int (i : Nat), x])) { s with heap := h2, toks := tk + 1 } :=
      I.turnedNew (ch := [e, it]) (fun b ob hb q => (sb.2 b fun z => hb (by simp [z])).trans (hk b ob (fun z => hb (by simp [z])) (fun z => hb (by simp [z])) q)) hf (Nat.le_refl _) new
    have e1 : ((i + 1 : Nat) : Int) = (i : Int) + 1 := by omega
    refine ⟨.ref s.heap.objs.size, _, I1, rfl, ⟨_, x, rfl, I.hok.fresh (Nat.le_refl _), rfl, fun ys hy => by rw [hq] at hy; cases hy; exact hx⟩, ⟨⟨x1, by rw [e1]; exact he'⟩, hst.1.at fun o q => (sb.2 it (Ne.symm hne)).trans q, hne⟩, fun b hb => ?_⟩
    have hb' : b < s.heap.objs.size := by rcases (show b = e ∨ b = it by simpa using hb) with rfl | rfl <;> assumption
    rw [upd_ne (Nat.ne_of_lt hb')]
    exact (hf b hb).1
  done := by
    intro X hP hw hK hc i pins s σ H E I hf st hg
    subst hP hw hK
    obtain ⟨⟨old, he⟩, hit, hne⟩ := st
    obtain ⟨xs, hq, hx⟩ := hg
    obtain ⟨its, rv, p, hz⟩ := I.tuple (SqT.of hq)
    have hA := I.ok.hd hc
    obtain ⟨f0, f1, f2, f3, f4, f5⟩ := hf it (by simp)
    have hl := rv.length
    have hT : s.TypeIs (.ref e) "enumerate" := ⟨_, he, rfl⟩
    unfold pyNext
    refine wpAny_bind (wpAny_attempt (wpAny_callSpecial?_slot (name := Str.ofString "__next__") hT PySem.F.slot_enumerate_next (wpAny_call_entry PySem.F.slot_enumerate_next hT PySem.F.entry_enumerate_next ?_ (PySem.F.args_enumerate_next_1 _))))
    show wpAny _ _ (field (.ref e) 2 >>= _) _ _ _
    refine wpAny_bind (wpAny_field he rfl (x := .ref it) rfl ?_)
    refine wpAny_bind (wpAny_nextOf_tuple_end (by simpa using hA) hit p (by simp; omega) fun h' y eb hy => ?_)
    obtain ⟨o, ho, hcl⟩ := hy
    refine wpAny_bind (wpAny_isInstance (T := "StopIteration") (b := true) ⟨o, ho, hcl⟩ isSubtype_stop ?_)
    exact wpAny_pure ⟨rfl, I.turned (t' := s.toks) (fun b o hb q => eb b o hb q) f0 f1 f3 f4 f5⟩
  self := fun A i s Q E st h => st.1.elim fun old he => wpAny_pyIter_enum he h
def iEnT (ta : TA) : TI := fun σ H R => ta σ H fun vs H1 => ∃ a xs, vs = [.ref a] ∧ H1 a = some (.tup xs) ∧ R (IeT a) H1
theorem pi_enumT {X : Cx} {e : Expr} {ta : TA} {p pos tpos : Pos} {elts : List Expr} {kk : Nat} (hg : Gl X "enumerate") (hm : X.mg "enumerate" = none) (ha : PA X [e] ta) (hs : starEach [e] X.env = [(false, eval e X.env)]) :
    PI X (.Tuple elts kk tpos) (.Call (.Name "enumerate" p) [e] [] pos) (iEnT ta) := by
  refine ⟨fun pins s σ H R I h => ?_⟩
  refine Call_ (ld_blt I hg hm boot_enumerate (PyProof.Rows.callWith_type1 (thn (ha.run pos pins s σ H _ I h) fun us s1 ⟨vs, H1, I1, r1, a, xs, e1, hq, q⟩ => ?_) hs rfl))
  subst e1
  obtain ⟨u, rfl, ru⟩ := vals1 r1
  cases ru
  obtain ⟨its, rv, p', hz⟩ := I1.tuple (SqT.of hq)
  refine enum1_call (begins_tuple a its.toArray) p' fun h' he hit hsz hk => wpAny_pyIter_enum he ?_
  have I2 : Inv X pins σ H1 { s1 with heap := h' } := I1.kept (t' := s1.toks) hk
  refine ⟨s1.heap.objs.size + 1, [s1.heap.objs.size + 1, s1.heap.objs.size], _, _, H1, rfl, I2, turn_eT a (s1.heap.objs.size + 1) s1.heap.objs.size, ⟨⟨.none, he⟩, ⟨_, hit, rfl, rfl⟩, Nat.succ_ne_self _⟩, fun b hb => ?_, q⟩
  have hb' : s1.heap.objs.size ≤ b := by rcases (show b = s1.heap.objs.size + 1 ∨ b = s1.heap.objs.size by simpa using hb) with rfl | rfl <;> omega
  exact I1.fpOk hb' (I1.hok.fresh hb')
end DL
end

section
set_option Elab.async false
set_option linter.all false
set_option maxRecDepth 100000
/-! DO: the pieces of an expression. -/
namespace DL
open PySem PySem.Spec PyProof.Rows L2

section
variable {X : Cx} {σ σ' : L2.St} {H H' H1 H2 : Hp} {U U' U1 U2 O : Pd} {l l' l1 l2 : Sl} {As As' As1 As2 : Nat → List Addr} {A B B1 B2 : List Addr} {x : TV} {v : V} {d : D} {os : List Od} {vs : List V}
variable {cl : Nat → List TV → RC} {rb : Nat → Nat → Bool}

theorem Core.mono {O' : Pd} (c : Core H U O l' σ H' U' As' B) (h : ∀ a, O a → O' a) : Core H U O' l' σ H' U' As' B :=
  ⟨c.sim, c.nd, c.ap, c.bm, fun a m => (c.src a m).imp (h a) fun z => z, fun a m => (c.sub a m).imp (h a) fun z => z, c.go.mono h⟩
theorem ow_nil : Ow As [] = Own As := by
  funext a
  exact propext ⟨fun h => h.elim (fun z => z) fun z => by simp at z, .inl⟩
theorem tO1.mono {r : Sl → RO} {Q Q' : VK} (h : tO1 r σ H Q) (k : ∀ v H', Q v H' → Q' v H') : tO1 r σ H Q' := by
  obtain ⟨U, l, As, S, o, l', e, q⟩ := h
  exact ⟨U, l, As, S, o, l', e, fun v H' a => k v H' (q v H' a)⟩
theorem tO.mono {r : Sl → RO} {Q Q' : List V → Hp → Prop} (h : tO r σ H Q) (k : ∀ v H', Q v H' → Q' v H') : tO r σ H Q' := by
  obtain ⟨U, l, As, S, o, l', e, q⟩ := h
  exact ⟨U, l, As, S, o, l', e, fun v H' a => k v H' (q v H' a)⟩
theorem tE_never {e : Expr} {r : Sl → RE} (h : ∀ l v l', r l ≠ .ok v l') : PE X e (tE r) :=
  ⟨fun _ _ σ H Q _ q => by obtain ⟨_, l, _, _, v, l', e, _⟩ := q; exact absurd e (h l v l')⟩
/-- a scalar result at hand -/
theorem tE_sc {Q : VK} (h : tE (fun l => .ok ⟨0, d⟩ l) σ H Q) {v : V} (f : ∀ U, Fz H U d v) : Q v H := by
  obtain ⟨U, l, As, S, x, l', e, k⟩ := h
  cases e
  exact k v H ⟨U, As, [], Core.same S fun _ h => h, rfl, f U⟩
theorem tE_bl {r : Sl → RE} {g : TV → Sl → RE} {Q : VK} (h : tE (fun l => (r l).bnd g) σ H Q) (hg : ∀ x l y l2, g x l = .ok y l2 → ∃ c, x.d = .bl c) :
    tE r σ H fun v H1 => ∃ c t, v = .bl c ∧ tE (g ⟨t, .bl c⟩) σ H1 Q := by
  obtain ⟨U, l, As, S, x, l', e, k⟩ := tE_seq h
  refine ⟨U, l, As, S, x, l', e, fun v H1 q => ?_⟩
  obtain ⟨U1, l1, As1, x1, A1, S1, rp, nd, ap, y, l2, e2, k2⟩ := k v H1 q
  obtain ⟨c, hc⟩ := hg _ _ _ _ e2
  obtain ⟨t, d⟩ := x1
  simp only at hc
  subst hc
  obtain ⟨rfl, rfl⟩ := rp.bl
  refine ⟨c, t, rfl, U1, l1, As1, S1, y, l2, e2, fun w H2 ⟨U2, As2, B, c2, r2⟩ => k2 w H2 ⟨U2, As2, B, ?_, r2⟩⟩
  rw [ow_nil]; exact c2
theorem tT_bl {r : Sl → RE} {g : TV → Sl → RE} {Q : VK} (h : tE (fun l => (r l).bnd g) σ H Q) (hg : ∀ x l y l2, g x l = .ok y l2 → ∃ c, x.d = .bl c) :
    tT (fun l => (r l).tst) σ H fun c H1 => ∃ t, tE (g ⟨t, .bl c⟩) σ H1 Q := by
  obtain ⟨U, l, As, S, x, l', e, k⟩ := h
  dsimp only at e
  cases h1 : r l with
  | no => rw [h1] at e; cases e
  | ok x1 l1 =>
    rw [h1] at e
    obtain ⟨c, hc⟩ := hg _ _ _ _ e
    obtain ⟨t, d⟩ := x1
    simp only at hc
    subst hc
    refine ⟨U, l, As, S, c, l1, by dsimp only; rw [h1]; rfl, fun H1 ⟨U1, As1, c1⟩ => ⟨t, U1, l1, As1, c1.sim, x, l', e, fun w H2 ⟨U2, As2, B, c2, r2⟩ => k w H2 ⟨U2, As2, B, c1.after (by rw [ow_nil]; exact c2), r2⟩⟩⟩
theorem tT.mono {r : Sl → RB} {Q Q' : Bool → Hp → Prop} (h : tT r σ H Q) (k : ∀ v H', Q v H' → Q' v H') : tT r σ H Q' := by
  obtain ⟨U, l, As, S, o, l', e, q⟩ := h
  exact ⟨U, l, As, S, o, l', e, fun H' a => k _ H' (q H' a)⟩
/-- two tests, one after the other -/
theorem tT_seq {r : Sl → RB} {g : Bool → Sl → RB} {Q : Bool → Hp → Prop} (h : tT (fun l => match r l with | .ok b l' => g b l' | .no => .no) σ H Q) : tT r σ H fun c H1 => tT (g c) σ H1 Q := by
  obtain ⟨U, l, As, S, b, l', e, k⟩ := h
  dsimp only at e
  cases h1 : r l with
  | no => rw [h1] at e; cases e
  | ok c l1 =>
    rw [h1] at e
    exact ⟨U, l, As, S, c, l1, h1, fun H1 ⟨U1, As1, c1⟩ => ⟨U1, l1, As1, c1.sim, b, l', e, fun H2 ⟨U2, As2, c2⟩ => k H2 ⟨U2, As2, c1.after (by rw [ow_nil]; exact c2)⟩⟩⟩

/-! ### and, or, not, if -/
theorem and_ok {e : Expr} {es : List Expr} {il : E} {r : Es} {f : E} {pos : Pos} (ha : PE X e (tE (evE cl rb il))) (hb : PE X (.BoolOp .And es pos) (tE (evAnd cl rb (.cons f r)))) (hn : es ≠ []) :
    PE X (.BoolOp .And (e :: es) pos) (tE (evAnd cl rb (.cons il (.cons f r)))) := by
  match es, hn with
  | b :: rest, _ =>
    refine pe_imp (pe_and ha hb) fun σ H Q q => ?_
    simp only [evAnd] at q
    obtain ⟨U, l, As, S, x, l', e, k⟩ := tE_bl q fun x l y l2 h => by
      obtain ⟨t, d⟩ := x
      cases d <;> simp only at h <;> first | exact ⟨_, rfl⟩ | cases h
    refine ⟨U, l, As, S, x, l', e, fun v H1 a => ?_⟩
    obtain ⟨c, t, rfl, q⟩ := k v H1 a
    refine ⟨c, rfl, ?_⟩
    cases c with
    | true => exact q
    | false => exact tE_sc q fun U => .bl false
theorem and_last {e : Expr} {il : E} {pos : Pos} (ha : PE X e (tE (evE cl rb il))) : PE X (.BoolOp .And [e] pos) (tE (evAnd cl rb (.cons il .nil))) := by
  refine pe_imp (pe_one ha) fun σ H Q q => ?_
  simp only [evAnd] at q
  obtain ⟨U, l, As, S, x, l', e, k⟩ := tE_bl q fun x l y l2 h => by
    obtain ⟨t, d⟩ := x
    cases d <;> simp only at h <;> first | exact ⟨_, rfl⟩ | cases h
  refine ⟨U, l, As, S, x, l', e, fun v H1 a => ?_⟩
  obtain ⟨c, t, rfl, q⟩ := k v H1 a
  exact tE_sc q fun U => .bl c
theorem or_ok {e : Expr} {es : List Expr} {il : E} {r : Es} {f : E} {pos : Pos} (ha : PE X e (tE (evE cl rb il))) (hb : PE X (.BoolOp .Or es pos) (tE (evOr cl rb (.cons f r)))) (hn : es ≠ []) :
    PE X (.BoolOp .Or (e :: es) pos) (tE (evOr cl rb (.cons il (.cons f r)))) := by
  match es, hn with
  | b :: rest, _ =>
    refine pe_imp (pe_or ha hb) fun σ H Q q => ?_
    simp only [evOr] at q
    obtain ⟨U, l, As, S, x, l', e, k⟩ := tE_bl q fun x l y l2 h => by
      obtain ⟨t, d⟩ := x
      cases d <;> simp only at h <;> first | exact ⟨_, rfl⟩ | cases h
    refine ⟨U, l, As, S, x, l', e, fun v H1 a => ?_⟩
    obtain ⟨c, t, rfl, q⟩ := k v H1 a
    refine ⟨c, rfl, ?_⟩
    cases c with
    | false => exact q
    | true => exact tE_sc q fun U => .bl true
theorem or_last {e : Expr} {il : E} {pos : Pos} (ha : PE X e (tE (evE cl rb il))) : PE X (.BoolOp .Or [e] pos) (tE (evOr cl rb (.cons il .nil))) := by
  refine pe_imp (pe_one ha) fun σ H Q q => ?_
  simp only [evOr] at q
  obtain ⟨U, l, As, S, x, l', e, k⟩ := tE_bl q fun x l y l2 h => by
    obtain ⟨t, d⟩ := x
    cases d <;> simp only at h <;> first | exact ⟨_, rfl⟩ | cases h
  refine ⟨U, l, As, S, x, l', e, fun v H1 a => ?_⟩
  obtain ⟨c, t, rfl, q⟩ := k v H1 a
  exact tE_sc q fun U => .bl c
theorem not_ok {e : Expr} {il : E} {pos : Pos} (ha : PE X e (tE (evE cl rb il))) : PE X (.UnaryOp .Not e pos) (tE (evE cl rb (.not il))) := by
  refine pe_imp (pe_not ha) fun σ H Q q => ?_
  simp only [evE] at q
  obtain ⟨U, l, As, S, x, l', e, k⟩ := tE_bl q fun x l y l2 h => by
    obtain ⟨t, d⟩ := x
    cases d <;> simp only at h <;> first | exact ⟨_, rfl⟩ | cases h
  refine ⟨U, l, As, S, x, l', e, fun v H1 a => ?_⟩
  obtain ⟨c, t, rfl, q⟩ := k v H1 a
  exact ⟨c, rfl, tE_sc q fun U => .bl _⟩
theorem ite_ok {c a b : Expr} {ic ia ib : E} {pos : Pos} (hc : PT X c (tT fun l => (evE cl rb ic l).tst)) (ha : PE X a (tE (evE cl rb ia))) (hb : PE X b (tE (evE cl rb ib))) : PE X (.IfExp c a b pos) (tE (evE cl rb (.ite ic ia ib))) := by
  refine pe_imp (pe_ifExp hc ha hb) fun σ H Q q => ?_
  simp only [evE] at q
  refine tT.mono (tT_bl q fun x l y l2 h => by
    obtain ⟨t, d⟩ := x
    cases d <;> simp only at h <;> first | exact ⟨_, rfl⟩ | cases h) fun c H1 ⟨t, z⟩ => ?_
  cases c <;> exact z
/-! ### .. as tests -/
theorem not_t {e : Expr} {il : E} {pos : Pos} (ha : PT X e (tT fun l => (evE cl rb il l).tst)) : PT X (.UnaryOp .Not e pos) (tT fun l => (evE cl rb (.not il) l).tst) := by
  refine pt_imp (pt_not ha) fun σ H Q q => ?_
  obtain ⟨U, l, As, S, b, l', e, k⟩ := q
  simp only [evE] at e
  obtain ⟨t, e⟩ := tst_some e
  cases h1 : evE cl rb il l with
  | no => rw [h1] at e; cases e
  | ok x1 l1 =>
    rw [h1] at e
    obtain ⟨t1, d1⟩ := x1
    cases d1 with
    | bl bb =>
      simp only [RE.bnd] at e
      cases e
      exact ⟨U, l, As, S, _, _, by dsimp only; rw [h1]; rfl, k⟩
    | _ => simp only [RE.bnd] at e; cases e
theorem andT_ok {e : Expr} {es : List Expr} {il : E} {r : Es} {f : E} {pos : Pos} (ha : PT X e (tT fun l => (evE cl rb il l).tst)) (hb : PW X (.BoolOp .And es pos) (tT fun l => (evAnd cl rb (.cons f r) l).tst)) (hn : es ≠ []) :
    PW X (.BoolOp .And (e :: es) pos) (tT fun l => (evAnd cl rb (.cons il (.cons f r)) l).tst) := by
  match es, hn with
  | b :: rest, _ =>
    have h := pw_and (pos := pos) ha hb
    refine ⟨fun wh pins s σ H Q I q => h.run wh pins s σ H Q I ?_⟩
    have q' : tT (fun l => match (evE cl rb il l).tst with | .ok b l' => (if b then (evAnd cl rb (.cons f r) l').tst else .ok false l') | .no => .no) σ H Q := by
      obtain ⟨U, l, As, S, b, l', e, k⟩ := q
      refine ⟨U, l, As, S, b, l', ?_, k⟩
      simp only [evAnd] at e
      dsimp only
      cases h1 : evE cl rb il l with
      | no => rw [h1] at e; cases e
      | ok x1 l1 =>
        rw [h1] at e
        obtain ⟨t1, d1⟩ := x1
        cases d1 with
        | bl b => cases b <;> exact e
        | _ => simp only [RE.bnd, RE.tst] at e; cases e
    refine tT.mono (tT_seq q') fun c H1 z => ?_
    cases c with
    | true => exact z
    | false =>
      obtain ⟨U, l, As, S, b, l', e, k⟩ := z
      cases e
      exact k H1 ⟨U, As, Core.same S fun _ h => h⟩
theorem andT_last {e : Expr} {il : E} {pos : Pos} (ha : PT X e (tT fun l => (evE cl rb il l).tst)) : PW X (.BoolOp .And [e] pos) (tT fun l => (evAnd cl rb (.cons il .nil) l).tst) := by
  have h := pw_and1 (pos := pos) ha
  refine ⟨fun wh pins s σ H Q I q => h.run wh pins s σ H Q I ?_⟩
  obtain ⟨U, l, As, S, b, l', e, k⟩ := q
  refine ⟨U, l, As, S, b, l', ?_, k⟩
  simp only [evAnd] at e
  dsimp only
  cases h1 : evE cl rb il l with
  | no => rw [h1] at e; cases e
  | ok x1 l1 =>
    rw [h1] at e
    obtain ⟨t1, d1⟩ := x1
    cases d1 <;> simp only [RE.bnd, RE.tst] at e <;> first | exact e | cases e
theorem orT_ok {e : Expr} {es : List Expr} {il : E} {r : Es} {f : E} {pos : Pos} (ha : PT X e (tT fun l => (evE cl rb il l).tst)) (hb : PW X (.BoolOp .Or es pos) (tT fun l => (evOr cl rb (.cons f r) l).tst)) (hn : es ≠ []) :
    PW X (.BoolOp .Or (e :: es) pos) (tT fun l => (evOr cl rb (.cons il (.cons f r)) l).tst) := by
  match es, hn with
  | b :: rest, _ =>
    have h := pw_or (pos := pos) ha hb
    refine ⟨fun wh pins s σ H Q I q => h.run wh pins s σ H Q I ?_⟩
    have q' : tT (fun l => match (evE cl rb il l).tst with | .ok b l' => (if b then .ok true l' else (evOr cl rb (.cons f r) l').tst) | .no => .no) σ H Q := by
      obtain ⟨U, l, As, S, b, l', e, k⟩ := q
      refine ⟨U, l, As, S, b, l', ?_, k⟩
      simp only [evOr] at e
      dsimp only
      cases h1 : evE cl rb il l with
      | no => rw [h1] at e; cases e
      | ok x1 l1 =>
        rw [h1] at e
        obtain ⟨t1, d1⟩ := x1
        cases d1 with
        | bl b => cases b <;> exact e
        | _ => simp only [RE.bnd, RE.tst] at e; cases e
    refine tT.mono (tT_seq q') fun c H1 z => ?_
    cases c with
    | false => exact z
    | true =>
      obtain ⟨U, l, As, S, b, l', e, k⟩ := z
      cases e
      exact k H1 ⟨U, As, Core.same S fun _ h => h⟩
theorem orT_last {e : Expr} {il : E} {pos : Pos} (ha : PT X e (tT fun l => (evE cl rb il l).tst)) : PW X (.BoolOp .Or [e] pos) (tT fun l => (evOr cl rb (.cons il .nil) l).tst) := by
  have h := pw_or1 (pos := pos) ha
  refine ⟨fun wh pins s σ H Q I q => h.run wh pins s σ H Q I ?_⟩
  obtain ⟨U, l, As, S, b, l', e, k⟩ := q
  refine ⟨U, l, As, S, b, l', ?_, k⟩
  simp only [evOr] at e
  dsimp only
  cases h1 : evE cl rb il l with
  | no => rw [h1] at e; cases e
  | ok x1 l1 =>
    rw [h1] at e
    obtain ⟨t1, d1⟩ := x1
    cases d1 <;> simp only [RE.bnd, RE.tst] at e <;> first | exact e | cases e

/-! ### chains -/
theorem mid_b {o : Od} {B : List Addr} (h : Ods H U σ [o] [v] B) (hm : midOk [o] = true) : B = [] := by
  cases h with
  | cons h1 h2 =>
    cases h2
    cases h1 with
    | r e => rfl
    | v r =>
      rename_i x
      obtain ⟨t, d⟩ := x
      have : t = 0 := by simpa [midOk] using hm
      subst this
      rw [r.1]; rfl
theorem tChain_of {o o2 : COp} {a b c : E} {Q : VK} (h : tE (evE cl rb (.chain o o2 a b c)) σ H Q) :
    tChain (fun x y H Q => ∃ σ, FO (applyO (.cmp o)) [x, y] σ H Q) (fun x y H Q => ∃ σ, FO (applyO (.cmp o2)) [x, y] σ H Q) (tO1 (opd a (evE cl rb a))) (tO1 (opd b (evE cl rb b))) (tO1 (opd c (evE cl rb c))) σ H Q := by
  obtain ⟨U, l, As, S, x, l', e, k⟩ := h
  simp only [evE] at e
  cases h1 : opd a (evE cl rb a) l with
  | no => rw [h1] at e; cases e
  | ok os1 l1 =>
    rw [h1] at e
    obtain ⟨o1, rfl⟩ := opd_one h1
    simp only [RO.bnd] at e
    cases h2 : opd b (evE cl rb b) l1 with
    | no => rw [h2] at e; cases e
    | ok os2 l2 =>
      rw [h2] at e
      obtain ⟨p2, rfl⟩ := opd_one h2
      simp only at e
      split at e
      case isFalse => cases e
      case isTrue hm =>
        cases h3 : applyO (.cmp o) [o1, p2] l2 with
        | no => simp only [List.cons_append, List.nil_append] at e; rw [h3] at e; cases e
        | ok y l3 =>
          simp only [List.cons_append, List.nil_append] at e
          rw [h3] at e
          simp only [RE.bnd] at e
          refine ⟨U, l, As, S, o1, l1, h1, fun v1 H1 ⟨U1, As1, B1, c1, r1⟩ => ⟨U1, l1, As1, c1.sim, p2, l2, h2, fun v2 H2 ⟨U2, As2, B2, c2, r2⟩ => ?_⟩⟩
          have hb2 := mid_b r2 hm
          subst hb2
          have r12 := (r1.over c2.go c1.sim.ownU c1.ap).append r2
          have c12 := c1.step c2
          refine ⟨σ, U2, l2, As2, _, _, ⟨c12.sim, c12.nd, c12.ap, r12⟩, y, l3, h3, fun z H3 ⟨U3, As3, A3, c3, r3⟩ => ?_⟩
          obtain ⟨t, d⟩ := y
          have at2 : At H2 U2 l2 σ As2 (B1 ++ []) ([o1] ++ [p2]) ([v1] ++ [v2]) := ⟨c12.sim, c12.nd, c12.ap, r12⟩
          cases d with
          | bl cc =>
            obtain ⟨rfl, rfl⟩ := r3.bl
            refine ⟨cc, rfl, ?_⟩
            have c123 := c12.after c3
            cases cc with
            | false =>
              simp only at e
              cases e
              exact k _ _ ⟨U3, As3, [], c123, rfl, .bl false⟩
            | true =>
              simp only at e
              cases h4 : opd c (evE cl rb c) l3 with
              | no => rw [h4] at e; cases e
              | ok os3 l4 =>
                rw [h4] at e
                obtain ⟨p3, rfl⟩ := opd_one h4
                simp only [List.cons_append, List.nil_append] at e
                refine ⟨U3, l3, As3, c3.sim, p3, l4, h4, fun w H4 ⟨U4, As4, B4, c4, r4⟩ => ?_⟩
                have r2' : Ods H4 U4 σ [p2] [v2] [] := (r2.over c3.go at2.owU (by simp)).over c4.go c3.sim.ownU (by simp)
                have r24 := r2'.append r4
                exact ⟨σ, U4, l4, As4, _, _, ⟨c4.sim, by simpa using c4.nd, by simpa using c4.ap, r24⟩, x, l', e, fun u H5 ⟨U5, As5, A5, c5, r5⟩ => k u H5 ⟨U5, As5, A5, (c123.step c4).after (by simpa using c5), r5⟩⟩
          | _ => simp only at e; cases e
end
end DL
end

section
set_option Elab.async false
set_option linter.all false
set_option maxRecDepth 100000
/-! DP: slices, reversals, types, sources of items, calls. -/
namespace DL
open PySem PySem.Spec PyProof.Rows L2

section
variable {X : Cx} {σ σ' : L2.St} {H H' H1 H2 : Hp} {U U' U1 U2 O : Pd} {l l' l1 l2 : Sl} {As As' As1 As2 : Nat → List Addr} {A B B1 B2 : List Addr} {x : TV} {v : V} {d : D} {os : List Od} {vs : List V}
variable {cl : Nat → List TV → RC} {rb : Nat → Nat → Bool}

/-! ### slices -/
def tP (r : Sl → RP) : TO := fun σ H Q => ∃ U l As, Sim H U l σ As ∧ ∃ i l', r l = .ok i l' ∧ ∀ H', (∃ U' As', Core H U (Own As) l' σ H' U' As' []) → Q i H'
theorem po_no {r : Sl → RE} : PO X none (tP (partR false r)) :=
  ⟨fun pins s σ H Q I q => po_none.run pins s σ H Q I (by
    obtain ⟨U, l, As, S, i, l', e, k⟩ := q
    cases e
    exact k H ⟨U, As, Core.same S fun _ h => h⟩)⟩
theorem po_yes {e : Expr} {r : Sl → RE} (h : PE X e (tE r)) : PO X (some e) (tP (partR true r)) :=
  ⟨fun pins s σ H Q I q => (po_some h).run pins s σ H Q I (by
    obtain ⟨U, l, As, S, i, l', e, k⟩ := q
    unfold partR at e
    rw [if_pos rfl] at e
    cases h1 : r l with
    | no => rw [h1] at e; cases e
    | ok x l1 =>
      rw [h1] at e
      obtain ⟨t, d⟩ := x
      cases d with
      | int j =>
        simp only at e
        cases e
        refine ⟨U, l, As, S, _, _, h1, fun v H' ⟨U', As', A, c, rp⟩ => ?_⟩
        obtain ⟨f, rfl⟩ := rp.imm rfl
        exact ⟨j, f.int_inv, k H' ⟨U', As', c⟩⟩
      | _ => simp only at e; cases e)⟩
theorem tSl_of {hl hh : Bool} {a lo hi : E} {Q : VK} (h : tE (evE cl rb (.slc hl hh a lo hi)) σ H Q) :
    tSl (fun x i j H Q => ∃ σ, FS i j [x] σ H Q) (tO1 (opd a (evE cl rb a))) (tP (partR hl (evE cl rb lo))) (tP (partR hh (evE cl rb hi))) σ H Q := by
  obtain ⟨U, l, As, S, x, l', e, k⟩ := h
  simp only [evE] at e
  cases h1 : opd a (evE cl rb a) l with
  | no => rw [h1] at e; cases e
  | ok os1 l1 =>
    rw [h1] at e
    obtain ⟨o1, rfl⟩ := opd_one h1
    simp only [RO.bnd] at e
    cases h2 : partR hl (evE cl rb lo) l1 with
    | no => rw [h2] at e; cases e
    | ok i l2 =>
      rw [h2] at e
      simp only at e
      cases h3 : partR hh (evE cl rb hi) l2 with
      | no => rw [h3] at e; cases e
      | ok j l3 =>
        rw [h3] at e
        simp only at e
        refine ⟨U, l, As, S, o1, l1, h1, fun v1 H1 ⟨U1, As1, B1, c1, r1⟩ => ⟨U1, l1, As1, c1.sim, i, l2, h2, fun H2 ⟨U2, As2, c2⟩ => ⟨U2, l2, As2, c2.sim, j, l3, h3, fun H3 ⟨U3, As3, c3⟩ => ?_⟩⟩⟩
        have c12 := c1.step c2
        have r2 := r1.over c2.go c1.sim.ownU c1.ap
        have c := c12.step c3
        have r3 := r2.over c3.go c2.sim.ownU fun a m => c12.ap a (List.mem_append_left _ m)
        refine ⟨σ, U3, l3, As3, B1, [o1], ⟨c.sim, by simpa using c.nd, by simpa using c.ap, r3⟩, x, l', e, fun u H5 ⟨U5, As5, A5, c5, r5⟩ => k u H5 ⟨U5, As5, A5, c.after (by simpa using c5), r5⟩⟩
/-! ### x[::-1] -/
theorem pe_revB {e : Expr} {a : E} {k : Nat} {p1 p2 p3 pos : Pos} (he : PE X e (tO1 (opd a (evE cl rb a)))) :
    PE X (.Subscript e (.Slice none none (some (.UnaryOp .USub (.Constant (.int 1) k p1) p2)) p3) pos) (tE (evE cl rb (.op .rev (.cons a .nil)))) := by
  refine ⟨fun pins s σ H Q I h => ?_⟩
  simp only [evE] at h
  refine Subscript_ (thn (he.run pins s σ H _ I (rd_one h)) fun v s1 ⟨x, H1, I1, r1, q1⟩ => ?_)
  have hst : PO X (some (.UnaryOp .USub (.Constant (.int 1) k p1) p2)) (tPart (tUn (rU fun i => .int (-i)) (tC (.int 1)))) := po_some (pe_un un_neg pe_int)
  refine wpAny_Slice (thn (po_none.run pins s1 σ H1 (fun o H2 => o = none ∧ H2 = H1) I1 ⟨rfl, rfl⟩) fun vl s2 ⟨l2, H2, I2, pl, el, e2⟩ => ?_)
  subst el e2
  refine thn (po_none.run pins s2 σ H2 (fun o H3 => o = none ∧ H3 = H2) I2 ⟨rfl, rfl⟩) fun vu s3 ⟨u, H3, I3, pu, eu, e3⟩ => ?_
  subst eu e3
  refine thn (hst.run pins s3 σ H3 (fun o H4 => o = some (-1) ∧ H4 = H3) I3 ⟨1, rfl, -1, rfl, rfl, rfl⟩) fun vs s4 ⟨o, H4, I4, ps, eo, e4⟩ => ?_
  subst eo e4
  have I5 : Inv X pins σ H4 { s4 with heap := s4.heap.push { cls := .type "slice", data := .fields #[vl, vu, vs] } } := I4.kept (t' := s4.toks) fun b ob q => Heap.get?_push_of_some _ q
  obtain ⟨U, l, As, B, os, at1, y, lz, ey, k1⟩ := q1
  obtain ⟨o, rfl⟩ := at1.ods.one
  have h1 := one_den at1.den
  have i1 := at1.imm 0 o x rfl rfl
  have el1 := fun U' As' S' hu hB => at1.els (U' := U') (As' := As') S' hu hB 0 o x rfl rfl
  simp only [applyO] at ey
  generalize o.d l = d1 at *
  cases h1 <;> simp only at ey <;> try (cases ey; done)
  case tup b1 v1 d1 h1 n1 f1 =>
    cases ey
    cases r1
    obtain ⟨its, r, ht, hz⟩ := I5.tuple (.inl (.inl h1))
    have hlen := r.length
    obtain ⟨_, w1, q1, g1, m1, t1⟩ := (i1 rfl).tup_inv
    cases q1
    rw [h1] at g1; cases g1
    show wpAny (model X.prog X.w) X.A (subscriptTail e (.Slice none none (some (.UnaryOp .USub (.Constant (.int 1) k p1) p2)) p3) (.ref b1) (.ref s4.heap.objs.size)) (EP X pins σ Q) X.xe { s4 with heap := s4.heap.push { cls := .type "slice", data := .fields #[vl, vu, vs] } }
    refine tail_any (ops := [.ref b1, .ref s4.heap.objs.size]) ht.typeIs (PyProof.Rows.slot_tuple_getitem.lookup) ?_ (by with_unfolding_all rfl)
    refine getItem_tuple_rev ht (Heap.IsSliceOf.new _ vl vu vs) pl pu ps ?_ (by rw [List.size_toArray]; omega)
    have new : ObjOk X.prog X.w (upd H4 (s4.heap.push { cls := .type "slice", data := .fields #[vl, vu, vs] }).objs.size (.tup v1.reverse)) ((s4.heap.push { cls := .type "slice", data := .fields #[vl, vu, vs] }).push { cls := .type "tuple", data := .seq its.toArray.toList.reverse.toArray }) (s4.heap.push { cls := .type "slice", data := .fields #[vl, vu, vs] }).objs.size (.tup v1.reverse) :=
      ⟨by rw [List.length_reverse]; exact hz, _, by simpa using r.reverse, ⟨_, Heap.get?_push_size _ rfl, rfl, _, rfl⟩⟩
    exact ⟨.ref _, _, I5.laid (t' := s4.toks) (fun b ob q => Heap.get?_push_of_some _ q) (Nat.le_refl _) new, rfl, FO.newT at1 (I5.hok.fresh (Nat.le_refl _)) (fun U' As' S' hu hB => t1.rev.sub hu) k1⟩
  case lst b1 v1 d1 h1 n1 f1 =>
    cases ey
    cases r1
    obtain ⟨its, r, ht, hz⟩ := I5.list (.inl h1)
    have hlen := r.length
    show wpAny (model X.prog X.w) X.A (subscriptTail e (.Slice none none (some (.UnaryOp .USub (.Constant (.int 1) k p1) p2)) p3) (.ref b1) (.ref s4.heap.objs.size)) (EP X pins σ Q) X.xe { s4 with heap := s4.heap.push { cls := .type "slice", data := .fields #[vl, vu, vs] } }
    refine tail_any (ops := [.ref b1, .ref s4.heap.objs.size]) ht.isList.typeIs (PySem.slot_list_getitem.lookup) ?_ (by with_unfolding_all rfl)
    refine wpAny_getItem_list_slice ht.isList (Heap.IsSliceOf.new _ vl vu vs) pl pu ps (by decide) ?_ (by rw [List.size_toArray]; omega)
    rw [PySem.W.krv_pick]
    refine ⟨.ref _, _, I5.laid (t' := s4.toks) (o := .lst v1.reverse) (fun b ob q => Heap.get?_push_of_some _ q) (Nat.le_refl _) ?_, rfl, FO.newL at1 (I5.hok.fresh (Nat.le_refl _)) (fun U' As' S' hu hB => ?_) k1⟩
    · exact ⟨by rw [List.length_reverse]; exact hz, _, 0, r.reverse, Heap.get?_push_size _ rfl⟩
    · obtain ⟨_, w1, q1, g1, t1⟩ := el1 U' As' S' hu hB d1 rfl
      cases q1
      have z1 : w1 = v1 := by
        rcases g1 with ⟨q, _⟩ | ⟨_, q⟩
        · cases q
        · exact I4.list_inj (.inl q) (.inl h1)
      subst z1
      exact t1.rev

/-! ### isinstance -/
def tyS : Ty → String
  | .int => "int"
  | .bool => "bool"
  | .str => "str"
  | .tuple => "tuple"
  | .list => "list"
  | .dict => "dict"
theorem Fz.ty {K : PySem.W.Frag} {ty : Ty} (h : Fz H U d v) (hd : ∀ ks, d ≠ .dct true ks) : ∃ t, TyX K H v (.type t) ∧ kitB t (tyS ty) = some (tyD ty d) := by
  cases h with
  | non => exact ⟨"NoneType", .base .non, by cases ty <;> exact (show kitB "NoneType" _ = some false by decide +kernel)⟩
  | bl b => exact ⟨"bool", .base (.bl b), by cases ty <;> first | exact (show kitB "bool" _ = some true by decide +kernel) | exact (show kitB "bool" _ = some false by decide +kernel)⟩
  | int b => exact ⟨"int", .base (.int b), by cases ty <;> first | exact (show kitB "int" _ = some true by decide +kernel) | exact (show kitB "int" _ = some false by decide +kernel)⟩
  | str b => exact ⟨"str", .base (.str b), by cases ty <;> first | exact (show kitB "str" _ = some true by decide +kernel) | exact (show kitB "str" _ = some false by decide +kernel)⟩
  | tup e _ _ => exact ⟨"tuple", .base (.tup e), by cases ty <;> first | exact (show kitB "tuple" _ = some true by decide +kernel) | exact (show kitB "tuple" _ = some false by decide +kernel)⟩
  | lst e _ _ =>
    refine ⟨"list", ?_, by cases ty <;> first | exact (show kitB "list" _ = some true by decide +kernel) | exact (show kitB "list" _ = some false by decide +kernel)⟩
    rcases e with e | ⟨o, e⟩
    · exact .base (.lst e)
    · exact .base (.frz e)
  | dk e _ _ =>
    refine ⟨"dict", ?_, by cases ty <;> first | exact (show kitB "dict" _ = some true by decide +kernel) | exact (show kitB "dict" _ = some false by decide +kernel)⟩
    rcases e with e | ⟨o, e⟩
    · exact .base (.dK e)
    · exact .fDict e
  | dt e _ _ => exact absurd rfl (hd _)
theorem isi_rd {K : PySem.W.Frag} {ty : Ty} {Q : VK} (h : FO (applyO (.isi ty)) [v] σ H Q) : rIsi K [v, .ty (tyS ty)] H Q := by
  obtain ⟨U, l, As, B, os, a, y, l2, e, k⟩ := h
  obtain ⟨o, rfl⟩ := a.ods.one
  have h1 := one_den a.den
  simp only [applyO] at e
  have hd : ∀ ks, o.d l ≠ .dct true ks := fun ks z => by rw [z] at e; cases e
  obtain ⟨t, ht, hk⟩ := h1.ty (K := K) (ty := ty) hd
  refine ⟨v, _, _, _, _, rfl, .ty _, ht, kit_ty hk, ?_⟩
  have e2 : RE.ok ⟨0, .bl (tyD ty (o.d l))⟩ l = RE.ok y l2 := by
    generalize o.d l = dd at *
    cases dd with
    | dct tk ks => cases tk with
      | true => cases e
      | false => exact e
    | _ => exact e
  cases e2
  exact FO.sc a (.bl _) k
/-! ### sources of items -/
theorem bI_some {r : RO} {f : List Od → Sl → RI} {xs : List D} {l' : Sl} (h : r.bI f = .ok xs l') : ∃ os l1, r = .ok os l1 ∧ f os l1 = .ok xs l' := by
  cases r with
  | no => cases h
  | ok os l1 => exact ⟨os, l1, rfl, h⟩
theorem At.walk {J : L2.It} {xs : List D} {R : L2.It → Hp → Prop} (a : At H1 U1 l1 σ As1 B os vs) (c : Core H U O l1 σ H1 U1 As1 B) (k : ∀ J H', (∃ U' As', Core H U O (lowO 0 l1 os) σ H' U' As' [] ∧ Wk J H' U' xs) → R J H')
    (w : ∀ U' As', Sim H1 U' (lowO 0 l1 os) σ As' → FzL H1 U' (os.map (Od.d l1)) vs → Wk J H1 U' xs) : R J H1 := by
  obtain ⟨U', As', S', hu, hU, hA, hB⟩ := a.lows 0 (.inl rfl)
  exact k J H1 ⟨U', As', c.after (Core.lowd S' hu hU fun q h => .inl (hA q h)), w U' As' S' (a.froz S' hu hB)⟩
theorem pi_seq {tg e : Expr} {il : E} (h : PE X e (tO1 (opd il (evE cl rb il)))) : PI X tg e (tI (evI cl rb (.seq il))) := by
  refine ⟨fun pins s σ H R I q => ?_⟩
  obtain ⟨U, l, As, S, xs, l', e1, k⟩ := q
  simp only [evI] at e1
  obtain ⟨os, l1, h1, e1⟩ := bI_some e1
  obtain ⟨o, rfl⟩ := opd_one h1
  dsimp only at e1
  cases hk : o.d l1 <;> rw [hk] at e1 <;> simp only [seqOf] at e1 <;> try (cases e1; done)
  · cases e1
    refine (pi_tup h).run pins s σ H R I ⟨U, l, As, S, o, l1, h1, fun v H1 ⟨U1, As1, B, c, r⟩ => ?_⟩
    have a : At H1 U1 l1 σ As1 B [o] [v] := ⟨c.sim, c.nd, c.ap, r⟩
    have d1 := one_den a.den
    rw [hk] at d1
    obtain ⟨b, ws, rfl, hb, _, _⟩ := d1.tup_inv
    refine ⟨b, rfl, ⟨ws, .of hb⟩, a.walk c k fun U' As' S' f => ?_⟩
    have f1 := one_den f
    rw [hk] at f1
    obtain ⟨b', ws', q, hb', n, f2⟩ := f1.tup_inv
    cases q
    rw [hb] at hb'; cases hb'
    exact wk_tup hb n f2
  · cases e1
    refine (pi_list h).run pins s σ H R I ⟨U, l, As, S, o, l1, h1, fun v H1 ⟨U1, As1, B, c, r⟩ => ?_⟩
    have a : At H1 U1 l1 σ As1 B [o] [v] := ⟨c.sim, c.nd, c.ap, r⟩
    have d1 := one_den a.den
    rw [hk] at d1
    obtain ⟨b, ws, rfl, hb, _, _⟩ := d1.lst_inv
    refine ⟨b, rfl, ⟨ws, .inl hb⟩, a.walk c k fun U' As' S' f => ?_⟩
    have f1 := one_den f
    rw [hk] at f1
    obtain ⟨b', ws', q, hb', n, f2⟩ := f1.lst_inv
    cases q
    exact wk_lst hb' n f2
theorem enumL_get : ∀ {ds : List D} {k i : Nat} {d : D}, (enumL k ds)[i]? = some d → ∃ y, ds[i]? = some y ∧ d = .tup [.int ((k + i : Nat) : Int), y]
  | [], _, _, _, e => by simp [enumL] at e
  | x :: r, k, 0, d, e => by simp [enumL] at e; subst e; exact ⟨x, rfl, rfl⟩
  | x :: r, k, i + 1, d, e => by
    obtain ⟨y, h1, h2⟩ := enumL_get (ds := r) (k := k + 1) (i := i) (by simpa [enumL] using e)
    exact ⟨y, by simpa using h1, by rw [h2, show k + 1 + i = k + (i + 1) by omega]⟩
theorem enumL_len : ∀ (ds : List D) (k : Nat), (enumL k ds).length = ds.length
  | [], _ => rfl
  | x :: r, k => by rw [enumL, List.length_cons, List.length_cons, enumL_len r]
/-- a pair that has just been laid -/
theorem Fz.pair {H2 : Hp} {T : Addr} {w1 w2 : V} {d1 d2 : D} (hT : H2 T = none) (nU : ¬ U T) (f1 : Fz H2 U d1 w1) (f2 : Fz H2 U d2 w2) : Fz (upd H2 T (.tup [w1, w2])) U (.tup [d1, d2]) (.ref T) :=
  .tup upd_same nU ((FzL.cons f1 (.cons f2 .nil)).up hT fun _ h => .inr h)
theorem wk_enT {a : Addr} {ws : List V} {ds : List D} (h : H a = some (.tup ws)) (n : ¬ U a) (f : FzL H U ds ws) : Wk (IeT a) H U (enumL 0 ds) := by
  intro H2 U2 hk hu hm
  have h2 := hk _ _ h n
  have f2 := FzL.keep hk hu _ _ f
  refine ⟨⟨ws, h2, by rw [enumL_len, f.length]; exact Nat.le_refl _⟩, fun i d e => ?_⟩
  obtain ⟨y, ey, rfl⟩ := enumL_get e
  obtain ⟨w, e1, e2⟩ := f2.get ey
  refine ⟨⟨ws, w, h2, e1⟩, ?_⟩
  rintro x Hb ⟨T, z, rfl, hT, rfl, hz⟩
  have := hz ws h2
  rw [e1] at this; cases this
  refine ⟨.inr ⟨T, _, hT, rfl⟩, ?_⟩
  rw [Nat.zero_add]
  exact Fz.pair hT (fun q => hm T q hT) (.int _) e2
theorem wk_enL {K : PySem.W.Frag} {a : Addr} {ws : List V} {ds : List D} (h : Rd H a (.lst ws)) (n : ¬ U a) (f : FzL H U ds ws) : Wk (Ite K a) H U (enumL 0 ds) := by
  intro H2 U2 hk hu hm
  have h2 : SqL K H2 a ws := .inl (Rd.keep h fun o e => hk _ o e n)
  have f2 := FzL.keep hk hu _ _ f
  refine ⟨⟨ws, h2, by rw [enumL_len, f.length]; exact Nat.le_refl _⟩, fun i d e => ?_⟩
  obtain ⟨y, ey, rfl⟩ := enumL_get e
  obtain ⟨w, e1, e2⟩ := f2.get ey
  refine ⟨⟨ws, w, h2, e1⟩, ?_⟩
  rintro x Hb ⟨T, z, rfl, hT, rfl, hz⟩
  have := hz ws h2
  rw [e1] at this; cases this
  refine ⟨.inr ⟨T, _, hT, rfl⟩, ?_⟩
  rw [Nat.zero_add]
  exact Fz.pair hT (fun q => hm T q hT) (.int _) e2
theorem pa_one {e : Expr} {t : TE} (h : PE X e t) (hs : starEach [e] X.env = [(false, eval e X.env)]) : PA X [e] (tCons t tNil) := pa_cons h pa_nil hs
theorem pi_en {tpos pos p : Pos} {elts : List Expr} {kk : Nat} {e : Expr} {il : E} (hg : Gl X "enumerate") (hm : X.mg "enumerate" = none) (h : PE X e (tO1 (opd il (evE cl rb il)))) (hs : starEach [e] X.env = [(false, eval e X.env)]) :
    PI X (.Tuple elts kk tpos) (.Call (.Name "enumerate" p) [e] [] pos) (tI (evI cl rb (.enum il))) := by
  refine ⟨fun pins s σ H R I q => ?_⟩
  obtain ⟨U, l, As, S, xs, l', e1, k⟩ := q
  simp only [evI] at e1
  obtain ⟨os, l1, h1, e1⟩ := bI_some e1
  obtain ⟨o, rfl⟩ := opd_one h1
  dsimp only at e1
  cases hk : o.d l1 <;> rw [hk] at e1 <;> simp only [seqOf] at e1 <;> try (cases e1; done)
  · cases e1
    refine (pi_enumT hg hm (pa_one h hs) hs).run pins s σ H R I ⟨U, l, As, S, o, l1, h1, fun v H1 ⟨U1, As1, B, c, r⟩ => ?_⟩
    have a : At H1 U1 l1 σ As1 B [o] [v] := ⟨c.sim, c.nd, c.ap, r⟩
    have d1 := one_den a.den
    rw [hk] at d1
    obtain ⟨b, ws, rfl, hb, _, _⟩ := d1.tup_inv
    refine ⟨b, ws, rfl, hb, a.walk c k fun U' As' S' f => ?_⟩
    have f1 := one_den f
    rw [hk] at f1
    obtain ⟨b', ws', q, hb', n, f2⟩ := f1.tup_inv
    cases q
    rw [hb] at hb'; cases hb'
    exact wk_enT hb n f2
  · cases e1
    refine (pi_enum hg hm (pa_one h hs) hs).run pins s σ H R I ⟨U, l, As, S, o, l1, h1, fun v H1 ⟨U1, As1, B, c, r⟩ => ?_⟩
    have a : At H1 U1 l1 σ As1 B [o] [v] := ⟨c.sim, c.nd, c.ap, r⟩
    have d1 := one_den a.den
    rw [hk] at d1
    obtain ⟨b, ws, rfl, hb, _, _⟩ := d1.lst_inv
    refine ⟨b, ws, rfl, .inl hb, a.walk c k fun U' As' S' f => ?_⟩
    have f1 := one_den f
    rw [hk] at f1
    obtain ⟨b', ws', q, hb', n, f2⟩ := f1.lst_inv
    cases q
    exact wk_enL hb' n f2
theorem zipL_get : ∀ {xs ys : List D} {i : Nat} {d : D}, (zipL xs ys)[i]? = some d → ∃ x y, xs[i]? = some x ∧ ys[i]? = some y ∧ d = .tup [x, y]
  | x :: xs, y :: ys, 0, d, e => by simp [zipL] at e; subst e; exact ⟨x, y, rfl, rfl, rfl⟩
  | x :: xs, y :: ys, i + 1, d, e => by
    obtain ⟨p, q, h1, h2, h3⟩ := zipL_get (xs := xs) (ys := ys) (i := i) (by simpa [zipL] using e)
    exact ⟨p, q, by simpa using h1, by simpa using h2, h3⟩
  | [], ys, _, _, e => by simp [zipL] at e
  | x :: xs, [], _, _, e => by simp [zipL] at e
theorem zipL_len : ∀ (xs ys : List D), (zipL xs ys).length = min xs.length ys.length
  | x :: xs, y :: ys => by rw [zipL, List.length_cons, List.length_cons, List.length_cons, zipL_len xs]; omega
  | [], ys => by simp [zipL]
  | x :: xs, [] => by simp [zipL]
theorem wk_zipT {K : PySem.W.Frag} {a b : Addr} {vs ws : List V} {xs ys : List D} (h : H a = some (.tup vs)) (n : ¬ U a) (f : FzL H U xs vs) (h' : H b = some (.tup ws)) (n' : ¬ U b) (f' : FzL H U ys ws) : Wk (RZ.ItzT K a b) H U (zipL xs ys) := by
  intro H2 U2 hk hu hm
  have h2 : SqT K H2 a vs := .of (hk _ _ h n)
  have h2' : SqT K H2 b ws := .of (hk _ _ h' n')
  have f2 := FzL.keep hk hu _ _ f
  have f2' := FzL.keep hk hu _ _ f'
  refine ⟨⟨vs, ws, h2, h2', by rw [zipL_len, f.length, f'.length]; omega⟩, fun i d e => ?_⟩
  obtain ⟨x, y, ex, ey, rfl⟩ := zipL_get e
  obtain ⟨w1, e1, e2⟩ := f2.get ex
  obtain ⟨w2, e1', e2'⟩ := f2'.get ey
  refine ⟨⟨vs, ws, w1, w2, h2, h2', e1, e1'⟩, ?_⟩
  rintro v Hb ⟨T, z, z', rfl, hT, rfl, hz, hz'⟩
  have := hz vs h2
  rw [e1] at this; cases this
  have := hz' ws h2'
  rw [e1'] at this; cases this
  exact ⟨.inr ⟨T, _, hT, rfl⟩, Fz.pair hT (fun q => hm T q hT) e2 e2'⟩
theorem wk_zipL {K : PySem.W.Frag} {a b : Addr} {vs ws : List V} {xs ys : List D} (h : Rd H a (.lst vs)) (n : ¬ U a) (f : FzL H U xs vs) (h' : Rd H b (.lst ws)) (n' : ¬ U b) (f' : FzL H U ys ws) : Wk (Itz K a b) H U (zipL xs ys) := by
  intro H2 U2 hk hu hm
  have h2 : SqL K H2 a vs := .inl (Rd.keep h fun o e => hk _ o e n)
  have h2' : SqL K H2 b ws := .inl (Rd.keep h' fun o e => hk _ o e n')
  have f2 := FzL.keep hk hu _ _ f
  have f2' := FzL.keep hk hu _ _ f'
  refine ⟨⟨vs, ws, h2, h2', by rw [zipL_len, f.length, f'.length]; omega⟩, fun i d e => ?_⟩
  obtain ⟨x, y, ex, ey, rfl⟩ := zipL_get e
  obtain ⟨w1, e1, e2⟩ := f2.get ex
  obtain ⟨w2, e1', e2'⟩ := f2'.get ey
  refine ⟨⟨vs, ws, w1, w2, h2, h2', e1, e1'⟩, ?_⟩
  rintro v Hb ⟨T, z, z', rfl, hT, rfl, hz, hz'⟩
  have := hz vs h2
  rw [e1] at this; cases this
  have := hz' ws h2'
  rw [e1'] at this; cases this
  exact ⟨.inr ⟨T, _, hT, rfl⟩, Fz.pair hT (fun q => hm T q hT) e2 e2'⟩
theorem pi_zp {tpos pos p : Pos} {elts : List Expr} {kk : Nat} {e f : Expr} {ia ib : E} (hg : Gl X "zip") (hm : X.mg "zip" = none) (ha : PE X e (tO1 (opd ia (evE cl rb ia)))) (hb : PE X f (tO1 (opd ib (evE cl rb ib))))
    (hs : starEach [e, f] X.env = (false, eval e X.env) :: starEach [f] X.env) (hs2 : starEach [f] X.env = [(false, eval f X.env)]) :
    PI X (.Tuple elts kk tpos) (.Call (.Name "zip" p) [e, f] [] pos) (tI (evI cl rb (.zip ia ib))) := by
  refine ⟨fun pins s σ H R I q => (RZ.pi_zipA hg hm (pa_cons ha (pa_one hb hs2) hs) hs (by rw [hs2]; rfl)).run pins s σ H R I ?_⟩
  obtain ⟨U, l, As, S, xs, l', e1, k⟩ := q
  simp only [evI] at e1
  obtain ⟨os, l2, h12, e1⟩ := bI_some e1
  cases h1 : opd ia (evE cl rb ia) l with
  | no => rw [h1] at h12; cases h12
  | ok os1 l1 =>
    rw [h1] at h12
    obtain ⟨o1, rfl⟩ := opd_one h1
    simp only [RO.bO] at h12
    cases h2 : opd ib (evE cl rb ib) l1 with
    | no => rw [h2] at h12; cases h12
    | ok os2 l3 =>
      rw [h2] at h12
      obtain ⟨o2, rfl⟩ := opd_one h2
      simp only [List.cons_append, List.nil_append] at h12
      cases h12
      dsimp only at e1
      refine ⟨U, l, As, S, o1, l1, h1, fun v1 H1 ⟨U1, As1, B1, c1, r1⟩ => ⟨U1, l1, As1, c1.sim, o2, l2, h2, fun v2 H2 ⟨U2, As2, B2, c2, r2⟩ => ?_⟩⟩
      have c := c1.step c2
      have a : At H2 U2 l2 σ As2 (B1 ++ B2) [o1, o2] [v1, v2] := ⟨c.sim, c.nd, c.ap, (r1.over c2.go c1.sim.ownU c1.ap).append r2⟩
      obtain ⟨d1, d2⟩ := two_den a.den
      cases hk : o1.d l2 <;> cases hk' : o2.d l2 <;> rw [hk, hk'] at e1 <;> simp only at e1 <;> try (cases e1; done)
      · cases e1
        rw [hk] at d1; rw [hk'] at d2
        obtain ⟨b, ws, rfl, hb, _, _⟩ := d1.tup_inv
        obtain ⟨b', ws', rfl, hb', _, _⟩ := d2.tup_inv
        refine ⟨b, b', ws, ws', rfl, .inr ⟨.of hb, .of hb', a.walk c k fun U' As' S' f => ?_⟩⟩
        obtain ⟨f1, f2⟩ := two_den f
        rw [hk] at f1; rw [hk'] at f2
        obtain ⟨_, _, q, hz, n, f1⟩ := f1.tup_inv
        cases q
        rw [hb] at hz; cases hz
        obtain ⟨_, _, q, hz, n', f2⟩ := f2.tup_inv
        cases q
        rw [hb'] at hz; cases hz
        exact wk_zipT hb n f1 hb' n' f2
      · cases e1
        rw [hk] at d1; rw [hk'] at d2
        obtain ⟨b, ws, rfl, hb, _, _⟩ := d1.lst_inv
        obtain ⟨b', ws', rfl, hb', _, _⟩ := d2.lst_inv
        refine ⟨b, b', ws, ws', rfl, .inl ⟨.inl hb, .inl hb', a.walk c k fun U' As' S' f => ?_⟩⟩
        obtain ⟨f1, f2⟩ := two_den f
        rw [hk] at f1; rw [hk'] at f2
        obtain ⟨_, _, q, hz, n, f1⟩ := f1.lst_inv
        cases q
        obtain ⟨_, _, q, hz', n', f2⟩ := f2.lst_inv
        cases q
        exact wk_zipL hz n f1 hz' n' f2
theorem ints_of {ds : List D} {is : List Int} (a : At H U l σ As B os vs) (h : os.map (Od.d l) = is.map D.int) : vs = is.map V.int := by
  have f := a.den
  rw [h] at f
  clear h a
  induction is generalizing vs with
  | nil => cases f; rfl
  | cons i r ih =>
    rw [List.map_cons] at f
    cases f with
    | cons h1 h2 => rw [List.map_cons, ih h2, h1.int_inv]
theorem pi_rng1 {tg e : Expr} {pos p : Pos} {ils : Es} (hg : Gl X "range") (hm : X.mg "range" = none) (h : PA X [e] (tO (evO cl rb ils))) (hs : starEach [e] X.env = [(false, eval e X.env)]) :
    PI X tg (.Call (.Name "range" p) [e] [] pos) (tI fun l => (evO cl rb ils l).bI fun os l' => match os.map (Od.d l') with | [.int n] => if decide (-(2 ^ 62) ≤ n ∧ n < 2 ^ 62) then .ok (rngL 0 n) l' else .no | _ => .no) := by
  refine ⟨fun pins s σ H R I q => (pi_range1 hg hm h hs).run pins s σ H R I ?_⟩
  obtain ⟨U, l, As, S, xs, l', e1, k⟩ := q
  obtain ⟨os, l1, h1, e1⟩ := bI_some e1
  refine ⟨U, l, As, S, os, l1, h1, fun vs H1 ⟨U1, As1, B, c, r⟩ => ?_⟩
  have a : At H1 U1 l1 σ As1 B os vs := ⟨c.sim, c.nd, c.ap, r⟩
  split at e1
  · rename_i n hn
    split at e1
    case isTrue hd =>
      cases e1
      have hd := of_decide_eq_true hd
      refine ⟨n, ints_of (ds := []) (is := [n]) a hn, hd.1, hd.2, k _ _ ⟨U1, As1, c.after (Core.same c.sim fun _ h => .inl h), ?_⟩⟩
      have w := wk_rng (lo := 0) (hi := n) (H := H1) (U := U1)
      simpa using w
    case isFalse => cases e1
  · cases e1
theorem pi_rng2 {tg e f : Expr} {pos p : Pos} {ils : Es} (hg : Gl X "range") (hm : X.mg "range" = none) (h : PA X [e, f] (tO (evO cl rb ils))) (hs : starEach [e, f] X.env = [(false, eval e X.env), (false, eval f X.env)]) (hs2 : starEach [f] X.env = [(false, eval f X.env)]) :
    PI X tg (.Call (.Name "range" p) [e, f] [] pos) (tI fun l => (evO cl rb ils l).bI fun os l' => match os.map (Od.d l') with
      | [.int a, .int b] => if decide (-(2 ^ 62) ≤ a ∧ a < 2 ^ 62 ∧ -(2 ^ 62) ≤ b ∧ b < 2 ^ 62) then .ok (rngL a b) l' else .no | _ => .no) := by
  refine ⟨fun pins s σ H R I q => (pi_range2 hg hm h hs hs2).run pins s σ H R I ?_⟩
  obtain ⟨U, l, As, S, xs, l', e1, k⟩ := q
  obtain ⟨os, l1, h1, e1⟩ := bI_some e1
  refine ⟨U, l, As, S, os, l1, h1, fun vs H1 ⟨U1, As1, B, c, r⟩ => ?_⟩
  have a : At H1 U1 l1 σ As1 B os vs := ⟨c.sim, c.nd, c.ap, r⟩
  split at e1
  · rename_i m n hn
    split at e1
    case isTrue hd =>
      cases e1
      have hd := of_decide_eq_true hd
      exact ⟨m, n, ints_of (ds := []) (is := [m, n]) a hn, hd, k _ _ ⟨U1, As1, c.after (Core.same c.sim fun _ h => .inl h), wk_rng⟩⟩
    case isFalse => cases e1
  · cases e1
end
end DL
end

section
set_option Elab.async false
set_option linter.all false
set_option maxRecDepth 100000
/-! DQ: comprehensions, calls. -/
namespace DL
open PySem PySem.Spec PyProof.Rows L2

section
variable {X : Cx} {σ σ' : L2.St} {H H' H1 H2 H4 : Hp} {U U' U1 U2 U4 O P : Pd} {l l' l1 l2 lc : Sl} {As As' As1 As2 As4 : Nat → List Addr} {A A4 B B1 B2 : List Addr} {x : TV} {v y : V} {d : D} {os : List Od} {vs : List V} {tg : List Nat}
variable {cl : Nat → List TV → RC} {rb : Nat → Nat → Bool}

theorem Sim.over (S : Sim H U l σ As) (g : Go H U P H' U') (hP : ∀ a, P a → U a) (hA : ∀ a, P a → ¬ Own As a) (um : ∀ a, U' a → H' a ≠ none) : Sim H' U' l σ As :=
  S.keep (fun a o e n => g.keep a o e fun q => n (hP a q)) (fun a h n q => n ((g.uk a h fun z => n (hP a z)).mp q)) (fun a h => ⟨fun o e => g.keep a o e fun q => hA a q h, (g.uk a (S.own h).2 fun q => hA a q h).mpr (S.own h).1⟩) um
/-- what is done to a value at hand -/
theorem Core.hand (c : Core H U O l σ H1 U1 As1 B1) (g : Go H1 U1 (fun a => a ∈ B1) H2 U2) (um : ∀ a, U2 a → H2 a ≠ none) (nd : B2.Nodup) (hB : ∀ a ∈ B2, a ∈ B1 ∨ H1 a = none) (bm : ∀ a ∈ B2, U2 a ∧ H2 a ≠ none) : Core H U O l σ H2 U2 As1 B2 := by
  have hn : ∀ a, H1 a = none → H a = none := fun a h => Classical.byContradiction fun n => c.go.dom a n h
  refine ⟨c.sim.over g (fun a m => (c.bm a m).1) (fun a m => c.ap a m) um, nd, fun a m q => ?_, bm, fun a m => ?_, c.sub, c.go.trans g fun a m => c.src a m⟩
  · rcases hB a m with z | z
    · exact c.ap a z q
    · exact (c.sim.own q).2 z
  · exact (hB a m).elim (c.src a) fun z => .inr (hn a z)
theorem RepCs.snoc : ∀ {ds : List D} {ws : List V} {Cs : List (List Addr)}, RepCs H U ds ws Cs → RepC H U d v A → RepCs H U (ds ++ [d]) (ws ++ [v]) (Cs ++ [A])
  | [], _, _, .nil, r => .cons r .nil
  | _ :: _, _, _, .cons h1 h2, r => .cons h1 (RepCs.snoc h2 r)
theorem Rep.c {t : Nat} (r : Rep H U ⟨t, d⟩ v A) (h : d.isM = false ∨ t = 1) : RepC H U d v A := by
  by_cases hm : d.isM = false
  · obtain ⟨h1, h2⟩ := r.imm hm
    exact .inl ⟨hm, h2, h1⟩
  · have ht := h.resolve_left hm
    subst ht
    obtain ⟨a, h1, h2⟩ := r
    exact .inr ⟨a, h1, h2⟩
/-- a value is put behind a list at hand -/
theorem lc_put {dp : Bool} {acc : List D} {D0 : Addr} (c : Core H U O lc σ H4 U4 As4 (A ++ A4)) (rD : Rep H4 U4 ⟨if dp then 2 else 1, .lst acc⟩ (.ref D0) A) (ry : Rep H4 U4 x y A4) (hx : (!dp || !x.d.isM || x.t == 1) = true) :
    ∃ ws, H4 D0 = some (.lst ws) ∧ ws.length = acc.length ∧ ∃ U5 A5, Core H U O lc σ (upd H4 D0 (.lst (ws ++ [y]))) U5 As4 A5 ∧ Rep (upd H4 D0 (.lst (ws ++ [y]))) U5 ⟨if dp then 2 else 1, .lst (acc ++ [x.d])⟩ (.ref D0) A5 := by
  obtain ⟨nA, nA4, dj⟩ := List.nodup_append.mp c.nd
  cases dp with
  | false =>
    obtain ⟨a, rfl, ws, e, h1, h2, h3⟩ := rD
    cases e
    have hD4 : D0 ∉ A4 := fun m => dj D0 (by simp) D0 m rfl
    have hu : ∀ b, (U4 b ∧ b ∉ A4) → U4 b := fun b h => h.1
    have kp : ∀ a o, H4 a = some o → a ≠ D0 → upd H4 D0 (.lst (ws ++ [y])) a = some o := fun a o e n => by rw [upd_ne n]; exact e
    have dm : ∀ a, H4 a ≠ none → upd H4 D0 (.lst (ws ++ [y])) a ≠ none := fun a e => by
      by_cases q : a = D0
      · rw [q, upd_same]; exact fun z => nomatch z
      · rw [upd_ne q]; exact e
    refine ⟨ws, h1, h3.length.symm, fun a => U4 a ∧ a ∉ A4, [D0], c.hand ⟨fun a o e n => kp a o e fun q => n (by simp [q]), fun a e n => ⟨fun h => h.1, fun h => ⟨h, fun m => n (List.mem_append_right _ m)⟩⟩, dm⟩ (fun a h => dm a (c.sim.um a h.1)) (by simp) (fun a m => .inl (List.mem_append_left _ m)) (fun a m => ?_), D0, rfl, ws ++ [y], rfl, upd_same, ⟨h2, hD4⟩, ?_⟩
    · obtain rfl : a = D0 := by simpa using m
      exact ⟨⟨h2, hD4⟩, by rw [upd_same]; exact fun z => nomatch z⟩
    · refine (FzL.keep (fun a o e n => kp a o e fun q => n (q ▸ h2)) (fun a _ n z => n z.1) _ _ h3).append (.cons ?_ .nil)
      exact Fz.keep (fun a o e n => kp a o e fun q => n (q ▸ ⟨h2, hD4⟩)) (fun a _ n z => n z) _ _ (ry.froz hu fun a m z => z.2 m)
  | true =>
    obtain ⟨a, ws, Cs, e, h1, h2, rfl, h3⟩ := rD
    cases e
    have hDC : D0 ∉ Cs.flatten := (List.nodup_cons.mp nA).1
    have hD4 : D0 ∉ A4 := fun m => dj D0 (by simp) D0 m rfl
    have kp : ∀ a o, H4 a = some o → a ≠ D0 → upd H4 D0 (.lst (ws ++ [y])) a = some o := fun a o e n => by rw [upd_ne n]; exact e
    have dm : ∀ a, H4 a ≠ none → upd H4 D0 (.lst (ws ++ [y])) a ≠ none := fun a e => by
      by_cases q : a = D0
      · rw [q, upd_same]; exact fun z => nomatch z
      · rw [upd_ne q]; exact e
    have hk : ∀ a o, H4 a = some o → ¬ U4 a → upd H4 D0 (.lst (ws ++ [y])) a = some o := fun a o e n => kp a o e fun q => n (q ▸ h2)
    have ek : ∀ a, a ∈ D0 :: (Cs ++ [A4]).flatten ↔ a ∈ D0 :: Cs.flatten ++ A4 := fun a => by simp
    obtain ⟨t, dd⟩ := x
    have rc := ry.c (d := dd) (t := t) (by
      simp only [Bool.not_true, Bool.false_or, Bool.or_eq_true, Bool.not_eq_true', beq_iff_eq] at hx
      exact hx)
    refine ⟨ws, h1, h3.length.symm, U4, D0 :: (Cs ++ [A4]).flatten, c.hand ⟨fun a o e n => kp a o e fun q => n (by simp [q]), fun a e n => Iff.rfl, dm⟩ (fun a h => dm a (c.sim.um a h)) ?_ (fun a m => .inl ((ek a).mp m)) (fun a m => ?_), D0, ws ++ [y], Cs ++ [A4], rfl, upd_same, h2, rfl, ?_⟩
    · have := c.nd
      simpa using this
    · have := c.bm a ((ek a).mp m)
      exact ⟨this.1, dm a this.2⟩
    · exact (h3.keep hk (fun _ _ n z => n z) (fun a m o e => kp a o e fun q => hDC (q ▸ m)) fun a _ z => z).snoc (rc.keep hk (fun _ _ n z => n z) (fun a m o e => kp a o e fun q => hD4 (q ▸ m)) fun a _ z => z)
open Classical in
/-- the names of a comprehension are as they were -/
theorem rest_core (c0 : Core H U O l1 σ H1 U1 As1 []) (c : Core H1 U1 (Own (hid As1 tg)) (clr lc tg) (wipe σ tg) H2 U2 As' A) : ∃ As2, Core H U O (rest l1 lc tg) σ H2 U2 As2 A := by
  have S1 := c0.sim
  have hl : lc.length = σ.length := by have := c.sim.len; rw [clr_len, wipe_length] at this; exact this
  have hl1 := S1.len
  have hO : ∀ a, Own (hid As1 tg) a → Own As1 a := fun a ⟨i, m⟩ => ⟨i, (hid_in m).2⟩
  have hn : ∀ i a, i ∈ tg → a ∈ As1 i → ¬ Own (hid As1 tg) a := fun i a hi m ⟨j, q⟩ => by
    obtain ⟨nj, q⟩ := hid_in q
    exact S1.dj i j (fun e => nj (e ▸ hi)) a m q
  have hx : ∀ i a, i ∈ tg → a ∈ As1 i → ∀ Z : Prop, (Own (hid As1 tg) a ∨ H1 a = none) → Z := fun i a hi m Z q => q.elim (fun z => absurd z (hn i a hi m)) fun z => absurd z (S1.own ⟨i, m⟩).2
  let As2 : Nat → List Addr := fun i => if i ∈ tg then As1 i else As' i
  have e1 : ∀ i, i ∈ tg → As2 i = As1 i := fun i h => if_pos h
  have e2 : ∀ i, i ∉ tg → As2 i = As' i := fun i h => if_neg h
  refine ⟨As2, ?_⟩
  have main : Core H1 U1 (Own As1) (rest l1 lc tg) σ H2 U2 As2 A := by
    refine ⟨⟨by rw [rest_len]; exact hl, fun i x hx' => ?_, fun i => ?_, fun i j hij a m m2 => ?_, fun i hi => ?_, c.sim.um⟩, c.nd, fun a m ⟨i, q⟩ => ?_, c.bm, fun a m => (c.src a m).imp (hO a) fun z => z, fun a ⟨i, q⟩ => ?_, c.go.mono hO⟩
    · rw [rest_get] at hx'
      by_cases hi : i ∈ tg
      · rw [e1 i hi]
        by_cases hlt : i < lc.length
        · rw [if_pos ⟨hi, hlt⟩] at hx'
          cases hx'
          refine (S1.rep i _ (gt_at (by omega))).imp (fun h => h) fun ⟨w, h1, r⟩ => ⟨w, h1, r.over c.go (fun a q => (S1.own (hO a q)).1) fun a m => hn i a hi m⟩
        · rw [if_neg fun z => hlt z.2, List.getElem?_eq_none (by omega)] at hx'
          cases hx'
      · rw [if_neg fun z => hi z.1] at hx'
        rw [e2 i hi]
        have := c.sim.rep i x (by rw [clr_get, if_neg fun z => hi z.1]; exact hx')
        rw [wipe_get, if_neg fun z => hi z.1] at this
        exact this
    · by_cases hi : i ∈ tg
      · rw [e1 i hi]; exact S1.nd i
      · rw [e2 i hi]; exact c.sim.nd i
    · by_cases hi : i ∈ tg <;> by_cases hj : j ∈ tg
      · rw [e1 i hi] at m; rw [e1 j hj] at m2; exact S1.dj i j hij a m m2
      · rw [e1 i hi] at m; rw [e2 j hj] at m2; exact hx i a hi m _ (c.sub a ⟨j, m2⟩)
      · rw [e2 i hi] at m; rw [e1 j hj] at m2; exact hx j a hj m2 _ (c.sub a ⟨i, m⟩)
      · rw [e2 i hi] at m; rw [e2 j hj] at m2; exact c.sim.dj i j hij a m m2
    · rw [rest_len] at hi
      by_cases ht : i ∈ tg
      · rw [e1 i ht]; exact S1.out i (by omega)
      · rw [e2 i ht]; exact c.sim.out i (by rw [clr_len]; exact hi)
    · by_cases hi : i ∈ tg
      · rw [e1 i hi] at q; exact hx i a hi q _ (c.src a m)
      · rw [e2 i hi] at q; exact c.ap a m ⟨i, q⟩
    · by_cases hi : i ∈ tg
      · rw [e1 i hi] at q; exact .inl ⟨i, q⟩
      · rw [e2 i hi] at q; exact (c.sub a ⟨i, q⟩).imp (hO a) fun z => z
  simpa using c0.step main
theorem tLc_of {dp : Bool} {it : It} {cs : Es} {e : E} {Q : VK} (hN : ∀ i ∈ tg, i < σ.length) (h : tE (evE cl rb (.lc dp tg it cs e)) σ H Q) :
    tLc (tI (evI cl rb it)) (gTg X tg) (tT (evC cl rb cs)) (tE (evE cl rb e)) tg σ H Q := by
  obtain ⟨U, l, As, S, x, lf, e1, k⟩ := h
  simp only [evE] at e1
  cases h1 : evI cl rb it l with
  | no => rw [h1] at e1; cases e1
  | ok xs l1 =>
    rw [h1] at e1
    simp only [RI.bnd] at e1
    generalize hF : (fun (x : D) l' => evE cl rb e l') = F at e1
    generalize hT : (fun x l' => match bindT (clr l' tg) tg x with | some l2 => evC cl rb cs l2 | none => RB.no) = T at e1
    cases h2 : lcR F dp T xs [] l1 with
    | no => rw [h2] at e1; cases e1
    | ok v l2 =>
      rw [h2] at e1
      simp only [RE.bnd] at e1
      cases e1
      refine ⟨U, l, As, S, xs, l1, h1, fun J H1 ⟨U1, As1, c0, w⟩ D0 hD => ?_⟩
      have S1w := c0.sim.wipe (tg := tg)
      have hU1 : ∀ a, Own (hid As1 tg) a → U1 a := S1w.ownU
      refine ⟨fun i m Hh => m = xs.length - i ∧ i ≤ xs.length ∧ ∃ acc lc, lcR F dp T (xs.drop i) acc lc = .ok x l2 ∧ ∃ U' As' A, Core H1 U1 (Own (hid As1 tg)) (clr lc tg) (wipe σ tg) Hh U' As' A ∧ Rep Hh U' ⟨if dp then 2 else 1, .lst acc⟩ (.ref D0) A,
        ⟨xs.length, by simp, Nat.zero_le _, [], l1, h2, _, _, [D0], (Core.new S1w (fun _ h => h) (fun q h _ => h) (fun q h => h) hD).1, ?_⟩, ?_⟩
      · cases dp with
        | false => exact ⟨D0, rfl, [], rfl, upd_same, .inl rfl, .nil⟩
        | true => exact ⟨D0, [], [], rfl, upd_same, .inl rfl, rfl, .nil⟩
      · rintro i m Hh ⟨rfl, hi, acc, lc, hr, U', As', A, c, rD⟩
        obtain ⟨hstop, hitem⟩ := w Hh U' (fun a o e n => c.go.keep a o e fun q => n (hU1 a q)) (fun a e n q => n ((c.go.uk a e fun z => n (hU1 a z)).mp q)) c.sim.um
        by_cases hii : i = xs.length
        · subst hii
          refine .inl ⟨hstop, ?_⟩
          rw [List.drop_length] at hr
          simp only [lcR] at hr
          cases hr
          obtain ⟨As2, c2⟩ := rest_core c0 c
          exact k _ _ ⟨U', As2, A, c2, rD⟩
        · have hlt : i < xs.length := by omega
          rw [List.drop_eq_getElem_cons hlt] at hr
          obtain ⟨go, hy⟩ := hitem i xs[i] (List.getElem?_eq_getElem hlt)
          refine .inr ⟨go, _, fun H' w => ⟨xs.length - (i + 1), by omega, w⟩, fun xv Hb hyl => ?_⟩
          obtain ⟨hb, fz⟩ := hy xv Hb hyl
          have ext : Core H1 U1 (Own (hid As1 tg)) (clr lc tg) (wipe σ tg) Hb U' As' A ∧ Rep Hb U' ⟨if dp then 2 else 1, .lst acc⟩ (.ref D0) A := by
            rcases hb with rfl | ⟨T, o, hT, rfl⟩
            · exact ⟨c, rD⟩
            · have dd := (Core.new (O := Own As') (o := .tup o) c.sim (fun _ h => h) (fun q h _ => h) (fun q h => h) hT).2
              exact ⟨by simpa using c.step dd, rD.over dd.go c.sim.ownU c.ap⟩
          obtain ⟨cb, rb'⟩ := ext
          simp only [lcR] at hr
          have hTx : T xs[i] lc = match bindT (clr lc tg) tg xs[i] with | some l2 => evC cl rb cs l2 | none => RB.no := by rw [← hT]
          rw [hTx] at hr
          have hlw := S1w.len
          cases hbt : bindT (clr lc tg) tg xs[i] with
          | none => rw [hbt] at hr; cases hr
          | some lb =>
            rw [hbt] at hr
            simp only at hr
            have hln : ∀ j ∈ tg, j < (clr lc tg).length := fun j hj => by have := hN j hj; rw [cb.sim.len, wipe_length]; exact this
            refine bind_ok cb.sim fz hbt hln fun σ2 As2 S2 eq2 len2 own2 => ⟨?_, ?_⟩
            · refine wipe_same (fun j nj => ?_) (by rw [len2, wipe_length])
              rw [eq2 j nj, wipe_get, if_neg fun z => nj z.1]
            · have hw2 : wipe σ2 tg = wipe σ tg := wipe_same (fun j nj => by rw [eq2 j nj, wipe_get, if_neg fun z => nj z.1]) (by rw [len2, wipe_length])
              cases hc : evC cl rb cs lb with
              | no => rw [hc] at hr; cases hr
              | ok b lcc =>
                rw [hc] at hr
                refine ⟨U', lb, As2, S2, b, lcc, hc, fun H3 ⟨U3, As3, c3⟩ => ?_⟩
                have cA := (cb.step (Core.same S2 own2)).step c3
                rw [List.append_nil, List.append_nil] at cA
                have rA := rb'.over c3.go S2.ownU fun a m q => cb.ap a m (own2 a q)
                cases b with
                | false =>
                  simp only at hr
                  dsimp only
                  rw [if_neg Bool.false_ne_true]
                  refine ⟨rfl, by omega, acc, lcc, hr, U3, hid As3 tg, A, ?_, rA⟩
                  have z := cA.step (Core.same (O := Own As3) (cA.sim.wipe (tg := tg)) fun a ⟨i, m⟩ => ⟨i, (hid_in m).2⟩)
                  rw [hw2, List.append_nil] at z
                  exact z
                | true =>
                  simp only at hr
                  dsimp only
                  rw [if_pos rfl]
                  have hFx : F xs[i] lcc = evE cl rb e lcc := by rw [← hF]
                  rw [hFx] at hr
                  cases he : evE cl rb e lcc with
                  | no => rw [he] at hr; cases hr
                  | ok vv l4 =>
                    rw [he] at hr
                    simp only at hr
                    split at hr
                    case isFalse => cases hr
                    case isTrue hok =>
                      rw [Bool.and_eq_true] at hok
                      refine ⟨U3, lcc, As3, c3.sim, vv, l4, he, fun y H4 ⟨U4, As4, A4, c4, ry⟩ => ?_⟩
                      have cB := cA.step c4
                      have rB := rA.over c4.go c3.sim.ownU fun a m => cA.ap a m
                      have cC := cB.step (Core.same (O := Own As4) (cB.sim.wipe (tg := tg)) fun a ⟨i, m⟩ => ⟨i, (hid_in m).2⟩)
                      rw [hw2, List.append_nil] at cC
                      obtain ⟨ws, hws, hlen, U5, A5, cD, rD'⟩ := lc_put cC rB ry hok.2
                      have hsm := small_le hok.1
                      exact ⟨ws, hws, by omega, rfl, by omega, acc ++ [vv.d], l4, hr, U5, _, A5, cD, rD'⟩
end
end DL
end

section
set_option Elab.async false
set_option linter.all false
set_option maxRecDepth 100000
/-! DR: calls of defs. -/
namespace DL
open PySem PySem.Spec PyProof.Rows L2

section
variable {X : Cx} {σ σ' : L2.St} {H H' H1 H2 H4 : Hp} {U U' U1 U2 U4 O P : Pd} {l l' l1 l2 lc : Sl} {As As' As1 As2 As4 : Nat → List Addr} {A A4 B B1 B2 : List Addr} {x : TV} {v y : V} {d : D} {os : List Od} {vs : List V} {tg : List Nat}
variable {cl : Nat → List TV → RC} {rb : Nat → Nat → Bool} {G : Pg} {n f : Nat}

theorem evCall_none (h : G.P f = none) (args : List TV) : evCall G.P n f args = .no := by
  cases n with
  | zero => rfl
  | succ n => unfold evCall; rw [h]
theorem takeO_len : ∀ (os : List Od) (l : Sl), (takeO l os).length = os.length
  | [], _ => rfl
  | .v _ :: r, l => by rw [takeO, List.length_cons, List.length_cons, takeO_len r]
  | .r _ :: r, l => by rw [takeO, List.length_cons, List.length_cons, takeO_len r]
theorem evCall_len {fd : FD} (h : G.P f = some fd) {args : List TV} {v : TV} {as : List TV} (e : evCall G.P n f args = .ok v as) : args.length = fd.np := by
  cases n with
  | zero => cases e
  | succ n =>
    unfold evCall at e
    rw [h] at e
    simp only [evF] at e
    split at e
    case isTrue q => exact q.1
    case isFalse => cases e
theorem callO_some (e : callO (evCall G.P n) rb f os l = .ok x l2) : ∃ fd, G.P f = some fd ∧ os.length = fd.np := by
  unfold callO at e
  split at e
  case isFalse => cases e
  case isTrue =>
    cases hc : evCall G.P n f (takeO (lowR (rb f) l 0 os) os) with
    | no => rw [hc] at e; cases e
    | ok v as =>
      cases hp : G.P f with
      | none => rw [evCall_none hp] at hc; cases hc
      | some fd =>
        have := evCall_len hp hc
        rw [takeO_len] at this
        exact ⟨fd, rfl, this⟩
theorem bnd_some {r : RO} {g : List Od → Sl → RE} (h : r.bnd g = .ok x l') : ∃ os l1, r = .ok os l1 ∧ g os l1 = .ok x l' := by
  cases r with
  | no => cases h
  | ok os l1 => exact ⟨os, l1, rfl, h⟩
/-- the call itself -/
theorem run_call {fd : FD} (z : Ez X G n) (hp : G.P f = some fd) {pins : List (Addr × Obj)} {s : Shared} {Q : VK} {us : List Value} {a : Addr} {F : FuncData} {ps : List Str} {args : PySem.Args}
    (FF : FnG X.prog X.w X.K X.mg X.base n a F ps (spC (evCall G.P n f) fd.np)) (hb : BindsTo s F args (ps.zip us)) (I : Inv X pins σ H s) (r : Vals vs us) (h : spC (evCall G.P n f) fd.np vs H Q fun _ _ _ => False) :
    wpAny (model X.prog X.w) X.A (call (.ref a) args.pos args.kw) (EP X pins σ Q) X.xe s := by
  refine wpAny_call (codeAny_mono (run_fg (args := args) (zs := []) FF z.room z.gd.gs hb I r h) fun r s' hq => ?_)
  cases r with
  | error e => exact False.elim hq
  | ok fl =>
    cases fl with
    | ret u => exact hq
    | next => exact False.elim hq
    | brk => exact False.elim hq
    | cont => exact False.elim hq
theorem pe_fn {ils : Es} {es : List Expr} {p pos : Pos} {y : Str} (z : Ez X G n) (hy : y = G.nm f) (hg : glo X.env.scope y = true) (hm : mEs G X.N ils X.env.scope es = true) (h : PA X es (tO (evO (evCall G.P n) (rbP G.P) ils))) :
    PE X (.Call (.Name y p) es [] pos) (tE fun l => (evO (evCall G.P n) (rbP G.P) ils l).bnd fun os l' => callO (evCall G.P n) (rbP G.P) f os l') := by
  cases hp : G.P f with
  | none =>
    refine tE_never fun l v l' e => ?_
    obtain ⟨os, l1, _, e⟩ := bnd_some e
    obtain ⟨fd, hf, _⟩ := callO_some e
    rw [hp] at hf; cases hf
  | some fd =>
    subst hy
    obtain ⟨hgl, hnm⟩ := glo_of hg
    obtain ⟨hdb, _, _⟩ := nmOk_of hnm
    obtain ⟨a, F, ps, hmg, hk, FF, hl, hb, _⟩ := z.fn f fd hp
    have key : ∀ (pins : List (Addr × Obj)) (s1 : Shared) (σ : L2.St) (H1 : Hp) (Q : VK) (us : List Value) (vs : List V), Inv X pins σ H1 s1 → Vals vs us → FO (callO (evCall G.P n) (rbP G.P) f) vs σ H1 Q → wpAny (model X.prog X.w) X.A (call (.ref a) us) (EP X pins σ Q) X.xe s1 := by
      rintro pins s1 σ H1 Q us vs I1 r ⟨U, l, As, B, os, at1, x, l2, e, k⟩
      obtain ⟨fd', hf, hn⟩ := callO_some e
      rw [hp] at hf; cases hf
      exact run_call (args := ⟨us, []⟩) z hp FF (hb s1 us (by rw [hl, ← r.length, ← at1.ods.length, hn])) I1 r (callO_sp at1 hn e k)
    refine ⟨fun pins s σ H Q I q => ?_⟩
    refine wpAny_Call_Name_kw (ld_glob I hgl hmg ?_ hdb)
    match ils, es, hm with
    | .nil, [], _ => exact PySem.W.callWith_K0 I.kIn hk (key pins s σ H Q [] [] I .nil (tO_nil (tE_bnd q)))
    | .cons il r, e :: rest, hm =>
      simp only [mEs, Bool.and_eq_true] at hm
      exact PySem.W.callWith_K (h₀ := X.base) I.ok.mod.kin hk (thn (h.run pos pins s σ H _ I (tE_bnd q)) fun us s1 ⟨vs, H1, I1, r, q⟩ => ⟨I1.kIn, key pins s1 σ H1 Q us vs I1 r q⟩) (star_of hm.1) (anyStar pos hm.2)

/-! ### keywords -/
theorem At.drop (a : At H U l σ As B os vs) : ∃ U', At H U' l σ As [] (os.map dropO) vs ∧ Core H U (Ow As B) l σ H U' As [] := by
  have g : Go H U (fun a => a ∈ B) H (fun a => U a ∧ a ∉ B) := ⟨fun _ _ e _ => e, fun a _ n => ⟨fun h => h.1, fun h => ⟨h, n⟩⟩, fun _ e => e⟩
  have S := a.sim.over g (fun p m => (a.ods.at p m).1) (fun p m => a.ap p m) fun p h => a.sim.um p h.1
  refine ⟨_, ⟨S, by simp, by simp, ?_⟩, ⟨S, by simp, by simp, by simp, by simp, fun p h => .inl (.inl h), fun _ _ e _ => e, fun p _ n => ⟨fun h => h.1, fun h => ⟨h, fun m => n (.inr m)⟩⟩, fun _ e => e⟩⟩
  have key : ∀ {os : List Od} {vs : List V} {C : List Addr}, Ods H U σ os vs C → (∀ p ∈ C, p ∈ B) → Ods H (fun a => U a ∧ a ∉ B) σ (os.map dropO) vs [] := by
    intro os vs C h
    induction h with
    | nil => intro _; exact .nil
    | cons h1 _ ih =>
      intro hC
      have t := ih fun p m => hC p (List.mem_append_right _ m)
      cases h1 with
      | r e => exact .cons (A := []) (.r e) t
      | v r => exact .cons (A := []) (.v ⟨rfl, r.froz (fun _ h => h.1) fun p m z => z.2 (hC p (List.mem_append_left _ m))⟩) t
  exact key a.ods fun _ m => m
theorem Ods.get {j : Nat} {o : Od} : ∀ {os : List Od} {vs : List V} {B : List Addr} {j : Nat}, Ods H U σ os vs B → os[j]? = some o → B = [] → ∃ v, vs[j]? = some v ∧ OdR H U σ o v []
  | _, _, _, _, .nil, e, _ => by simp at e
  | _, _, _, 0, .cons h1 _, e, hB => by
    simp at e; subst e
    rw [(List.append_eq_nil_iff.mp hB).1] at h1
    exact ⟨_, rfl, h1⟩
  | _, _, _, j + 1, .cons _ h2, e, hB => by
    obtain ⟨v, h, r⟩ := Ods.get (j := j) (o := o) h2 (by simpa using e) (List.append_eq_nil_iff.mp hB).2
    exact ⟨v, by simpa using h, r⟩
theorem Ods.perm {pm : List Nat} (h : Ods H U σ os vs []) (hp : pm.all (fun j => decide (j < os.length)) = true) : Ods H U σ (pm.map fun j => os.getD j (.v ⟨0, .un⟩)) (pm.map fun j => vs.getD j .non) [] := by
  induction pm with
  | nil => exact .nil
  | cons j r ih =>
    simp only [List.all_cons, Bool.and_eq_true, decide_eq_true_eq] at hp
    obtain ⟨hj, hr⟩ := hp
    obtain ⟨v, hv, ho⟩ := h.get (j := 0) (List.getElem?_eq_getElem hj) rfl
    have e1 : os.getD j (.v ⟨0, .un⟩) = os[j] := by rw [List.getD_eq_getElem?_getD, List.getElem?_eq_getElem hj]; rfl
    have e2 : vs.getD j .non = v := by rw [List.getD_eq_getElem?_getD, hv]; rfl
    rw [List.map_cons, List.map_cons, e1, e2]
    exact Ods.cons (A := []) ho (ih hr)
theorem Vals.perm {us : List Value} (r : Vals vs us) : ∀ (pm : List Nat), Vals (pm.map fun j => vs.getD j .non) (pm.map fun j => us.getD j .none)
  | [] => .nil
  | j :: pm => by
    refine .cons ?_ (Vals.perm r pm)
    show L2.RelV (vs.getD j V.non) (us.getD j Value.none)
    rw [List.getD_eq_getElem?_getD, List.getD_eq_getElem?_getD]
    cases h : vs[j]? with
    | none => rw [Vals.none_of r h]; rfl
    | some v => obtain ⟨u, hu, ru⟩ := r.get h; rw [hu]; exact ru
theorem kw_all {env : Env} {pos : Pos} : ∀ {kws : List Keyword} {ks : List Str} {args : List Expr}, kwArgs kws ks = some args → (backToKw pos (keywordEach kws env)).all (·.1.isSome) = true ∧ (backToKw pos (keywordEach kws env)).filterMap (·.1) = ks ∧ (backToKw pos (keywordEach kws env)).any (·.1.isNone) = false
  | [], [], _, _ => ⟨rfl, rfl, rfl⟩
  | [], _ :: _, _, h => by cases h
  | ⟨none, e, p⟩ :: r, ks, _, h => by cases ks <;> cases h
  | ⟨some nn, e, p⟩ :: r, [], _, h => by cases h
  | ⟨some nn, e, p⟩ :: r, k :: ks, args, h => by
    simp only [kwArgs] at h
    split at h
    case isFalse => cases h
    case isTrue hk =>
      subst hk
      cases hr : kwArgs r ks with
      | none => rw [hr] at h; cases h
      | some as =>
        obtain ⟨h1, h2, h3⟩ := kw_all (env := env) (pos := pos) hr
        refine ⟨?_, ?_, ?_⟩
        · show (true && (backToKw pos (keywordEach r env)).all (·.1.isSome)) = true
          rw [h1]; rfl
        · show nn :: (backToKw pos (keywordEach r env)).filterMap (·.1) = nn :: ks
          rw [h2]
        · show (false || (backToKw pos (keywordEach r env)).any (·.1.isNone)) = false
          rw [h3]; rfl
theorem pe_fk {ils : Es} {kws : List Keyword} {ks : List Str} {pm : List Nat} {args : List Expr} {p pos : Pos} {y : Str} (z : Ez X G n) (hy : y = G.nm f) (hg : glo X.env.scope y = true) (hkw : kwArgs kws ks = some args) (hin : (f, ks, pm) ∈ G.kws)
    (h : PK X kws (tO (evO (evCall G.P n) (rbP G.P) ils))) :
    PE X (.Call (.Name y p) [] kws pos) (tE (evE (evCall G.P n) (rbP G.P) (.callk f y ks pm ils))) := by
  have ee : evE (evCall G.P n) (rbP G.P) (.callk f y ks pm ils) = fun l => (evO (evCall G.P n) (rbP G.P) ils l).bnd fun os l' => if os.length == ks.length && pm.all (fun j => decide (j < os.length)) then callO (evCall G.P n) (rbP G.P) f (pm.map fun j => dropO (os.getD j (.v ⟨0, .un⟩))) l' else .no := by
    funext l; simp only [evE]
  rw [ee]
  cases hp : G.P f with
  | none =>
    refine tE_never fun l v l' e => ?_
    obtain ⟨os, l1, _, e⟩ := bnd_some e
    split at e
    case isFalse => cases e
    obtain ⟨fd, hf, _⟩ := callO_some e
    rw [hp] at hf; cases hf
  | some fd =>
    subst hy
    obtain ⟨hgl, hnm⟩ := glo_of hg
    obtain ⟨hdb, _, _⟩ := nmOk_of hnm
    obtain ⟨a, F, ps, hmg, hk, FF, hl, _, hb⟩ := z.fn f fd hp
    refine ⟨fun pins s σ H Q I q => ?_⟩
    refine wpAny_Call_Name_kw (ld_glob I hgl hmg ?_ hdb)
    obtain ⟨k1, k2, k3⟩ := kw_all (env := X.env) (pos := pos) hkw
    refine PySem.W.callWith_KW0 (h₀ := X.base) I.ok.mod.kin hk k1 (thn (h.run pos pins s σ H _ I (tE_bnd q)) fun ws s2 ⟨zs, H2, I2, rz, q2⟩ => ⟨I2.kIn, ?_⟩) (by rw [k3]; rfl)
    rw [k2]
    obtain ⟨U, l, As, B, os, at1, x, l2, e, k⟩ := q2
    dsimp only at e
    split at e
    case isFalse => cases e
    case isTrue hc =>
      rw [Bool.and_eq_true] at hc
      obtain ⟨fd', hf, hn⟩ := callO_some e
      rw [hp] at hf; cases hf
      obtain ⟨U', at2, cd⟩ := at1.drop
      have od := at2.ods.perm (pm := pm) (by simpa using hc.2)
      have em : (pm.map fun j => (os.map dropO).getD j (.v ⟨0, .un⟩)) = pm.map fun j => dropO (os.getD j (.v ⟨0, .un⟩)) := by
        refine List.map_congr_left fun j _ => ?_
        rw [List.getD_eq_getElem?_getD, List.getD_eq_getElem?_getD, List.getElem?_map]
        cases os[j]? <;> rfl
      rw [em] at od
      have at3 : At H2 U' l σ As [] (pm.map fun j => dropO (os.getD j (.v ⟨0, .un⟩))) (pm.map fun j => zs.getD j .non) := ⟨at2.sim, by simp, by simp, od⟩
      have hlen : ws.length = ks.length := by
        rw [← rz.length, ← at1.ods.length]
        exact eq_of_beq hc.1
      refine run_call (args := ⟨[], ks.zip ws⟩) z hp FF (hb ks pm hin s2 ws hlen) I2 (Vals.perm rz pm) (callO_sp at3 hn e fun v H3 ⟨U3, As3, A3, c3, r3⟩ => k v H3 ⟨U3, As3, A3, cd.after c3, r3⟩)
end
end DL
end

section
set_option Elab.async false
set_option linter.all false
set_option maxRecDepth 100000
/-! DS: every expression that matches. -/
namespace DL
open PySem PySem.Spec PyProof.Rows L2

section
variable {X : Cx} {G : Pg} {n : Nat} {N : List Str} {sc : Scope} {e : Expr} {es args : List Expr} {il a b c : E} {ils : Es} {pos p : Pos}

/-- how one expression is read -/
def POn (G : Pg) (n : Nat) (X : Cx) (il : E) (e : Expr) : Prop :=
  mE G X.N il X.env.scope e = true ∧ PE X e (tE (evE (evCall G.P n) (rbP G.P) il)) ∧ (mT il = true → PT X e (tT fun l => (evE (evCall G.P n) (rbP G.P) il l).tst))
def POs (G : Pg) (n : Nat) (X : Cx) : Es → List Expr → Prop
  | .nil, [] => True
  | .cons a r, e :: es => POn G n X a e ∧ POs G n X r es
  | _, _ => False

theorem var_pe {i : Nat} (h : mE G X.N (.var i) X.env.scope e = true) : PE X e (tVar i) := by
  cases e with
  | Name y p =>
    simp only [mE, mNm, Bool.and_eq_true] at h
    obtain ⟨⟨h1, h2⟩, h3⟩ := h
    obtain ⟨q1, q2, _⟩ := nmOk_of h3
    exact pe_var (nix_of h1) (vis_of h2) q1 q2
  | _ => exact absurd h (by simp [mE])
theorem POn.od (h : POn G n X il e) : PE X e (tO1 (opd il (evE (evCall G.P n) (rbP G.P) il))) := by
  by_cases hv : ∃ i, il = .var i
  · obtain ⟨i, rfl⟩ := hv
    exact opd_var (var_pe h.1)
  · exact opd_v h.2.1 fun i q => hv ⟨i, q⟩
theorem POs.pa : ∀ {ils : Es} {es : List Expr}, POs G n X ils es → PA X es (tO (evO (evCall G.P n) (rbP G.P) ils))
  | .nil, [], _ => pa_imp pa_nil fun σ H Q q => tO_nil (by simpa only [evO] using q)
  | .cons a r, e :: es, h => pa_imp (pa_cons h.1.od (POs.pa h.2) (star_of h.1.1)) fun σ H Q q => tO_cons (fun _ _ _ e => opd_one e) (by
      have ee : (fun l => (opd a (evE (evCall G.P n) (rbP G.P) a) l).bO fun o l1 => (evO (evCall G.P n) (rbP G.P) r l1).bO fun os l2 => .ok (o ++ os) l2) = evO (evCall G.P n) (rbP G.P) (.cons a r) := by
        funext l; simp only [evO]
      rw [ee]; exact q)
theorem pk_imp {kws : List Keyword} {t t' : TA} (h : PK X kws t) (k : ∀ σ H Q, t' σ H Q → t σ H Q) : PK X kws t' := ⟨fun pos pins s σ H Q I q => h.run pos pins s σ H Q I (k σ H Q q)⟩
theorem POs.pk : ∀ {ils : Es} {es : List Expr} {kws : List Keyword} {ks : List Str}, POs G n X ils es → kwArgs kws ks = some es → PK X kws (tO (evO (evCall G.P n) (rbP G.P) ils))
  | .nil, [], [], [], _, _ => pk_imp pk_nil fun σ H Q q => tO_nil (by simpa only [evO] using q)
  | _, _, ⟨none, _, _⟩ :: _, ks, _, h => by cases ks <;> cases h
  | _, _, ⟨some _, _, _⟩ :: _, [], _, h => by cases h
  | _, _, [], _ :: _, _, h => by cases h
  | .nil, _ :: _, _, _, q, _ => q.elim
  | .cons _ _, [], _, _, q, _ => q.elim
  | .nil, [], ⟨some nn, e', p⟩ :: r', k :: ks, _, h => by
    simp only [kwArgs] at h
    split at h
    case isFalse => cases h
    case isTrue => cases hr : kwArgs r' ks <;> rw [hr] at h <;> cases h
  | .cons a r, e :: es, [], [], _, h => by cases h
  | .cons a r, e :: es, ⟨some nn, e', p⟩ :: r', k :: ks, q, h => by
    simp only [kwArgs] at h
    split at h
    case isFalse => cases h
    case isTrue =>
      cases hr : kwArgs r' ks with
      | none => rw [hr] at h; cases h
      | some as =>
        rw [hr] at h
        cases h
        exact pk_imp (pk_cons q.1.od (POs.pk q.2 hr)) fun σ H Q z => tO_cons (fun _ _ _ e => opd_one e) (by
          have ee : (fun l => (opd a (evE (evCall G.P n) (rbP G.P) a) l).bO fun o l1 => (evO (evCall G.P n) (rbP G.P) r l1).bO fun os l2 => .ok (o ++ os) l2) = evO (evCall G.P n) (rbP G.P) (.cons a r) := by
            funext l; simp only [evO]
          rw [ee]; exact z)
theorem POs.star (h : POs G n X ils es) (hm : mEs G X.N ils X.env.scope es = true) : (backTo pos (starEach es X.env)).any (·.1) = false := anyStar pos hm

/-! ### constants, names -/
theorem cst_ok {d : D} (h : mE G X.N (.cst d) X.env.scope e = true) {cl : Nat → List TV → RC} {rb : Nat → Nat → Bool} : PE X e (tE (evE cl rb (.cst d))) := by
  have ee : evE cl rb (.cst d) = fun l => .ok ⟨0, d⟩ l := by funext l; simp only [evE]
  rw [ee]
  cases d <;> cases e <;> (try (simp only [mE] at h; cases h; done))
  all_goals
    rename_i k _ _
    cases k <;> (try (simp only [mE] at h; cases h; done))
  · exact tE_const pe_non fun H U => .non
  · simp only [mE, beq_iff_eq] at h; subst h; exact tE_const pe_bl fun H U => .bl _
  · simp only [mE, decide_eq_true_eq] at h; subst h; exact tE_const pe_int fun H U => .int _
  · simp only [mE, decide_eq_true_eq] at h; subst h; exact tE_const pe_str fun H U => .str _
theorem glb_ok (z : Ez X G n) {x : Str} {d : D} (h : mE G X.N (.glb x d) X.env.scope e = true) {cl : Nat → List TV → RC} {rb : Nat → Nat → Bool} : PE X e (tE (evE cl rb (.glb x d))) := by
  have ee : evE cl rb (.glb x d) = fun l => .ok ⟨0, d⟩ l := by funext l; simp only [evE]
  rw [ee]
  cases d <;> cases e <;> (try (simp only [mE] at h; cases h; done))
  simp only [mE, Bool.and_eq_true, decide_eq_true_eq] at h
  obtain ⟨⟨rfl, hg⟩, hc⟩ := h
  obtain ⟨hgl, hnm⟩ := glo_of hg
  split at hc
  case h_2 => cases hc
  case h_1 j hj =>
    rw [decide_eq_true_eq] at hc
    subst hc
    obtain ⟨t, ht⟩ := z.cst _ _ hj
    exact tE_const (pe_glob hgl ht (v := .int _) ⟨t, rfl⟩ (nmOk_of hnm).1) fun H U => .int _
theorem var_ok {i : Nat} (h : mE G X.N (.var i) X.env.scope e = true) {cl : Nat → List TV → RC} {rb : Nat → Nat → Bool} : PE X e (tE (evE cl rb (.var i))) := pe_alias (var_pe h)

/-! ### operations -/
theorem ev_op {o : Op} {ils : Es} {cl : Nat → List TV → RC} {rb : Nat → Nat → Bool} : evE cl rb (.op o ils) = fun l => (evO cl rb ils l).bnd fun os l' => applyO o os l' := by funext l; simp only [evE]
theorem op_two {o : Op} (ha : POn G n X a e) {e2 : Expr} (hb : POn G n X b e2) {ex : Expr} {r : R2}
    (k : PE X ex (tOp (fun x y H Q => ∃ σ, FO (applyO o) [x, y] σ H Q) (tO1 (opd a (evE (evCall G.P n) (rbP G.P) a))) (tO1 (opd b (evE (evCall G.P n) (rbP G.P) b))))) : PE X ex (tE (evE (evCall G.P n) (rbP G.P) (.op o (.cons a (.cons b .nil))))) := by
  refine pe_imp k fun σ H Q q => ?_
  rw [ev_op] at q
  exact tO1.mono (rd_two q) fun x H1 q1 => tO1.mono q1 fun y H2 q2 => ⟨σ, q2⟩
theorem op_twoT {o : Op} (ha : POn G n X a e) {e2 : Expr} (hb : POn G n X b e2) {ex : Expr}
    (k : PT X ex (tTest (tOp (fun x y H Q => ∃ σ, FO (applyO o) [x, y] σ H Q) (tO1 (opd a (evE (evCall G.P n) (rbP G.P) a))) (tO1 (opd b (evE (evCall G.P n) (rbP G.P) b)))))) : PT X ex (tT fun l => (evE (evCall G.P n) (rbP G.P) (.op o (.cons a (.cons b .nil))) l).tst) := by
  refine pt_imp k fun σ H Q q => ?_
  have q := tst_rd q
  rw [ev_op] at q
  exact tO1.mono (rd_two q) fun x H1 q1 => tO1.mono q1 fun y H2 q2 => ⟨σ, q2⟩
theorem op_one {o : Op} {ex : Expr} {r : V → Hp → VK → Prop}
    (k : PE X ex (tUn (fun x H Q => ∃ σ, FO (applyO o) [x] σ H Q) (tO1 (opd a (evE (evCall G.P n) (rbP G.P) a))))) : PE X ex (tE (evE (evCall G.P n) (rbP G.P) (.op o (.cons a .nil)))) := by
  refine pe_imp k fun σ H Q q => ?_
  rw [ev_op] at q
  exact tO1.mono (rd_one q) fun x H1 q1 => ⟨σ, q1⟩
theorem op_many {o : Op} {ex : Expr} (k : PE X ex (tCB (fun xs H Q => ∃ σ, FO (applyO o) xs σ H Q) (tO (evO (evCall G.P n) (rbP G.P) ils)))) : PE X ex (tE (evE (evCall G.P n) (rbP G.P) (.op o ils))) := by
  refine pe_imp k fun σ H Q q => ?_
  rw [ev_op] at q
  exact tO.mono (tE_bnd q) fun x H1 q1 => ⟨σ, q1⟩
theorem two_of {e2 : Expr} : ∀ {ils : Es}, POs G n X ils [e, e2] → ∃ a b, ils = .cons a (.cons b .nil) ∧ POn G n X a e ∧ POn G n X b e2
  | .nil, h => h.elim
  | .cons a .nil, h => h.2.elim
  | .cons a (.cons b .nil), h => ⟨a, b, rfl, h.1, h.2.1⟩
  | .cons a (.cons b (.cons c r)), h => h.2.2.elim
theorem one_of : ∀ {ils : Es}, POs G n X ils [e] → ∃ a, ils = .cons a .nil ∧ POn G n X a e
  | .nil, h => h.elim
  | .cons a .nil, h => ⟨a, rfl, h.1⟩
  | .cons a (.cons b r), h => h.2.elim
theorem ds_bin {b : BOp} (h : dsO (.bin b) sc e = some args) : ∃ l r p, e = .BinOp l (bop b) r p ∧ args = [l, r] := by
  cases e with
  | BinOp l op r p =>
    simp only [dsO] at h
    split at h
    case isTrue q => subst q; cases h; exact ⟨_, _, _, rfl, rfl⟩
    case isFalse => cases h
  | _ => exact absurd h (by simp [dsO])
theorem ds_cmp {b : COp} (h : dsO (.cmp b) sc e = some args) : ∃ l r p, e = .Compare l [cop b] [r] p ∧ notSet r = true ∧ args = [l, r] := by
  cases e with
  | Compare l ops cs p =>
    match ops, cs, h with
    | [op], [r], h =>
      simp only [dsO] at h
      split at h
      case isTrue q => obtain ⟨rfl, q⟩ := q; cases h; exact ⟨_, _, _, rfl, q, rfl⟩
      case isFalse => cases h
    | [], _, h => exact absurd h (by simp [dsO])
    | _ :: _ :: _, _, h => exact absurd h (by simp [dsO])
    | [_], [], h => exact absurd h (by simp [dsO])
    | [_], _ :: _ :: _, h => exact absurd h (by simp [dsO])
  | _ => exact absurd h (by simp [dsO])
theorem ds_neg (h : dsO .neg sc e = some args) : ∃ a p, e = .UnaryOp .USub a p ∧ args = [a] := by
  cases e with
  | UnaryOp op a p =>
    cases op with
    | USub => cases h; exact ⟨_, _, rfl, rfl⟩
    | _ => exact absurd h (by simp [dsO])
  | _ => exact absurd h (by simp [dsO])
theorem ds_sub (h : dsO .sub sc e = some args) : ∃ a i p, e = .Subscript a i p ∧ notSl i = true ∧ args = [a, i] := by
  cases e with
  | Subscript a i p =>
    simp only [dsO] at h
    split at h
    case isTrue q => cases h; exact ⟨_, _, _, rfl, q, rfl⟩
    case isFalse => cases h
  | _ => exact absurd h (by simp [dsO])
theorem ds_rev (h : dsO .rev sc e = some args) : ∃ a k p1 p2 p3 p, e = .Subscript a (.Slice none none (some (.UnaryOp .USub (.Constant (.int 1) k p1) p2)) p3) p ∧ args = [a] := by
  unfold dsO at h
  split at h <;> first | (rename_i q; cases q; done) | skip
  all_goals first | (cases h; exact ⟨_, _, _, _, _, _, rfl, rfl⟩) | (cases h; done) | skip
theorem ds_call1 {f : B1} (h : dsO (.b1 f) sc e = some args) : ∃ a p q, e = .Call (.Name (b1n f) p) [a] [] q ∧ glo sc (b1n f) = true ∧ args = [a] := by
  cases e with
  | Call fn as kws q =>
    cases fn with
    | Name x p =>
      match as, kws, h with
      | [a], [], h' =>
        clear h
        simp only [dsO] at h'
        split at h'
        case isTrue q => obtain ⟨rfl, q⟩ := q; cases h'; exact ⟨_, _, _, rfl, q, rfl⟩
        case isFalse => cases h'
      | [], _, h => exact absurd h (by simp [dsO])
      | _ :: _ :: _, _, h => exact absurd h (by simp [dsO])
      | [_], _ :: _, h => exact absurd h (by simp [dsO])
    | _ => exact absurd h (by simp [dsO])
  | _ => exact absurd h (by simp [dsO])
theorem ds_max2 (h : dsO .max2 sc e = some args) : ∃ a b p q, e = .Call (.Name "max" p) [a, b] [] q ∧ glo sc "max" = true ∧ args = [a, b] := by
  cases e with
  | Call fn as kws q =>
    cases fn with
    | Name x p =>
      match as, kws, h with
      | [a, b], [], h' =>
        clear h
        simp only [dsO] at h'
        split at h'
        case isTrue q => obtain ⟨rfl, q⟩ := q; cases h'; exact ⟨_, _, _, _, rfl, q, rfl⟩
        case isFalse => cases h'
      | [], _, h => exact absurd h (by simp [dsO])
      | [_], _, h => exact absurd h (by simp [dsO])
      | _ :: _ :: _ :: _, _, h => exact absurd h (by simp [dsO])
      | [_, _], _ :: _, h => exact absurd h (by simp [dsO])
    | _ => exact absurd h (by simp [dsO])
  | _ => exact absurd h (by simp [dsO])
theorem ds_min2 (h : dsO .min2 sc e = some args) : ∃ a b p q, e = .Call (.Name "min" p) [a, b] [] q ∧ glo sc "min" = true ∧ args = [a, b] := by
  cases e with
  | Call fn as kws q =>
    cases fn with
    | Name x p =>
      match as, kws, h with
      | [a, b], [], h' =>
        clear h
        simp only [dsO] at h'
        split at h'
        case isTrue q => obtain ⟨rfl, q⟩ := q; cases h'; exact ⟨_, _, _, _, rfl, q, rfl⟩
        case isFalse => cases h'
      | [], _, h => exact absurd h (by simp [dsO])
      | [_], _, h => exact absurd h (by simp [dsO])
      | _ :: _ :: _ :: _, _, h => exact absurd h (by simp [dsO])
      | [_, _], _ :: _, h => exact absurd h (by simp [dsO])
    | _ => exact absurd h (by simp [dsO])
  | _ => exact absurd h (by simp [dsO])
theorem ds_isi {ty : Ty} (h : dsO (.isi ty) sc e = some args) : ∃ a p pt q, e = .Call (.Name "isinstance" p) [a, .Name (tyn ty) pt] [] q ∧ glo sc "isinstance" = true ∧ glo sc (tyn ty) = true ∧ args = [a] := by
  cases e with
  | Call fn as kws q =>
    cases fn with
    | Name x p =>
      match as, kws, h with
      | [a, t], [], h' =>
        clear h
        cases t with
        | Name t pt =>
          simp only [dsO] at h'
          split at h'
          case isTrue q => obtain ⟨rfl, q, rfl, q'⟩ := q; cases h'; exact ⟨_, _, _, _, rfl, q, q', rfl⟩
          case isFalse => cases h'
        | _ => exact absurd h' (by simp [dsO])
      | [], _, h => exact absurd h (by simp [dsO])
      | [_], _, h => exact absurd h (by simp [dsO])
      | _ :: _ :: _ :: _, _, h => exact absurd h (by simp [dsO])
      | [_, _], _ :: _, h => exact absurd h (by simp [dsO])
    | _ => exact absurd h (by simp [dsO])
  | _ => exact absurd h (by simp [dsO])
theorem ds_tup (h : dsO .tup sc e = some args) : ∃ k p, e = .Tuple args k p := by
  cases e with
  | Tuple es k p => cases h; exact ⟨_, _, rfl⟩
  | _ => exact absurd h (by simp [dsO])
theorem ds_lst {dp : Bool} (h : dsO (.lst dp) sc e = some args) : ∃ p, e = .List args p := by
  cases e with
  | List es p => cases h; exact ⟨_, rfl⟩
  | _ => exact absurd h (by simp [dsO])
theorem ds_sset (h : dsO .sset sc e = some args) : ∃ a p p2 q q2, e = .Call (.Name "sorted" p) [.Call (.Name "set" p2) [a] [] q2] [] q ∧ glo sc "sorted" = true ∧ glo sc "set" = true ∧ args = [a] := by
  unfold dsO at h
  split at h <;> first | (rename_i q; cases q; done) | skip
  all_goals first | (cases h; done) | skip
  rename_i o e' x p y p2 a q2 q
  split at h
  case isTrue q => obtain ⟨rfl, rfl, g1, g2⟩ := q; cases h; exact ⟨_, _, _, _, _, rfl, g1, g2, rfl⟩
  case isFalse => cases h
theorem glo_db {x : Str} (hg : glo sc x = true) : (x == ("__debug__" : Str)) = false ∧ x ≠ "__name__" := by
  unfold glo at hg
  rw [Bool.and_eq_true] at hg
  exact ⟨(nmOk_of hg.2).1, (nmOk_of hg.2).2.2⟩
theorem gl_of {x : Str} (hg : glo X.env.scope x = true) : Gl X x := (glo_of hg).1
theorem blt_fn (z : Ez X G n) {x : Str} {id : String} {r : List V → Hp → VK → Prop} {o : Op} (hc : CallR X (.builtin id) (fun xs H Q => ∃ σ, FO (applyO o) xs σ H Q)) (hg : glo X.env.scope x = true) (hb : biNames.contains x = true) (hv : bootBuiltins x = some (.builtin id))
    {es : List Expr} (hp : POs G n X ils (e :: es)) (hm : mEs G X.N ils X.env.scope (e :: es) = true) : PE X (.Call (.Name x p) (e :: es) [] pos) (tE (evE (evCall G.P n) (rbP G.P) (.op o ils))) := by
  refine op_many (pe_callB hc (gl_of hg) (z.bi x hb) hv hp.pa (glo_db hg).2 (glo_db hg).1 ?_ ?_)
  · match ils, hm with
    | .cons a r, hm => simp only [mEs, Bool.and_eq_true] at hm; exact star_of hm.1
  · match ils, hm with
    | .cons a r, hm => simp only [mEs, Bool.and_eq_true] at hm; exact anyStar pos hm.2
theorem blt_ty (z : Ez X G n) {x : Str} {T : String} {r : List V → Hp → VK → Prop} {o : Op} (hc : CallR X (.type T) (fun xs H Q => ∃ σ, FO (applyO o) xs σ H Q)) (hg : glo X.env.scope x = true) (hb : biNames.contains x = true) (hv : bootBuiltins x = some (.type T))
    {es : List Expr} (hp : POs G n X ils (e :: es)) (hm : mEs G X.N ils X.env.scope (e :: es) = true) : PE X (.Call (.Name x p) (e :: es) [] pos) (tE (evE (evCall G.P n) (rbP G.P) (.op o ils))) := by
  refine op_many (pe_callTy hc (gl_of hg) (z.bi x hb) hv hp.pa (glo_db hg).2 (glo_db hg).1 ?_ ?_)
  · match ils, hm with
    | .cons a r, hm => simp only [mEs, Bool.and_eq_true] at hm; exact star_of hm.1
  · match ils, hm with
    | .cons a r, hm => simp only [mEs, Bool.and_eq_true] at hm; exact anyStar pos hm.2
theorem tyn_boot (ty : Ty) : bootBuiltins (tyn ty) = some (.type (tyS ty)) ∧ biNames.contains (tyn ty) = true := by
  cases ty <;> exact ⟨by decide +kernel, by decide +kernel⟩
theorem isi_ok (z : Ez X G n) {ty : Ty} {pt : Pos} (hg : glo X.env.scope "isinstance" = true) (hg2 : glo X.env.scope (tyn ty) = true) (hp : POn G n X a e) :
    PE X (.Call (.Name "isinstance" p) [e, .Name (tyn ty) pt] [] pos) (tE (evE (evCall G.P n) (rbP G.P) (.op (.isi ty) (.cons a .nil)))) := by
  have ht : PE X (.Name (tyn ty) pt) (tC (.ty (tyS ty))) := pe_bltn (gl_of hg2) (z.bi _ (tyn_boot ty).2) (tyn_boot ty).1 rfl (glo_db hg2).2 (glo_db hg2).1
  refine pe_imp (pe_callB call_isi (gl_of hg) (z.bi _ (by decide +kernel)) PyProof.Rows.boot_isinstance (pa_cons hp.od (pa_cons ht pa_nil rfl) (star_of hp.1)) (glo_db hg).2 (glo_db hg).1 (star_of hp.1) rfl) fun σ H Q q => ?_
  rw [ev_op] at q
  exact tO1.mono (rd_one q) fun x H1 q1 => isi_rd q1
/-- an operation -/
theorem op_ok (z : Ez X G n) {o : Op} (hn : ∀ dp tk, o ≠ .dct dp tk) (hd : dsO o X.env.scope e = some args) (hp : POs G n X ils args) (hm : mEs G X.N ils X.env.scope args = true) : PE X e (tE (evE (evCall G.P n) (rbP G.P) (.op o ils))) := by
  cases o with
  | bin b =>
    obtain ⟨l, r, p, rfl, rfl⟩ := ds_bin hd
    obtain ⟨a, b', rfl, ha, hb⟩ := two_of hp
    exact op_two ha hb (r := rEq) (pe_op (op_bin b) ha.od hb.od)
  | cmp c =>
    obtain ⟨l, r, p, rfl, hs, rfl⟩ := ds_cmp hd
    obtain ⟨a, b', rfl, ha, hb⟩ := two_of hp
    exact op_two ha hb (r := rEq) (pe_cmpR (op_cmp z.gd c) ha.od hb.od (marks hs))
  | neg =>
    obtain ⟨a, p, rfl, rfl⟩ := ds_neg hd
    obtain ⟨a', rfl, ha⟩ := one_of hp
    exact op_one (r := fun _ _ _ => True) (pe_un un_negD ha.od)
  | sub =>
    obtain ⟨l, r, p, rfl, hs, rfl⟩ := ds_sub hd
    obtain ⟨a, b', rfl, ha, hb⟩ := two_of hp
    exact op_two ha hb (r := rEq) (pe_ix (ix_sub z.gd) ha.od hb.od (plainIx hs))
  | rev =>
    obtain ⟨a, k, p1, p2, p3, p, rfl, rfl⟩ := ds_rev hd
    obtain ⟨a', rfl, ha⟩ := one_of hp
    exact pe_revB ha.od
  | b1 f =>
    obtain ⟨a, p, q, rfl, hg, rfl⟩ := ds_call1 hd
    cases f with
    | len => exact blt_fn z (r := fun _ _ _ => True) cr_len hg (by decide +kernel) (by decide +kernel) hp hm
    | abs => exact blt_fn z (r := fun _ _ _ => True) cr_abs hg (by decide +kernel) (by decide +kernel) hp hm
    | int => exact blt_ty z (r := fun _ _ _ => True) cr_int hg (by decide +kernel) (by decide +kernel) hp hm
    | tuple => exact blt_ty z (r := fun _ _ _ => True) cr_tupleD hg (by decide +kernel) (by decide +kernel) hp hm
    | list => exact blt_ty z (r := fun _ _ _ => True) cr_listD hg (by decide +kernel) (by decide +kernel) hp hm
    | sum => exact blt_fn z (r := fun _ _ _ => True) (cr_sumD z.gd) hg (by decide +kernel) (by decide +kernel) hp hm
    | all => exact blt_fn z (r := fun _ _ _ => True) (cr_allD z.gd) hg (by decide +kernel) (by decide +kernel) hp hm
    | any => exact blt_fn z (r := fun _ _ _ => True) (cr_anyD z.gd) hg (by decide +kernel) (by decide +kernel) hp hm
    | sorted => exact blt_fn z (r := fun _ _ _ => True) cr_sortedD hg (by decide +kernel) (by decide +kernel) hp hm
    | min => exact blt_fn z (r := fun _ _ _ => True) (cr_minD z.gd) hg (by decide +kernel) (by decide +kernel) hp hm
    | max => exact blt_fn z (r := fun _ _ _ => True) (cr_maxD z.gd) hg (by decide +kernel) (by decide +kernel) hp hm
    | repr => exact blt_fn z (r := fun _ _ _ => True) (cr_reprD z.gd) hg (by decide +kernel) (by decide +kernel) hp hm
  | max2 =>
    obtain ⟨a, b, p, q, rfl, hg, rfl⟩ := ds_max2 hd
    exact blt_fn z (r := fun _ _ _ => True) (cr_max2 z.gd) hg (by decide +kernel) (by decide +kernel) hp hm
  | min2 =>
    obtain ⟨a, b, p, q, rfl, hg, rfl⟩ := ds_min2 hd
    exact blt_fn z (r := fun _ _ _ => True) (cr_min2 z.gd) hg (by decide +kernel) (by decide +kernel) hp hm
  | isi ty =>
    obtain ⟨a, p, pt, q, rfl, hg, hg2, rfl⟩ := ds_isi hd
    obtain ⟨a', rfl, ha⟩ := one_of hp
    exact isi_ok z hg hg2 ha
  | sset =>
    obtain ⟨a, p, p2, q, q2, rfl, hg, hg2, rfl⟩ := ds_sset hd
    obtain ⟨a', rfl, ha⟩ := one_of hp
    exact op_one (r := fun _ _ _ => True) (pe_sset z.gd (gl_of hg) (z.bi _ (by decide +kernel)) (gl_of hg2) (z.bi _ (by decide +kernel)) ha.od (star_of ha.1))
  | tup =>
    obtain ⟨k, p, rfl⟩ := ds_tup hd
    refine pe_imp (pe_tup hp.pa) fun σ H Q q => ?_
    rw [ev_op] at q
    exact tO.mono (tE_bnd q) fun x H1 q1 => dsp_tup ⟨σ, q1⟩
  | lst dp =>
    obtain ⟨p, rfl⟩ := ds_lst hd
    refine pe_imp (pe_lst hp.pa) fun σ H Q q => ?_
    rw [ev_op] at q
    exact tO.mono (tE_bnd q) fun x H1 q1 => (by cases dp with | false => exact dsp_lst ⟨σ, q1⟩ | true => exact dsp_dlst ⟨σ, q1⟩)
  | dct dp tk => exact absurd rfl (hn dp tk)
/-- .. as a test -/
theorem op_t (z : Ez X G n) {o : Op} (hd : dsO o X.env.scope e = some args) (hp : POs G n X ils args) (hm : mEs G X.N ils X.env.scope args = true) (ht : mT (.op o ils) = true) : PT X e (tT fun l => (evE (evCall G.P n) (rbP G.P) (.op o ils) l).tst) := by
  cases o with
  | cmp c =>
    obtain ⟨l, r, p, rfl, hs, rfl⟩ := ds_cmp hd
    obtain ⟨a, b', rfl, ha, hb⟩ := two_of hp
    exact op_twoT ha hb (pt_cmpR (op_cmp z.gd c) ha.od hb.od (marks hs))
  | b1 f =>
    have h := op_ok z (fun _ _ q => by cases q) hd hp hm
    obtain ⟨a, p, q, rfl, hg, rfl⟩ := ds_call1 hd
    exact pt_plain h fun _ => rfl
  | isi ty =>
    have h := op_ok z (fun _ _ q => by cases q) hd hp hm
    obtain ⟨a, p, pt, q, rfl, hg, hg2, rfl⟩ := ds_isi hd
    exact pt_plain h fun _ => rfl
  | _ => exact absurd ht (by simp [mT])
theorem chain_ok (z : Ez X G n) {o o2 : COp} {l m r : Expr} (hs : notSet r = true) (ha : POn G n X a l) (hb : POn G n X b m) (hc : POn G n X c r) :
    PE X (.Compare l [cop o, cop o2] [m, r] pos) (tE (evE (evCall G.P n) (rbP G.P) (.chain o o2 a b c))) :=
  pe_imp (pe_chain (op_cmp z.gd o) (op_cmp z.gd o2) ha.od hb.od hc.od (lmarks hs)) fun σ H Q q => tChain_of q
theorem chain_t (z : Ez X G n) {o o2 : COp} {l m r : Expr} (hs : notSet r = true) (ha : POn G n X a l) (hb : POn G n X b m) (hc : POn G n X c r) :
    PT X (.Compare l [cop o, cop o2] [m, r] pos) (tT fun ll => (evE (evCall G.P n) (rbP G.P) (.chain o o2 a b c) ll).tst) :=
  pt_imp (pt_chain (op_cmp z.gd o) (op_cmp z.gd o2) ha.od hb.od hc.od (lmarks hs)) fun σ H Q q => tChain_of (tst_rd q)
theorem and_all : ∀ {ils : Es} {es : List Expr}, POs G n X ils es → PE X (.BoolOp .And es pos) (tE (evAnd (evCall G.P n) (rbP G.P) ils))
  | .nil, [], _ => tE_never fun l v l' e => by simp [evAnd] at e
  | .cons a .nil, [e], h => and_last h.1.2.1
  | .cons a (.cons b r), e :: f :: es, h => and_ok h.1.2.1 (and_all h.2) (by simp)
  | .nil, _ :: _, h => h.elim
  | .cons _ _, [], h => h.elim
  | .cons _ .nil, _ :: _ :: _, h => h.2.elim
  | .cons _ (.cons _ _), [_], h => h.2.elim
theorem or_all : ∀ {ils : Es} {es : List Expr}, POs G n X ils es → PE X (.BoolOp .Or es pos) (tE (evOr (evCall G.P n) (rbP G.P) ils))
  | .nil, [], _ => tE_never fun l v l' e => by simp [evOr] at e
  | .cons a .nil, [e], h => or_last h.1.2.1
  | .cons a (.cons b r), e :: f :: es, h => or_ok h.1.2.1 (or_all h.2) (by simp)
  | .nil, _ :: _, h => h.elim
  | .cons _ _, [], h => h.elim
  | .cons _ .nil, _ :: _ :: _, h => h.2.elim
  | .cons _ (.cons _ _), [_], h => h.2.elim
theorem pt_never {e : Expr} {r : Sl → RB} (h : ∀ l v l', r l ≠ .ok v l') : PT X e (tT r) :=
  ⟨fun _ _ σ H Q _ q => by obtain ⟨_, l, _, _, v, l', e, _⟩ := q; exact absurd e (h l v l')⟩
theorem pw_never {e : Expr} {r : Sl → RB} (h : ∀ l v l', r l ≠ .ok v l') : PW X e (tT r) :=
  ⟨fun _ _ _ σ H Q _ q => by obtain ⟨_, l, _, _, v, l', e, _⟩ := q; exact absurd e (h l v l')⟩
theorem andT_all : ∀ {ils : Es} {es : List Expr}, POs G n X ils es → mTs ils = true → PW X (.BoolOp .And es pos) (tT fun l => (evAnd (evCall G.P n) (rbP G.P) ils l).tst)
  | .nil, [], _, _ => pw_never fun l v l' e => by simp [evAnd, RE.tst] at e
  | .cons a .nil, [e], h, t => andT_last (h.1.2.2 (by simpa [mTs] using t))
  | .cons a (.cons b r), e :: f :: es, h, t => by
    simp only [mTs, Bool.and_eq_true] at t
    exact andT_ok (h.1.2.2 t.1) (andT_all h.2 (by simp only [mTs, Bool.and_eq_true]; exact t.2)) (by simp)
  | .nil, _ :: _, h, _ => h.elim
  | .cons _ _, [], h, _ => h.elim
  | .cons _ .nil, _ :: _ :: _, h, _ => h.2.elim
  | .cons _ (.cons _ _), [_], h, _ => h.2.elim
theorem orT_all : ∀ {ils : Es} {es : List Expr}, POs G n X ils es → mTs ils = true → PW X (.BoolOp .Or es pos) (tT fun l => (evOr (evCall G.P n) (rbP G.P) ils l).tst)
  | .nil, [], _, _ => pw_never fun l v l' e => by simp [evOr, RE.tst] at e
  | .cons a .nil, [e], h, t => orT_last (h.1.2.2 (by simpa [mTs] using t))
  | .cons a (.cons b r), e :: f :: es, h, t => by
    simp only [mTs, Bool.and_eq_true] at t
    exact orT_ok (h.1.2.2 t.1) (orT_all h.2 (by simp only [mTs, Bool.and_eq_true]; exact t.2)) (by simp)
  | .nil, _ :: _, h, _ => h.elim
  | .cons _ _, [], h, _ => h.elim
  | .cons _ .nil, _ :: _ :: _, h, _ => h.2.elim
  | .cons _ (.cons _ _), [_], h, _ => h.2.elim
theorem evO_len {cl : Nat → List TV → RC} {rb : Nat → Nat → Bool} : ∀ (ils : Es) (es : List Expr) {l l' : Sl} {os : List Od}, POs G n X ils es → evO cl rb ils l = .ok os l' → os.length = es.length
  | .nil, [], l, l', os, _, e => by simp only [evO] at e; cases e; rfl
  | .cons a r, e' :: es, l, l', os, h, e => by
    simp only [evO] at e
    cases h1 : opd a (evE cl rb a) l with
    | no => rw [h1] at e; cases e
    | ok o l1 =>
      rw [h1] at e
      simp only [RO.bO] at e
      cases h2 : evO cl rb r l1 with
      | no => rw [h2] at e; cases e
      | ok os2 l2 =>
        rw [h2] at e
        cases e
        obtain ⟨o', rfl⟩ := opd_one h1
        have := evO_len r es h.2 h2
        simp [this]
  | .nil, _ :: _, _, _, _, h, _ => h.elim
  | .cons _ _, [], _, _, _, h, _ => h.elim
end
end DL
end

section
set_option Elab.async false
set_option linter.all false
set_option maxRecDepth 100000
/-! DU: statements, read by the evaluator. -/
namespace DL
open PySem PySem.Spec PyProof.Rows L2

def Same (S : Nat → Bool) (σ σ' : L2.St) : Prop := σ'.length = σ.length ∧ ∀ j, S j = false → σ'[j]? = σ[j]?
def Post (S : Nat → Bool) (np : Nat) (D : Ends) (H : Hp) (U : Pd) (As : Nat → List Addr) (σ : L2.St) : RS → Prop
  | .nx l' => ∀ σ' H', (∃ U' As', Core H U (Own As) l' σ' H' U' As' [] ∧ Same S σ σ') → D.nx σ' H'
  | .bk l' => ∀ σ' H', (∃ U' As', Core H U (Own As) l' σ' H' U' As' [] ∧ Same S σ σ') → D.bk σ' H'
  | .ct l' => ∀ σ' H', (∃ U' As', Core H U (Own As) l' σ' H' U' As' [] ∧ Same S σ σ') → D.ct σ' H'
  | .rt v l' => ∀ w H', (∃ σ' U' As' A, Core H U (Own As) l' σ' H' U' As' A ∧ Rep H' U' v w A ∧ ∀ j, j < np → S j = false → σ'[j]? = σ[j]?) → D.rt w H'
  | .no => False
def tS (S : Nat → Bool) (np : Nat) (r : Sl → RS) : TS := fun D σ H => ∃ U l As, Sim H U l σ As ∧ Post S np D H U As σ (r l)

section
variable {X : Cx} {σ σ' σ1 : L2.St} {H H' H1 H2 H4 : Hp} {U U' U1 U2 U4 O P : Pd} {l l' l1 l2 lc : Sl} {As As' As1 As2 As4 : Nat → List Addr} {A A4 B B1 B2 : List Addr} {x : TV} {v y w : V} {d : D} {os : List Od} {vs : List V} {tg : List Nat}
variable {cl : Nat → List TV → RC} {rb : Nat → Nat → Bool} {S : Nat → Bool} {np : Nat} {D : Ends} {R : RS} {e : E} {i : Nat}

theorem Same.refl (S : Nat → Bool) (σ : L2.St) : Same S σ σ := ⟨rfl, fun _ _ => rfl⟩
theorem Same.trans (h : Same S σ σ1) (h' : Same S σ1 σ') : Same S σ σ' := ⟨h'.1.trans h.1, fun j q => (h'.2 j q).trans (h.2 j q)⟩
theorem Post.adv (c : Core H U (Own As) l1 σ1 H1 U1 As1 []) (hs : Same S σ σ1) (p : Post S np D H U As σ R) : Post S np D H1 U1 As1 σ1 R := by
  have ca : ∀ {l' σ' H' U' As' B}, Core H1 U1 (Own As1) l' σ' H' U' As' B → Core H U (Own As) l' σ' H' U' As' B := fun {l' σ' H' U' As' B} c2 => c.after (by rw [ow_nil]; exact c2)
  cases R with
  | nx l' => exact fun σ' H' ⟨U', As', c2, s⟩ => p σ' H' ⟨U', As', ca c2, hs.trans s⟩
  | bk l' => exact fun σ' H' ⟨U', As', c2, s⟩ => p σ' H' ⟨U', As', ca c2, hs.trans s⟩
  | ct l' => exact fun σ' H' ⟨U', As', c2, s⟩ => p σ' H' ⟨U', As', ca c2, hs.trans s⟩
  | rt v l' => exact fun w H' ⟨σ', U', As', A, c2, r, s⟩ => p w H' ⟨σ', U', As', A, ca c2, r, fun j h1 h2 => (s j h1 h2).trans (hs.2 j h2)⟩
  | no => exact p
theorem bS_of {r : RE} {f : TV → Sl → RS} (p : Post S np D H U As σ (r.bS f)) : ∃ v l1, r = .ok v l1 ∧ Post S np D H U As σ (f v l1) := by
  cases r with
  | no => exact p.elim
  | ok v l1 => exact ⟨v, l1, rfl, p⟩
/-- a value put into a slot -/
theorem Core.put (c : Core H U O l' σ H1 U1 As1 A) (r : Rep H1 U1 x v A) (hi : i < l'.length) : Core H U O (st l' i x) (σ.set i (some v)) H1 U1 (fun j => if j = i then A else As1 j) [] := by
  refine ⟨c.sim.put r c.nd (fun j hj a m q => c.ap a m ⟨j, q⟩) hi, by simp, by simp, by simp, by simp, fun a ⟨j, m⟩ => ?_, c.go⟩
  by_cases e : j = i
  · simp only [if_pos e] at m; exact c.src a m
  · simp only [if_neg e] at m; exact c.sub a ⟨j, m⟩
theorem same_set (h : S i = true) : Same S σ (σ.set i (some v)) := ⟨by rw [List.length_set], fun j q => List.getElem?_set_ne (fun z => by rw [z] at h; rw [h] at q; cases q)⟩
theorem asg_rd (hi : i < σ.length) (hs : S i = true) (h : tS S np (fun l => (evE cl rb e l).bS fun v l' => .nx (st l' i v)) D σ H) : tAsg (tE (evE cl rb e)) (gName i) D σ H := by
  obtain ⟨U, l, As, S0, p⟩ := h
  obtain ⟨v, l1, h1, p⟩ := bS_of p
  refine ⟨U, l, As, S0, v, l1, h1, fun x H1 ⟨U1, As1, A, c, r⟩ => p _ _ ⟨U1, _, c.put r (by rw [c.sim.len]; exact hi), same_set hs⟩⟩
theorem asgT_rd {is : List Nat} (h2 : 2 ≤ is.length) (hi : ∀ i ∈ is, i < σ.length) (hs : ∀ i ∈ is, S i = true) (h : tS S np (fun l => (evE cl rb e l).bS fun v l' => (match bindT l' is v.d with | some l2 => .nx l2 | none => .no)) D σ H) : tAsg (tE (evE cl rb e)) (gTg X is) D σ H := by
  obtain ⟨U, l, As, S0, p⟩ := h
  obtain ⟨v, l1, h1, p⟩ := bS_of p
  cases hb : bindT l1 is v.d with
  | none => rw [hb] at p; exact p.elim
  | some l2 =>
    rw [hb] at p
    obtain ⟨ds, hd, _, _⟩ := bindT_many (by omega) hb
    refine ⟨U, l, As, S0, v, l1, h1, fun x H1 ⟨U1, As1, A, c, r⟩ => ?_⟩
    obtain ⟨f, rfl⟩ := r.imm (by rw [hd]; rfl)
    refine bind_ok c.sim f hb (fun i m => by rw [c.sim.len]; exact hi i m) fun σ2 As2 S2 e2 len2 own2 => p _ _ ⟨U1, As2, by simpa using c.step (Core.same S2 own2), len2, fun j q => e2 j fun m => ?_⟩
    have := hs j m
    rw [this] at q; cases q
theorem exp_rd (h : tS S np (fun l => (evE cl rb e l).bS fun _ l' => .nx l') D σ H) : tDrop (tE (evE cl rb e)) D σ H := by
  obtain ⟨U, l, As, S0, p⟩ := h
  obtain ⟨v, l1, h1, p⟩ := bS_of p
  refine ⟨U, l, As, S0, v, l1, h1, fun x H1 ⟨U1, As1, A, c, r⟩ => ?_⟩
  -- the value is let go
  have g : Go H1 U1 (fun a => a ∈ A) H1 (fun a => U1 a ∧ a ∉ A) := ⟨fun _ _ e _ => e, fun a _ n => ⟨fun h => h.1, fun h => ⟨h, n⟩⟩, fun _ e => e⟩
  exact p _ _ ⟨_, As1, c.hand g (fun a h => c.sim.um a h.1) (by simp) (by simp) (by simp), Same.refl _ _⟩
theorem asgP2_rd {a b : E} {j : Nat} (hij : i ≠ j) (hi : i < σ.length) (hj : j < σ.length) (hs : S i = true) (hs2 : S j = true)
    (h : tS S np (fun l => evVs cl rb (.cons a (.cons b .nil)) l [] fun vs l' => .nx (setVs l' [i, j] vs)) D σ H) : tPar i j (tCons (tE (evE cl rb a)) (tCons (tE (evE cl rb b)) tNil)) D σ H := by
  obtain ⟨U, l, As, S0, p⟩ := h
  simp only [evVs] at p
  obtain ⟨v1, l1, h1, p⟩ := bS_of p
  obtain ⟨v2, l2, h2, p⟩ := bS_of p
  refine ⟨U, l, As, S0, v1, l1, h1, fun x1 H1 ⟨U1, As1, A1, c1, r1⟩ => ⟨U1, l1, As1, c1.sim, v2, l2, h2, fun x2 H2 ⟨U2, As2, A2, c2, r2⟩ => ⟨x1, x2, rfl, ?_⟩⟩⟩
  have c12 := c1.step c2
  have r1' := r1.over c2.go c1.sim.ownU c1.ap
  obtain ⟨n1, n2, dj⟩ := List.nodup_append.mp c12.nd
  have hl := c12.sim.len
  have ca : Core H U (Own As) (st l2 i v1) (σ.set i (some x1)) H2 U2 (fun k => if k = i then A1 else As2 k) A2 := by
    refine ⟨c12.sim.put r1' n1 (fun k hk a m q => c12.ap a (List.mem_append_left _ m) ⟨k, q⟩) (by omega), n2, fun a m ⟨k, q⟩ => ?_, fun a m => c12.bm a (List.mem_append_right _ m), fun a m => c12.src a (List.mem_append_right _ m), fun a ⟨k, m⟩ => ?_, c12.go⟩
    · by_cases e : k = i
      · simp only [if_pos e] at q; exact dj a q a m rfl
      · simp only [if_neg e] at q; exact c12.ap a (List.mem_append_right _ m) ⟨k, q⟩
    · by_cases e : k = i
      · simp only [if_pos e] at m; exact c12.src a (List.mem_append_left _ m)
      · simp only [if_neg e] at m; exact c12.sub a ⟨k, m⟩
  exact p _ _ ⟨U2, _, ca.put (i := j) r2 (by unfold st; rw [List.length_set]; omega), (same_set hs).trans (same_set hs2)⟩
theorem asgP3_rd {a b c : E} {j k : Nat} (hij : i ≠ j) (hik : i ≠ k) (hjk : j ≠ k) (hi : i < σ.length) (hj : j < σ.length) (hk : k < σ.length) (hs : S i = true) (hs2 : S j = true) (hs3 : S k = true)
    (h : tS S np (fun l => evVs cl rb (.cons a (.cons b (.cons c .nil))) l [] fun vs l' => .nx (setVs l' [i, j, k] vs)) D σ H) : tPar3 i j k (tCons (tE (evE cl rb a)) (tCons (tE (evE cl rb b)) (tCons (tE (evE cl rb c)) tNil))) D σ H := by
  obtain ⟨U, l, As, S0, p⟩ := h
  simp only [evVs] at p
  obtain ⟨v1, l1, h1, p⟩ := bS_of p
  obtain ⟨v2, l2, h2, p⟩ := bS_of p
  obtain ⟨v3, l3, h3, p⟩ := bS_of p
  refine ⟨U, l, As, S0, v1, l1, h1, fun x1 H1 ⟨U1, As1, A1, c1, r1⟩ => ⟨U1, l1, As1, c1.sim, v2, l2, h2, fun x2 H2 ⟨U2, As2, A2, c2, r2⟩ => ⟨U2, l2, As2, c2.sim, v3, l3, h3, fun x3 H3 ⟨U3, As3, A3, c3, r3⟩ => ⟨x1, x2, x3, rfl, ?_⟩⟩⟩⟩
  have c12 := c1.step c2
  have c123 := c12.step c3
  have r1' := (r1.over c2.go c1.sim.ownU c1.ap).over c3.go c2.sim.ownU fun a m => c12.ap a (List.mem_append_left _ m)
  have r2' := r2.over c3.go c2.sim.ownU c2.ap
  obtain ⟨n12, n3, dj3⟩ := List.nodup_append.mp c123.nd
  obtain ⟨n1, n2, dj⟩ := List.nodup_append.mp n12
  have hl := c123.sim.len
  have ca : Core H U (Own As) (st l3 i v1) (σ.set i (some x1)) H3 U3 (fun q => if q = i then A1 else As3 q) (A2 ++ A3) := by
    refine ⟨c123.sim.put r1' n1 (fun q hq a m z => c123.ap a (by simp [m]) ⟨q, z⟩) (by omega), List.nodup_append.mpr ⟨n2, n3, fun a m b m' e => dj3 a (by simp [m]) b m' e⟩, fun a m ⟨q, z⟩ => ?_, fun a m => c123.bm a (by simp at m ⊢; rcases m with m | m <;> simp [m]), fun a m => c123.src a (by simp at m ⊢; rcases m with m | m <;> simp [m]), fun a ⟨q, m⟩ => ?_, c123.go⟩
    · by_cases e : q = i
      · simp only [if_pos e] at z
        rcases List.mem_append.mp m with m | m
        · exact dj a z a m rfl
        · exact dj3 a (by simp [z]) a m rfl
      · simp only [if_neg e] at z; exact c123.ap a (by simp at m ⊢; rcases m with m | m <;> simp [m]) ⟨q, z⟩
    · by_cases e : q = i
      · simp only [if_pos e] at m; exact c123.src a (by simp [m])
      · simp only [if_neg e] at m; exact c123.sub a ⟨q, m⟩
  have cb : Core H U (Own As) (st (st l3 i v1) j v2) ((σ.set i (some x1)).set j (some x2)) H3 U3 (fun q => if q = j then A2 else if q = i then A1 else As3 q) A3 := by
    refine ⟨ca.sim.put (x := v2) r2' n2 (fun q hq a m z => ca.ap a (by simp [m]) ⟨q, z⟩) (by unfold st; rw [List.length_set]; omega), n3, fun a m ⟨q, z⟩ => ?_, fun a m => ca.bm a (by simp [m]), fun a m => ca.src a (by simp [m]), fun a ⟨q, m⟩ => ?_, ca.go⟩
    · by_cases e : q = j
      · simp only [if_pos e] at z
        exact dj3 a (by simp [z]) a m rfl
      · simp only [if_neg e] at z; exact ca.ap a (by simp [m]) ⟨q, z⟩
    · by_cases e : q = j
      · simp only [if_pos e] at m; exact ca.src a (by simp [m])
      · simp only [if_neg e] at m; exact ca.sub a ⟨q, m⟩
  exact p _ _ ⟨U3, _, cb.put (i := k) r3 (by unfold st; rw [List.length_set, List.length_set]; omega), ((same_set hs).trans (same_set hs2)).trans (same_set hs3)⟩
theorem Rep.froz0 (c : Core H U O l' σ H1 U1 As1 A) (r : Rep H1 U1 x v A) : Core H U O l' σ H1 (fun a => U1 a ∧ a ∉ A) As1 [] ∧ Fz H1 (fun a => U1 a ∧ a ∉ A) x.d v := by
  have g : Go H1 U1 (fun a => a ∈ A) H1 (fun a => U1 a ∧ a ∉ A) := ⟨fun _ _ e _ => e, fun a _ n => ⟨fun h => h.1, fun h => ⟨h, n⟩⟩, fun _ e => e⟩
  exact ⟨c.hand g (fun a h => c.sim.um a h.1) (by simp) (by simp) (by simp), r.froz (fun _ h => h.1) fun a m z => z.2 m⟩
/-- what is returned -/
theorem ret_rd (h : tS S np (fun l => (opd e (evE cl rb e) l).bS fun os l' => (match os with
      | [.v v] => .rt v l'
      | [.r i] => if np ≤ i then .rt (gt l' i) (st l' i ⟨0, .un⟩) else .rt ⟨0, (gt l' i).d⟩ (low l' i 0)
      | _ => .no)) D σ H) : tRet (tO1 (opd e (evE cl rb e))) D σ H := by
  obtain ⟨U, l, As, S0, p⟩ := h
  dsimp only at p
  cases h1 : opd e (evE cl rb e) l with
  | no => rw [h1] at p; exact p.elim
  | ok os l1 =>
    rw [h1] at p
    obtain ⟨o, rfl⟩ := opd_one h1
    simp only [RO.bS] at p
    refine ⟨U, l, As, S0, o, l1, h1, fun w H1 ⟨U1, As1, B, c, r⟩ => ?_⟩
    cases o with
    | v x0 =>
      cases r with
      | cons r1 r2 =>
        cases r2
        cases r1 with
        | v r =>
          simp only at p
          exact p w H1 ⟨σ, U1, As1, _, by simpa using c, r, fun _ _ _ => rfl⟩
    | r i =>
      obtain ⟨e1, rfl⟩ : σ[i]? = some (some w) ∧ B = [] := by
        cases r with
        | cons r1 r2 =>
          cases r2
          cases r1 with
          | r e1 => exact ⟨e1, rfl⟩
      simp only at p
      split at p
      · rename_i hnp
        have hi : i < l1.length := by
          rw [c.sim.len]
          exact Classical.byContradiction fun n => by rw [List.getElem?_eq_none (by omega)] at e1; cases e1
        have rp := c.sim.den e1
        refine p w H1 ⟨σ.set i none, U1, fun j => if j = i then [] else As1 j, As1 i, ⟨⟨?_, fun j x hx => ?_, fun j => ?_, fun j k hjk a m m2 => ?_, fun j hj => ?_, c.sim.um⟩, c.sim.nd i, fun a m ⟨j, q⟩ => ?_, fun a m => c.sim.own ⟨i, m⟩, fun a m => c.sub a ⟨i, m⟩, fun a ⟨j, m⟩ => ?_, c.go⟩, rp, fun j hj hS => List.getElem?_set_ne (by omega)⟩
        · unfold st; rw [List.length_set, List.length_set]; exact c.sim.len
        · by_cases ej : j = i
          · subst ej
            unfold st at hx
            rw [List.getElem?_set_self hi] at hx
            cases hx
            exact .inl ⟨rfl, if_pos rfl, List.getElem?_set_self (by rw [← c.sim.len]; exact hi)⟩
          · unfold st at hx
            rw [List.getElem?_set_ne (Ne.symm ej)] at hx
            simp only [if_neg ej]
            rw [List.getElem?_set_ne (Ne.symm ej)]
            exact c.sim.rep j x hx
        · by_cases ej : j = i
          · simp only [if_pos ej]; simp
          · simp only [if_neg ej]; exact c.sim.nd j
        · by_cases ej : j = i
          · simp [if_pos ej] at m
          · simp only [if_neg ej] at m
            by_cases ek : k = i
            · simp [if_pos ek] at m2
            · simp only [if_neg ek] at m2; exact c.sim.dj j k hjk a m m2
        · unfold st at hj
          rw [List.length_set] at hj
          simp only [if_neg (show j ≠ i by omega)]
          exact c.sim.out j hj
        · by_cases ej : j = i
          · simp [if_pos ej] at q
          · simp only [if_neg ej] at q; exact c.sim.dj j i ej a q m
        · by_cases ej : j = i
          · simp [if_pos ej] at m
          · simp only [if_neg ej] at m; exact c.sub a ⟨j, m⟩
      · have rp := c.sim.den e1
        obtain ⟨U', As', S', h1', h2, h3, h4, h5⟩ := c.sim.low i 0 (.inl rfl)
        refine p w H1 ⟨σ, U', As', [], c.after (Core.lowd S' h1' (fun q a n => h2 q a fun m => n (.inl ⟨i, m⟩)) fun q ⟨j, m⟩ => .inl ⟨j, h3 j q m⟩), ⟨rfl, rp.froz h1' (h5 rfl)⟩, fun _ _ _ => rfl⟩
theorem seq_rd {r f : Sl → RS} {t u : TS} (ht : ∀ D σ H, tS S np r D σ H → t D σ H) (hu : ∀ D σ H, tS S np f D σ H → u D σ H) (h : tS S np (fun l => (r l).bnd f) D σ H) : tSeq t u D σ H := by
  obtain ⟨U, l, As, S0, p⟩ := h
  refine ht _ _ _ ⟨U, l, As, S0, ?_⟩
  dsimp only at p
  cases hr : r l with
  | nx l1 =>
    rw [hr] at p
    exact fun σ' H' ⟨U', As', c, s⟩ => hu _ _ _ ⟨U', l1, As', c.sim, Post.adv c s p⟩
  | bk l1 => rw [hr] at p; exact p
  | ct l1 => rw [hr] at p; exact p
  | rt v l1 => rw [hr] at p; exact p
  | no => rw [hr] at p; exact p.elim
theorem ite_rd {c : E} {f g : Sl → RS} {t u : TS} (ht : ∀ D σ H, tS S np f D σ H → t D σ H) (hu : ∀ D σ H, tS S np g D σ H → u D σ H) (h : tS S np (fun l => (evE cl rb c l).tst.bS fun k l' => if k then f l' else g l') D σ H) :
    tIfS (tT fun l => (evE cl rb c l).tst) t u D σ H := by
  obtain ⟨U, l, As, S0, p⟩ := h
  dsimp only at p
  cases hr : (evE cl rb c l).tst with
  | no => rw [hr] at p; exact p.elim
  | ok b l1 =>
    rw [hr] at p
    refine ⟨U, l, As, S0, b, l1, hr, fun H1 ⟨U1, As1, c1⟩ => ?_⟩
    cases b with
    | true => exact ht _ _ _ ⟨U1, l1, As1, c1.sim, Post.adv c1 (Same.refl _ _) p⟩
    | false => exact hu _ _ _ ⟨U1, l1, As1, c1.sim, Post.adv c1 (Same.refl _ _) p⟩
theorem nx_rd (h : tS S np (fun l => .nx l) D σ H) : tNext D σ H := by
  obtain ⟨U, l, As, S0, p⟩ := h
  exact p σ H ⟨U, As, Core.same S0 fun _ h => h, Same.refl _ _⟩
theorem bk_rd (h : tS S np (fun l => .bk l) D σ H) : tBreak D σ H := by
  obtain ⟨U, l, As, S0, p⟩ := h
  exact p σ H ⟨U, As, Core.same S0 fun _ h => h, Same.refl _ _⟩
theorem ct_rd (h : tS S np (fun l => .ct l) D σ H) : tCont D σ H := by
  obtain ⟨U, l, As, S0, p⟩ := h
  exact p σ H ⟨U, As, Core.same S0 fun _ h => h, Same.refl _ _⟩
/-! ### loops -/
theorem for_rd {it : It} {f : Sl → RS} {tb : TS} (hN : ∀ i ∈ tg, i < σ.length) (hs : ∀ i ∈ tg, S i = true) (hb : ∀ D σ' H, tS S np f D σ' H → tb D σ' H)
    (h : tS S np (fun l => (evI cl rb it l).bS fun xs l1 => forR (fun x l' => match bindT l' tg x with | some l2 => f l2 | none => .no) xs l1) D σ H) :
    tFor (tI (evI cl rb it)) (gTg X tg) tb D σ H := by
  obtain ⟨U, l, As, S0, p⟩ := h
  dsimp only at p
  cases h1 : evI cl rb it l with
  | no => rw [h1] at p; exact p.elim
  | ok xs l1 =>
    rw [h1] at p
    simp only [RI.bS] at p
    generalize hF : (fun x l' => match bindT l' tg x with | some l2 => f l2 | none => RS.no) = F at p
    refine ⟨U, l, As, S0, xs, l1, h1, fun J H1 ⟨U1, As1, c0, w⟩ => ?_⟩
    have hU1 : ∀ a, Own As1 a → U1 a := c0.sim.ownU
    refine ⟨fun i m σi Hi => m = xs.length - i ∧ i ≤ xs.length ∧ σi.length = σ.length ∧ ∃ li Ui Asi, Core H1 U1 (Own As1) li σi Hi Ui Asi [] ∧ Same S σ σi ∧ Post S np D Hi Ui Asi σi (forR F (xs.drop i) li),
      ⟨xs.length, by simp, Nat.zero_le _, rfl, l1, U1, As1, Core.same c0.sim fun _ h => h, Same.refl _ _, Post.adv c0 (Same.refl _ _) p⟩, ?_⟩
    rintro i m σi Hi ⟨rfl, hi, hlen, li, Ui, Asi, c, hsm, pi⟩
    obtain ⟨hstop, hitem⟩ := w Hi Ui (fun a o e n => c.go.keep a o e fun q => n (hU1 a q)) (fun a e n q => n ((c.go.uk a e fun z => n (hU1 a z)).mp q)) c.sim.um
    by_cases hii : i = xs.length
    · subst hii
      refine .inl ⟨hstop, ?_⟩
      rw [List.drop_length] at pi
      exact pi σi Hi ⟨Ui, Asi, Core.same c.sim fun _ h => h, Same.refl _ _⟩
    · have hlt : i < xs.length := by omega
      rw [List.drop_eq_getElem_cons hlt] at pi
      obtain ⟨go, hy⟩ := hitem i xs[i] (List.getElem?_eq_getElem hlt)
      refine .inr ⟨go, fun σ' H' => (fun i m σi Hi => m = xs.length - i ∧ i ≤ xs.length ∧ σi.length = σ.length ∧ ∃ li Ui Asi, Core H1 U1 (Own As1) li σi Hi Ui Asi [] ∧ Same S σ σi ∧ Post S np D Hi Ui Asi σi (forR F (xs.drop i) li)) (i + 1) (xs.length - (i + 1)) σ' H', fun σ' H' q => ⟨xs.length - (i + 1), by omega, q⟩, fun xv Hb hyl => ?_⟩
      obtain ⟨hb', fz⟩ := hy xv Hb hyl
      have ext : Core H1 U1 (Own As1) li σi Hb Ui Asi [] ∧ Core Hi Ui (Own Asi) li σi Hb Ui Asi [] := by
        rcases hb' with rfl | ⟨T, o, hT, rfl⟩
        · exact ⟨c, Core.same c.sim fun _ h => h⟩
        · have dd := (Core.new (O := Own Asi) (o := .tup o) c.sim (fun _ h => h) (fun q h _ => h) (fun q h => h) hT).2
          exact ⟨by simpa using c.step dd, dd⟩
      obtain ⟨cb, cs⟩ := ext
      simp only [forR] at pi
      have hFx : F xs[i] li = match bindT li tg xs[i] with | some l2 => f l2 | none => RS.no := by rw [← hF]
      rw [hFx] at pi
      cases hbt : bindT li tg xs[i] with
      | none => rw [hbt] at pi; exact pi.elim
      | some lb =>
        rw [hbt] at pi
        simp only at pi
        refine bind_ok cb.sim fz hbt (fun j hj => by rw [cb.sim.len, hlen]; exact hN j hj) fun σ2 As2 S2 eq2 len2 own2 => ?_
        have c2 := cb.step (Core.same S2 own2)
        rw [List.append_nil] at c2
        have sm2 : Same S σi σ2 := ⟨len2, fun j q => eq2 j fun m => by have := hs j m; rw [this] at q; cases q⟩
        have csi := cs.step (Core.same S2 own2)
        rw [List.append_nil] at csi
        refine hb _ _ _ ⟨Ui, lb, As2, S2, ?_⟩
        cases hr : f lb with
        | nx l4 =>
          rw [hr] at pi
          exact fun σ' H' ⟨U', As', c4, s4⟩ => ⟨rfl, by omega, by rw [s4.1, len2, hlen], l4, U', As', by simpa using c2.step c4, (hsm.trans sm2).trans s4, Post.adv (by simpa using csi.step c4) (sm2.trans s4) pi⟩
        | ct l4 =>
          rw [hr] at pi
          exact fun σ' H' ⟨U', As', c4, s4⟩ => ⟨rfl, by omega, by rw [s4.1, len2, hlen], l4, U', As', by simpa using c2.step c4, (hsm.trans sm2).trans s4, Post.adv (by simpa using csi.step c4) (sm2.trans s4) pi⟩
        | bk l4 =>
          rw [hr] at pi
          exact fun σ' H' ⟨U', As', c4, s4⟩ => pi σ' H' ⟨U', As', by simpa using csi.step c4, sm2.trans s4⟩
        | rt v l4 =>
          rw [hr] at pi
          exact fun w H' ⟨σ', U', As', A, c4, r4, s4⟩ => pi w H' ⟨σ', U', As', A, by simpa using csi.step c4, r4, fun j h1 h2 => (s4 j h1 h2).trans (sm2.2 j h2)⟩
        | no => rw [hr] at pi; exact pi.elim
theorem whl_rd {c : E} {f : Sl → RS} {tb : TS} (hb : ∀ D σ' H, tS S np f D σ' H → tb D σ' H) (h : tS S np (fun l => whR (fun l' => (evE cl rb c l').tst) f l) D σ H) :
    tWhile (tT fun l => (evE cl rb c l).tst) tb D σ H := by
  obtain ⟨U, l, As, S0, p⟩ := h
  dsimp only at p
  unfold whR at p
  split at p
  case isFalse => exact p.elim
  case isTrue hx =>
    generalize Classical.choose hx = m0 at p
    refine ⟨fun m σi Hi => ∃ li Ui Asi, Sim Hi Ui li σi Asi ∧ Post S np D Hi Ui Asi σi (whN (fun l' => (evE cl rb c l').tst) f m li), ⟨m0, l, U, As, S0, p⟩, ?_⟩
    rintro m σi Hi ⟨li, Ui, Asi, Si, pi⟩
    cases m with
    | zero => exact pi.elim
    | succ m =>
      simp only [whN] at pi
      cases hc : (evE cl rb c li).tst with
      | no => rw [hc] at pi; exact pi.elim
      | ok b l1 =>
        rw [hc] at pi
        refine ⟨Ui, li, Asi, Si, b, l1, hc, fun H1 ⟨U1, As1, c1⟩ => ?_⟩
        cases b with
        | false =>
          dsimp only
          rw [if_neg Bool.false_ne_true]
          exact pi σi H1 ⟨U1, As1, c1, Same.refl _ _⟩
        | true =>
          dsimp only
          rw [if_pos rfl]
          refine ⟨fun σ' H' => ∃ li Ui Asi, Sim H' Ui li σ' Asi ∧ Post S np D H' Ui Asi σ' (whN (fun l' => (evE cl rb c l').tst) f m li), fun σ' H' q => ⟨m, Nat.lt_succ_self _, q⟩, ?_⟩
          refine hb _ _ _ ⟨U1, l1, As1, c1.sim, ?_⟩
          simp only at pi
          have ad : ∀ {R}, Post S np D Hi Ui Asi σi R → Post S np D H1 U1 As1 σi R := fun {R} q => Post.adv c1 (Same.refl _ _) q
          cases hr : f l1 with
          | nx l4 =>
            rw [hr] at pi
            exact fun σ' H' ⟨U', As', c4, s4⟩ => ⟨l4, U', As', c4.sim, Post.adv c4 s4 (ad pi)⟩
          | ct l4 =>
            rw [hr] at pi
            exact fun σ' H' ⟨U', As', c4, s4⟩ => ⟨l4, U', As', c4.sim, Post.adv c4 s4 (ad pi)⟩
          | bk l4 => rw [hr] at pi; exact ad pi
          | rt v l4 => rw [hr] at pi; exact ad pi
          | no => rw [hr] at pi; exact pi.elim
end
end DL
end

section
set_option Elab.async false
set_option linter.all false
set_option maxRecDepth 100000
/-! DV: things of one's own that change. -/
namespace DL
open PySem PySem.Spec PyProof.Rows L2

section
variable {X : Cx} {σ σ' σ1 : L2.St} {H H' H1 H2 H4 : Hp} {U U' U1 U2 U4 O P : Pd} {l l' l1 l2 lc : Sl} {As As' As1 As2 As4 : Nat → List Addr} {A A' A4 B B1 B2 : List Addr} {x x' : TV} {v v0 y w : V} {d : D} {os : List Od} {vs : List V} {tg : List Nat}
variable {cl : Nat → List TV → RC} {rb : Nat → Nat → Bool} {S : Nat → Bool} {np : Nat} {D0 : Ends} {R : RS} {e : E} {i : Nat}

theorem slot_lt' (S : Sim H U l σ As) (hv : σ[i]? = some (some v0)) : i < l.length := by
  rw [S.len]
  exact Classical.byContradiction fun n => by rw [List.getElem?_eq_none (by omega)] at hv; cases hv
/-- a slot's thing changes in its place -/
theorem Core.mut (c : Core H U O l σ H1 U1 As1 B1) (hv : σ[i]? = some (some v0)) (g : Go H1 U1 (fun a => a ∈ As1 i ∨ a ∈ B1) H2 U2) (um : ∀ a, U2 a → H2 a ≠ none) (r : Rep H2 U2 x' v0 A')
    (nd : (A' ++ B2).Nodup) (hA : ∀ a ∈ A' ++ B2, a ∈ As1 i ∨ a ∈ B1 ∨ H1 a = none) (bm : ∀ a ∈ B2, U2 a ∧ H2 a ≠ none) : Core H U O (st l i x') σ H2 U2 (fun j => if j = i then A' else As1 j) B2 := by
  have hi := slot_lt' c.sim hv
  have hn : ∀ a, H1 a = none → H a = none := fun a h => Classical.byContradiction fun n => c.go.dom a n h
  have hP : ∀ a, (a ∈ As1 i ∨ a ∈ B1) → U1 a := fun a q => q.elim (fun m => (c.sim.own ⟨i, m⟩).1) fun m => (c.bm a m).1
  have hj : ∀ j, j ≠ i → ∀ a, a ∈ As1 j → ¬ (a ∈ As1 i ∨ a ∈ B1) := fun j ne a m q => q.elim (fun z => c.sim.dj j i ne a m z) fun z => c.ap a z ⟨j, m⟩
  have fr : ∀ a ∈ A' ++ B2, ∀ j, j ≠ i → a ∉ As1 j := fun a m j ne q => by
    rcases hA a m with z | z | z
    · exact hj j ne a q (.inl z)
    · exact hj j ne a q (.inr z)
    · exact (c.sim.own ⟨j, q⟩).2 z
  obtain ⟨nA, nB, dj⟩ := List.nodup_append.mp nd
  refine ⟨⟨by unfold st; rw [List.length_set]; exact c.sim.len, fun j z hz => ?_, fun j => ?_, fun j k hjk a m m2 => ?_, fun j hl => ?_, um⟩, nB, fun a m ⟨j, q⟩ => ?_, bm, fun a m => ?_, fun a ⟨j, m⟩ => ?_, c.go.trans g fun a q => q.elim (fun z => c.sub a ⟨i, z⟩) (c.src a)⟩
  · by_cases ej : j = i
    · subst ej
      unfold st at hz
      rw [List.getElem?_set_self hi] at hz
      cases hz
      simp only [if_pos]
      exact .inr ⟨v0, hv, r⟩
    · unfold st at hz
      rw [List.getElem?_set_ne (Ne.symm ej)] at hz
      simp only [if_neg ej]
      exact (c.sim.rep j z hz).imp (fun h => h) fun ⟨u, h1, h2⟩ => ⟨u, h1, h2.over g hP (hj j ej)⟩
  · by_cases ej : j = i
    · simp only [if_pos ej]; exact nA
    · simp only [if_neg ej]; exact c.sim.nd j
  · by_cases ej : j = i
    · simp only [if_pos ej] at m
      have ek : k ≠ i := fun z => hjk (ej.trans z.symm)
      simp only [if_neg ek] at m2
      exact fr a (List.mem_append_left _ m) k ek m2
    · simp only [if_neg ej] at m
      by_cases ek : k = i
      · simp only [if_pos ek] at m2
        exact fr a (List.mem_append_left _ m2) j ej m
      · simp only [if_neg ek] at m2
        exact c.sim.dj j k hjk a m m2
  · unfold st at hl
    rw [List.length_set] at hl
    simp only [if_neg (show j ≠ i by omega)]
    exact c.sim.out j hl
  · by_cases ej : j = i
    · simp only [if_pos ej] at q; exact dj a q a m rfl
    · simp only [if_neg ej] at q; exact fr a (List.mem_append_right _ m) j ej q
  · rcases hA a (List.mem_append_right _ m) with z | z | z
    · exact c.sub a ⟨i, z⟩
    · exact c.src a z
    · exact .inr (hn a z)
  · by_cases ej : j = i
    · simp only [if_pos ej] at m
      rcases hA a (List.mem_append_left _ m) with z | z | z
      · exact c.sub a ⟨i, z⟩
      · exact c.src a z
      · exact .inr (hn a z)
    · simp only [if_neg ej] at m; exact c.sub a ⟨j, m⟩
theorem upd_go {a : Addr} {o : HO} (P : Pd) (ha : P a) (hn : H a ≠ none) : Go H U P (upd H a o) U :=
  ⟨fun b u e n => by rw [upd_ne (fun z : b = a => n (by rw [z]; exact ha))]; exact e, fun _ _ _ => Iff.rfl, fun b e => by
    by_cases z : b = a
    · rw [z, upd_same]; exact fun q => nomatch q
    · rw [upd_ne z]; exact e⟩
theorem upd_um {a : Addr} {o : HO} (S : Sim H U l σ As) : ∀ b, U b → upd H a o b ≠ none := fun b h => by
  by_cases z : b = a
  · rw [z, upd_same]; exact fun q => nomatch q
  · rw [upd_ne z]; exact S.um b h
theorem upd_keep {a : Addr} {o : HO} (hU : U a) : ∀ b u, H b = some u → ¬ U b → upd H a o b = some u := fun b u e n => by rw [upd_ne (fun z : b = a => n (by rw [z]; exact hU))]; exact e
/-- a list of frozen things -/
theorem mutL1 {xs : List D} (c : Core H U O l σ H1 U1 As1 B1) (hg : gt l i = ⟨1, .lst xs⟩) (hv : σ[i]? = some (some v0)) :
    ∃ a ws, v0 = .ref a ∧ H1 a = some (.lst ws) ∧ U1 a ∧ FzL H1 U1 xs ws ∧ ∀ xs' ws', FzL H1 U1 xs' ws' → ∃ As2, Core H U O (st l i ⟨1, .lst xs'⟩) σ (upd H1 a (.lst ws')) U1 As2 [] := by
  have r := c.sim.den hv
  rw [hg] at r
  obtain ⟨a, ea, ws, rfl, h1, h2, h3⟩ := r
  refine ⟨a, ws, rfl, h1, h2, h3, fun xs' ws' f => ⟨_, c.mut hv (upd_go _ (.inl (by rw [ea]; simp)) (nne h1)) (upd_um c.sim) (A' := [a]) ⟨a, rfl, ws', rfl, upd_same, h2, FzL.keep (upd_keep h2) (fun _ _ n z => n z) _ _ f⟩ (by simp) (fun b m => ?_) (by simp)⟩⟩
  rw [ea]
  exact .inl (by simpa using m)
/-- a list that owns what it holds -/
theorem mutL2 {xs : List D} (c : Core H U O l σ H1 U1 As1 B1) (hg : gt l i = ⟨2, .lst xs⟩) (hv : σ[i]? = some (some v0)) :
    ∃ a ws Cs, v0 = .ref a ∧ H1 a = some (.lst ws) ∧ U1 a ∧ As1 i = a :: Cs.flatten ∧ a ∉ Cs.flatten ∧ Cs.flatten.Nodup ∧ RepCs H1 U1 xs ws Cs ∧ ∀ xs' ws' Cs' B2, RepCs H1 U1 xs' ws' Cs' → (Cs'.flatten ++ B2).Nodup → (∀ p ∈ Cs'.flatten ++ B2, p ∈ Cs.flatten ∨ p ∈ B1) →
      ∃ As2, Core H U O (st l i ⟨2, .lst xs'⟩) σ (upd H1 a (.lst ws')) U1 As2 B2 := by
  have r := c.sim.den hv
  have nd := c.sim.nd i
  rw [hg] at r
  obtain ⟨a, ws, Cs, rfl, h1, h2, ea, h3⟩ := r
  rw [ea] at nd
  obtain ⟨na, nC⟩ := List.nodup_cons.mp nd
  refine ⟨a, ws, Cs, rfl, h1, h2, ea, na, nC, h3, fun xs' ws' Cs' B2 f n2 hs => ?_⟩
  have hne : ∀ p ∈ Cs'.flatten ++ B2, p ≠ a := fun p m z => by
    rcases hs p m with q | q
    · exact na (z ▸ q)
    · exact c.ap p q ⟨i, by rw [ea]; simp [z]⟩
  have hm : ∀ p ∈ Cs'.flatten ++ B2, U1 p ∧ H1 p ≠ none := fun p m => by
    rcases hs p m with q | q
    · exact c.sim.own ⟨i, by rw [ea]; simp [q]⟩
    · exact c.bm p q
  refine ⟨_, c.mut hv (upd_go _ (.inl (by rw [ea]; simp)) (nne h1)) (upd_um c.sim) (A' := a :: Cs'.flatten) ⟨a, ws', Cs', rfl, upd_same, h2, rfl, f.keep (upd_keep h2) (fun _ _ n z => n z) (fun p m o e => by rw [upd_ne (hne p (by simp [m]))]; exact e) fun p _ z => z⟩ ?_ (fun p m => ?_) fun p m => ⟨(hm p (by simp [m])).1, by rw [upd_ne (hne p (by simp [m]))]; exact (hm p (by simp [m])).2⟩⟩
  · rw [List.cons_append]
    exact List.nodup_cons.mpr ⟨fun m => hne a m rfl, n2⟩
  · rw [ea]
    rw [List.cons_append] at m
    rcases List.mem_cons.mp m with rfl | m
    · exact .inl (by simp)
    · rcases hs p m with q | q
      · exact .inl (by simp [q])
      · exact .inr (.inl q)
theorem Sim.isL (S : Sim H U l σ As) (h : (gt l i).d.isL = true) : ∃ a ws, σ[i]? = some (some (.ref a)) ∧ Rd H a (.lst ws) := by
  obtain ⟨hi, v, hv, r⟩ := S.get (i := i) (by cases hd : (gt l i).d <;> rw [hd] at h <;> first | rfl | cases h)
  have f := r.den
  cases hd : (gt l i).d <;> rw [hd] at h f <;> try (cases h; done)
  obtain ⟨a, ws, rfl, h1, _, _⟩ := f.lst_inv
  exact ⟨a, ws, hv, h1⟩
theorem low_other {j : Nat} {n : Nat} (h : j ≠ i) : gt (low l j n) i = gt l i := by
  unfold low
  split
  · rfl
  · unfold gt st
    rw [List.getD_eq_getElem?_getD, List.getElem?_set_ne h]; rfl
theorem lowO_other {n : Nat} : ∀ (os : List Od) (l : Sl), notI i os = true → gt (lowO n l os) i = gt l i
  | [], _, _ => rfl
  | .v _ :: r, l, h => lowO_other r l h
  | .r j :: r, l, h => by
    simp only [notI, Bool.and_eq_true, Bool.not_eq_true', beq_eq_false_iff_ne] at h
    rw [lowO, lowO_other r _ h.2, low_other h.1]
theorem rApp_rd {Q : VK} (h : tE (evE cl rb (.app i e)) σ H Q) : tBM X.K "list" rAppend (tVar i) (tCons (tO1 (opd e (evE cl rb e))) tNil) σ H Q := by
  obtain ⟨U, l, As, S, x, lf, e1, k⟩ := h
  simp only [evE] at e1
  split at e1
  case isFalse => cases e1
  case isTrue hL =>
    obtain ⟨a0, ws0, hv, hrd⟩ := S.isL hL
    obtain ⟨os, l1, h1, e1⟩ := bnd_some e1
    obtain ⟨o, rfl⟩ := opd_one h1
    split at e1
    case isFalse => cases e1
    case isTrue hno =>
      refine ⟨.ref a0, hv, .inl ⟨rfl, ws0, .inl hrd⟩, U, l, As, S, o, l1, h1, fun y H1 ⟨U1, As1, B, c, r⟩ => ?_⟩
      have a1 : At H1 U1 l1 σ As1 B [o] [y] := ⟨c.sim, c.nd, c.ap, r⟩
      split at e1
      · rename_i xs o' hgt ho
        cases ho
        split at e1
        case isFalse => cases e1
        case isTrue hz =>
          cases e1
          obtain ⟨U', As', S', hu, hU, hA, hB⟩ := a1.lows 0 (.inl rfl)
          have c2 := c.after (Core.lowd S' hu hU fun q h => .inl (hA q h))
          have hg : gt (lowO 0 l1 [o]) i = ⟨1, .lst xs⟩ := by rw [lowO_other _ _ hno]; exact hgt
          obtain ⟨a, ws, ea, h2, h3, h4, km⟩ := mutL1 c2 hg hv
          cases ea
          obtain ⟨As2, c3⟩ := km _ _ (h4.append (a1.froz S' hu hB))
          exact ⟨_, ws, y, rfl, rfl, h2, by have := small_le hz; rw [← h4.length]; omega, k _ _ ⟨_, As2, [], c3, rfl, .non⟩⟩
      · rename_i xs o' hgt ho
        cases ho
        split at e1
        case isFalse => cases e1
        case isTrue hz =>
          cases e1
          rw [Bool.and_eq_true] at hz
          obtain ⟨a, ws, Cs, ea, h2, h3, eA, na, nC, h4, km⟩ := mutL2 c hgt hv
          cases ea
          obtain ⟨Ds, hD, rD⟩ := a1.ods.kids a1.sim hz.2
          cases rD with
          | cons rc rn =>
            cases rn
            rename_i A0
            have hB : A0 = B := by rw [← hD]; simp
            subst hB
            obtain ⟨As2, c3⟩ := km _ _ _ [] (h4.snoc rc) (by
              rw [List.append_nil, List.flatten_append]
              refine List.nodup_append.mpr ⟨nC, by simpa using c.nd, fun p m q m' z => ?_⟩
              subst z
              exact c.ap p (by simpa using m') ⟨i, by rw [eA]; simp [m]⟩) (fun p m => by
              rw [List.append_nil, List.flatten_append] at m
              rcases List.mem_append.mp m with m | m
              · exact .inl m
              · exact .inr (by simpa using m))
            exact ⟨_, ws, y, rfl, rfl, h2, by have := small_le hz.1; rw [← h4.length]; omega, k _ _ ⟨_, As2, [], c3, rfl, .non⟩⟩
      · cases e1
end
end DL
end

section
set_option Elab.async false
set_option linter.all false
set_option maxRecDepth 100000
/-! DW: pop; a dict's or a list's inner lists. -/
namespace DL
open PySem PySem.Spec PyProof.Rows L2

section
variable {X : Cx} {σ σ' σ1 : L2.St} {H H' H1 H2 H4 : Hp} {U U' U1 U2 U4 O P : Pd} {l l' l1 l2 lc : Sl} {As As' As1 As2 As4 : Nat → List Addr} {A A' A4 B B1 B2 : List Addr} {x x' : TV} {v v0 y w : V} {d : D} {os : List Od} {vs : List V} {tg : List Nat}
variable {cl : Nat → List TV → RC} {rb : Nat → Nat → Bool} {S : Nat → Bool} {np : Nat} {D0 : Ends} {R : RS} {e : E} {i : Nat}

theorem FzL.erase : ∀ {ds : List D} {vs : List V} (n : Nat), FzL H U ds vs → FzL H U (ds.eraseIdx n) (vs.eraseIdx n)
  | [], _, _, .nil => .nil
  | _ :: _, _, 0, .cons _ b => b
  | _ :: _, _, n + 1, .cons a b => .cons a (FzL.erase n b)
theorem RepCs.erase : ∀ {ds : List D} {vs : List V} {Cs : List (List Addr)} {j : Nat} {d : D}, RepCs H U ds vs Cs → ds[j]? = some d → ∃ v A, vs[j]? = some v ∧ Cs[j]? = some A ∧ RepC H U d v A ∧ RepCs H U (ds.eraseIdx j) (vs.eraseIdx j) (Cs.eraseIdx j)
  | _, _, _, _, _, .nil, e => by simp at e
  | _, _, _, 0, d, .cons h1 h2, e => by simp at e; subst e; exact ⟨_, _, rfl, rfl, h1, h2⟩
  | _, _, _, j + 1, d, .cons h1 h2, e => by
    obtain ⟨v, A, e1, e2, r, rs⟩ := RepCs.erase (j := j) h2 (by simpa using e)
    exact ⟨v, A, by simpa using e1, by simpa using e2, r, .cons h1 rs⟩
theorem erase_perm : ∀ {Cs : List (List Addr)} {j : Nat} {A : List Addr}, Cs[j]? = some A → ((Cs.eraseIdx j).flatten ++ A).Perm Cs.flatten
  | [], j, A, e => by simp at e
  | C :: r, 0, A, e => by simp at e; subst e; simpa using List.perm_append_comm
  | C :: r, j + 1, A, e => by
    have h := erase_perm (Cs := r) (j := j) (by simpa using e)
    simp only [List.eraseIdx_cons_succ, List.flatten_cons, List.append_assoc]
    exact h.append_left C
theorem RepC.rep (r : RepC H U d v A) : Rep H U ⟨if d.isM then 1 else 0, d⟩ v A := by
  rcases r with ⟨h1, rfl, h2⟩ | ⟨a, rfl, h2⟩
  · rw [h1]; exact ⟨rfl, h2⟩
  · have hm : d.isM = true := by
      match d, h2 with
      | .lst _, _ => rfl
      | .dct false _, _ => rfl
      | .dct true _, _ => rfl
    rw [hm]; exact ⟨a, rfl, h2⟩
/-- one item taken out of a slot's list -/
theorem take_out {xs : List D} {t j : Nat} {z : D} (c : Core H U O l σ H1 U1 As1 B1) (hg : gt l i = ⟨t + 1, .lst xs⟩) (hv : σ[i]? = some (some v0)) (hj : xs[j]? = some z) :
    ∃ a ws y, v0 = .ref a ∧ H1 a = some (.lst ws) ∧ ws.length = xs.length ∧ ws[j]? = some y ∧ ∃ As2 B2, Core H U O (st l i ⟨t + 1, .lst (xs.eraseIdx j)⟩) σ (upd H1 a (.lst (ws.eraseIdx j))) U1 As2 B2 ∧ Rep (upd H1 a (.lst (ws.eraseIdx j))) U1 ⟨if z.isM then t else 0, z⟩ y B2 := by
  match t, hg with
  | 0, hg =>
    obtain ⟨a, ws, rfl, h1, h2, h3, km⟩ := mutL1 c hg hv
    obtain ⟨y, hy, fy⟩ := h3.get hj
    obtain ⟨As2, c2⟩ := km _ _ (h3.erase j)
    refine ⟨a, ws, y, rfl, h1, h3.length.symm, hy, As2, [], c2, ?_⟩
    have e0 : (if z.isM then 0 else 0) = 0 := by split <;> rfl
    rw [e0]
    exact ⟨rfl, Fz.keep (upd_keep h2) (fun _ _ n z => n z) _ _ fy⟩
  | 1, hg =>
    obtain ⟨a, ws, Cs, rfl, h1, h2, eA, na, nC, h4, km⟩ := mutL2 c hg hv
    obtain ⟨y, A, hy, hA, rc, rs⟩ := h4.erase hj
    have pm := erase_perm hA
    obtain ⟨As2, c2⟩ := km _ _ _ A rs (pm.nodup_iff.mpr nC) fun p m => .inl (pm.mem_iff.mp m)
    refine ⟨a, ws, y, rfl, h1, h4.length.symm, hy, As2, A, c2, ?_⟩
    have aA : ∀ p ∈ A, p ≠ a := fun p m q => na (q ▸ pm.mem_iff.mp (List.mem_append_right _ m))
    exact (rc.keep (upd_keep h2) (fun _ _ n z => n z) (fun p m o e => by rw [upd_ne (aA p m)]; exact e) fun p _ z => z).rep
  | t + 2, hg =>
    have r := c.sim.den hv
    rw [hg] at r
    exact r.elim
theorem rPop_rd {Q : VK} (h : tE (evE cl rb (.pop i)) σ H Q) : tBM0 X.K "list" rPop (tVar i) σ H Q := by
  obtain ⟨U, l, As, S, x, lf, e1, k⟩ := h
  simp only [evE] at e1
  have c0 : Core H U (Own As) l σ H U As [] := Core.same S fun _ h => h
  cases hg : gt l i with
  | mk t d =>
    rw [hg] at e1
    cases d <;> (try (cases t <;> (simp only at e1; cases e1; done)))
    rename_i xs
    cases t with
    | zero => simp only at e1; cases e1
    | succ t =>
      simp only at e1
      cases hx : xs.getLast? with
      | none => rw [hx] at e1; cases e1
      | some z =>
        rw [hx] at e1
        cases e1
        have hL : (gt l i).d.isL = true := by rw [hg]; rfl
        obtain ⟨a0, ws0, hv, hrd⟩ := S.isL hL
        have hj : xs[xs.length - 1]? = some z := by rw [← List.getLast?_eq_getElem?]; exact hx
        obtain ⟨a, ws, y, ea, h1, hl, hy, As2, B2, c2, r2⟩ := take_out c0 hg hv hj
        cases ea
        rw [← hl] at hy
        have ed : ws.eraseIdx (xs.length - 1) = ws.dropLast := by rw [← hl]; exact List.eraseIdx_length_sub_one
        have ed2 : xs.eraseIdx (xs.length - 1) = xs.dropLast := List.eraseIdx_length_sub_one
        rw [ed, ed2] at c2
        rw [ed] at r2
        exact ⟨.ref a0, hv, .inl ⟨rfl, ws0, .inl hrd⟩, _, ws, y, rfl, rfl, h1, hy, k _ _ ⟨U, As2, B2, c2, r2⟩⟩
def rPopIx : V → List V → Hp → VK → Prop := fun x vs H Q => ∃ l xs i k y, x = .ref l ∧ vs = [.int i] ∧ H l = some (.lst xs) ∧ DL.ixN xs.length i = some k ∧ xs[k]? = some y ∧ Q y (upd H l (.lst (xs.eraseIdx k)))
theorem seqIx_of {n k : Nat} {i : Int} (h : DL.ixN n i = some k) : seqIndex? i n = some k := by
  unfold DL.ixN at h
  unfold seqIndex?
  by_cases h0 : 0 ≤ i
  · rw [if_pos h0] at h
    split at h
    · rename_i hi
      cases h
      simp only [show ¬ i < 0 by omega, if_false]
      rw [if_pos (by simp; omega)]
    · cases h
  · rw [if_neg h0] at h
    split at h
    · rename_i hi
      cases h
      simp only [show i < 0 by omega, if_true]
      rw [if_pos (by simp; omega)]
    · cases h
theorem ixN_bd {n k : Nat} {i : Int} (h : DL.ixN n i = some k) : -(n : Int) ≤ i ∧ i < n ∧ k < n := by
  unfold DL.ixN at h
  by_cases h0 : 0 ≤ i
  · rw [if_pos h0] at h
    split at h
    · cases h; omega
    · cases h
  · rw [if_neg h0] at h
    split at h
    · cases h; omega
    · cases h
theorem mt_popIx : MtR X "list.pop" rPopIx := by
  intro pins s σ H x vs v us Q I rx rv h
  obtain ⟨l, xs, i, k, y, rfl, rfl, hH, hk, hy, q⟩ := h
  have hb := ixN_bd hk
  have hz : xs.length ≤ sizeLine := (Inv.lstR I (.inl hH)).1
  have hs : sizeLine = 16777216 := sizeLine_eq
  exact mt_popAt pins s σ H _ _ v us Q I rx rv ⟨l, xs, i, k, y, rfl, rfl, hH, by omega, by omega, seqIx_of hk, hy, q⟩
theorem rPopI_rd {Q : VK} (h : tE (evE cl rb (.popi i e)) σ H Q) : tBM X.K "list" rPopIx (tVar i) (tCons (tE (evE cl rb e)) tNil) σ H Q := by
  obtain ⟨U, l, As, S, x, lf, e1, k⟩ := h
  simp only [evE] at e1
  split at e1
  case isFalse => cases e1
  case isTrue hL =>
    obtain ⟨a0, ws0, hv, hrd⟩ := S.isL hL
    cases h1 : evE cl rb e l with
    | no => rw [h1] at e1; cases e1
    | ok vk l1 =>
      rw [h1] at e1
      simp only [RE.bnd] at e1
      refine ⟨.ref a0, hv, .inl ⟨rfl, ws0, .inl hrd⟩, U, l, As, S, vk, l1, h1, fun y H1 ⟨U1, As1, B, c, r⟩ => ?_⟩
      obtain ⟨tk, dk⟩ := vk
      cases hg : gt l1 i with
      | mk t d =>
        rw [hg] at e1
        cases d <;> (try (cases t <;> (simp only at e1; cases e1; done)))
        rename_i xs
        cases t with
        | zero => simp only at e1; cases e1
        | succ t =>
          cases dk with
          | int kk =>
              simp only at e1
              cases hj : DL.ixN xs.length kk with
              | none => rw [hj] at e1; cases e1
              | some j =>
                rw [hj] at e1
                simp only at e1
                cases hz : xs[j]? with
                | none => rw [hz] at e1; cases e1
                | some z =>
                  rw [hz] at e1
                  cases e1
                  obtain ⟨f, rfl⟩ := r.imm rfl
                  obtain rfl := f.int_inv
                  obtain ⟨a, ws, w, ea, h2, hl, hy, As2, B2, c2, r2⟩ := take_out c hg hv hz
                  cases ea
                  exact ⟨_, ws, kk, j, w, rfl, rfl, h2, by rw [hl]; exact hj, hy, k _ _ ⟨U1, As2, B2, c2, r2⟩⟩
          | _ => simp only at e1; cases e1
end
end DL
end

section
set_option Elab.async false
set_option linter.all false
set_option maxRecDepth 100000
/-! DX: dicts of one's own. -/
namespace DL
open PySem PySem.Spec PyProof.Rows L2

section
variable {X : Cx} {σ σ' σ1 : L2.St} {H H' H1 H2 H4 : Hp} {U U' U1 U2 U4 O P : Pd} {l l' l1 l2 lc : Sl} {As As' As1 As2 As4 : Nat → List Addr} {A A' A4 B B1 B2 : List Addr} {x x' : TV} {v v0 y w : V} {d : D} {os : List Od} {vs : List V} {tg : List Nat}
variable {cl : Nat → List TV → RC} {rb : Nat → Nat → Bool} {S : Nat → Bool} {np : Nat} {D0 : Ends} {R : RS} {e : E} {i : Nat}

theorem RepC.atU (r : RepC H U d v A) : ∀ p ∈ A, U p ∧ H p ≠ none := fun p m => (r.rep).at p m
/-- one inner thing changes in its place -/
theorem RepKs.chg {key : D} {c : Key} (hk : keyD key = some c) : ∀ {kd : List (D × D)} {ks : List (Key × V)} {Cs : List (List Addr)} {d : D}, RepKs H U kd ks Cs → Cs.flatten.Nodup → lk kd key = some d →
    ∃ v A, valV ks c = some v ∧ RepC H U d v A ∧ (∀ p ∈ A, p ∈ Cs.flatten) ∧ ∀ H2 d', (∀ p o, H p = some o → p ∉ A → H2 p = some o) → RepC H2 U d' v A → RepKs H2 U (pt kd key d') ks Cs
  | _, _, _, _, .nil, _, e => by simp [lk] at e
  | (k, d0) :: r, _, _, d, .cons (c := c0) (v := v0) (A := A0) h0 h1 h2, nd, e => by
    rw [List.flatten_cons] at nd
    obtain ⟨n1, n2, dj⟩ := List.nodup_append.mp nd
    have hq := keyD_eq h0 hk
    unfold lk at e
    by_cases hc : c0 = c
    · have hd : dEq k key = true := by rw [hq]; exact decide_eq_true hc
      rw [hd] at e
      simp only [if_true] at e
      cases e
      refine ⟨v0, A0, valV_pos hc, h1, fun p m => by simp [m], fun H2 d' kp rc => ?_⟩
      have hp : pt ((k, d0) :: r) key d' = (k, d') :: r := by unfold pt; rw [hd]; rfl
      rw [hp]
      exact .cons h0 rc (h2.keep (fun a o e n => kp a o e fun m => n (h1.atU a m).1) (fun _ _ n z => n z) (fun a m o e => kp a o e fun q => dj a q a m rfl) fun _ _ z => z)
    · have hd : dEq k key = false := by rw [hq]; exact decide_eq_false hc
      rw [hd] at e
      simp only [Bool.false_eq_true, if_false] at e
      obtain ⟨v, A, g1, g2, g3, g4⟩ := RepKs.chg hk h2 n2 e
      refine ⟨v, A, by rw [valV_neg (p := (c0, v0)) hc]; exact g1, g2, fun p m => by simp [g3 p m], fun H2 d' kp rc => ?_⟩
      have hp : pt ((k, d0) :: r) key d' = (k, d0) :: pt r key d' := by simp [pt, hd]
      rw [hp]
      exact .cons h0 (h1.keep (fun a o e n => kp a o e fun m => n (g2.atU a m).1) (fun _ _ n z => n z) (fun a m o e => kp a o e fun q => dj a m a (g3 a q) rfl) fun _ _ z => z) (g4 H2 d' kp rc)
theorem putK_cons {κ : Type} [DecidableEq κ] {c0 c : κ} {v0 v : V} {r : List (κ × V)} (nd : (((c0, v0) :: r).map (·.1)).Nodup) : putK ((c0, v0) :: r) c v = if c0 = c then (c0, v) :: r else (c0, v0) :: putK r c v := by
  rw [List.map_cons, List.nodup_cons] at nd
  unfold putK
  by_cases hc : c0 = c
  · subst hc
    simp only [List.any_cons, decide_true, Bool.true_or, if_true, List.map_cons]
    congr 1
    refine (List.map_congr_left fun p m => ?_).trans (List.map_id _)
    have : p.1 ≠ c0 := fun z => nd.1 (List.mem_map.mpr ⟨p, m, z⟩)
    rw [if_neg this]; rfl
  · simp only [List.any_cons, decide_eq_false hc, Bool.false_or, List.map_cons, if_neg hc]
    split <;> rfl
theorem putK_keys {κ : Type} [DecidableEq κ] (ks : List (κ × V)) (c : κ) (v : V) (nd : (ks.map (·.1)).Nodup) : ((putK ks c v).map (·.1)).Nodup := by
  unfold putK
  split
  · have e : (ks.map fun kv => if kv.1 = c then (kv.1, v) else kv).map (·.1) = ks.map (·.1) := by
      rw [List.map_map]
      refine List.map_congr_left fun p _ => ?_
      simp only [Function.comp]
      split <;> rfl
    rw [e]; exact nd
  · rename_i h
    rw [List.map_append, List.nodup_append]
    refine ⟨nd, by simp, fun a m b m' z => h ?_⟩
    simp only [List.map_cons, List.map_nil, List.mem_singleton] at m'
    obtain ⟨p, hp, rfl⟩ := List.mem_map.mp m
    exact List.any_eq_true.mpr ⟨p, hp, by simpa [← m'] using z⟩
theorem FzK.put {key : D} {c : Key} (hk : keyD key = some c) (f : Fz H U d v) : ∀ {kd : List (D × D)} {ks : List (Key × V)}, FzK H U kd ks → (ks.map (·.1)).Nodup → FzK H U (pt kd key d) (putK ks c v)
  | [], _, .nil, _ => .cons hk f .nil
  | (k, d0) :: r, _, .cons (c := c0) (v := v0) h0 h1 h2, nd => by
    rw [putK_cons nd]
    have hq := keyD_eq h0 hk
    rw [List.map_cons, List.nodup_cons] at nd
    by_cases hc : c0 = c
    · have hd : dEq k key = true := by rw [hq]; exact decide_eq_true hc
      have hp : pt ((k, d0) :: r) key d = (k, d) :: r := by unfold pt; rw [hd]; rfl
      rw [hp, if_pos hc]
      exact .cons h0 f h2
    · have hd : dEq k key = false := by rw [hq]; exact decide_eq_false hc
      have hp : pt ((k, d0) :: r) key d = (k, d0) :: pt r key d := by simp [pt, hd]
      rw [hp, if_neg hc]
      exact .cons h0 h1 (FzK.put hk f h2 nd.2)
theorem RepKs.put {key : D} {c : Key} (hk : keyD key = some c) (f : RepC H U d v A) (nA : A.Nodup) : ∀ {kd : List (D × D)} {ks : List (Key × V)} {Cs : List (List Addr)}, RepKs H U kd ks Cs → (ks.map (·.1)).Nodup → Cs.flatten.Nodup → (∀ p ∈ A, p ∉ Cs.flatten) →
    ∃ Cs', RepKs H U (pt kd key d) (putK ks c v) Cs' ∧ Cs'.flatten.Nodup ∧ ∀ p ∈ Cs'.flatten, p ∈ Cs.flatten ∨ p ∈ A
  | [], _, _, .nil, _, _, _ => ⟨[A], .cons hk f .nil, by simpa using nA, fun p m => .inr (by simpa using m)⟩
  | (k, d0) :: r, _, _, .cons (c := c0) (v := v0) (A := A0) (As := Cs) h0 h1 h2, nd, nC, dA => by
    rw [putK_cons nd]
    have hq := keyD_eq h0 hk
    rw [List.map_cons, List.nodup_cons] at nd
    rw [List.flatten_cons] at nC dA
    obtain ⟨n1, n2, dj⟩ := List.nodup_append.mp nC
    by_cases hc : c0 = c
    · have hd : dEq k key = true := by rw [hq]; exact decide_eq_true hc
      have hp : pt ((k, d0) :: r) key d = (k, d) :: r := by unfold pt; rw [hd]; rfl
      rw [hp, if_pos hc]
      refine ⟨A :: Cs, .cons h0 f h2, ?_, fun p m => ?_⟩
      · rw [List.flatten_cons]
        exact List.nodup_append.mpr ⟨nA, n2, fun a m b m' z => dA a m (by rw [z]; exact List.mem_append_right _ m')⟩
      · rw [List.flatten_cons] at m ⊢
        exact (List.mem_append.mp m).elim .inr fun q => .inl (List.mem_append_right _ q)
    · have hd : dEq k key = false := by rw [hq]; exact decide_eq_false hc
      have hp : pt ((k, d0) :: r) key d = (k, d0) :: pt r key d := by simp [pt, hd]
      rw [hp, if_neg hc]
      obtain ⟨Cs', g1, g2, g3⟩ := RepKs.put hk f nA h2 nd.2 n2 fun p m q => dA p m (List.mem_append_right _ q)
      refine ⟨A0 :: Cs', .cons h0 h1 g1, ?_, fun p m => ?_⟩
      · rw [List.flatten_cons]
        refine List.nodup_append.mpr ⟨n1, g2, fun a m b m' z => ?_⟩
        subst z
        rcases g3 a m' with q | q
        · exact dj a m a q rfl
        · exact dA a q (List.mem_append_left _ m)
      · rw [List.flatten_cons] at m ⊢
        rcases List.mem_append.mp m with q | q
        · exact .inl (List.mem_append_left _ q)
        · exact (g3 p q).imp (List.mem_append_right _) fun z => z

theorem RepCs.chgL : ∀ {ys : List D} {us : List V} {Cs : List (List Addr)} {m : Nat} {d : D}, RepCs H U ys us Cs → Cs.flatten.Nodup → ys[m]? = some d →
    ∃ v A, us[m]? = some v ∧ (∀ p ∈ A, p ∈ Cs.flatten) ∧ RepC H U d v A ∧ ∀ H2 d', (∀ p o, H p = some o → p ∉ A → H2 p = some o) → RepC H2 U d' v A → RepCs H2 U (ys.set m d') us Cs
  | _, _, _, _, _, .nil, _, e => by simp at e
  | _, _, _, 0, d, .cons h1 h2, nd, e => by
    simp at e; subst e
    rw [List.flatten_cons] at nd
    obtain ⟨n1, n2, dj⟩ := List.nodup_append.mp nd
    exact ⟨_, _, rfl, fun p m => by simp [m], h1, fun H2 d' kp rc => .cons rc (h2.keep (fun a o e n => kp a o e fun m => n (h1.atU a m).1) (fun _ _ n z => n z) (fun a m o e => kp a o e fun q => dj a q a m rfl) fun _ _ z => z)⟩
  | _, _, _, m + 1, d, .cons h1 h2, nd, e => by
    rw [List.flatten_cons] at nd
    obtain ⟨n1, n2, dj⟩ := List.nodup_append.mp nd
    obtain ⟨v, A, g1, g2, g3, g4⟩ := RepCs.chgL (m := m) h2 n2 (by simpa using e)
    exact ⟨v, A, by simpa using g1, fun p m => by simp [g2 p m], g3, fun H2 d' kp rc => .cons (h1.keep (fun a o e n => kp a o e fun m => n (g3.atU a m).1) (fun _ _ n z => n z) (fun a m o e => kp a o e fun q => dj a m a (g2 a q) rfl) fun _ _ z => z) (g4 H2 d' kp rc)⟩
/-! ### the inner lists -/
theorem isKey_f {key : D} (h : key.isKey false = true) : ∃ c, keyD key = some c := by
  cases key <;> first | exact ⟨_, rfl⟩ | (simp [D.isKey] at h)
/-- an inner list, as it lies -/
theorem inner {key : D} {xs : List D} (c : Core H U O l σ H1 U1 As1 B1) (hv : σ[i]? = some (some v0)) (h : inL (gt l i) key = some xs) : ∃ a b ws, v0 = .ref a ∧ H1 b = some (.lst ws) ∧ U1 b ∧ FzL H1 U1 xs ws ∧
    ((∃ kd ks cc, gt l i = ⟨2, .dct false kd⟩ ∧ H1 a = some (.dK ks) ∧ keyD key = some cc ∧ valV ks cc = some (.ref b)) ∨ (∃ ys us j m, gt l i = ⟨2, .lst ys⟩ ∧ H1 a = some (.lst us) ∧ key = .int j ∧ ixN us.length j = some m ∧ us[m]? = some (.ref b))) ∧
    ∀ xs' ws', FzL H1 U1 xs' ws' → ∃ As2, Core H U O (st l i (outL (gt l i) key xs')) σ (upd H1 b (.lst ws')) U1 As2 [] := by
  have r := c.sim.den hv
  have nd := c.sim.nd i
  have fin : ∀ {b : Addr} {x' : TV} {ws' : List V}, b ∈ As1 i → Rep (upd H1 b (.lst ws')) U1 x' v0 (As1 i) → ∃ As2, Core H U O (st l i x') σ (upd H1 b (.lst ws')) U1 As2 [] := fun {b x' ws'} hb r' =>
    ⟨_, c.mut hv (upd_go _ (.inl hb) (c.sim.own ⟨i, hb⟩).2) (upd_um c.sim) r' (by simpa using nd) (fun a m => .inl (by simpa using m)) (by simp)⟩
  cases hg : gt l i with
  | mk t d =>
    rw [hg] at h r
    match t, d, h, r with
    | 2, .dct false kd, h, r =>
      simp only [inL] at h
      cases hl : lk kd key with
      | none => rw [hl] at h; cases h
      | some z =>
        rw [hl] at h
        cases z <;> (try (simp only at h; cases h; done))
        rename_i zs
        simp only at h
        split at h
        case isFalse => cases h
        case isTrue hk =>
          cases h
          obtain ⟨cc, hc⟩ := isKey_f hk
          obtain ⟨a, ks, Cs, rfl, h1, h2, eA, h3⟩ := r
          rw [eA] at nd
          obtain ⟨na, nC⟩ := List.nodup_cons.mp nd
          obtain ⟨w, A, g1, g2, g3, g4⟩ := h3.chg hc nC hl
          rcases g2 with ⟨q, _, _⟩ | ⟨b, rfl, ws, rfl, k1, k2, k3⟩
          · cases q
          have bA : b ∈ As1 i := by rw [eA]; exact List.mem_cons_of_mem _ (g3 b (by simp))
          have ab : a ≠ b := fun z => na (z ▸ g3 b (by simp))
          refine ⟨a, b, ws, rfl, k1, k2, k3, .inl ⟨kd, ks, cc, rfl, h1, hc, g1⟩, fun xs' ws' f => fin bA ?_⟩
          rw [eA]
          refine ⟨a, ks, Cs, rfl, by rw [upd_ne ab]; exact h1, h2, rfl, g4 _ _ (fun p o e n => by rw [upd_ne (fun z => n (by simp [z]))]; exact e) (.inr ⟨b, rfl, ws', rfl, upd_same, k2, FzL.keep (upd_keep k2) (fun _ _ n z => n z) _ _ f⟩)⟩
    | 2, .lst ys, h, r =>
      cases key with
      | int j =>
        simp only [inL] at h
        cases hj : ixN ys.length j with
        | none => rw [hj] at h; cases h
        | some m =>
          rw [hj] at h
          simp only at h
          cases hz : ys[m]? with
          | none => rw [hz] at h; cases h
          | some z =>
            rw [hz] at h
            cases z <;> (try (simp only at h; cases h; done))
            rename_i zs
            simp only at h
            cases h
            obtain ⟨a, us, Cs, rfl, h1, h2, eA, h3⟩ := r
            rw [eA] at nd
            obtain ⟨na, nC⟩ := List.nodup_cons.mp nd
            obtain ⟨w, A, g1, g2, g3, g4⟩ := h3.chgL nC hz
            rcases g3 with ⟨q, _, _⟩ | ⟨b, rfl, ws, rfl, k1, k2, k3⟩
            · cases q
            have bC : b ∈ Cs.flatten := g2 b (by simp)
            have bA : b ∈ As1 i := by rw [eA]; exact List.mem_cons_of_mem _ bC
            have ab : a ≠ b := fun z => na (z ▸ bC)
            refine ⟨a, b, ws, rfl, k1, k2, k3, .inr ⟨ys, us, j, m, rfl, h1, rfl, by rw [← h3.length]; exact hj, g1⟩, fun xs' ws' f => fin bA ?_⟩
            rw [eA]
            simp only [outL, hj]
            exact ⟨a, us, Cs, rfl, by rw [upd_ne ab]; exact h1, h2, rfl, g4 _ _ (fun p o e n => by rw [upd_ne (fun z => n (by simp [z]))]; exact e) (.inr ⟨b, rfl, ws', rfl, upd_same, k2, FzL.keep (upd_keep k2) (fun _ _ n z => n z) _ _ f⟩)⟩
      | _ => simp only [inL] at h; cases h
    | 0, d, h, r => simp [inL] at h
    | 1, d, h, r => simp [inL] at h
    | t + 3, d, h, r => simp [inL] at h
    | 2, .dct true _, h, r => simp [inL] at h
    | 2, .un, h, r => simp [inL] at h
    | 2, .non, h, r => simp [inL] at h
    | 2, .bl _, h, r => simp [inL] at h
    | 2, .int _, h, r => simp [inL] at h
    | 2, .str _, h, r => simp [inL] at h
    | 2, .tup _, h, r => simp [inL] at h
end
end DL
end

section
set_option Elab.async false
set_option linter.all false
set_option maxRecDepth 100000
/-! DY: methods on inner lists; items stored; dict displays. -/
namespace DL
open PySem PySem.Spec PyProof.Rows L2

section
variable {X : Cx} {σ σ' σ1 : L2.St} {H H' H1 H2 H4 : Hp} {U U' U1 U2 U4 O P : Pd} {l l' l1 l2 lc : Sl} {As As' As1 As2 As4 : Nat → List Addr} {A A' A4 B B1 B2 : List Addr} {x x' : TV} {v v0 y w : V} {d : D} {os : List Od} {vs : List V} {tg : List Nat}
variable {cl : Nat → List TV → RC} {rb : Nat → Nat → Bool} {S : Nat → Bool} {np : Nat} {D0 : Ends} {R : RS} {e : E} {i : Nat} {G : Pg} {n : Nat}

def kvD : D → V
  | .int i => .int i
  | .str x => .str x
  | .bl b => .bl b
  | _ => .non
theorem kvD_k {key : D} {c : Key} (h : keyD key = some c) : kvD key = kV c := by
  cases key <;> simp [keyD] at h <;> subst h <;> rfl
theorem cst_c {d : D} {e : Expr} (h : mE G X.N (.cst d) X.env.scope e = true) : PE X e (tC (kvD d)) ∧ ∀ H U, Fz H U d (kvD d) := by
  cases d <;> cases e <;> (try (simp only [mE] at h; cases h; done))
  all_goals
    rename_i k _ _
    cases k <;> (try (simp only [mE] at h; cases h; done))
  · exact ⟨pe_non, fun H U => .non⟩
  · simp only [mE, beq_iff_eq] at h; subst h; exact ⟨pe_bl, fun H U => .bl _⟩
  · simp only [mE, decide_eq_true_eq] at h; subst h; exact ⟨pe_int, fun H U => .int _⟩
  · simp only [mE, decide_eq_true_eq] at h; subst h; exact ⟨pe_str, fun H U => .str _⟩
def tF (il : E) : TE := fun σ H Q => ∃ U l As, Sim H U l σ As ∧ ∃ d, flatV l il = some d ∧ ∀ v, Fz H U d v → Q v H
theorem gt_imm (S : Sim H U l σ As) {i : Nat} (h : ((gt l i).d.isM || (gt l i).d.isUn) = false) : ∃ v, σ[i]? = some (some v) ∧ Fz H U (gt l i).d v := by
  rw [Bool.or_eq_false_iff] at h
  obtain ⟨_, v, hv, r⟩ := S.get h.2
  exact ⟨v, hv, (r.imm h.1).1⟩
theorem flat_div {i j : Nat} {e : Expr} (h : mE G X.N (.op (.bin .fdiv) (.cons (.var i) (.cons (.var j) .nil))) X.env.scope e = true) : PE X e (tF (.op (.bin .fdiv) (.cons (.var i) (.cons (.var j) .nil)))) := by
  simp only [mE] at h
  cases hd : dsO (.bin .fdiv) X.env.scope e with
  | none => rw [hd] at h; cases h
  | some args =>
    rw [hd] at h
    obtain ⟨a, b, p, rfl, rfl⟩ := ds_bin hd
    simp only [mEs, Bool.and_eq_true] at h
    have ha : PE X a (tVar i) := var_pe (G := G) (by simpa only [mE] using h.1)
    have hb : PE X b (tVar j) := var_pe (G := G) (by simpa only [mE] using h.2.1)
    refine pe_imp (pe_op op_fdiv ha hb) fun σ H Q q => ?_
    obtain ⟨U, l, As, S, d', e1, k⟩ := q
    simp only [flatV] at e1
    split at e1
    · rename_i x y hx hy
      split at e1
      · rename_i hc
        cases e1
        obtain ⟨v, hv, f⟩ := gt_imm S (i := i) (by rw [hx]; rfl)
        obtain ⟨w, hw, g⟩ := gt_imm S (i := j) (by rw [hy]; rfl)
        rw [hx] at f; rw [hy] at g
        obtain rfl := f.int_inv
        obtain rfl := g.int_inv
        exact ⟨_, hv, _, hw, x, y, rfl, rfl, of_decide_eq_true (p := 0 < y ∧ y < 1073741824) hc, k _ (.int _)⟩
      · cases e1
    · cases e1
theorem flat_ok {il : E} {e : Expr} (h : mE G X.N il X.env.scope e = true) : PE X e (tF il) := by
  have never : (∀ l, flatV l il = none) → PE X e (tF il) := fun hn => ⟨fun pins s σ H Q I q => by
    obtain ⟨U, l, As, S, d, e1, k⟩ := q
    rw [hn l] at e1; cases e1⟩
  cases il with
  | cst d =>
    obtain ⟨k, f⟩ := cst_c h
    refine pe_imp k fun σ H Q q => ?_
    obtain ⟨U, l, As, S, d', e1, k⟩ := q
    simp only [flatV] at e1
    split at e1
    · cases e1
    · cases e1; exact k _ (f H U)
  | var i =>
    refine pe_imp (var_pe h) fun σ H Q q => ?_
    obtain ⟨U, l, As, S, d', e1, k⟩ := q
    simp only [flatV] at e1
    split at e1
    · cases e1
    · rename_i hm
      cases e1
      obtain ⟨v, hv, f⟩ := gt_imm S (by simpa using hm)
      exact ⟨v, hv, k v f⟩
  | op o es =>
    match o, es, h, never with
    | .bin .add, _, _, never => exact never fun l => rfl
    | .bin .sub, _, _, never => exact never fun l => rfl
    | .bin .mul, _, _, never => exact never fun l => rfl
    | .bin .mod, _, _, never => exact never fun l => rfl
    | .bin .pow, _, _, never => exact never fun l => rfl
    | .cmp _, _, _, never => exact never fun l => rfl
    | .neg, _, _, never => exact never fun l => rfl
    | .sub, _, _, never => exact never fun l => rfl
    | .rev, _, _, never => exact never fun l => rfl
    | .b1 _, _, _, never => exact never fun l => rfl
    | .max2, _, _, never => exact never fun l => rfl
    | .min2, _, _, never => exact never fun l => rfl
    | .isi _, _, _, never => exact never fun l => rfl
    | .sset, _, _, never => exact never fun l => rfl
    | .tup, _, _, never => exact never fun l => rfl
    | .lst _, _, _, never => exact never fun l => rfl
    | .dct _ _, _, _, never => exact never fun l => rfl
    | .bin .fdiv, .nil, _, never => exact never fun l => rfl
    | .bin .fdiv, .cons a r, h, never =>
      cases a with
      | var i =>
        cases r with
        | nil => exact never fun l => rfl
        | cons b r2 =>
          cases b with
          | var j =>
            cases r2 with
            | nil => exact flat_div h
            | cons _ _ => exact never fun l => rfl
          | _ => exact never fun l => rfl
      | _ => exact never fun l => rfl
  | _ => exact never fun l => rfl

/-! ### an item at a constant key -/
def rIxC (K : PySem.W.Frag) : R2 := fun x y H Q => rIxD x y H Q ∨ rIxL K x y H Q
theorem ix_c (g : Gd X) : IxR X (rIxC X.K) := (ix_dict g).or ix_list
theorem at_of {α : Type} {xs : List α} {j : Int} {m : Nat} {z : α} (h : DL.ixN xs.length j = some m) (e : xs[m]? = some z) : atI xs j = some z := by
  unfold atI
  rw [← ixN_eq, h]; exact e
theorem inner_ix {K : PySem.W.Frag} {key : D} {xs : List D} {Q : VK} (S : Sim H U l σ As) (h : inL (gt l i) key = some xs) (k : ∀ a b ws, σ[i]? = some (some (.ref a)) → H b = some (.lst ws) → U b → FzL H U xs ws →
    (∀ xs' ws', FzL H U xs' ws' → ∃ As2, Core H U (Own As) (st l i (outL (gt l i) key xs')) σ (upd H b (.lst ws')) U As2 []) → Q (.ref b) H) : tOp (rIxC K) (tVar i) (tC (kvD key)) σ H Q := by
  have hu : (gt l i).d.isUn = false := by
    cases hg : gt l i with
    | mk t d =>
      rw [hg] at h
      cases d <;> first | rfl | (simp [inL] at h)
  obtain ⟨_, v0, hv, _⟩ := S.get hu
  have c0 : Core H U (Own As) l σ H U As [] := Core.same S fun _ h => h
  obtain ⟨a, b, ws, rfl, h1, h2, h3, h4, km⟩ := inner c0 hv h
  refine ⟨.ref a, hv, ?_⟩
  rcases h4 with ⟨kd, ks, cc, hg, ha, hc, hval⟩ | ⟨ys, us, j, m, hg, ha, rfl, hj, hm⟩
  · exact .inl ⟨a, .ref b, rfl, .inl ⟨ks, cc, .inl ha, kvD_k hc, hval.symm⟩, k a b ws hv h1 h2 h3 km⟩
  · exact .inr ⟨a, us, j, .ref b, rfl, rfl, .inl (.inl ha), at_of hj hm, k a b ws hv h1 h2 h3 km⟩
theorem appK_rd {K : PySem.W.Frag} {key : D} {Q : VK} (h : tE (evE cl rb (.appK i (.cst key) e)) σ H Q) : tBM K "list" rAppend (tOp (rIxC K) (tVar i) (tC (kvD key))) (tCons (tF e) tNil) σ H Q := by
  obtain ⟨U, l, As, S, x, lf, e1, k⟩ := h
  simp only [evE] at e1
  split at e1
  · rename_i xs d h1 h2
    split at e1
    · rename_i hz
      cases e1
      refine inner_ix S h1 fun a b ws hv hb hU hf km => ⟨.inl ⟨rfl, ws, .inl (.inl hb)⟩, U, l, As, S, d, h2, fun y fy => ?_⟩
      obtain ⟨As2, c2⟩ := km _ _ (hf.append (.cons fy .nil))
      exact ⟨b, ws, y, rfl, rfl, hb, by have := small_le hz; rw [← hf.length]; omega, k _ _ ⟨U, As2, [], c2, rfl, .non⟩⟩
    · cases e1
  · cases e1
theorem popK_rd {K : PySem.W.Frag} {key : D} {Q : VK} (h : tE (evE cl rb (.popK i (.cst key))) σ H Q) : tBM0 K "list" rPop (tOp (rIxC K) (tVar i) (tC (kvD key))) σ H Q := by
  obtain ⟨U, l, As, S, x, lf, e1, k⟩ := h
  simp only [evE] at e1
  split at e1
  · rename_i xs h1
    split at e1
    · rename_i z hz
      cases e1
      refine inner_ix S h1 fun a b ws hv hb hU hf km => ⟨.inl ⟨rfl, ws, .inl (.inl hb)⟩, ?_⟩
      have hj : xs[xs.length - 1]? = some z := by rw [← List.getLast?_eq_getElem?]; exact hz
      obtain ⟨y, hy, fy⟩ := hf.get hj
      rw [hf.length] at hy
      have hd : FzL H U xs.dropLast ws.dropLast := by
        rw [List.dropLast_eq_take, List.dropLast_eq_take, hf.length]
        exact hf.take _
      obtain ⟨As2, c2⟩ := km _ _ hd
      exact ⟨b, ws, y, rfl, rfl, hb, hy, k _ _ ⟨U, As2, [], c2, rfl, Fz.keep (upd_keep hU) (fun _ _ n z => n z) _ _ fy⟩⟩
    · cases e1
  · cases e1
theorem neK_rd {K : PySem.W.Frag} {key : D} {Q : VK} (h : tE (evE cl rb (.neK i (.cst key))) σ H Q) :
    tOp (fun x y H Q => ∃ σ, FO (applyO (.cmp .ne)) [x, y] σ H Q) (tOp (rIxC K) (tVar i) (tC (kvD key))) (tLst tNil) σ H Q := by
  obtain ⟨U, l, As, S, x, lf, e1, k⟩ := h
  simp only [evE] at e1
  split at e1
  · rename_i xs h1
    obtain ⟨bb, e2, rfl, rfl⟩ := okB_some e1
    refine inner_ix S h1 fun a b ws hv hb hU hf km => ⟨Nat.zero_le _, fun p hp => ⟨[], ?_⟩⟩
    have hbp : b ≠ p := ne_of_none hb hp
    have f1 : Fz (upd H p (.lst [])) Nv (.lst xs) (.ref b) := .lst (.inl (by rw [upd_ne hbp]; exact hb)) (fun h => h) (FzL.keep (fun a o e _ => by rw [upd_ne (ne_of_none e hp)]; exact e) (fun _ _ _ z => z) _ _ hf)
    have f2 : Fz (upd H p (.lst [])) Nv (.lst []) (.ref p) := .lst (.inl upd_same) (fun h => h) .nil
    have S0 : Sim (upd H p (.lst [])) Nv [] [] (fun _ => []) := ⟨rfl, fun i x h => by simp at h, by simp, by simp, by simp, fun _ h => h.elim⟩
    refine ⟨Nv, [], fun _ => [], [], [.v ⟨0, .lst xs⟩, .v ⟨0, .lst []⟩], ⟨S0, by simp, by simp, .cons (A := []) (.v ⟨rfl, f1⟩) (.cons (A := []) (.v ⟨rfl, f2⟩) .nil)⟩, ⟨0, .bl bb⟩, [], ?_, fun u H2 ⟨U2, As2, A2, c2, r2⟩ => ?_⟩
    · show okB (cmpD .ne (.lst xs) (.lst [])) [] = _
      rw [e2]; rfl
    · obtain ⟨rfl, rfl⟩ := r2.bl
      have kp : ∀ q o, H q = some o → H2 q = some o := fun q o e => c2.go.keep q o (by rw [upd_ne (ne_of_none e hp)]; exact e) fun z => by
        rcases z with ⟨j, z⟩ | z <;> simp at z
      have S2 : Sim H2 U lf σ As := S.keep (fun q o e _ => kp q o e) (fun _ _ n z => n z) (fun q h => ⟨fun o e => kp q o e, (S.own h).1⟩) fun q h => by
        cases hq : H q with
        | none => exact absurd hq (S.um q h)
        | some o => rw [kp q o hq]; exact fun z => nomatch z
      refine k _ _ ⟨U, As, [], ⟨S2, by simp, by simp, by simp, by simp, fun q h => .inl h, ⟨fun q o e _ => kp q o e, fun _ _ _ => Iff.rfl, fun q e => ?_⟩⟩, rfl, .bl _⟩
      cases hq : H q with
      | none => exact absurd hq e
      | some o => rw [kp q o hq]; exact fun z => nomatch z
  · cases e1
end
end DL
end

section
set_option Elab.async false
set_option linter.all false
set_option maxRecDepth 100000
/-! DZ: items stored; dict displays. -/
namespace DL
open PySem PySem.Spec PyProof.Rows L2

section
variable {X : Cx} {σ σ' σ1 : L2.St} {H H' H1 H2 H4 : Hp} {U U' U1 U2 U4 O P : Pd} {l l' l1 l2 lc : Sl} {As As' As1 As2 As4 : Nat → List Addr} {A A' A4 B B1 B2 : List Addr} {x x' : TV} {v v0 y w : V} {d : D} {os : List Od} {vs : List V} {tg : List Nat}
variable {cl : Nat → List TV → RC} {rb : Nat → Nat → Bool} {S : Nat → Bool} {np : Nat} {D0 : Ends} {R : RS} {e k : E} {i : Nat} {G : Pg} {n : Nat}

theorem KV.keys {κ : Type} : ∀ {kvs : List (κ × V)} {vs : List (κ × Value)}, KV kvs vs → kvs.map (·.1) = vs.map (·.1)
  | _, _, .nil => rfl
  | _, _, .cons h t => by rw [List.map_cons, List.map_cons, h.1, KV.keys t]
def rSetDN : TSet := fun o i v H Q => ∃ a ks c, o = .ref a ∧ H a = some (.dK ks) ∧ i = kV c ∧ ks.length < sizeLine ∧ ((ks.map (·.1)).Nodup → Q (upd H a (.dK (putK ks c v))))
theorem set_dictN (hu : X.A.units + 1 < cLine) : PSet X rSetDN := by
  intro pins s σ H o i v ov iv u Q I ro ri rv h
  obtain ⟨a, ks, c, rfl, e, rfl, hl, q⟩ := h
  obtain ⟨z, hd, vs, rel, dd⟩ := dk_of I.hok e
  have nd : (ks.map (·.1)).Nodup := by
    obtain ⟨o, es, ep, _, _, _, _, _, nd⟩ := dd
    rw [KV.keys rel]; exact nd
  exact set_dict hu pins s σ H _ _ v ov iv u Q I ro ri rv ⟨a, _, rfl, DPut.k e hl, q nd⟩
def rSetC : TSet := fun o i v H Q => rSetL o i v H Q ∨ rSetDN o i v H Q
theorem set_c (hu : X.A.units + 1 < cLine) : PSet X rSetC := by
  intro pins s σ H o i v ov iv u Q I ro ri rv h
  rcases h with h | h
  · exact set_list pins s σ H o i v ov iv u Q I ro ri rv h
  · exact set_dictN hu pins s σ H o i v ov iv u Q I ro ri rv h
theorem mutD1 {kd : List (D × D)} (c : Core H U O l σ H1 U1 As1 B1) (hg : gt l i = ⟨1, .dct false kd⟩) (hv : σ[i]? = some (some v0)) :
    ∃ a ks, v0 = .ref a ∧ H1 a = some (.dK ks) ∧ U1 a ∧ FzK H1 U1 kd ks ∧ ∀ kd' ks', FzK H1 U1 kd' ks' → ∃ As2, Core H U O (st l i ⟨1, .dct false kd'⟩) σ (upd H1 a (.dK ks')) U1 As2 [] := by
  have r := c.sim.den hv
  rw [hg] at r
  obtain ⟨a, ea, ws, rfl, h1, h2, h3⟩ := r
  refine ⟨a, ws, rfl, h1, h2, h3, fun xs' ws' f => ⟨_, c.mut hv (upd_go _ (.inl (by rw [ea]; simp)) (nne h1)) (upd_um c.sim) (A' := [a]) ⟨a, rfl, ws', rfl, upd_same, h2, FzK.keep (upd_keep h2) (fun _ _ n z => n z) _ _ f⟩ (by simp) (fun b m => ?_) (by simp)⟩⟩
  rw [ea]
  exact .inl (by simpa using m)
theorem mutD2 {kd : List (D × D)} (c : Core H U O l σ H1 U1 As1 B1) (hg : gt l i = ⟨2, .dct false kd⟩) (hv : σ[i]? = some (some v0)) :
    ∃ a ks Cs, v0 = .ref a ∧ H1 a = some (.dK ks) ∧ U1 a ∧ As1 i = a :: Cs.flatten ∧ a ∉ Cs.flatten ∧ Cs.flatten.Nodup ∧ RepKs H1 U1 kd ks Cs ∧ ∀ kd' ks' Cs' B2, RepKs H1 U1 kd' ks' Cs' → (Cs'.flatten ++ B2).Nodup → (∀ p ∈ Cs'.flatten ++ B2, p ∈ Cs.flatten ∨ p ∈ B1) →
      ∃ As2, Core H U O (st l i ⟨2, .dct false kd'⟩) σ (upd H1 a (.dK ks')) U1 As2 B2 := by
  have r := c.sim.den hv
  have nd := c.sim.nd i
  rw [hg] at r
  obtain ⟨a, ws, Cs, rfl, h1, h2, ea, h3⟩ := r
  rw [ea] at nd
  obtain ⟨na, nC⟩ := List.nodup_cons.mp nd
  refine ⟨a, ws, Cs, rfl, h1, h2, ea, na, nC, h3, fun xs' ws' Cs' B2 f n2 hs => ?_⟩
  have hne : ∀ p ∈ Cs'.flatten ++ B2, p ≠ a := fun p m z => by
    rcases hs p m with q | q
    · exact na (z ▸ q)
    · exact c.ap p q ⟨i, by rw [ea]; simp [z]⟩
  have hm : ∀ p ∈ Cs'.flatten ++ B2, U1 p ∧ H1 p ≠ none := fun p m => by
    rcases hs p m with q | q
    · exact c.sim.own ⟨i, by rw [ea]; simp [q]⟩
    · exact c.bm p q
  refine ⟨_, c.mut hv (upd_go _ (.inl (by rw [ea]; simp)) (nne h1)) (upd_um c.sim) (A' := a :: Cs'.flatten) ⟨a, ws', Cs', rfl, upd_same, h2, rfl, f.keep (upd_keep h2) (fun _ _ n z => n z) (fun p m o e => by rw [upd_ne (hne p (by simp [m]))]; exact e) fun p _ z => z⟩ ?_ (fun p m => ?_) fun p m => ⟨(hm p (by simp [m])).1, by rw [upd_ne (hne p (by simp [m]))]; exact (hm p (by simp [m])).2⟩⟩
  · rw [List.cons_append]
    exact List.nodup_cons.mpr ⟨fun m => hne a m rfl, n2⟩
  · rw [ea]
    rw [List.cons_append] at m
    rcases List.mem_cons.mp m with rfl | m
    · exact .inl (by simp)
    · rcases hs p m with q | q
      · exact .inl (by simp [q])
      · exact .inr (.inl q)
theorem FzL.set (f : Fz H U d v) : ∀ {ds : List D} {vs : List V} (m : Nat), FzL H U ds vs → FzL H U (ds.set m d) (vs.set m v)
  | [], _, _, .nil => .nil
  | _ :: _, _, 0, .cons _ b => .cons f b
  | _ :: _, _, m + 1, .cons a b => .cons a (FzL.set f m b)
theorem RepCs.set (f : RepC H U d v A) (nA : A.Nodup) : ∀ {ds : List D} {vs : List V} {Cs : List (List Addr)} (m : Nat), RepCs H U ds vs Cs → Cs.flatten.Nodup → (∀ p ∈ A, p ∉ Cs.flatten) → ∃ Cs', RepCs H U (ds.set m d) (vs.set m v) Cs' ∧ Cs'.flatten.Nodup ∧ ∀ p ∈ Cs'.flatten, p ∈ Cs.flatten ∨ p ∈ A
  | _, _, _, _, .nil, nC, _ => ⟨[], .nil, by simp, by simp⟩
  | _, _, _, 0, .cons (A := A0) (As := Cs) h1 h2, nC, dA => by
    rw [List.flatten_cons] at nC dA
    obtain ⟨n1, n2, dj⟩ := List.nodup_append.mp nC
    refine ⟨A :: Cs, .cons f h2, ?_, fun p m => ?_⟩
    · rw [List.flatten_cons]
      exact List.nodup_append.mpr ⟨nA, n2, fun a m b m' z => dA a m (by rw [z]; exact List.mem_append_right _ m')⟩
    · rw [List.flatten_cons] at m ⊢
      exact (List.mem_append.mp m).elim .inr fun q => .inl (List.mem_append_right _ q)
  | _, _, _, m + 1, .cons (A := A0) (As := Cs) h1 h2, nC, dA => by
    rw [List.flatten_cons] at nC dA
    obtain ⟨n1, n2, dj⟩ := List.nodup_append.mp nC
    obtain ⟨Cs', g1, g2, g3⟩ := RepCs.set f nA m h2 n2 fun p q z => dA p q (List.mem_append_right _ z)
    refine ⟨A0 :: Cs', .cons h1 g1, ?_, fun p m => ?_⟩
    · rw [List.flatten_cons]
      refine List.nodup_append.mpr ⟨n1, g2, fun a m b m' z => ?_⟩
      subst z
      rcases g3 a m' with q | q
      · exact dj a m a q rfl
      · exact dA a q (List.mem_append_left _ m)
    · rw [List.flatten_cons] at m ⊢
      rcases List.mem_append.mp m with q | q
      · exact .inl (List.mem_append_left _ q)
      · exact (g3 p q).imp (List.mem_append_right _) fun z => z
theorem FzK.len : ∀ {ds : List (D × D)} {ks : List (Key × V)}, FzK H U ds ks → ds.length = ks.length
  | [], _, .nil => rfl
  | _ :: _, _, .cons _ _ b => by rw [List.length_cons, List.length_cons, FzK.len b]
theorem RepKs.len : ∀ {ds : List (D × D)} {ks : List (Key × V)} {Cs : List (List Addr)}, RepKs H U ds ks Cs → ds.length = ks.length
  | _, _, _, .nil => rfl
  | _, _, _, .cons _ _ b => by rw [List.length_cons, List.length_cons, RepKs.len b]
theorem key_v {key : D} {c : Key} (hk : keyD key = some c) (f : Fz H U key v) : v = kV c := keyD_kV hk f
theorem isKey_im {d : D} (h : D.isKey false d = true) : d.isM = false := by
  cases d <;> first | rfl | (simp [D.isKey] at h)
theorem setI_rd (h : tS S np (fun l => (evE cl rb e l).bS fun v l1 => if (gt l1 i).d.isM then (evE cl rb k l1).bS fun kv l2 => setK l2 i kv.d v else .no) D0 σ H) :
    tAsg (tE (evE cl rb e)) (gSub (tVar i) (tE (evE cl rb k)) rSetC) D0 σ H := by
  obtain ⟨U, l, As, S0, p⟩ := h
  obtain ⟨v, l1, h1, p⟩ := bS_of p
  split at p
  case isFalse => exact p.elim
  case isTrue hM =>
  obtain ⟨kv, l2, h2, p⟩ := bS_of p
  refine ⟨U, l, As, S0, v, l1, h1, fun x H1 ⟨U1, As1, A1, c1, r1⟩ => ?_⟩
  obtain ⟨_, v0, hv, _⟩ := c1.sim.get (i := i) (by cases hd : (gt l1 i).d <;> rw [hd] at hM <;> first | rfl | cases hM)
  refine ⟨v0, hv, U1, l1, As1, c1.sim, kv, l2, h2, fun y H2 ⟨U2, As2, A2, c2, r2⟩ => ?_⟩
  have c12 := c1.step c2
  have r1' := r1.over c2.go c1.sim.ownU c1.ap
  obtain ⟨tk, kd⟩ := kv
  obtain ⟨tv, vd⟩ := v
  -- the key is plain, the value let go
  have plain : kd.isM = false → A2 = [] ∧ Fz H2 U2 kd y := fun hm => by
    obtain ⟨f, e⟩ := r2.imm hm
    exact ⟨e, f⟩
  cases hg : gt l2 i with
  | mk t dd =>
    simp only [setK, hg] at p
    split at p
    · rename_i xs j h3 h4
      cases h3
      obtain ⟨rfl, fk⟩ := plain rfl
      obtain rfl := fk.int_inv
      rw [List.append_nil] at c12
      split at p
      · rename_i m hm
        obtain ⟨c', f⟩ := Rep.froz0 c12 r1'
        obtain ⟨a, ws, rfl, k1, k2, k3, km⟩ := mutL1 c' hg hv
        obtain ⟨As3, c3⟩ := km _ _ (FzL.set f m k3)
        exact .inl ⟨a, ws, j, m, rfl, rfl, k1, by rw [← k3.length]; exact hm, p _ _ ⟨_, As3, c3, Same.refl _ _⟩⟩
      · exact p.elim
    · rename_i xs j h3 h4
      cases h3
      obtain ⟨rfl, fk⟩ := plain rfl
      obtain rfl := fk.int_inv
      rw [List.append_nil] at c12
      split at p
      · rename_i m hm
        split at p
        · rename_i hp
          obtain ⟨a, ws, Cs, rfl, k1, k2, eA, na, nC, k3, km⟩ := mutL2 c12 hg hv
          have rc := r1'.c (d := vd) (t := tv) (by
            simp only [putOk, Bool.or_eq_true, Bool.not_eq_true', beq_iff_eq] at hp
            exact hp)
          obtain ⟨Cs', g1, g2, g3⟩ := k3.set rc c12.nd m nC fun q m z => c12.ap q m ⟨i, by rw [eA]; simp [z]⟩
          obtain ⟨As3, c3⟩ := km _ _ Cs' [] g1 (by simpa using g2) fun q m => g3 q (by simpa using m)
          exact .inl ⟨a, ws, j, m, rfl, rfl, k1, by rw [← k3.length]; exact hm, p _ _ ⟨_, As3, c3, Same.refl _ _⟩⟩
        · exact p.elim
      · exact p.elim
    · rename_i kvs h3 hx
      cases h3
      split at p
      · rename_i hk
        rw [Bool.and_eq_true] at hk
        obtain ⟨cc, hc⟩ := isKey_f hk.1
        obtain ⟨rfl, fk⟩ := plain (isKey_im hk.1)
        obtain rfl := key_v hc fk
        rw [List.append_nil] at c12
        obtain ⟨c', f⟩ := Rep.froz0 c12 r1'
        obtain ⟨a, ks, rfl, k1, k2, k3, km⟩ := mutD1 c' hg hv
        refine .inr ⟨a, ks, cc, rfl, k1, rfl, by have := small_le hk.2; rw [← k3.len]; omega, fun nd => ?_⟩
        obtain ⟨As3, c3⟩ := km _ _ (k3.put hc f nd)
        exact p _ _ ⟨_, As3, c3, Same.refl _ _⟩
      · exact p.elim
    · rename_i kvs h3 hx
      cases h3
      split at p
      · rename_i hk
        simp only [Bool.and_eq_true] at hk
        obtain ⟨cc, hc⟩ := isKey_f hk.1.1
        obtain ⟨rfl, fk⟩ := plain (isKey_im hk.1.1)
        obtain rfl := key_v hc fk
        rw [List.append_nil] at c12
        obtain ⟨a, ks, Cs, rfl, k1, k2, eA, na, nC, k3, km⟩ := mutD2 c12 hg hv
        have rc := r1'.c (d := vd) (t := tv) (by
          have hp := hk.2
          simp only [putOk, Bool.or_eq_true, Bool.not_eq_true', beq_iff_eq] at hp
          exact hp)
        refine .inr ⟨a, ks, cc, rfl, k1, rfl, by have := small_le hk.1.2; rw [← k3.len]; omega, fun nd => ?_⟩
        obtain ⟨Cs', g1, g2, g3⟩ := k3.put hc rc c12.nd nd nC fun q m z => c12.ap q m ⟨i, by rw [eA]; simp [z]⟩
        obtain ⟨As3, c3⟩ := km _ _ Cs' [] g1 (by simpa using g2) fun q m => g3 q (by simpa using m)
        exact p _ _ ⟨_, As3, c3, Same.refl _ _⟩
      · exact p.elim
    · exact p.elim
theorem setII_rd {K : PySem.W.Frag} {k1 k2 : E} (h : tS S np (fun l => (evE cl rb e l).bS fun v l1 => (match flatV l1 k1, flatV l1 k2 with | some a, some b => setKK l1 i a b v | _, _ => .no)) D0 σ H) :
    tAsg (tE (evE cl rb e)) (gSub (tOp (rIxC K) (tVar i) (tF k1)) (tF k2) rSetC) D0 σ H := by
  obtain ⟨U, l, As, S0, p⟩ := h
  obtain ⟨v, l1, h1, p⟩ := bS_of p
  refine ⟨U, l, As, S0, v, l1, h1, fun x H1 ⟨U1, As1, A1, c1, r1⟩ => ?_⟩
  split at p
  case h_2 => exact p.elim
  case h_1 da db f1 f2 =>
  obtain ⟨tv, vd⟩ := v
  cases hg : gt l1 i with
  | mk t dd =>
    simp only [setKK, hg] at p
    split at p
    case h_2 => exact p.elim
    case h_1 xx kk1 kk2 xs j m q1 =>
    cases q1
    split at p
    case h_2 => exact p.elim
    case h_1 a' ha' =>
    split at p
    case h_2 => exact p.elim
    case h_1 ys hys =>
    split at p
    case h_2 => exact p.elim
    case h_1 b' hb' =>
    obtain ⟨c', f⟩ := Rep.froz0 c1 r1
    have hin : inL (gt l1 i) (.int j) = some ys := by
      rw [hg]
      show (match ixN xs.length j with | some m => (match xs[m]? with | some (.lst xs) => some xs | _ => none) | none => none) = _
      rw [ha']; simp only [hys]
    have hout : outL (gt l1 i) (.int j) (ys.set b' vd) = ⟨2, .lst (xs.set a' (.lst (ys.set b' vd)))⟩ := by
      rw [hg]
      show (match ixN xs.length j with | some m => (⟨2, .lst (xs.set m (.lst (ys.set b' vd)))⟩ : TV) | none => ⟨2, .lst xs⟩) = _
      rw [ha']
    obtain ⟨_, v0, hv, _⟩ := c'.sim.get (i := i) (by rw [hg]; rfl)
    obtain ⟨a, b, ws, rfl, g1, g2, g3, g4, km⟩ := inner c' hv hin
    refine ⟨.ref a, hv, _, l1, _, c'.sim, _, f1, fun y fy => ?_⟩
    obtain rfl := fy.int_inv
    rcases g4 with ⟨kd, ks, cc, hg2, _⟩ | ⟨ys2, us, j2, m2, hg2, ha2, e2, hj2, hm2⟩
    · rw [hg] at hg2; cases hg2
    · cases e2
      refine .inr ⟨a, us, j, .ref b, rfl, rfl, .inl (.inl ha2), at_of hj2 hm2, _, l1, _, c'.sim, _, f2, fun y fy => ?_⟩
      obtain rfl := fy.int_inv
      refine .inl ⟨b, ws, m, b', rfl, rfl, g1, by rw [← g3.length]; exact hb', ?_⟩
      obtain ⟨As3, c3⟩ := km _ _ (FzL.set f b' g3)
      rw [hout] at c3
      exact p _ _ ⟨_, As3, c3, Same.refl _ _⟩
/-- reading alone leaves everything -/
theorem ro_core {l1 : Sl} (S0 : Sim H U l σ As) : ∃ U' As', Sim H U' (lowA l) σ As' ∧ ∀ H2 U2 As2 A, Core H U' (Own As') l1 σ H2 U2 As2 A → Core H U (Own As) l σ H2 U As [] := by
  obtain ⟨U', As', S1, h1, h2, h3⟩ := Sim.lows 0 (.inl rfl) ((List.range l.length).map Od.r) S0
  have hno : ∀ a, ¬ Own As' a := fun a ⟨j, m⟩ => by
    have hlen : (lowA l).length = l.length := by rw [S0.len]; exact S1.len
    by_cases hj : j < l.length
    · have ht : (gt (lowA l) j).t ≤ 0 := lowO_t _ _ (List.mem_map.mpr ⟨j, List.mem_range.mpr hj, rfl⟩)
      have hj2 : j < (lowA l).length := by rw [hlen]; exact hj
      rcases S1.rep j _ (List.getElem?_eq_getElem hj2) with ⟨_, e, _⟩ | ⟨v, _, r⟩
      · rw [e] at m; simp at m
      · have eg : (lowA l)[j] = gt (lowA l) j := by
          have := gt_at hj2
          rw [List.getElem?_eq_getElem hj2] at this
          exact Option.some.inj this
        have r : Rep H U' (lowA l)[j] v (As' j) := r
        rw [eg] at r
        generalize gt (lowA l) j = y at ht r
        obtain ⟨t, d⟩ := y
        have : t = 0 := Nat.le_zero.mp ht
        subst this
        rw [r.1] at m; simp at m
    · rw [S1.out j (by show (lowA l).length ≤ j; rw [hlen]; omega)] at m
      simp at m
  refine ⟨U', As', S1, fun H2 U2 As2 A c => ?_⟩
  have kp : ∀ a o, H a = some o → H2 a = some o := fun a o e => c.go.keep a o e (hno a)
  have dm : ∀ a, H a ≠ none → H2 a ≠ none := fun a e => c.go.dom a e
  have S2 : Sim H2 U l σ As := S0.keep (fun q o e _ => kp q o e) (fun _ _ n z => n z) (fun q h => ⟨fun o e => kp q o e, (S0.own h).1⟩) fun q h => dm q (S0.um q h)
  exact ⟨S2, by simp, by simp, by simp, by simp, fun q h => .inl h, ⟨fun q o e _ => kp q o e, fun _ _ _ => Iff.rfl, dm⟩⟩
theorem fl_fz {d : D} {H2 : Hp} {U2 U3 : Pd} {t : Nat} (hd : d.isFl = true) (r : Rep H U2 ⟨t, d⟩ v A) : Fz H2 U3 d v := by
  have f := (r.imm (by cases d <;> first | rfl | (simp [D.isFl] at hd))).1
  cases f <;> first | exact .non | exact .bl _ | exact .int _ | exact .str _ | (simp [D.isFl] at hd)
theorem ro_ok {ex : Expr} (h : PE X ex (tE (evE cl rb e))) : PE X ex (tE (evE cl rb (.ro e))) := pe_imp h fun σ H Q q => by
  obtain ⟨U, l, As, S0, x, l', e1, k⟩ := q
  simp only [evE] at e1
  split at e1
  case h_2 => cases e1
  case h_1 v l1 h1 =>
  split at e1
  case isFalse => cases e1
  case isTrue hf =>
  cases e1
  obtain ⟨U', As', S1, kc⟩ := ro_core (l1 := l1) S0
  exact ⟨U', _, As', S1, v, l1, h1, fun w H2 ⟨U2, As2, A, c, r⟩ => k w H2 ⟨U, As, [], kc _ _ _ _ c, rfl, fl_fz hf r⟩⟩
theorem ro_t {ex : Expr} (h : PT X ex (tT fun l => (evE cl rb e l).tst)) : PT X ex (tT fun l => (evE cl rb (.ro e) l).tst) := pt_imp h fun σ H Q q => by
  obtain ⟨U, l, As, S0, b, l', e1, k⟩ := q
  obtain ⟨t, e1⟩ := tst_some e1
  simp only [evE] at e1
  split at e1
  case h_2 => cases e1
  case h_1 v l1 h1 =>
  split at e1
  case isFalse => cases e1
  case isTrue hf =>
  obtain ⟨tv, dv⟩ := v
  cases e1
  obtain ⟨U', As', S1, kc⟩ := ro_core (l1 := l1) S0
  exact ⟨U', _, As', S1, b, l1, by show (evE cl rb e (lowA l)).tst = _; rw [h1]; rfl, fun H2 ⟨U2, As2, c⟩ => k H2 ⟨U, As, kc _ _ _ _ c⟩⟩
end
end DL
end

section
set_option Elab.async false
set_option linter.all false
set_option maxRecDepth 100000
/-! EA: dict displays. -/
namespace DL
open PySem PySem.Spec PyProof.Rows L2

section
variable {X : Cx} {σ σ' σ1 : L2.St} {H H' H1 H2 H4 : Hp} {U U' U1 U2 U4 O P : Pd} {l l' l1 l2 lc : Sl} {As As' As1 As2 As4 : Nat → List Addr} {A A' A4 B B1 B2 : List Addr} {x x' : TV} {v v0 y w : V} {d : D} {os : List Od} {vs : List V} {tg : List Nat}
variable {cl : Nat → List TV → RC} {rb : Nat → Nat → Bool} {S : Nat → Bool} {np : Nat} {D0 : Ends} {R : RS} {e k : E} {i : Nat} {G : Pg} {n : Nat}

def flatP : List (V × V) → List V
  | [] => []
  | (x, y) :: r => x :: y :: flatP r
theorem flatP_len : ∀ ps : List (V × V), (flatP ps).length = 2 * ps.length
  | [] => rfl
  | (x, y) :: r => by simp only [flatP, List.length_cons, flatP_len r]; omega
def trsOf (cl : Nat → List TV → RC) (rb : Nat → Nat → Bool) : Es → List (TE × TE)
  | .cons a (.cons b r) => (tO1 (opd a (evE cl rb a)), tO1 (opd b (evE cl rb b))) :: trsOf cl rb r
  | _ => []
theorem tO_cons' {a : E} {r : Es} {Q : List V → Hp → Prop} (h : tO (evO cl rb (.cons a r)) σ H Q) : tCons (tO1 (opd a (evE cl rb a))) (tO (evO cl rb r)) σ H Q := by
  refine tO_cons (fun _ _ _ e => opd_one e) ?_
  have ee : (fun l => (opd a (evE cl rb a) l).bO fun o l1 => (evO cl rb r l1).bO fun os l2 => .ok (o ++ os) l2) = evO cl rb (.cons a r) := by
    funext l; simp only [evO]
  rw [ee]; exact h
theorem pairs_ok : ∀ {ils : Es} {args : List Expr} {ks : List (Option Expr)} {es : List Expr}, POs G n X ils args → interK ks es = some args →
    (∀ pos, PPs X pos ks es (trsOf (evCall G.P n) (rbP G.P) ils)) ∧ ks.all (·.isSome) = true ∧ ks.length = es.length ∧ args.length = 2 * ks.length ∧
    ∀ σ H Q, tO (evO (evCall G.P n) (rbP G.P) ils) σ H (fun vs H' => ∀ ps, vs = flatP ps → Q ps H') → tPairs (trsOf (evCall G.P n) (rbP G.P) ils) σ H Q
  | .nil, [], [], [], _, _ => ⟨fun _ => pps_nil, rfl, rfl, rfl, fun σ H Q q => by
      have := tO_nil (σ := σ) (H := H) (Q := fun vs H' => ∀ ps, vs = flatP ps → Q ps H') (by simpa only [evO] using q)
      exact this [] rfl⟩
  | .cons a (.cons b r), args, some k :: ks, v :: es, h, hi => by
    simp only [interK] at hi
    cases hr : interK ks es with
    | none => rw [hr] at hi; cases hi
    | some as =>
      rw [hr] at hi
      cases hi
      obtain ⟨ha, hb, hc⟩ := h
      obtain ⟨h1, h2, h3, h4, h5⟩ := pairs_ok hc hr
      refine ⟨fun pos => pps_cons ha.od hb.od (h1 pos), by simp [h2], by simp [h3], by simp [h4]; omega, fun σ H Q q => ?_⟩
      have q1 := tO_cons' q
      show tO1 _ σ H fun x H1 => tO1 _ σ H1 fun y H2 => tPairs (trsOf (evCall G.P n) (rbP G.P) r) σ H2 fun ps H3 => Q ((x, y) :: ps) H3
      refine tO1.mono q1 fun x H1 q2 => tO1.mono (tO_cons' q2) fun y H2 q3 => h5 σ H2 _ (tO.mono q3 fun vs H3 q4 ps e => q4 _ (by rw [e]; rfl))
  | .nil, _, some k :: ks, v :: es, h, hi => by
    simp only [interK] at hi
    cases hr : interK ks es <;> rw [hr] at hi <;> cases hi
    exact h.elim
  | .cons a .nil, _, some k :: ks, v :: es, h, hi => by
    simp only [interK] at hi
    cases hr : interK ks es <;> rw [hr] at hi <;> cases hi
    exact h.2.elim
  | .cons a r, args, [], [], h, hi => by
    simp only [interK] at hi
    cases hi
    exact h.elim
  | _, _, none :: _, es, _, hi => by cases es <;> cases hi
  | _, _, some _ :: _, [], _, hi => by cases hi
  | _, _, [], _ :: _, _, hi => by cases hi
theorem Fz.key (f : Fz H U d v) (h : d.isKey false = true) : ∃ c, keyD d = some c ∧ v = kV c := by
  obtain ⟨c, hc⟩ := isKey_f h
  exact ⟨c, hc, keyD_kV hc f⟩
theorem mkD_fz : ∀ (ps : List (V × V)) (os : List Od) (acc kvs : List (D × D)) (ks : List (Key × V)), mkD l acc os = some kvs → FzL H U (os.map (Od.d l)) (flatP ps) → FzK H U acc ks → (ks.map (·.1)).Nodup →
    ∃ kl : List (Key × V), ps = kl.map (fun kv => (kV kv.1, kv.2)) ∧ FzK H U kvs (mergeK ks kl)
  | [], [], acc, kvs, ks, h, _, hk, _ => by
    simp only [mkD] at h; cases h
    exact ⟨[], rfl, hk⟩
  | [], _ :: _, _, _, _, _, f, _, _ => by cases f
  | (x, y) :: ps, os, acc, kvs, ks, h, f, hk, nd => by
    match os, h, f with
    | [], _, f => cases f
    | [_], _, f => cases f with | cons _ f2 => cases f2
    | k :: v :: r, h, f =>
      cases f with
      | cons f1 f2 =>
        cases f2 with
        | cons f2 f3 =>
          simp only [mkD] at h
          split at h
          · rename_i hc
            obtain ⟨c, hc, rfl⟩ := f1.key hc
            obtain ⟨kl, e, g⟩ := mkD_fz ps _ _ _ _ h f3 (hk.put hc f2 nd) (putK_keys _ _ _ nd)
            exact ⟨(c, y) :: kl, by rw [e]; rfl, g⟩
          · cases h
theorem mkD_rep : ∀ (ps : List (V × V)) (os : List Od) (acc kvs : List (D × D)) (ks : List (Key × V)) (Cs Ks : List (List Addr)), mkD l acc os = some kvs → RepCs H U (os.map (Od.d l)) (flatP ps) Cs → RepKs H U acc ks Ks → (ks.map (·.1)).Nodup → (Ks.flatten ++ Cs.flatten).Nodup →
    ∃ kl : List (Key × V), ps = kl.map (fun kv => (kV kv.1, kv.2)) ∧ ∃ Ks', RepKs H U kvs (mergeK ks kl) Ks' ∧ Ks'.flatten.Nodup ∧ ∀ p ∈ Ks'.flatten, p ∈ Ks.flatten ∨ p ∈ Cs.flatten
  | [], [], acc, kvs, ks, Cs, Ks, h, _, hk, _, nC => by
    simp only [mkD] at h; cases h
    exact ⟨[], rfl, Ks, hk, (List.nodup_append.mp nC).1, fun p m => .inl m⟩
  | [], _ :: _, _, _, _, _, _, _, f, _, _, _ => by cases f
  | (x, y) :: ps, os, acc, kvs, ks, Cs, Ks, h, f, hk, nd, nC => by
    match os, h, f with
    | [], _, f => cases f
    | [_], _, f => cases f with | cons _ f2 => cases f2
    | k :: v :: r, h, f =>
      cases f with
      | @cons _ _ A1 _ _ _ f1 f2 =>
        cases f2 with
        | @cons _ _ A2 _ _ Cs f2 f3 =>
          simp only [mkD] at h
          split at h
          · rename_i hc
            have fk : A1 = [] ∧ Fz H U (k.d l) x := by
              rcases f1 with ⟨_, a, b⟩ | ⟨a, _, o⟩
              · exact ⟨a, b⟩
              · have hm := isKey_im hc
                exfalso
                generalize Od.d l k = dk at o hm
                match dk, o with
                | .lst _, _ => cases hm
                | .dct false _, _ => cases hm
                | .dct true _, _ => cases hm
            obtain ⟨rfl, fk⟩ := fk
            obtain ⟨c, hc, rfl⟩ := fk.key hc
            simp only [List.flatten_cons, List.nil_append] at nC
            obtain ⟨n1, n2, dj⟩ := List.nodup_append.mp nC
            obtain ⟨n3, n4, dj2⟩ := List.nodup_append.mp n2
            obtain ⟨Ks1, g1, g2, g3⟩ := hk.put hc f2 n3 nd n1 fun p m q => dj p q p (List.mem_append_left _ m) rfl
            obtain ⟨kl, e, Ks', g, g4, g5⟩ := mkD_rep ps _ _ _ _ _ _ h f3 g1 (putK_keys _ _ _ nd) (List.nodup_append.mpr ⟨g2, n4, fun a m b m' z => by
              subst z
              rcases g3 a m with q | q
              · exact dj a q a (List.mem_append_right _ m') rfl
              · exact dj2 a q a m' rfl⟩)
            refine ⟨(c, y) :: kl, by rw [e]; rfl, Ks', g, g4, fun p m => ?_⟩
            simp only [List.flatten_cons, List.nil_append]
            rcases g5 p m with q | q
            · exact (g3 p q).imp (fun z => z) fun z => List.mem_append_left _ z
            · exact .inr (List.mem_append_right _ q)
          · cases h
theorem ds_dct {dp tk : Bool} {sc : Scope} {e : Expr} {args : List Expr} (h : dsO (.dct dp tk) sc e = some args) : ∃ ks es p, e = .Dict ks es p ∧ ks.length ≤ 15 ∧ interK ks es = some args := by
  cases e with
  | Dict ks es p =>
    simp only [dsO] at h
    split at h
    · rename_i hl; exact ⟨ks, es, p, rfl, hl, h⟩
    · cases h
  | _ => exact absurd h (by simp [dsO])
theorem dct_ok {ils : Es} {dp tk : Bool} {e : Expr} {args : List Expr} (hd : dsO (.dct dp tk) X.env.scope e = some args) (hp : POs G n X ils args) : PE X e (tE (evE (evCall G.P n) (rbP G.P) (.op (.dct dp tk) ils))) := by
  obtain ⟨ks, es, p, rfl, h15, hi⟩ := ds_dct hd
  match ks, es, hi, h15 with
  | [], [], hi, _ =>
    cases hi
    match ils, hp with
    | .nil, _ =>
      have go : ∀ σ H Q, tE (evE (evCall G.P n) (rbP G.P) (.op (.dct dp tk) .nil)) σ H Q → dp = false ∧ (tk = false → tDNewK σ H Q) ∧ (tk = true → tDNewT σ H Q) := fun σ H Q q => by
        rw [ev_op] at q
        obtain ⟨U, l, As, S, x, l', e1, k⟩ := q
        simp only [evO, RO.bnd] at e1
        cases dp with
        | true => cases tk <;> cases e1
        | false =>
          simp only [applyO] at e1
          cases e1
          have nw := fun (p : Addr) (o : HO) (hp : H p = none) => (Core.new (O := Own As) (o := o) S (fun _ h => h) (fun q h _ => h) (fun q h => h) hp).1
          exact ⟨rfl, fun ht p hp => k _ _ ⟨_, As, [p], nw p _ hp, p, rfl, by subst ht; exact ⟨[], rfl, upd_same, .inl rfl, .nil⟩⟩,
            fun ht p hp => k _ _ ⟨_, As, [p], nw p _ hp, p, rfl, by subst ht; exact ⟨[], rfl, upd_same, .inl rfl, .nil⟩⟩⟩
      cases tk with
      | false => exact pe_imp pe_dnewK fun σ H Q q => (go σ H Q q).2.1 rfl
      | true => exact pe_imp pe_dnewT fun σ H Q q => (go σ H Q q).2.2 rfl
    | .cons _ _, h => exact h.elim
  | some k :: ks, v :: es, hi, h15 =>
    obtain ⟨h1, h2, h3, h4, h5⟩ := pairs_ok hp hi
    refine pe_imp (pe_disp (h1 p) h2 h3 (by simp) h15) fun σ H Q q => ?_
    intro p hp0
    refine h5 _ _ _ ?_
    obtain ⟨U, l, As, S, x, l', e1, kq⟩ := q
    rw [ev_op] at e1
    obtain ⟨os, l1, e0, e1⟩ := bnd_some e1
    have hlen := evO_len ils args hp e0
    have c1 := (Core.new (O := Own As) (o := .dK []) S (fun _ h => h) (fun q h _ => h) (fun q h => h) hp0).1
    have pO : ¬ Own As p := fun h => (S.own h).2 hp0
    refine ⟨_, l, As, c1.sim, os, l1, e0, fun vs H2 ⟨U2, As2, B, c2, r2⟩ ps hps => ?_⟩
    subst hps
    have hpk : H2 p = some (.dK []) := c2.go.keep p _ upd_same pO
    have c := c1.step c2
    have pB : p ∉ B := fun m => by
      have := c.nd
      simp at this
      exact this.1 m
    have a2 : At H2 U2 l1 σ As2 B os (flatP ps) := ⟨c2.sim, c2.nd, c2.ap, r2⟩
    have up : U2 p := (c.bm p (by simp)).1
    have pO2 : ¬ Own As2 p := c.ap p (by simp)
    have hl2 := a2.ods.length
    rw [flatP_len, hlen, h4] at hl2
    refine ⟨hpk, ?_⟩
    cases dp with
    | false =>
      cases tk with
      | true => match os, e1 with
        | [], _ => simp at hlen; rw [h4] at hlen; simp at hlen
        | o :: r, e1 => simp only [applyO] at e1; cases e1
      | false =>
        match os, e1, a2, hlen with
        | [], _, _, hlen => rw [h4] at hlen; simp at hlen
        | o :: r, e1, a2, _ =>
          simp only [applyO] at e1
          split at e1
          · rename_i hz
            cases hm : mkD l1 [] (o :: r) with
            | none => rw [hm] at e1; cases e1
            | some kvs =>
              rw [hm] at e1
              cases e1
              obtain ⟨U', As', S', hu, hU, hA, hB⟩ := a2.lows 0 (.inl rfl)
              obtain ⟨kl, e2, g⟩ := mkD_fz ps _ _ _ _ hm (a2.froz S' hu hB) .nil (by simp)
              refine ⟨kl, e2, ?_, ?_⟩
              · have : ps.length = kl.length := by rw [e2, List.length_map]
                simp only [List.length_cons] at hl2 h15; omega
              · have up' : U' p := hU p up fun z => z.elim pO2 pB
                have cl2 : Core H2 U2 (Ow As2 B) (lowO 0 l1 (o :: r)) σ H2 U' As' [] := Core.lowd S' hu hU fun q h => .inl (hA q h)
                -- the dict at hand
                have gp : Go H2 U' (fun a => a ∈ [p]) (upd H2 p (.dK (mergeK [] kl))) U' := upd_go _ (by simp) (nne hpk)
                have cc : Core H U (Own As) (lowO 0 l1 (o :: r)) σ H2 U' As' [p] := by
                  refine ⟨S', by simp, fun a m q => ?_, fun a m => ?_, fun a m => ?_, fun a q => ?_, (c.go.trans cl2.go fun a q => ?_)⟩
                  · obtain rfl : a = p := by simpa using m
                    exact pO2 (hA a q)
                  · obtain rfl : a = p := by simpa using m
                    exact ⟨up', nne hpk⟩
                  · obtain rfl : a = p := by simpa using m
                    exact .inr hp0
                  · exact c.sub a (hA a q)
                  · exact q.elim (c.sub a) fun m => c.src a (List.mem_append_right _ m)
                exact kq _ _ ⟨U', As', [p], cc.hand gp (upd_um S') (by simp) (fun a m => .inl m) (fun a m => by
                  obtain rfl : a = p := by simpa using m
                  exact ⟨up', nne upd_same⟩), p, rfl, _, rfl, upd_same, up', FzK.keep (upd_keep up') (fun _ _ n z => n z) _ _ g⟩
          · cases e1
    | true =>
      cases tk with
      | true => match os, e1 with
        | [], _ => simp at hlen; rw [h4] at hlen; simp at hlen
        | o :: r, e1 => simp only [applyO] at e1; cases e1
      | false =>
        match os, e1, a2, hlen with
        | [], _, _, hlen => rw [h4] at hlen; simp at hlen
        | o :: r, e1, a2, _ =>
          simp only [applyO] at e1
          split at e1
          · rename_i hz
            rw [Bool.and_eq_true] at hz
            cases hm : mkD l1 [] (o :: r) with
            | none => rw [hm] at e1; cases e1
            | some kvs =>
              rw [hm] at e1
              cases e1
              obtain ⟨Cs, hC, rC⟩ := a2.ods.kids a2.sim hz.2
              subst hC
              obtain ⟨kl, e2, Ks', g, g1, g2⟩ := mkD_rep ps _ _ _ _ _ _ hm rC .nil (by simp) (by simpa using a2.nd)
              refine ⟨kl, e2, ?_, ?_⟩
              · have : ps.length = kl.length := by rw [e2, List.length_map]
                simp only [List.length_cons] at hl2 h15; omega
              · have sub : ∀ q ∈ Ks'.flatten, q ∈ Cs.flatten := fun q m => (g2 q m).resolve_left (by simp)
                have gp : Go H2 U2 (fun a => a ∈ [p] ++ Cs.flatten) (upd H2 p (.dK (mergeK [] kl))) U2 := upd_go _ (by simp) (nne hpk)
                have pK : p ∉ Ks'.flatten := fun m => pB (sub p m)
                refine kq _ _ ⟨U2, As2, p :: Ks'.flatten, c.hand gp (upd_um c2.sim) (List.nodup_cons.mpr ⟨pK, g1⟩) (fun a m => .inl ?_) (fun a m => ?_), p, _, Ks', rfl, upd_same, up, rfl, g.keep (upd_keep up) (fun _ _ n z => n z) (fun a m o e => by rw [upd_ne (fun z : a = p => pK (z ▸ m))]; exact e) fun _ _ z => z⟩
                · rcases List.mem_cons.mp m with rfl | m
                  · simp
                  · exact List.mem_append_right _ (sub a m)
                · rcases List.mem_cons.mp m with rfl | m
                  · exact ⟨up, nne upd_same⟩
                  · have := a2.ods.at a (sub a m)
                    exact ⟨this.1, by rw [upd_ne (fun z : a = p => pK (z ▸ m))]; exact this.2⟩
          · cases e1
  | none :: _, es, hi, _ => cases es <;> cases hi
  | some _ :: _, [], hi, _ => cases hi
  | [], _ :: _, hi, _ => cases hi

/-! ### list(range(..)), tuple(range(..)) -/
theorem rng_fz {a b : Int} : FzL H U (rngL a b) (rgV a b) := by
  unfold rngL rgV
  induction List.range (b - a).toNat with
  | nil => exact .nil
  | cons k r ih => exact .cons (.int _) ih
theorem rg_end {tp : Bool} {a b : Int} {x : TV} {os : List Od} {Q : VK} (a1 : At H1 U1 l1 σ As1 B os vs) (e : (if rgOk a b then (if tp then RE.ok ⟨0, .tup (rngL a b)⟩ l1 else .ok ⟨1, .lst (rngL a b)⟩ l1) else .no) = .ok x l')
    (k : ∀ v H', (∃ U' As' A, Core H1 U1 (Ow As1 B) l' σ H' U' As' A ∧ Rep H' U' x v A) → Q v H') : RgOk a b ∧ (tp = false → ∀ q, H1 q = none → Q (.ref q) (upd H1 q (.lst (rgV a b)))) ∧ (tp = true → ∀ q, H1 q = none → Q (.ref q) (upd H1 q (.tup (rgV a b)))) := by
  split at e
  case isFalse => cases e
  case isTrue hr =>
    refine ⟨of_decide_eq_true (p := -(2 ^ 62) ≤ a ∧ a < 2 ^ 62 ∧ -(2 ^ 62) ≤ b ∧ b < 2 ^ 62 ∧ (b - a).toNat ≤ 2 ^ 24) hr, fun ht q hq => ?_, fun ht q hq => ?_⟩
    · subst ht
      cases e
      have n := (Core.new (O := Ow As1 B) (o := .lst (rgV a b)) a1.sim (fun _ h => h) (fun q h _ => h) (fun q h => .inl h) hq).1
      exact k _ _ ⟨_, As1, [q], n, q, rfl, _, rfl, upd_same, .inl rfl, rng_fz⟩
    · subst ht
      cases e
      have n := (Core.new (O := Ow As1 B) (o := .tup (rgV a b)) a1.sim (fun _ h => h) (fun q h _ => h) (fun q h => .inl h) hq).2
      exact k _ _ ⟨_, As1, [], n, rfl, .tup upd_same (fun h => a1.sim.um q h hq) rng_fz⟩
theorem starC {env : Env} {fn : Expr} {as : List Expr} {kws : List Keyword} {p : Pos} : starEach [.Call fn as kws p] env = (false, eval (.Call fn as kws p) env) :: starEach [] env := rfl
theorem rg_ok (z : Ez X G n) {ils : Es} {es : List Expr} {tp : Bool} {p p2 q q2 : Pos} (h1 : glo X.env.scope (rgN tp) = true) (h2 : glo X.env.scope "range" = true) (hp : POs G n X ils es) (hm : mEs G X.N ils X.env.scope es = true) :
    PE X (.Call (.Name (rgN tp) p) [.Call (.Name "range" p2) es [] q2] [] q) (tE (evE (evCall G.P n) (rbP G.P) (.rg tp ils))) := by
  have hb := z.bi "range" (by decide +kernel)
  have ee : evE (evCall G.P n) (rbP G.P) (.rg tp ils) = fun l => (evO (evCall G.P n) (rbP G.P) ils l).bnd fun os l' => rgE tp (os.map (Od.d l')) l' := by funext l; simp only [evE]
  rw [ee]
  have wrap : ∀ {te : L2.St → Hp → (Int → Int → Hp → Prop) → Prop}, PRg X (.Call (.Name "range" p2) es [] q2) te → (∀ σ H Q, tE (fun l => (evO (evCall G.P n) (rbP G.P) ils l).bnd fun os l' => rgE tp (os.map (Od.d l')) l') σ H Q → te σ H fun a b H1 => RgOk a b ∧ (tp = false → ∀ q, H1 q = none → Q (.ref q) (upd H1 q (.lst (rgV a b)))) ∧ (tp = true → ∀ q, H1 q = none → Q (.ref q) (upd H1 q (.tup (rgV a b))))) →
      (∀ σ H (Q Q' : Int → Int → Hp → Prop), (∀ a b H1, Q a b H1 → Q' a b H1) → te σ H Q → te σ H Q') → PE X (.Call (.Name (rgN tp) p) [.Call (.Name "range" p2) es [] q2] [] q) (tE fun l => (evO (evCall G.P n) (rbP G.P) ils l).bnd fun os l' => rgE tp (os.map (Od.d l')) l') := fun {te} hr k mono => by
    cases tp with
    | false => exact pe_imp (pe_listRg z.gd.calm (gl_of h1) (z.bi "list" (by decide +kernel)) hr starC) fun σ H Q h => mono _ _ _ _ (fun a b H1 z => ⟨z.1, z.2.1 rfl⟩) (k σ H Q h)
    | true => exact pe_imp (pe_tupRg z.gd.calm (gl_of h1) (z.bi "tuple" (by decide +kernel)) hr starC) fun σ H Q h => mono _ _ _ _ (fun a b H1 z => ⟨z.1, z.2.2 rfl⟩) (k σ H Q h)
  have never : es.length ≠ 1 → es.length ≠ 2 → PE X (.Call (.Name (rgN tp) p) [.Call (.Name "range" p2) es [] q2] [] q) (tE fun l => (evO (evCall G.P n) (rbP G.P) ils l).bnd fun os l' => rgE tp (os.map (Od.d l')) l') := fun n1 n2 => tE_never fun l v l' e => by
    obtain ⟨os, l1, h1, e⟩ := bnd_some e
    have hl := evO_len ils es hp h1
    match os, e, hl with
    | [], e, _ => simp [rgE] at e
    | [o], e, hl => exact n1 (by simpa using hl.symm)
    | [o, o2], e, hl => exact n2 (by simpa using hl.symm)
    | o :: o2 :: o3 :: r, e, hl => simp [rgE] at e
  match es, ils, hp, hm with
  | [e], .cons a .nil, hp, hm =>
    refine wrap (prg_1 (gl_of h2) hb hp.1.od (star_of (es := []) hp.1.1)) (fun σ H Q h => ?_) fun σ H Q Q' k h => tO1.mono h fun v H1 ⟨n, a, b⟩ => ⟨n, a, k _ _ _ b⟩
    obtain ⟨U, l, As, S, x, l', e, k⟩ := h
    obtain ⟨os, l1, e0, e⟩ := bnd_some e
    rw [evO_one] at e0
    obtain ⟨o, rfl⟩ := opd_one e0
    refine ⟨U, l, As, S, o, l1, e0, fun v H1 ⟨U1, As1, B, c, r⟩ => ?_⟩
    have a1 : At H1 U1 l1 σ As1 B [o] [v] := ⟨c.sim, c.nd, c.ap, r⟩
    simp only [List.map_cons, List.map_nil] at e
    cases hd : o.d l1 <;> rw [hd] at e <;> simp only [rgE] at e <;> try (cases e; done)
    have f := one_den a1.den
    rw [hd] at f
    exact ⟨_, f.int_inv, rg_end a1 e fun v H' ⟨U', As', A, c', r'⟩ => k v H' ⟨U', As', A, c.after c', r'⟩⟩
  | [e, f], .cons a (.cons b .nil), hp, hm =>
    refine wrap (prg_2 (gl_of h2) hb hp.1.od hp.2.1.od (star_of hp.1.1) (star_of (es := []) hp.2.1.1) (by rw [star_of (es := []) hp.2.1.1]; rfl)) (fun σ H Q h => ?_) fun σ H Q Q' k h => tO1.mono h fun v H1 h => tO1.mono h fun w H2 ⟨m, n, a, b, c⟩ => ⟨m, n, a, b, k _ _ _ c⟩
    have q1 := tE_bnd h
    have q2 := tO_cons' q1
    refine tO1.mono q2 fun v H1 q3 => ?_
    have q4 := tO_cons' q3
    refine tO1.mono q4 fun w H2 q5 => ?_
    have q6 := tO_nil (by simpa only [evO] using q5)
    obtain ⟨U, l, As, B, os, a1, x, l', e, k⟩ := q6
    obtain ⟨o, o2, rfl⟩ : ∃ o o2, os = [o, o2] := by
      have := a1.ods.length
      match os, this with
      | [o, o2], _ => exact ⟨o, o2, rfl⟩
    simp only [List.map_cons, List.map_nil] at e
    obtain ⟨f1, f2⟩ := two_den a1.den
    cases hd : o.d l <;> cases hd2 : o2.d l <;> rw [hd, hd2] at e <;> simp only [rgE] at e <;> try (cases e; done)
    rw [hd] at f1; rw [hd2] at f2
    exact ⟨_, _, f1.int_inv, f2.int_inv, rg_end a1 e k⟩
  | [], _, hp, hm => exact never (by simp) (by simp)
  | _ :: _ :: _ :: _, _, hp, hm => exact never (by simp) (by simp)
/-! ### methods -/
theorem mNm_pe {y : Str} {p : Pos} (h : mNm X.N X.env.scope i (.Name y p) = true) : PE X (.Name y p) (tVar i) := by
  simp only [mNm, Bool.and_eq_true] at h
  obtain ⟨⟨h1, h2⟩, h3⟩ := h
  obtain ⟨q1, q2, _⟩ := nmOk_of h3
  exact pe_var (nix_of h1) (vis_of h2) q1 q2
theorem mCst_pe {k : E} {ke : Expr} (h : mCst k ke = true) : ∃ key, k = .cst key ∧ PE X ke (tC (kvD key)) ∧ PlainIx ke := by
  cases k with
  | cst d =>
    cases ke with
    | Constant c j p =>
      cases d <;> cases c <;> first | (simp only [mCst] at h; cases h; done) | skip
      · simp only [mCst, decide_eq_true_eq] at h; subst h; exact ⟨_, rfl, pe_int, fun _ _ => rfl⟩
      · simp only [mCst, decide_eq_true_eq] at h; subst h; exact ⟨_, rfl, pe_str, fun _ _ => rfl⟩
    | _ => cases d <;> simp [mCst] at h
  | _ => cases ke <;> simp [mCst] at h
theorem few1 {e : Expr} {il : E} {cp : Pos} (h : mE G X.N il X.env.scope e = true) : ((backTo cp (starEach [e] X.env)).all (fun x => !x.1) && (backToKw cp (keywordEach [] X.env)).all (fun x => x.1.isSome)
      && decide (([e] : List Expr).length + ([] : List Keyword).length + (if ([] : List Keyword).isEmpty then 0 else 1) < 30)) = true := by
  rw [star_of (es := []) h]; rfl
theorem app_ok {il : E} {y : Str} {p ap cp : Pos} {e : Expr} (hn : mNm X.N X.env.scope i (.Name y p) = true) (hl : (ap.endLine == cp.line) = true) (ha : POn G n X il e) : PE X (.Call (.Attribute (.Name y p) "append" ap) [e] [] cp) (tE (evE (evCall G.P n) (rbP G.P) (.app i il))) :=
  pe_imp (pe_bm F.plainAttrs_list F.slot_list_append F.type_list_append mt_append (mNm_pe hn) (pa_one ha.od (star_of (es := []) ha.1)) rfl (few1 ha.1) hl (star_of (es := []) ha.1) rfl) fun σ H Q q => rApp_rd q
theorem pop_ok {y : Str} {p ap cp : Pos} (hn : mNm X.N X.env.scope i (.Name y p) = true) (hl : (ap.endLine == cp.line) = true) : PE X (.Call (.Attribute (.Name y p) "pop" ap) [] [] cp) (tE (evE (evCall G.P n) (rbP G.P) (.pop i))) :=
  pe_imp (pe_bm0 F.plainAttrs_list F.slot_list_pop F.type_list_pop mt_pop (mNm_pe hn) rfl hl) fun σ H Q q => rPop_rd q
theorem popi_ok {il : E} {y : Str} {p ap cp : Pos} {e : Expr} (hn : mNm X.N X.env.scope i (.Name y p) = true) (hl : (ap.endLine == cp.line) = true) (ha : POn G n X il e) : PE X (.Call (.Attribute (.Name y p) "pop" ap) [e] [] cp) (tE (evE (evCall G.P n) (rbP G.P) (.popi i il))) :=
  pe_imp (pe_bm F.plainAttrs_list F.slot_list_pop F.type_list_pop mt_popIx (mNm_pe hn) (pa_one ha.2.1 (star_of (es := []) ha.1)) rfl (few1 ha.1) hl (star_of (es := []) ha.1) rfl) fun σ H Q q => rPopI_rd q
theorem appK_ok (g : Gd X) {il k : E} {y : Str} {p p2 ap cp : Pos} {e ke : Expr} (hn : mNm X.N X.env.scope i (.Name y p) = true) (hk : mCst k ke = true) (hl : (ap.endLine == cp.line) = true) (ha : mE G X.N il X.env.scope e = true) :
    PE X (.Call (.Attribute (.Subscript (.Name y p) ke p2) "append" ap) [e] [] cp) (tE (evE (evCall G.P n) (rbP G.P) (.appK i k il))) := by
  obtain ⟨key, rfl, pk, px⟩ := mCst_pe (X := X) hk
  exact pe_imp (pe_bm F.plainAttrs_list F.slot_list_append F.type_list_append mt_append (pe_ix (ix_c g) (mNm_pe hn) pk px) (pa_one (flat_ok ha) (star_of (es := []) ha)) rfl (few1 ha) hl (star_of (es := []) ha) rfl) fun σ H Q q => appK_rd q
theorem popK_ok (g : Gd X) {k : E} {y : Str} {p p2 ap cp : Pos} {ke : Expr} (hn : mNm X.N X.env.scope i (.Name y p) = true) (hk : mCst k ke = true) (hl : (ap.endLine == cp.line) = true) :
    PE X (.Call (.Attribute (.Subscript (.Name y p) ke p2) "pop" ap) [] [] cp) (tE (evE (evCall G.P n) (rbP G.P) (.popK i k))) := by
  obtain ⟨key, rfl, pk, px⟩ := mCst_pe (X := X) hk
  exact pe_imp (pe_bm0 F.plainAttrs_list F.slot_list_pop F.type_list_pop mt_pop (pe_ix (ix_c g) (mNm_pe hn) pk px) rfl hl) fun σ H Q q => popK_rd q
theorem neK_ok (g : Gd X) {k : E} {y : Str} {p p2 p3 p4 : Pos} {ke : Expr} (hn : mNm X.N X.env.scope i (.Name y p) = true) (hk : mCst k ke = true) :
    PE X (.Compare (.Subscript (.Name y p) ke p2) [.NotEq] [.List [] p3] p4) (tE (evE (evCall G.P n) (rbP G.P) (.neK i k))) ∧ PT X (.Compare (.Subscript (.Name y p) ke p2) [.NotEq] [.List [] p3] p4) (tT fun l => (evE (evCall G.P n) (rbP G.P) (.neK i k) l).tst) := by
  obtain ⟨key, rfl, pk, px⟩ := mCst_pe (X := X) hk
  exact ⟨pe_imp (pe_cmpR (op_cmp g .ne) (pe_ix (ix_c g) (mNm_pe hn) pk px) (pe_lst pa_nil) rfl) fun σ H Q q => neK_rd q,
    pt_imp (pt_cmpR (op_cmp g .ne) (pe_ix (ix_c g) (mNm_pe hn) pk px) (pe_lst pa_nil) rfl) fun σ H Q q => neK_rd (tst_rd q)⟩
end
end DL
end

section
set_option Elab.async false
set_option linter.all false
set_option maxRecDepth 100000
/-! DT: every expression that matches is read by the evaluator. -/
namespace DL
open PySem PySem.Spec PyProof.Rows L2

section
variable {X : Cx} {G : Pg} {n : Nat} {N : List Str} {sc : Scope} {e : Expr} {es args : List Expr} {il a b c : E} {ils : Es} {pos p : Pos}

theorem Ez.blk (z : Ez X G n) (s : Shared) (H : Hp) (scope : Scope) (C : Addr) (cl : List (Str × Addr)) (fp : List Addr) : Ez (X.blk s H scope (compEnvC scope cl C X.env) fp) G n :=
  ⟨⟨z.gd.calm, z.gd.un, z.gd.hd, z.gd.gs⟩, z.room, z.nd, z.cst, z.bi, z.fn⟩
theorem blk_sc (X : Cx) (s : Shared) (H : Hp) (scope : Scope) (C : Addr) (cl : List (Str × Addr)) (fp : List Addr) : ScOk (X.blk s H scope (compEnvC scope cl C X.env) fp) scope := fun x =>
  ⟨fun h => lookup_relS_keep (by decide) h, fun h => ⟨lookup_relS_keep (by decide) h, by show (scope.names.lookup x == some .cell) = true; rw [h]; rfl⟩⟩
theorem slot_lt {tg : List Nat} {σ : L2.St} (hl : σ.length = X.N.length) (h : ∀ i ∈ tg, i < X.N.length) : ∀ i ∈ tg, i < σ.length := fun i hi => by rw [hl]; exact h i hi
theorem mTg_lt {tg : List Nat} {t : Expr} (h : mTg N sc tg t = true) : ∀ i ∈ tg, i < N.length := by
  have many : ∀ {is : List Nat} {es : List Expr}, (decide (2 ≤ is.length) && mTg.mTgs N sc is es) = true → ∀ i ∈ is, i < N.length := fun {is es} h => by
    rw [Bool.and_eq_true] at h
    exact (mTg_len h.2).2
  match tg, t, h with
  | [i], .Name x p, h =>
    simp only [mTg, Bool.and_eq_true] at h
    intro j hj
    obtain rfl : j = i := by simpa using hj
    have := nix_of h.1
    exact Classical.byContradiction fun z => by rw [List.getElem?_eq_none (by omega)] at this; cases this
  | [], .Tuple es k p, h => exact many (es := es) h
  | [_], .Tuple es k p, h => exact many (es := es) h
  | _ :: _ :: _, .Tuple es k p, h => exact many h
theorem rng_ok (z : Ez X G n) {t : Expr} (hg : glo X.env.scope "range" = true) (hp : POs G n X ils es) (hm : mEs G X.N ils X.env.scope es = true) :
    PI X t (.Call (.Name "range" p) es [] pos) (tI (evI (evCall G.P n) (rbP G.P) (.rng ils))) := by
  have hb := z.bi "range" (by decide +kernel)
  have never : es.length ≠ 1 → es.length ≠ 2 → PI X t (.Call (.Name "range" p) es [] pos) (tI (evI (evCall G.P n) (rbP G.P) (.rng ils))) := fun n1 n2 => ⟨fun pins s σ H R I q => by
    exfalso
    obtain ⟨U, l, As, S, xs, l', e1, k⟩ := q
    simp only [evI] at e1
    obtain ⟨os, l1, h1, e1⟩ := bI_some e1
    have hl := evO_len ils es hp h1
    match os, e1, hl with
    | [], e1, _ => simp at e1
    | [o], e1, hl => exact n1 (by simpa using hl.symm)
    | [o, o2], e1, hl => exact n2 (by simpa using hl.symm)
    | o :: o2 :: o3 :: r, e1, hl => simp at e1⟩
  match es, ils, hp, hm with
  | [e], .cons a .nil, hp, hm =>
    have h := pi_rng1 (tg := t) (p := p) (pos := pos) (gl_of hg) hb hp.pa (star_of (es := []) (by simpa [mEs] using hm))
    refine ⟨fun pins s σ H R I q => h.run pins s σ H R I ?_⟩
    obtain ⟨U, l, As, S, xs, l', e1, k⟩ := q
    refine ⟨U, l, As, S, xs, l', ?_, k⟩
    simp only [evI] at e1
    obtain ⟨os, l1, h1, e1⟩ := bI_some e1
    have hl := evO_len _ _ hp h1
    match os, hl with
    | [o], _ =>
      dsimp only
      rw [h1]
      simp only [RO.bI]
      split at e1
      · rename_i hq; rw [hq]; exact e1
      · rename_i hq; simp at hq
      · cases e1
  | [e, f], .cons a (.cons b .nil), hp, hm =>
    simp only [mEs, Bool.and_eq_true] at hm
    have h := pi_rng2 (tg := t) (p := p) (pos := pos) (gl_of hg) hb hp.pa (by rw [star_of hm.1, star_of (es := []) hm.2.1]; rfl) (star_of (es := []) hm.2.1)
    refine ⟨fun pins s σ H R I q => h.run pins s σ H R I ?_⟩
    obtain ⟨U, l, As, S, xs, l', e1, k⟩ := q
    refine ⟨U, l, As, S, xs, l', ?_, k⟩
    simp only [evI] at e1
    obtain ⟨os, l1, h1, e1⟩ := bI_some e1
    have hl := evO_len _ _ hp h1
    match os, hl with
    | [o, o2], _ =>
      dsimp only
      rw [h1]
      simp only [RO.bI]
      split at e1
      · rename_i hq; simp at hq
      · rename_i hq; rw [hq]; exact e1
      · cases e1
  | [], _, hp, hm => exact never (by simp) (by simp)
  | _ :: _ :: _ :: _, _, hp, hm => exact never (by simp) (by simp)
theorem gNms_eq (X Y : Cx) : ∀ is : List Nat, gNms X is = gNms Y is
  | [] => rfl
  | i :: r => by rw [gNms, gNms, gNms_eq X Y r]
theorem gTg_eq {X Y : Cx} (h : X.K = Y.K) : ∀ is : List Nat, gTg X is = gTg Y is
  | [i] => rfl
  | [] => by show gTup X.K 0 (gNms X []) = gTup Y.K 0 (gNms Y []); rw [h, gNms_eq X Y]
  | a :: b :: r => by show gTup X.K _ (gNms X (a :: b :: r)) = gTup Y.K _ (gNms Y (a :: b :: r)); rw [h, gNms_eq X Y]
mutual
theorem sB : ∀ (il : E) {X : Cx} {e : Expr}, Ez X G n → mE G X.N il X.env.scope e = true → POn G n X il e
  | .cst d, X, e, z, h => ⟨h, cst_ok h, fun t => pt_plain (cst_ok h) (by
      cases d with
      | bl b =>
        cases e with
        | Constant k _ _ => exact fun _ => rfl
        | _ => exact absurd h (by simp [mE])
      | _ => exact absurd t (by simp [mT]))⟩
  | .glb x d, X, e, z, h => ⟨h, glb_ok z h, fun t => absurd t (by simp [mT])⟩
  | .var i, X, e, z, h => ⟨h, var_ok h, fun _ => pt_plain (var_ok h) (by
      cases e with
      | Name y p => exact fun _ => rfl
      | _ => exact absurd h (by simp [mE]))⟩
  | .op o es, X, e, z, h => by
    have h0 := h
    simp only [mE] at h
    cases hd : dsO o X.env.scope e with
    | none => rw [hd] at h; cases h
    | some args =>
      rw [hd] at h
      have hp := sPs es z h
      refine ⟨h0, ?_, op_t z hd hp h⟩
      cases o with
      | dct dp tk => exact dct_ok hd hp
      | _ => exact op_ok z (fun _ _ q => by cases q) hd hp h
  | .call f x es, X, e, z, h => by
    have h0 := h
    cases e with
    | Call fn as kws q =>
      cases fn with
      | Name y p =>
        cases kws with
        | nil =>
          simp only [mE, Bool.and_eq_true, decide_eq_true_eq] at h
          obtain ⟨⟨⟨rfl, h1⟩, h2⟩, h3⟩ := h
          have ee : evE (evCall G.P n) (rbP G.P) (.call f x es) = fun l => (evO (evCall G.P n) (rbP G.P) es l).bnd fun os l' => callO (evCall G.P n) (rbP G.P) f os l' := by funext l; simp only [evE]
          have k : PE X (.Call (.Name x p) as [] q) (tE (evE (evCall G.P n) (rbP G.P) (.call f x es))) := by rw [ee]; exact pe_fn z h1 h2 h3 (sPs es z h3).pa
          exact ⟨h0, k, fun _ => pt_plain k fun _ => rfl⟩
        | cons k r => exact absurd h (by simp [mE])
      | _ => exact absurd h (by simp [mE])
    | _ => exact absurd h (by simp [mE])
  | .callk f x ks pm es, X, e, z, h => by
    have h0 := h
    cases e with
    | Call fn as kws q =>
      cases fn with
      | Name y p =>
        cases as with
        | nil =>
          simp only [mE, Bool.and_eq_true, decide_eq_true_eq] at h
          obtain ⟨⟨⟨⟨⟨rfl, h1⟩, h2⟩, h3⟩, h4⟩, h5⟩ := h
          cases hk : kwArgs kws ks with
          | none => rw [hk] at h5; cases h5
          | some args =>
            rw [hk] at h5
            have k := pe_fk (p := p) (pos := q) z h1 h2 hk (List.contains_iff_mem.mp h3) ((sPs es z h5).pk hk)
            exact ⟨h0, k, fun _ => pt_plain k fun _ => rfl⟩
        | cons k r => exact absurd h (by simp [mE])
      | _ => exact absurd h (by simp [mE])
    | _ => exact absurd h (by simp [mE])
  | .chain o o2 a b c, X, e, z, h => by
    have h0 := h
    cases e with
    | Compare l ops cs p =>
      match ops, cs, h with
      | [op, op2], [m, r], h' =>
        clear h
        simp only [mE, Bool.and_eq_true, decide_eq_true_eq] at h'
        obtain ⟨⟨⟨⟨⟨rfl, rfl⟩, hs⟩, h1⟩, h2⟩, h3⟩ := h'
        have ha := sB a z h1
        have hb := sB b z h2
        have hc := sB c z h3
        exact ⟨h0, chain_ok z hs ha hb hc, fun _ => chain_t z hs ha hb hc⟩
      | [], _, h' => exact absurd h' (by simp [mE])
      | [_], _, h' => exact absurd h' (by simp [mE])
      | _ :: _ :: _ :: _, _, h' => exact absurd h' (by simp [mE])
      | [_, _], [], h' => exact absurd h' (by simp [mE])
      | [_, _], [_], h' => exact absurd h' (by simp [mE])
      | [_, _], _ :: _ :: _ :: _, h' => exact absurd h' (by simp [mE])
    | _ => exact absurd h (by simp [mE])
  | .and es, X, e, z, h => by
    have h0 := h
    cases e with
    | BoolOp op args p =>
      cases op with
      | And =>
        simp only [mE] at h
        have hp := sPs es z h
        have ee : evE (evCall G.P n) (rbP G.P) (.and es) = evAnd (evCall G.P n) (rbP G.P) es := by funext l; simp only [evE]
        exact ⟨h0, by rw [ee]; exact and_all hp, fun t => by rw [ee]; exact (andT_all hp (by simpa only [mT] using t)).pt⟩
      | Or => exact absurd h (by simp [mE])
    | _ => exact absurd h (by simp [mE])
  | .or es, X, e, z, h => by
    have h0 := h
    cases e with
    | BoolOp op args p =>
      cases op with
      | Or =>
        simp only [mE] at h
        have hp := sPs es z h
        have ee : evE (evCall G.P n) (rbP G.P) (.or es) = evOr (evCall G.P n) (rbP G.P) es := by funext l; simp only [evE]
        exact ⟨h0, by rw [ee]; exact or_all hp, fun t => by rw [ee]; exact (orT_all hp (by simpa only [mT] using t)).pt⟩
      | And => exact absurd h (by simp [mE])
    | _ => exact absurd h (by simp [mE])
  | .ro a, X, e, z, h => by
    have h0 := h
    simp only [mE, Bool.and_eq_true] at h
    have k := sB a z h.2
    exact ⟨h0, ro_ok k.2.1, fun ht => ro_t (k.2.2 (by simpa only [mT] using ht))⟩
  | .not a, X, e, z, h => by
    have h0 := h
    cases e with
    | UnaryOp op x p =>
      cases op with
      | Not =>
        simp only [mE, Bool.and_eq_true] at h
        have ha := sB a z h.2
        exact ⟨h0, not_ok ha.2.1, fun t => not_t (ha.2.2 h.1)⟩
      | _ => exact absurd h (by simp [mE])
    | _ => exact absurd h (by simp [mE])
  | .ite c a b, X, e, z, h => by
    have h0 := h
    cases e with
    | IfExp x y w p =>
      simp only [mE, Bool.and_eq_true] at h
      obtain ⟨⟨⟨h1, h2⟩, h3⟩, h4⟩ := h
      exact ⟨h0, ite_ok ((sB c z h2).2.2 h1) (sB a z h3).2.1 (sB b z h4).2.1, fun t => absurd t (by simp [mT])⟩
    | _ => exact absurd h (by simp [mE])
  | .slc hl hh a lo hi, X, e, z, h => by
    have h0 := h
    cases e with
    | Subscript x i p =>
      cases i with
      | Slice l u st p2 =>
        cases st with
        | none =>
          simp only [mE, Bool.and_eq_true] at h
          obtain ⟨⟨h1, h2⟩, h3⟩ := h
          have hlo : PO X l (tP (partR hl (evE (evCall G.P n) (rbP G.P) lo))) := by
            cases l with
            | none => obtain rfl : hl = false := by simpa using h2
                      exact po_no
            | some l =>
              simp only [Bool.and_eq_true] at h2
              obtain ⟨rfl, h2⟩ := h2
              exact po_yes (sB lo z h2).2.1
          have hhi : PO X u (tP (partR hh (evE (evCall G.P n) (rbP G.P) hi))) := by
            cases u with
            | none => obtain rfl : hh = false := by simpa using h3
                      exact po_no
            | some u =>
              simp only [Bool.and_eq_true] at h3
              obtain ⟨rfl, h3⟩ := h3
              exact po_yes (sB hi z h3).2.1
          exact ⟨h0, pe_imp (pe_slice sl_all (sB a z h1).od hlo hhi) fun σ H Q q => tSl_of q, fun t => absurd t (by simp [mT])⟩
        | some st => exact absurd h (by simp [mE])
      | _ => exact absurd h (by simp [mE])
    | _ => exact absurd h (by simp [mE])
  | .lc dp tg it cs e', X, e, z, h => by
    have h0 := h
    cases e with
    | ListComp elt gens scope p =>
      match gens, h with
      | [⟨t, i, ifs, ay⟩], h' =>
        clear h
        simp only [mE, Bool.and_eq_true, decide_eq_true_eq] at h'
        obtain ⟨⟨⟨⟨⟨⟨⟨rfl, h1⟩, h2⟩, h3⟩, h4⟩, h5⟩, h6⟩, h7⟩ := h'
        have hi := sI it (t := t) z h3
        have hg := fun (s : Shared) (H : Hp) (C : Addr) (cl : List (Str × Addr)) (fp : List Addr) => pg_target (X := X.blk s H scope (compEnvC scope cl C X.env) fp) z.gd.calm z.nd (blk_sc X s H scope C cl fp) h5
        have hc := fun (s : Shared) (H : Hp) (C : Addr) (cl : List (Str × Addr)) (fp : List Addr) => sC cs (z.blk s H scope C cl fp) h6
        have he := fun (s : Shared) (H : Hp) (C : Addr) (cl : List (Str × Addr)) (fp : List Addr) => (sB e' (z.blk s H scope C cl fp) h7).2.1
        have hN := (mTg_lt h5)
        have k := pe_lc (pos := p) (g := gTg X tg) z.gd.calm z.nd hi (blkOk_by h4) (fun s H C cl fp => by rw [gTg_eq (X := X) (Y := X.blk s H scope (compEnvC scope cl C X.env) fp) rfl]; exact (hg s H C cl fp).1) hc he (fold_of h1)
        rw [ownOf_snd] at k
        exact ⟨h0, ⟨fun pins s σ H Q I q => k.run pins s σ H Q I (tLc_of (slot_lt I.len hN) q)⟩, fun t => absurd t (by simp [mT])⟩
      | [], h' => exact absurd h' (by simp [mE])
      | _ :: _ :: _, h' => exact absurd h' (by simp [mE])
    | _ => exact absurd h (by simp [mE])
  | .rg tp es, X, e, z, h => by
    have h0 := h
    cases e with
    | Call fn as kws q =>
      cases fn with
      | Name x p =>
        match as, kws, h with
        | [a], [], h' =>
          clear h
          cases a with
          | Call fn2 args kws2 q2 =>
            cases fn2 with
            | Name y p2 =>
              cases kws2 with
              | nil =>
                simp only [mE, Bool.and_eq_true, decide_eq_true_eq] at h'
                obtain ⟨⟨⟨⟨rfl, h1⟩, rfl⟩, h2⟩, h3⟩ := h'
                exact ⟨h0, rg_ok z h1 h2 (sPs es z h3) h3, fun t => absurd t (by simp [mT])⟩
              | cons _ _ => exact absurd h' (by simp [mE])
            | _ => exact absurd h' (by simp [mE])
          | _ => exact absurd h' (by simp [mE])
        | [], _, h' => exact absurd h' (by simp [mE])
        | _ :: _ :: _, _, h' => exact absurd h' (by simp [mE])
        | [_], _ :: _, h' => exact absurd h' (by simp [mE])
      | _ => exact absurd h (by simp [mE])
    | _ => exact absurd h (by simp [mE])
  | .app i a, X, e, z, h => by
    have h0 := h
    cases e with
    | Call fn as kws q =>
      cases fn with
      | Attribute o m ap =>
        cases o with
        | Name y p =>
          match as, kws, h with
          | [e'], [], h' =>
            clear h
            simp only [mE, Bool.and_eq_true, decide_eq_true_eq] at h'
            obtain ⟨⟨⟨hn, rfl⟩, hl⟩, ha⟩ := h'
            exact ⟨h0, app_ok hn hl (sB a z ha), fun t => absurd t (by simp [mT])⟩
          | [], _, h' => exact absurd h' (by simp [mE])
          | _ :: _ :: _, _, h' => exact absurd h' (by simp [mE])
          | [_], _ :: _, h' => exact absurd h' (by simp [mE])
        | _ => exact absurd h (by simp [mE])
      | _ => exact absurd h (by simp [mE])
    | _ => exact absurd h (by simp [mE])
  | .pop i, X, e, z, h => by
    have h0 := h
    cases e with
    | Call fn as kws q =>
      cases fn with
      | Attribute o m ap =>
        cases o with
        | Name y p =>
          match as, kws, h with
          | [], [], h' =>
            clear h
            simp only [mE, Bool.and_eq_true, decide_eq_true_eq] at h'
            obtain ⟨⟨hn, rfl⟩, hl⟩ := h'
            exact ⟨h0, pop_ok hn hl, fun t => absurd t (by simp [mT])⟩
          | [], _ :: _, h' => exact absurd h' (by simp [mE])
          | _ :: _, _, h' => exact absurd h' (by simp [mE])
        | _ => exact absurd h (by simp [mE])
      | _ => exact absurd h (by simp [mE])
    | _ => exact absurd h (by simp [mE])
  | .popi i a, X, e, z, h => by
    have h0 := h
    cases e with
    | Call fn as kws q =>
      cases fn with
      | Attribute o m ap =>
        cases o with
        | Name y p =>
          match as, kws, h with
          | [e'], [], h' =>
            clear h
            simp only [mE, Bool.and_eq_true, decide_eq_true_eq] at h'
            obtain ⟨⟨⟨hn, rfl⟩, hl⟩, ha⟩ := h'
            exact ⟨h0, popi_ok hn hl (sB a z ha), fun t => absurd t (by simp [mT])⟩
          | [], _, h' => exact absurd h' (by simp [mE])
          | _ :: _ :: _, _, h' => exact absurd h' (by simp [mE])
          | [_], _ :: _, h' => exact absurd h' (by simp [mE])
        | _ => exact absurd h (by simp [mE])
      | _ => exact absurd h (by simp [mE])
    | _ => exact absurd h (by simp [mE])
  | .ext _ _, X, e, z, h => absurd h (by simp [mE])
  | .appK i k a, X, e, z, h => by
    have h0 := h
    cases e with
    | Call fn as kws q =>
      cases fn with
      | Attribute o m ap =>
        cases o with
        | Subscript o2 ke p2 =>
          cases o2 with
          | Name y p =>
            match as, kws, h with
            | [e'], [], h' =>
              clear h
              simp only [mE, Bool.and_eq_true, decide_eq_true_eq] at h'
              obtain ⟨⟨⟨⟨hn, hk⟩, rfl⟩, hl⟩, ha⟩ := h'
              exact ⟨h0, appK_ok z.gd hn hk hl ha, fun t => absurd t (by simp [mT])⟩
            | [], _, h' => exact absurd h' (by simp [mE])
            | _ :: _ :: _, _, h' => exact absurd h' (by simp [mE])
            | [_], _ :: _, h' => exact absurd h' (by simp [mE])
          | _ => exact absurd h (by simp [mE])
        | _ => exact absurd h (by simp [mE])
      | _ => exact absurd h (by simp [mE])
    | _ => exact absurd h (by simp [mE])
  | .popK i k, X, e, z, h => by
    have h0 := h
    cases e with
    | Call fn as kws q =>
      cases fn with
      | Attribute o m ap =>
        cases o with
        | Subscript o2 ke p2 =>
          cases o2 with
          | Name y p =>
            match as, kws, h with
            | [], [], h' =>
              clear h
              simp only [mE, Bool.and_eq_true, decide_eq_true_eq] at h'
              obtain ⟨⟨⟨hn, hk⟩, rfl⟩, hl⟩ := h'
              exact ⟨h0, popK_ok z.gd hn hk hl, fun t => absurd t (by simp [mT])⟩
            | [], _ :: _, h' => exact absurd h' (by simp [mE])
            | _ :: _, _, h' => exact absurd h' (by simp [mE])
          | _ => exact absurd h (by simp [mE])
        | _ => exact absurd h (by simp [mE])
      | _ => exact absurd h (by simp [mE])
    | _ => exact absurd h (by simp [mE])
  | .neK i k, X, e, z, h => by
    have h0 := h
    cases e with
    | Compare l ops cs p =>
      match ops, cs, h with
      | [op], [r], h' =>
        clear h
        cases l with
        | Subscript o ke p2 =>
          cases o with
          | Name y p3 =>
            cases op with
            | NotEq =>
              cases r with
              | List es p4 =>
                cases es with
                | nil =>
                  simp only [mE, Bool.and_eq_true] at h'
                  have k := neK_ok (G := G) (n := n) (p2 := p2) (p3 := p4) (p4 := p) z.gd h'.1 h'.2
                  exact ⟨h0, k.1, fun _ => k.2⟩
                | cons _ _ => exact absurd h' (by simp [mE])
              | _ => exact absurd h' (by simp [mE])
            | _ => exact absurd h' (by cases r <;> simp [mE])
          | _ => exact absurd h' (by simp [mE])
        | _ => exact absurd h' (by simp [mE])
      | [], _, h' => exact absurd h' (by simp [mE])
      | _ :: _ :: _, _, h' => exact absurd h' (by simp [mE])
      | [_], [], h' => exact absurd h' (by simp [mE])
      | [_], _ :: _ :: _, h' => exact absurd h' (by simp [mE])
    | _ => exact absurd h (by simp [mE])
theorem sPs : ∀ (ils : Es) {X : Cx} {es : List Expr}, Ez X G n → mEs G X.N ils X.env.scope es = true → POs G n X ils es
  | .nil, X, [], z, h => trivial
  | .cons a r, X, e :: es, z, h => by
    simp only [mEs, Bool.and_eq_true] at h
    exact ⟨sB a z h.1, sPs r z h.2⟩
  | .nil, X, _ :: _, z, h => absurd h (by simp [mEs])
  | .cons _ _, X, [], z, h => absurd h (by simp [mEs])
theorem sC : ∀ (cs : Es) {X : Cx} {ifs : List Expr}, Ez X G n → mCs G X.N cs X.env.scope ifs = true → PTs X ifs (tT (evC (evCall G.P n) (rbP G.P) cs))
  | .nil, X, [], z, h => ⟨fun pins s σ H Q I q => pts_nil.run pins s σ H Q I (by
      obtain ⟨U, l, As, S, b, l', e, k⟩ := q
      simp only [evC] at e
      cases e
      exact k H ⟨U, As, Core.same S fun _ h => h⟩)⟩
  | .cons a .nil, X, [e], z, h => by
    simp only [mCs, Bool.and_eq_true] at h
    have ha := (sB a z h.2).2.2 h.1
    have ee : (fun l => (evE (evCall G.P n) (rbP G.P) a l).tst) = evC (evCall G.P n) (rbP G.P) (.cons a .nil) := by funext l; simp only [evC]
    rw [ee] at ha
    exact pts_one ha
  | .nil, X, _ :: _, z, h => absurd h (by simp [mCs])
  | .cons a .nil, X, [], z, h => absurd h (by simp [mCs])
  | .cons a .nil, X, _ :: _ :: _, z, h => absurd h (by simp [mCs])
  | .cons a (.cons _ _), X, ifs, z, h => absurd h (by cases ifs <;> simp [mCs])
theorem sI : ∀ (it : It) {X : Cx} {t e : Expr}, Ez X G n → mI G X.N it X.env.scope t e = true → PI X t e (tI (evI (evCall G.P n) (rbP G.P) it))
  | .seq a, X, t, e, z, h => by
    simp only [mI] at h
    exact pi_seq (sB a z h).od
  | .rng es, X, t, e, z, h => by
    cases e with
    | Call fn as kws q =>
      cases fn with
      | Name y p =>
        cases kws with
        | nil =>
          simp only [mI, Bool.and_eq_true, decide_eq_true_eq] at h
          obtain ⟨⟨rfl, hg⟩, hm⟩ := h
          exact rng_ok z hg (sPs es z hm) hm
        | cons k r => exact absurd h (by simp [mI])
      | _ => exact absurd h (by simp [mI])
    | _ => exact absurd h (by simp [mI])
  | .enum a, X, t, e, z, h => by
    cases t with
    | Tuple ts k tp =>
      cases e with
      | Call fn as kws q =>
        cases fn with
        | Name y p =>
          match as, kws, h with
          | [e], [], h' =>
            clear h
            simp only [mI, Bool.and_eq_true, decide_eq_true_eq] at h'
            obtain ⟨⟨rfl, hg⟩, hm⟩ := h'
            have ha := sB a z hm
            exact pi_en (gl_of hg) (z.bi _ (by decide +kernel)) ha.od (star_of hm)
          | [], _, h' => exact absurd h' (by simp [mI])
          | _ :: _ :: _, _, h' => exact absurd h' (by simp [mI])
          | [_], _ :: _, h' => exact absurd h' (by simp [mI])
        | _ => exact absurd h (by simp [mI])
      | _ => exact absurd h (by simp [mI])
    | _ => exact absurd h (by simp [mI])
  | .zip a b, X, t, e, z, h => by
    cases t with
    | Tuple ts k tp =>
      cases e with
      | Call fn as kws q =>
        cases fn with
        | Name y p =>
          match as, kws, h with
          | [e, f], [], h' =>
            clear h
            simp only [mI, Bool.and_eq_true, decide_eq_true_eq] at h'
            obtain ⟨⟨⟨rfl, hg⟩, hm⟩, hm2⟩ := h'
            have ha := sB a z hm
            have hb := sB b z hm2
            exact pi_zp (gl_of hg) (z.bi _ (by decide +kernel)) ha.od hb.od (star_of hm) (star_of hm2)
          | [], _, h' => exact absurd h' (by simp [mI])
          | [_], _, h' => exact absurd h' (by simp [mI])
          | _ :: _ :: _ :: _, _, h' => exact absurd h' (by simp [mI])
          | [_, _], _ :: _, h' => exact absurd h' (by simp [mI])
        | _ => exact absurd h (by simp [mI])
      | _ => exact absurd h (by simp [mI])
    | _ => exact absurd h (by simp [mI])
end
end
end DL
end

section
set_option Elab.async false
set_option linter.all false
set_option maxRecDepth 100000
/-! EB: every statement that matches is read by the evaluator. -/
namespace DL
open PySem PySem.Spec PyProof.Rows L2

def locB (sc : Scope) (x : Str) : Bool := match sc.names.lookup x with | some .local => true | some .cell => true | _ => false
def isLocal (sc : Scope) (x : Str) : Bool := match sc.names.lookup x with | some .local => true | _ => false
/-- whether the store is made within the comprehension -/
def swV (sc : Scope) (x : Str) (px : Pos) : Expr → Bool
  | .ListComp _ _ s p => isLocal sc x && (px.line == p.line) && !(s.names.any fun (n, k) => n == x && (k == .local || k == .cell))
  | _ => false
def noComp : Expr → Bool
  | .ListComp _ _ _ _ => false
  | .SetComp _ _ _ _ => false
  | .DictComp _ _ _ _ _ => false
  | _ => true
def isLC : Expr → Bool
  | .ListComp _ _ _ _ => true
  | _ => false
def notTup : Expr → Bool
  | .Tuple _ _ _ => false
  | _ => true
/-- a pair or a triple of which one name is no plain local: stored from the left -/
def swNone (sc : Scope) : Expr → Expr → Bool
  | .Tuple ts _ _, .Tuple _ _ _ => ts.any fun e => match e with | .Name x _ => !isLocal sc x | _ => true
  | _, _ => false
def notStar : Expr → Bool
  | .Starred _ _ => false
  | _ => true
def par2 (sc : Scope) (x y : Str) (px py : Pos) (a b : Expr) : Bool :=
  isLocal sc x && isLocal sc y && (py.line == px.line) && !(x == y) && notStar a && notStar b && !(foldedForSure 8 a && foldedForSure 8 b) && !(constantsAlone 8 a && constantsAlone 8 b)
def par3 (sc : Scope) (x y z : Str) (px py pz : Pos) (a b c : Expr) : Bool :=
  isLocal sc x && isLocal sc y && isLocal sc z && (py.line == px.line) && (pz.line == px.line) && !(x == y) && !(x == z) && !(y == z) && notStar a && notStar b && notStar c && !(foldedForSure 8 a && foldedForSure 8 b && foldedForSure 8 c) && !(constantsAlone 8 a && constantsAlone 8 b && constantsAlone 8 c)
def subSet (S : Nat → Bool) : List Nat → Bool
  | [] => true
  | i :: r => S i && subSet S r

def mPar (G : Pg) (N : List Str) (SS : Nat → Bool) (is : List Nat) (es : Es) (sc : Scope) (t v : Expr) : Bool :=
  match is, es, t, v with
  | [i, j], .cons a (.cons b .nil), .Tuple [.Name x px, .Name y py] _ _, .Tuple [v, w] _ _ => nix N i x && nix N j y && !(i == j) && SS i && SS j && par2 sc x y px py v w && mE G N a sc v && mE G N b sc w
  | [i, j, k], .cons a (.cons b (.cons c .nil)), .Tuple [.Name x px, .Name y py, .Name z pz] _ _, .Tuple [v, w, u] _ _ =>
      nix N i x && nix N j y && nix N k z && !(i == j) && !(i == k) && !(j == k) && SS i && SS j && SS k && par3 sc x y z px py pz v w u && mE G N a sc v && mE G N b sc w && mE G N c sc u
  | _, _, _, _ => false
def mAsg (G : Pg) (N : List Str) (SS : Nat → Bool) (i : Nat) (e : E) (sc : Scope) (ts : List Expr) (v : Expr) : Bool :=
  match ts with
  | [.Name x px] => nix N i x && locB sc x && SS i && mE G N e sc v && (noComp v || isLC v)
  | _ => false
def mAsT (G : Pg) (N : List Str) (SS : Nat → Bool) (is : List Nat) (e : E) (sc : Scope) (ts : List Expr) (v : Expr) : Bool :=
  match ts with
  | [t] => mTg N sc is t && decide (2 ≤ is.length) && subSet SS is && noComp v && (notTup v || swNone sc t v) && mE G N e sc v
  | _ => false
def mAsP (G : Pg) (N : List Str) (SS : Nat → Bool) (is : List Nat) (es : Es) (sc : Scope) (ts : List Expr) (v : Expr) : Bool :=
  match ts with
  | [t] => mPar G N SS is es sc t v
  | _ => false
def mSet (G : Pg) (N : List Str) (i : Nat) (k e : E) (sc : Scope) (ts : List Expr) (v : Expr) : Bool :=
  match ts with
  | [.Subscript (.Name x px) ix _] => mNm N sc i (.Name x px) && notSl ix && noComp v && mE G N k sc ix && mE G N e sc v
  | _ => false
def mSet2 (G : Pg) (N : List Str) (i : Nat) (k1 k2 e : E) (sc : Scope) (ts : List Expr) (v : Expr) : Bool :=
  match ts with
  | [.Subscript (.Subscript (.Name x px) i1 _) i2 _] => mNm N sc i (.Name x px) && notSl i1 && notSl i2 && noComp v && mE G N k1 sc i1 && mE G N k2 sc i2 && mE G N e sc v
  | _ => false
mutual
def mS (G : Pg) (N : List Str) (SS : Nat → Bool) : S → Scope → Stmt → Bool
  | .asg i e, sc, .Assign ts v _ => mAsg G N SS i e sc ts v
  | .asgT is e, sc, .Assign ts v _ => mAsT G N SS is e sc ts v
  | .asgP is es, sc, .Assign ts v _ => mAsP G N SS is es sc ts v
  | .setI i k e, sc, .Assign ts v _ => mSet G N i k e sc ts v
  | .setII i k1 k2 e, sc, .Assign ts v _ => mSet2 G N i k1 k2 e sc ts v
  | .exp e, sc, .Expr v _ => noComp v && mE G N e sc v
  | .ret e, sc, .Return (some v) _ => mE G N e sc v
  | .ite c a b, sc, .If x y z _ => mT c && mE G N c sc x && mSs G N SS a sc y && mSs G N SS b sc z
  | .forr tg it b, sc, .For t i body [] _ => mTg N sc tg t && subSet SS tg && notSet i && mI G N it sc t i && mSs G N SS b sc body
  | .whl c b, sc, .While x body [] _ => mT c && mE G N c sc x && mSs G N SS b sc body
  | .brk, _, .Break _ => true
  | .cnt, _, .Continue _ => true
  | .pss, _, .Pass _ => true
  | .pss, _, .Expr (.Constant (.str _) _ _) _ => true
  | _, _, _ => false
def mSs (G : Pg) (N : List Str) (SS : Nat → Bool) : Ss → Scope → List Stmt → Bool
  | .nil, _, [] => true
  | .cons a r, sc, s :: ss => mS G N SS a sc s && mSs G N SS r sc ss
  | _, _, _ => false
end

/-- where statements run -/
structure Ezs (X : Cx) (G : Pg) (n : Nat) : Prop where
  ez : Ez X G n
  po : PassesOwn (model X.prog X.w) X.A X.env X.xe
  fn : ∀ x, X.fn x = true ∨ X.env.scope.names.lookup x ≠ some .cell
  kind : X.env.scope.kind = .function

section
variable {X : Cx} {G : Pg} {n np : Nat} {N : List Str} {sc : Scope} {S : Nat → Bool}

theorem loc_of {x : Str} (z : Ezs X G n) (h : locB X.env.scope x = true) : Loc X.env.scope x ∧ (X.fn x = true ∨ X.env.scope.names.lookup x = some .local) := by
  unfold locB at h
  cases hk : X.env.scope.names.lookup x with
  | none => rw [hk] at h; cases h
  | some k =>
    rw [hk] at h
    cases k <;> first | exact ⟨.inl hk, .inr rfl⟩ | exact ⟨.inr hk, .inl ((z.fn x).resolve_right (fun q => q hk))⟩ | (simp at h)
theorem isLocal_of {x : Str} (h : isLocal sc x = true) : sc.names.lookup x = some .local := by
  unfold isLocal at h
  cases hk : sc.names.lookup x with
  | none => rw [hk] at h; cases h
  | some k => rw [hk] at h; cases k <;> first | rfl | (simp at h)
theorem sw_no {v : Expr} {t : Option Expr} {l : Nat} {env : Env} (h : noComp v = true) : swapsWith v t l env = pure false := by
  cases v <;> first | rfl | (cases h)
theorem subSet_of : ∀ {is : List Nat}, subSet S is = true → ∀ i ∈ is, S i = true
  | i :: r, h, j, m => by
    simp only [subSet, Bool.and_eq_true] at h
    rcases List.mem_cons.mp m with rfl | m
    · exact h.1
    · exact subSet_of h.2 j m
theorem sc_ok (z : Ezs X G n) : ScOk X X.env.scope := fun x => ⟨fun h => h, fun h => ⟨h, (z.fn x).resolve_right (fun q => q h)⟩⟩
theorem nix_lt {i : Nat} {x : Str} (h : nix N i x = true) : i < N.length := by
  have := nix_of h
  exact Classical.byContradiction fun z => by rw [List.getElem?_eq_none (by omega)] at this; cases this
theorem sw2 {env : Env} {x y : Str} {px py p1 p2 : Pos} {a b : Expr} {k1 k2 : Nat} (hk : env.scope.kind = .function) (h : par2 env.scope x y px py a b = true) :
    swappedStores [.Tuple [.Name x px, .Name y py] k1 p1] (.Tuple [a, b] k2 p2) env = pure (some [x, y]) := by
  simp only [par2, Bool.and_eq_true, Bool.not_eq_true'] at h
  obtain ⟨⟨⟨⟨⟨⟨⟨h1, h2⟩, h3⟩, h4⟩, h5⟩, h6⟩, h7⟩, h8⟩ := h
  have k1 : env.kindOf x = some .local := isLocal_of h1
  have k2 : env.kindOf y = some .local := isLocal_of h2
  have kb : env.blockKind = .function := by unfold Env.blockKind; rw [hk]; rfl
  have e1 : List.any [a, b] (fun | .Starred .. => true | _ => false) = false := by
    cases a <;> cases b <;> first | rfl | (cases h5; done) | (cases h6; done)
  have e2 : (x == y) = false := h4
  have e3 : (y == x) = false := by
    cases q : y == x with
    | false => rfl
    | true => rw [eq_of_beq q] at e2; simp at e2
  have e7 : List.all [a, b] (foldedForSure 8) = false := by simpa using h7
  have e8 : List.all [a, b] (constantsAlone 8) = false := by simpa using h8
  unfold swappedStores
  simp only [List.length_cons, List.length_nil, kb, e1, e7, e8, List.head?_cons, Option.map_some, Option.getD_some, Expr.pos, List.filterMap_cons, List.filterMap_nil, k1, k2, h3]
  simp [List.eraseDups_cons, e2, e3]
  intro hz
  exfalso
  rcases hz with hz | hz
  · cases a <;> first | (simp [notStar] at h5; done) | (simp at hz; done)
  · cases b <;> first | (simp [notStar] at h6; done) | (simp at hz; done)
theorem sw3 {env : Env} {x y z : Str} {px py pz p1 p2 : Pos} {a b c : Expr} {k1 k2 : Nat} (hk : env.scope.kind = .function) (h : par3 env.scope x y z px py pz a b c = true) :
    swappedStores [.Tuple [.Name x px, .Name y py, .Name z pz] k1 p1] (.Tuple [a, b, c] k2 p2) env = pure (some [x, y, z]) := by
  simp only [par3, Bool.and_eq_true, Bool.not_eq_true'] at h
  obtain ⟨⟨⟨⟨⟨⟨⟨⟨⟨⟨⟨⟨h1, h2⟩, h2'⟩, h3⟩, h3'⟩, h4⟩, h4'⟩, h4''⟩, h5⟩, h6⟩, h6'⟩, h7⟩, h8⟩ := h
  have k1 : env.kindOf x = some .local := isLocal_of h1
  have k2 : env.kindOf y = some .local := isLocal_of h2
  have k3 : env.kindOf z = some .local := isLocal_of h2'
  have kb : env.blockKind = .function := by unfold Env.blockKind; rw [hk]; rfl
  have sy : ∀ {p q : Str}, (p == q) = false → (q == p) = false := fun {p q} h => by
    cases e : q == p with
    | false => rfl
    | true => rw [eq_of_beq e] at h; simp at h
  have e7 : List.all [a, b, c] (foldedForSure 8) = false := by simpa [Bool.and_assoc] using h7
  have e8 : List.all [a, b, c] (constantsAlone 8) = false := by simpa [Bool.and_assoc] using h8
  unfold swappedStores
  simp only [List.length_cons, List.length_nil, kb, e7, e8, List.head?_cons, Option.map_some, Option.getD_some, Expr.pos, List.filterMap_cons, List.filterMap_nil, k1, k2, k3, h3, h3']
  simp [List.eraseDups_cons, h4, h4', h4'', sy h4, sy h4', sy h4'']
  intro hz
  exfalso
  rcases hz with hz | hz | hz
  · cases a <;> first | (simp [notStar] at h5; done) | (simp at hz; done)
  · cases b <;> first | (simp [notStar] at h6; done) | (simp at hz; done)
  · cases c <;> first | (simp [notStar] at h6'; done) | (simp at hz; done)
theorem sw_false {v : Expr} {x : Str} {px : Pos} {l : Nat} {env : Env} (hk : env.scope.kind = .function) (hl : isLC v = true) (h : swV env.scope x px v = false) : swapsWith v (some (.Name x px)) l env = pure false := by
  cases v with
  | ListComp elt gs scope pos =>
    have hb : env.blockKind = .function := by unfold Env.blockKind; rw [hk]; rfl
    unfold swapsWith
    simp only [hb, Expr.pos]
    simp only [swV] at h
    have e : (env.kindOf x == some NameKind.local) = isLocal env.scope x := by
      show (env.scope.names.lookup x == some NameKind.local) = _
      unfold isLocal
      cases env.scope.names.lookup x with
      | none => rfl
      | some k => cases k <;> rfl
    rw [e]
    have e2 : (ScopeKind.function == ScopeKind.function) = true := rfl
    rw [e2, Bool.true_and, h]
  | _ => cases hl
theorem fm_short {α β : Type} {f : α → Option β} : ∀ {l : List α}, (∃ x ∈ l, f x = none) → (l.filterMap f).length < l.length
  | [], ⟨x, m, _⟩ => by simp at m
  | a :: r, ⟨x, m, e⟩ => by
    have hl := List.length_filterMap_le f r
    cases ha : f a with
    | none => rw [List.filterMap_cons_none ha, List.length_cons]; omega
    | some b =>
      rw [List.filterMap_cons_some ha, List.length_cons, List.length_cons]
      rcases List.mem_cons.mp m with rfl | m
      · rw [e] at ha; cases ha
      · have := fm_short ⟨x, m, e⟩
        omega
theorem sw_none {env : Env} {es : List Expr} {v : Expr} {k : Nat} {p : Pos} (h : (notTup v || swNone env.scope (.Tuple es k p) v) = true) : swappedStores [.Tuple es k p] v env = pure none := by
  by_cases hn : notTup v = true
  · cases v <;> first | rfl | (cases hn)
  · rw [Bool.or_eq_true] at h
    have h := h.resolve_left hn
    cases v with
    | Tuple vs k2 p2 =>
      simp only [swNone, List.any_eq_true] at h
      obtain ⟨e, m, he⟩ := h
      unfold swappedStores
      simp only
      split
      · rfl
      · split
        · rfl
        · have hs : ∀ (line : Nat), (es.filterMap fun
              | .Name id pos => if env.kindOf id == some .local && pos.line == line then some id else none
              | _ => none).length < es.length := fun line => fm_short ⟨e, m, by
            cases e with
            | Name x px =>
              have hx : isLocal env.scope x = false := by simpa using he
              have hk : (env.kindOf x == some .local) = false := by
                cases q : env.kindOf x == some .local with
                | false => rfl
                | true =>
                  have e2 : env.scope.names.lookup x = some .local := eq_of_beq q
                  unfold isLocal at hx
                  rw [e2] at hx
                  cases hx
              show (if (env.kindOf x == some .local && px.line == line) = true then some x else none) = none
              rw [hk]; rfl
            | _ => rfl⟩
          split
          · rfl
          · rename_i hc
            exfalso
            refine hc ?_
            rw [Bool.or_eq_true]
            left
            have := hs ((es.head?.map (·.pos.line)).getD 0)
            simp only [bne_iff_ne, ne_eq]
            exact Nat.ne_of_lt this
    | _ => exact absurd h (by simp [swNone])
theorem ps_run {s : Stmt} {t t' : TS} (h : PS X s t) (k : ∀ σ : L2.St, σ.length = X.N.length → ∀ D H, t' D σ H → t D σ H) : PS X s t' := ⟨fun pins s σ H D I q => h.run pins s σ H D I (k σ I.len D H q)⟩
theorem evVs_2 {cl : Nat → List TV → RC} {rb : Nat → Nat → Bool} {is : List Nat} {es : Es} {np : Nat} : evS cl rb np (.asgP is es) = fun l => evVs cl rb es l [] fun vs l' => .nx (setVs l' is vs) := by funext l; simp only [evS] <;> rfl
theorem asg_st {i : Nat} {e : E} {st : Stmt} (z : Ezs X G n) (h : mS G X.N S (.asg i e) X.env.scope st = true) : PS X st (tS S np (evS (evCall G.P n) (rbP G.P) np (.asg i e))) := by
    cases st with
    | Assign ts v p =>
      simp only [mS] at h
      unfold mAsg at h
      split at h
      case h_2 => cases h
      case h_1 x px =>
          have h' := h
          simp only [Bool.and_eq_true, Bool.or_eq_true] at h'
          obtain ⟨⟨⟨⟨h1, h2⟩, h3⟩, h4⟩, h5⟩ := h'
          have ee : evS (evCall G.P n) (rbP G.P) np (.asg i e) = fun l => (evE (evCall G.P n) (rbP G.P) e l).bS fun v l' => .nx (st l' i v) := by funext l; simp only [evS] <;> rfl
          rw [ee]
          obtain ⟨lc, lf⟩ := loc_of z h2
          have hv := (sB e z.ez h4).2.1
          by_cases hs : noComp v = true
          · exact ps_run (ps_set z.ez.nd (nix_of h1) lc hv (sw_no hs) lf) fun σ hl D H q => asg_rd (by rw [hl]; exact nix_lt h1) h3 q
          · have hlc := h5.resolve_left hs
            by_cases hsw : swV X.env.scope x px v = true
            case neg => exact ps_run (ps_set z.ez.nd (nix_of h1) lc hv (sw_false z.kind hlc (by simpa using hsw)) lf) fun σ hl D H q => asg_rd (by rw [hl]; exact nix_lt h1) h3 q
            cases v with
            | ListComp elt gens scope vp =>
              cases e with
              | lc dp tg it cs e' =>
                match gens, h4 with
                | [⟨t, ix, ifs, ay⟩], h4 =>
                  simp only [swV, Bool.and_eq_true, Bool.not_eq_true'] at hsw
                  simp only [mE, Bool.and_eq_true, decide_eq_true_eq] at h4
                  obtain ⟨⟨⟨⟨⟨⟨⟨rfl, g1⟩, g2⟩, g3⟩, g4⟩, g5⟩, g6⟩, g7⟩ := h4
                  have hi := sI it (t := t) z.ez g3
                  have hg := fun (s : Shared) (H : Hp) (C : Addr) (cl : List (Str × Addr)) (fp : List Addr) => pg_target (X := X.blk s H scope (compEnvC scope cl C X.env) fp) z.ez.gd.calm z.ez.nd (blk_sc X s H scope C cl fp) g5
                  have hc := fun (s : Shared) (H : Hp) (C : Addr) (cl : List (Str × Addr)) (fp : List Addr) => sC cs (z.ez.blk s H scope C cl fp) g6
                  have he := fun (s : Shared) (H : Hp) (C : Addr) (cl : List (Str × Addr)) (fp : List Addr) => (sB e' (z.ez.blk s H scope C cl fp) g7).2.1
                  have hN := (mTg_lt g5)
                  have k := ps_setLc (i := i) (py := px) (pos := vp) (spos := p) (g := gTg X tg) z.ez.gd.calm z.ez.nd (nix_of h1) (isLocal_of hsw.1.1) (sw_true z.kind (isLocal_of hsw.1.1) hsw.1.2 hsw.2) hi (blkOk_by g4)
                    (fun s H C cl fp => by rw [gTg_eq (X := X) (Y := X.blk s H scope (compEnvC scope cl C X.env) fp) rfl]; exact (hg s H C cl fp).1) hc he (fold_of g1)
                  rw [ownOf_snd] at k
                  refine ps_run k fun σ hl D H q => ?_
                  have q2 := asg_rd (cl := evCall G.P n) (rb := rbP G.P) (by rw [hl]; exact nix_lt h1) h3 q
                  exact tLc_of (slot_lt hl hN) q2
                | [], h4 => exact absurd h4 (by simp [mE])
                | _ :: _ :: _, h4 => exact absurd h4 (by simp [mE])
              | cst d => exact absurd h4 (by cases d <;> simp [mE])
              | glb x d => exact absurd h4 (by cases d <;> simp [mE])
              | op o es => exact absurd h4 (by cases o <;> simp [mE, dsO])
              | ro a => exact absurd h4 (by simp [mE, nRo])
              | _ => exact absurd h4 (by simp [mE])
            | _ => exact absurd hsw (by simp [swV])
    | _ => exact absurd h (by simp [mS])
theorem asgT_st {is : List Nat} {e : E} {st : Stmt} (z : Ezs X G n) (h : mS G X.N S (.asgT is e) X.env.scope st = true) : PS X st (tS S np (evS (evCall G.P n) (rbP G.P) np (.asgT is e))) := by
    cases st with
    | Assign ts v p =>
      simp only [mS] at h
      unfold mAsT at h
      split at h
      case h_2 => cases h
      case h_1 t =>
        have h' := h
        simp only [Bool.and_eq_true, decide_eq_true_eq] at h'
        obtain ⟨⟨⟨⟨⟨h1, h2⟩, h3⟩, h4⟩, h5⟩, h6⟩ := h'
        have ee : evS (evCall G.P n) (rbP G.P) np (.asgT is e) = fun l => (evE (evCall G.P n) (rbP G.P) e l).bS fun v l' => (match bindT l' is v.d with | some l2 => .nx l2 | none => .no) := by funext l; simp only [evS] <;> rfl
        rw [ee]
        have hv := (sB e z.ez h6).2.1
        obtain ⟨hg, hlt⟩ := pg_target z.ez.gd.calm z.ez.nd (sc_ok z) h1
        have ht : ∃ es k p, t = .Tuple es k p := by
          match is, t, h1, h2 with
          | _ :: _ :: _, .Tuple es k p, _, _ => exact ⟨_, _, _, rfl⟩
        obtain ⟨es, kk, pp, rfl⟩ := ht
        refine ps_run (ps_asg hv hg (sw_no (v := v) (t := some (.Tuple es kk pp)) (l := p.line) (env := X.env) h4) (sw_none h5) rfl) fun σ hl D H q => asgT_rd h2 (fun i m => by rw [hl]; exact hlt i m) (subSet_of h3) q
    | _ => exact absurd h (by simp [mS])
theorem exp_st {e : E} {st : Stmt} (z : Ezs X G n) (h : mS G X.N S (.exp e) X.env.scope st = true) : PS X st (tS S np (evS (evCall G.P n) (rbP G.P) np (.exp e))) := by
    cases st with
    | Expr v p =>
      simp only [mS, Bool.and_eq_true] at h
      have ee : evS (evCall G.P n) (rbP G.P) np (.exp e) = fun l => (evE (evCall G.P n) (rbP G.P) e l).bS fun _ l' => .nx l' := by funext l; simp only [evS] <;> rfl
      rw [ee]
      exact ps_imp (ps_expr (sB e z.ez h.2).2.1 (sw_no h.1)) fun D σ H q => exp_rd q
    | _ => exact absurd h (by simp [mS])
theorem ret_st {e : E} {st : Stmt} (z : Ezs X G n) (h : mS G X.N S (.ret e) X.env.scope st = true) : PS X st (tS S np (evS (evCall G.P n) (rbP G.P) np (.ret e))) := by
    cases st with
    | Return v p =>
      cases v with
      | some v =>
        simp only [mS] at h
        have ee : evS (evCall G.P n) (rbP G.P) np (.ret e) = fun l => (opd e (evE (evCall G.P n) (rbP G.P) e) l).bS fun os l' => (match os with
          | [.v v] => .rt v l'
          | [.r i] => if np ≤ i then .rt (gt l' i) (DL.st l' i ⟨0, .un⟩) else .rt ⟨0, (gt l' i).d⟩ (low l' i 0)
          | _ => .no) := by funext l; simp only [evS] <;> rfl
        exact ps_imp (ps_ret (sB e z.ez h).od) fun D σ H q => ret_rd (np := np) (S := S) (by rw [ee] at q; exact q)
      | none => exact absurd h (by simp [mS])
    | _ => exact absurd h (by simp [mS])
theorem brk_st  {st : Stmt} (z : Ezs X G n) (h : mS G X.N S (.brk) X.env.scope st = true) : PS X st (tS S np (evS (evCall G.P n) (rbP G.P) np (.brk))) := by
    cases st with
    | Break p => exact ps_imp ps_break fun D σ H q => bk_rd (S := S) (np := np) (by simpa only [evS] using q)
    | _ => exact absurd h (by simp [mS])
theorem cnt_st  {st : Stmt} (z : Ezs X G n) (h : mS G X.N S (.cnt) X.env.scope st = true) : PS X st (tS S np (evS (evCall G.P n) (rbP G.P) np (.cnt))) := by
    cases st with
    | Continue p => exact ps_imp ps_continue fun D σ H q => ct_rd (S := S) (np := np) (by simpa only [evS] using q)
    | _ => exact absurd h (by simp [mS])
theorem pss_st  {st : Stmt} (z : Ezs X G n) (h : mS G X.N S (.pss) X.env.scope st = true) : PS X st (tS S np (evS (evCall G.P n) (rbP G.P) np (.pss))) := by
    cases st with
    | Pass p => exact ps_imp ps_pass fun D σ H q => nx_rd (S := S) (np := np) (by simpa only [evS] using q)
    | Expr v p =>
      cases v with
      | Constant c j p2 =>
        cases c with
        | str x => exact ps_imp ps_doc fun D σ H q => nx_rd (S := S) (np := np) (by simpa only [evS] using q)
        | _ => exact absurd h (by simp [mS])
      | _ => exact absurd h (by simp [mS])
    | _ => exact absurd h (by simp [mS])
theorem setI_st {i : Nat} {k e : E} {st : Stmt} (z : Ezs X G n) (h : mS G X.N S (.setI i k e) X.env.scope st = true) : PS X st (tS S np (evS (evCall G.P n) (rbP G.P) np (.setI i k e))) := by
    cases st with
    | Assign ts v p =>
      simp only [mS] at h
      unfold mSet at h
      split at h
      case h_2 => cases h
      case h_1 x px ix p2 =>
            have h' := h
            simp only [Bool.and_eq_true] at h'
            obtain ⟨⟨⟨⟨h1, h2⟩, h3⟩, h4⟩, h5⟩ := h'
            have ee : evS (evCall G.P n) (rbP G.P) np (.setI i k e) = fun l => (evE (evCall G.P n) (rbP G.P) e l).bS fun v l1 => if (gt l1 i).d.isM then (evE (evCall G.P n) (rbP G.P) k l1).bS fun kv l2 => setK l2 i kv.d v else .no := by funext l; simp only [evS] <;> rfl
            rw [ee]
            have hu : X.A.units + 1 < cLine := by have := z.ez.gd.un; omega
            exact ps_imp (ps_asg (sB e z.ez h5).2.1 (pg_sub (mNm_pe h1) (sB k z.ez h4).2.1 (set_c hu) (by intro v; cases ix <;> first | rfl | (cases h2))) (sw_no (v := v) (t := some (.Subscript (.Name x px) ix p2)) (l := p.line) (env := X.env) h3) rfl rfl) fun D σ H q => setI_rd q
    | _ => exact absurd h (by simp [mS])
theorem setII_st {i : Nat} {k1 k2 e : E} {st : Stmt} (z : Ezs X G n) (h : mS G X.N S (.setII i k1 k2 e) X.env.scope st = true) : PS X st (tS S np (evS (evCall G.P n) (rbP G.P) np (.setII i k1 k2 e))) := by
    cases st with
    | Assign ts v p =>
      simp only [mS] at h
      unfold mSet2 at h
      split at h
      case h_2 => cases h
      case h_1 x px i1 p1 i2 p2 =>
            simp only [Bool.and_eq_true] at h
            obtain ⟨⟨⟨⟨⟨⟨h1, h2⟩, h3⟩, h4⟩, h5⟩, h6⟩, h7⟩ := h
            have ee : evS (evCall G.P n) (rbP G.P) np (.setII i k1 k2 e) = fun l => (evE (evCall G.P n) (rbP G.P) e l).bS fun v l1 => (match flatV l1 k1, flatV l1 k2 with | some a, some b => setKK l1 i a b v | _, _ => .no) := by funext l; simp only [evS] <;> rfl
            rw [ee]
            have hu : X.A.units + 1 < cLine := by have := z.ez.gd.un; omega
            exact ps_imp (ps_asg (sB e z.ez h7).2.1 (pg_sub (pe_ix (ix_c z.ez.gd) (mNm_pe h1) (flat_ok h5) (plainIx h2)) (flat_ok h6) (set_c hu) (by intro v; cases i2 <;> first | rfl | (cases h3))) (sw_no (v := v) (t := some (.Subscript (.Subscript (.Name x px) i1 p1) i2 p2)) (l := p.line) (env := X.env) h4) rfl rfl) fun D σ H q => setII_rd q
    | _ => exact absurd h (by simp [mS])
theorem asgP_st {is : List Nat} {es : Es} {st : Stmt} (z : Ezs X G n) (h : mS G X.N S (.asgP is es) X.env.scope st = true) : PS X st (tS S np (evS (evCall G.P n) (rbP G.P) np (.asgP is es))) := by
    cases st with
    | Assign ts v p =>
      simp only [mS] at h
      unfold mAsP at h
      split at h
      case h_2 => cases h
      case h_1 t =>
        have h' := h
        rw [evVs_2]
        unfold mPar at h'
        split at h'
        · rename_i i j a b x px y py k1 p1 u w k2 p2
          simp only [Bool.and_eq_true, Bool.not_eq_true', beq_eq_false_iff_ne] at h'
          obtain ⟨⟨⟨⟨⟨⟨⟨h1, h2⟩, h3⟩, h4⟩, h5⟩, h6⟩, h7⟩, h8⟩ := h'
          have lx : X.env.scope.names.lookup x = some .local := by
            simp only [par2, Bool.and_eq_true] at h6; exact isLocal_of h6.1.1.1.1.1.1.1
          have ly : X.env.scope.names.lookup y = some .local := by
            simp only [par2, Bool.and_eq_true] at h6; exact isLocal_of h6.1.1.1.1.1.1.2
          have pa : PA X [u, w] (tCons (tE (evE (evCall G.P n) (rbP G.P) a)) (tCons (tE (evE (evCall G.P n) (rbP G.P) b)) tNil)) := pa_cons (sB a z.ez h7).2.1 (pa_cons (sB b z.ez h8).2.1 pa_nil (star_of h8)) (star_of h7)
          exact ps_run (ps_par z.ez.gd.calm z.ez.nd (nix_of h1) (nix_of h2) h3 lx ly pa (sw2 z.kind h6) rfl) fun σ hl D H q => asgP2_rd h3 (by rw [hl]; exact nix_lt h1) (by rw [hl]; exact nix_lt h2) h4 h5 q
        · rename_i i j k a b c x px y py w pw k1 p1 u1 u2 u3 k2 p2
          simp only [Bool.and_eq_true, Bool.not_eq_true', beq_eq_false_iff_ne] at h'
          obtain ⟨⟨⟨⟨⟨⟨⟨⟨⟨⟨⟨⟨h1, h2⟩, h2'⟩, h3⟩, h3'⟩, h3''⟩, h4⟩, h5⟩, h5'⟩, h6⟩, h7⟩, h8⟩, h9⟩ := h'
          have lx : X.env.scope.names.lookup x = some .local := by
            simp only [par3, Bool.and_eq_true] at h6; exact isLocal_of h6.1.1.1.1.1.1.1.1.1.1.1.1
          have ly : X.env.scope.names.lookup y = some .local := by
            simp only [par3, Bool.and_eq_true] at h6; exact isLocal_of h6.1.1.1.1.1.1.1.1.1.1.1.2
          have lw : X.env.scope.names.lookup w = some .local := by
            simp only [par3, Bool.and_eq_true] at h6; exact isLocal_of h6.1.1.1.1.1.1.1.1.1.1.2
          have pa : PA X [u1, u2, u3] (tCons (tE (evE (evCall G.P n) (rbP G.P) a)) (tCons (tE (evE (evCall G.P n) (rbP G.P) b)) (tCons (tE (evE (evCall G.P n) (rbP G.P) c)) tNil))) :=
            pa_cons (sB a z.ez h7).2.1 (pa_cons (sB b z.ez h8).2.1 (pa_cons (sB c z.ez h9).2.1 pa_nil (star_of h9)) (star_of h8)) (star_of h7)
          exact ps_run (ps_par3 z.ez.gd.calm z.ez.nd (nix_of h1) (nix_of h2) (nix_of h2') h3 h3' h3'' lx ly lw pa (sw3 z.kind h6) rfl) fun σ hl D H q => asgP3_rd h3 h3' h3'' (by rw [hl]; exact nix_lt h1) (by rw [hl]; exact nix_lt h2) (by rw [hl]; exact nix_lt h2') h4 h5 h5' q
        · cases h'
    | _ => exact absurd h (by simp [mS])
mutual
theorem sSt : ∀ (s : DL.S) {st : Stmt}, Ezs X G n → mS G X.N S s X.env.scope st = true → PS X st (tS S np (evS (evCall G.P n) (rbP G.P) np s))
  | .asg i e, st, z, h => asg_st z h
  | .asgT is e, st, z, h => asgT_st z h
  | .exp e, st, z, h => exp_st z h
  | .ret e, st, z, h => ret_st z h
  | .ite c a b, st, z, h => by
    cases st with
    | If x y w p =>
      simp only [mS, Bool.and_eq_true] at h
      obtain ⟨⟨⟨h1, h2⟩, h3⟩, h4⟩ := h
      have ee : evS (evCall G.P n) (rbP G.P) np (.ite c a b) = fun l => (evE (evCall G.P n) (rbP G.P) c l).tst.bS fun k l' => if k then evSs (evCall G.P n) (rbP G.P) np a l' else evSs (evCall G.P n) (rbP G.P) np b l' := by funext l; simp only [evS] <;> rfl
      rw [ee]
      exact ps_imp (ps_if ((sB c z.ez h2).2.2 h1) (sSs a z h3) (sSs b z h4)) fun D σ H q => ite_rd (fun _ _ _ q => q) (fun _ _ _ q => q) q
    | _ => exact absurd h (by simp [mS])
  | .forr tg it b, st, z, h => by
    cases st with
    | For t i body els p =>
      cases els with
      | nil =>
        simp only [mS, Bool.and_eq_true] at h
        obtain ⟨⟨⟨⟨h1, h2⟩, h3⟩, h4⟩, h5⟩ := h
        obtain ⟨hg, hlt⟩ := pg_target z.ez.gd.calm z.ez.nd (sc_ok z) h1
        have ee : evS (evCall G.P n) (rbP G.P) np (.forr tg it b) = fun l => (evI (evCall G.P n) (rbP G.P) it l).bS fun xs l1 => forR (fun x l' => match bindT l' tg x with | some l2 => evSs (evCall G.P n) (rbP G.P) np b l2 | none => .no) xs l1 := by funext l; simp only [evS] <;> rfl
        exact ps_run (ps_for z.po z.ez.gd.calm (sI it (t := t) z.ez h4) hg (sSs b z h5) (fold_of h3)) fun σ hl D H q => for_rd (fun i m => by rw [hl]; exact hlt i m) (subSet_of h2) (fun _ _ _ q => q) (by rw [ee] at q; exact q)
      | cons _ _ => exact absurd h (by simp [mS])
    | _ => exact absurd h (by simp [mS])
  | .whl c b, st, z, h => by
    cases st with
    | While x body els p =>
      cases els with
      | nil =>
        simp only [mS, Bool.and_eq_true] at h
        obtain ⟨⟨h1, h2⟩, h3⟩ := h
        have ee : evS (evCall G.P n) (rbP G.P) np (.whl c b) = fun l => whR (fun l' => (evE (evCall G.P n) (rbP G.P) c l').tst) (fun l' => evSs (evCall G.P n) (rbP G.P) np b l') l := by funext l; simp only [evS] <;> rfl
        rw [ee]
        exact ps_imp (ps_while z.po ((sB c z.ez h2).2.2 h1) (sSs b z h3)) fun D σ H q => whl_rd (fun _ _ _ q => q) q
      | cons _ _ => exact absurd h (by simp [mS])
    | _ => exact absurd h (by simp [mS])
  | .brk, st, z, h => brk_st z h
  | .cnt, st, z, h => cnt_st z h
  | .pss, st, z, h => pss_st z h
  | .setI i k e, st, z, h => setI_st z h
  | .setII i k1 k2 e, st, z, h => setII_st z h
  | .asgP is es, st, z, h => asgP_st z h
theorem sSs : ∀ (s : Ss) {sts : List Stmt}, Ezs X G n → mSs G X.N S s X.env.scope sts = true → PSs X sts (tS S np (evSs (evCall G.P n) (rbP G.P) np s))
  | .nil, [], z, h => pss_imp pss_nil fun D σ H q => nx_rd (S := S) (np := np) (by
      have ee : evSs (evCall G.P n) (rbP G.P) np .nil = fun l => .nx l := by funext l; simp only [evSs]
      rw [ee] at q; exact q)
  | .cons a r, s :: ss, z, h => by
    simp only [mSs, Bool.and_eq_true] at h
    have ee : evSs (evCall G.P n) (rbP G.P) np (.cons a r) = fun l => (evS (evCall G.P n) (rbP G.P) np a l).bnd fun l' => evSs (evCall G.P n) (rbP G.P) np r l' := by funext l; simp only [evSs]
    rw [ee]
    exact pss_imp (pss_cons (sSt a z h.1) (sSs r z h.2)) fun D σ H q => seq_rd (fun _ _ _ q => q) (fun _ _ _ q => q) q
  | .nil, _ :: _, z, h => absurd h (by simp [mSs])
  | .cons _ _, [], z, h => absurd h (by simp [mSs])
end
end
end DL
end

section
set_option Elab.async false
set_option linter.all false
set_option maxRecDepth 100000
/-! EC: defs. -/
namespace DL
open PySem PySem.Spec PyProof.Rows L2

section
variable {H H' : Hp} {U U' O : Pd} {l l' : Sl} {σ : L2.St} {As As' : Nat → List Addr} {A B C : List Addr} {x : TV} {v w : V} {vs : List V}

theorem Ars.len {xs : List TV} (h : Ars H U xs vs B) : xs.length = vs.length := by
  induction h with
  | nil => rfl
  | cons _ _ ih => rw [List.length_cons, List.length_cons, ih]
theorem Ars.parts {xs : List TV} (h : Ars H U xs vs B) : ∃ Bs : List (List Addr), Bs.flatten = B ∧ Bs.length = xs.length ∧ ∀ (i : Nat) (x : TV), xs[i]? = some x → ∃ v, vs[i]? = some v ∧ Rep H U x v (Bs.getD i []) := by
  induction h with
  | nil => exact ⟨[], rfl, rfl, fun i x e => by simp at e⟩
  | @cons x v A xs vs B r _ ih =>
    obtain ⟨Bs, h1, h2, h3⟩ := ih
    refine ⟨A :: Bs, by rw [List.flatten_cons, h1], by simp [h2], fun i y e => ?_⟩
    cases i with
    | zero => simp at e; subst e; exact ⟨v, rfl, r⟩
    | succ i =>
      obtain ⟨w, h4, h5⟩ := h3 i y (by simpa using e)
      exact ⟨w, by simpa using h4, by simpa using h5⟩
theorem flat_mem {Bs : List (List Addr)} {i : Nat} {a : Addr} (m : a ∈ Bs.getD i []) : a ∈ Bs.flatten := by
  rw [List.getD_eq_getElem?_getD] at m
  cases h : Bs[i]? with
  | none => rw [h] at m; simp at m
  | some C => rw [h] at m; exact List.mem_flatten.mpr ⟨C, List.mem_of_getElem? h, m⟩
theorem flat_nd : ∀ {Bs : List (List Addr)}, Bs.flatten.Nodup → (∀ i, (Bs.getD i []).Nodup) ∧ ∀ i j, i ≠ j → ∀ a, a ∈ Bs.getD i [] → a ∉ Bs.getD j []
  | [], _ => ⟨fun i => by simp, fun i j _ a m => by simp at m⟩
  | C :: r, h => by
    rw [List.flatten_cons] at h
    obtain ⟨h1, h2, h3⟩ := List.nodup_append.mp h
    obtain ⟨k1, k2⟩ := flat_nd h2
    refine ⟨fun i => ?_, fun i j hij a m m2 => ?_⟩
    · cases i with
      | zero => simpa using h1
      | succ i => simpa using k1 i
    · cases i with
      | zero =>
        cases j with
        | zero => exact hij rfl
        | succ j => exact h3 a (by simpa using m) a (flat_mem (i := j) (by simpa using m2)) rfl
      | succ i =>
        cases j with
        | zero => exact h3 a (by simpa using m2) a (flat_mem (i := i) (by simpa using m)) rfl
        | succ j => exact k2 i j (fun e => hij (by rw [e])) a (by simpa using m) (by simpa using m2)
/-- the state at the entry -/
theorem start_sim {xs : List TV} {N : List Str} {nn : Nat} (h : Ars H U xs vs B) (nd : B.Nodup) (um : ∀ a, U a → H a ≠ none) (hN : N.length = nn) : ∃ As, Sim H U (DL.start nn xs) (L2.start N vs) As ∧ ∀ a, Own As a → a ∈ B := by
  obtain ⟨Bs, h1, h2, h3⟩ := h.parts
  have hl := h.len
  subst h1
  obtain ⟨n1, n2⟩ := flat_nd nd
  refine ⟨fun i => Bs.getD i [], ⟨?_, fun i x hx => ?_, n1, n2, fun i hi => ?_, um⟩, fun a ⟨i, m⟩ => flat_mem m⟩
  · unfold DL.start L2.start
    rw [List.length_append, List.length_append, List.length_replicate, List.length_replicate, List.length_map, hl, hN]
  · unfold DL.start at hx
    by_cases hi : i < xs.length
    · rw [List.getElem?_append_left hi] at hx
      obtain ⟨v, hv, r⟩ := h3 i x hx
      refine .inr ⟨v, ?_, r⟩
      unfold L2.start
      rw [List.getElem?_append_left (by rw [List.length_map, ← hl]; exact hi), List.getElem?_map, hv]; rfl
    · rw [List.getElem?_append_right (by omega), List.getElem?_replicate] at hx
      split at hx
      · rename_i hlt
        cases hx
        refine .inl ⟨rfl, ?_, ?_⟩
        · show Bs.getD i [] = []
          rw [List.getD_eq_getElem?_getD, List.getElem?_eq_none (by omega)]; rfl
        · unfold L2.start
          rw [List.getElem?_append_right (by rw [List.length_map]; omega), List.getElem?_replicate, List.length_map, if_pos (by omega)]
      · cases hx
  · unfold DL.start at hi
    rw [List.length_append] at hi
    show Bs.getD i [] = []
    rw [List.getD_eq_getElem?_getD, List.getElem?_eq_none (by omega)]; rfl
/-- what the parameters hold at the end -/
theorem outs_ok {fd : FD} {H0 : Hp} {U0 : Pd} (S : Sim H' U' l σ As') (fz : ∀ d v, Fz H0 U0 d v → Fz H' U' d v) : ∀ (p : Nat) (xs : List TV) (vs : List V) (B : List Addr), Ars H0 U0 xs vs B → rebT fd.reb p xs = true → (∀ j v, vs[j]? = some v → fd.reb (p + j) = false → σ[p + j]? = some (some v)) →
    ∃ C, Ars H' U' (outs fd l p xs) vs C ∧ C.Nodup ∧ ∀ a ∈ C, ∃ i, p ≤ i ∧ a ∈ As' i
  | p, [], [], _, .nil, _, _ => ⟨[], .nil, by simp, by simp⟩
  | p, x :: xs, v :: vs, _, .cons (A := A) (B := B) r rs, hr, hv => by
    simp only [rebT, Bool.and_eq_true] at hr
    obtain ⟨C, h1, h2, h3⟩ := outs_ok S fz (p + 1) xs vs B rs hr.2 fun j w e f => by
      have := hv (j + 1) w (by simpa using e) (by rw [show p + (j + 1) = p + 1 + j by omega]; exact f)
      rw [show p + (j + 1) = p + 1 + j by omega] at this
      exact this
    by_cases hb : fd.reb p = true
    · have ht : x.t = 0 := by
        have := hr.1
        rw [hb] at this
        simpa using this
      obtain ⟨t, d⟩ := x
      subst ht
      refine ⟨C, ?_, h2, fun a m => (h3 a m).imp fun i ⟨a, b⟩ => ⟨by omega, b⟩⟩
      simp only [outs, if_pos hb]
      exact Ars.cons (A := []) ⟨rfl, fz _ _ r.2⟩ h1
    · have e := hv 0 v rfl (by simpa using hb)
      have rp := S.den (i := p) e
      simp only [outs, if_neg hb]
      refine ⟨As' p ++ C, Ars.cons rp h1, List.nodup_append.mpr ⟨S.nd p, h2, fun a m b m' e => ?_⟩, fun a m => ?_⟩
      · subst e
        obtain ⟨i, hi, q⟩ := h3 a m'
        exact S.dj p i (by omega) a m q
      · rcases List.mem_append.mp m with m | m
        · exact ⟨p, Nat.le_refl _, m⟩
        · exact (h3 a m).imp fun i ⟨a, b⟩ => ⟨by omega, b⟩
end
section
variable {P : Program} {w : World} {K : PySem.W.Frag} {mg : Str → Option Value} {base : Heap}
/-- a def by its body, where what runs around is quiet -/
theorem fg_of {x qual : Str} {st : Stmt} {f : Addr} {fd : FuncData} {N ps : List Str} {k : Nat} {sp : Sp} (F : C8.Fun K x qual st f fd) (S : FnScope N ps (C8.fnScope st)) (len : ∀ vs H Q E, sp vs H Q E → vs.length = ps.length)
    (hbody : ∀ (cdv : Value) (A : Around) (outer : List Env) (s : Shared) (H : Hp) (vs : List V) (Q : VK) (E : XK), Room k (A.deeper (envOfC qual (C8.fnScope st) s.heap.objs.size f cdv)) → A.guards = some [] → sp vs H Q E →
      ∃ t, PSs (cxOf C8.CX0 P w K mg base N qual (C8.fnScope st) f cdv A outer s H E).nox (C8.fnBody st) t ∧ t { nx := fun _ H' => Q .non H', rt := Q } (L2.start N vs) H) : FnG P w K mg base (k + 1) f fd ps sp := by
  obtain ⟨oc, od, dV, kV, doc, pm, an, cdv, ct, osl, rfl, lk, hcd⟩ := F.ex
  refine ⟨len, fun A outer s H args us vs Q E hr hgd e0 hb r hsp => ?_⟩
  have inb := e0.mod.kin.keeps fun b o e => (e0.bs b o e).1
  have kinds : ∀ y ∈ ps.zip us, (C8.fnScope st).names.lookup y.1 = some .local ∨ ((C8.fnScope st).names.lookup y.1 = some .cell ∧ ((cellsFrom (s.heap.objs.size + 1) (C8.fnScope st).names []).lookup y.1).isSome = true) := fun ⟨n, v⟩ hy =>
    (S.par n (List.of_mem_zip hy).1).imp (fun q => q) fun q => ⟨q, PySem.W.cellsFrom_some _ _ _ (.inl q)⟩
  have hl := len _ _ _ _ hsp
  have quota : s.heap.NoLimit := e0.mod.nolimit.keeps fun b o e => (e0.bs b o e).1
  refine codeAny_call_function hr.depth (inb _ _ lk) rfl S.co S.gen rfl (PySem.W.codeRec_of inb hcd) (hb _ _ _ _ (wpAny_newFunctionEnv_cells S.kind kinds fun env he s1 y => ?_))
  subst he
  refine ⟨quota.keeps y.toInCall.keep, codeAny_func ?_⟩
  obtain ⟨t, ht, hq⟩ := hbody cdv A outer s H vs Q E (hr.deeper _) hgd hsp
  refine wpAny_mono (ht.nox.run [] s1 (L2.start N vs) H _ (inv_start S hr.hd e0 hl r y) hq) (fun fl s' hs => ?_) fun e s' hs => hs
  match fl, hs with
  | .ret u, ⟨v, σ', H', J, rv, q⟩ => exact ⟨v, H', J.os, J.bare, J.base, J.hok, rv, q⟩
  | .next, ⟨σ', H', J, q⟩ => exact ⟨V.non, H', J.os, J.bare, J.base, J.hok, rfl, q⟩
  | .brk, ⟨_, _, _, q⟩ => exact False.elim q
  | .cont, ⟨_, _, _, q⟩ => exact False.elim q

/-- the program's defs as they stand -/
structure DefOk (G : Pg) (K : PySem.W.Frag) (mg : Str → Option Value) (f : Nat) (fd : FD) (st : Stmt) (a : Addr) (F : FuncData) (ps N : List Str) : Prop where
  at_ : mg (G.nm f) = some (.ref a)
  keep : PySem.W.keepIn K (.ref a) = true
  fn : C8.Fun K (G.nm f) (G.nm f) st a F
  sc : FnScope N ps (C8.fnScope st)
  np : ps.length = fd.np
  nn : N.length = fd.nn
  body : mSs G N (asgSs fd.body) fd.body (C8.fnScope st) (C8.fnBody st) = true
  binds : ∀ (s : Shared) (us : List Value), us.length = ps.length → BindsTo s F ⟨us, []⟩ (ps.zip us)
  kws : ∀ ks pm, (f, ks, pm) ∈ G.kws → ∀ (s : Shared) (ws : List Value), ws.length = ks.length → BindsTo s F ⟨[], ks.zip ws⟩ (ps.zip (pm.map fun j => ws.getD j .none))
structure PgOk (G : Pg) (K : PySem.W.Frag) (mg : Str → Option Value) : Prop where
  cst : ∀ x i, G.cs.lookup x = some i → ∃ t, mg x = some (.int i t)
  bi : ∀ x, biNames.contains x = true → mg x = none
  fn : ∀ f fd, G.P f = some fd → ∃ st a F ps N, DefOk G K mg f fd st a F ps N

theorem def_body {G : Pg} {n f : Nat} {fd : FD} {st : Stmt} {a : Addr} {F : FuncData} {ps N : List Str} (d : DefOk G K mg f fd st a F ps N) (hf : G.P f = some fd) (ok : PgOk G K mg)
    (ih : ∀ f fd, G.P f = some fd → ∃ a F ps, mg (G.nm f) = some (.ref a) ∧ PySem.W.keepIn K (.ref a) = true ∧ FnG P w K mg base n a F ps (spC (evCall G.P n f) fd.np) ∧ ps.length = fd.np ∧
      (∀ (s : Shared) (us : List Value), us.length = ps.length → BindsTo s F ⟨us, []⟩ (ps.zip us)) ∧ ∀ ks pm, (f, ks, pm) ∈ G.kws → ∀ (s : Shared) (ws : List Value), ws.length = ks.length → BindsTo s F ⟨[], ks.zip ws⟩ (ps.zip (pm.map fun j => ws.getD j .none))) :
    FnG P w K mg base (n + 1) a F ps (spC (evCall G.P (n + 1) f) fd.np) := by
  refine fg_of d.fn d.sc (fun vs H Q E h => by rw [h.1, d.np]) fun cdv A outer s H vs Q E hr hg h => ?_
  obtain ⟨hl, U, xs, B, ars, nd, um, v, ys, hc, kq⟩ := h
  have hev : evCall G.P (n + 1) f xs = evF (evCall G.P n) (rbP G.P) fd xs := by
    show (match G.P f with | some fd => evF (evCall G.P n) (rbP G.P) fd xs | none => RC.no) = _
    rw [hf]
  rw [hev] at hc
  unfold evF at hc
  split at hc
  case isFalse => cases hc
  case isTrue hx =>
    obtain ⟨hx1, hx2⟩ := hx
    have un : (A.deeper (envOfC (G.nm f) (C8.fnScope st) s.heap.objs.size a cdv)).units + 200 < cLine := by have := hr.un; omega
    have z : Ezs (cxOf C8.CX0 P w K mg base N (G.nm f) (C8.fnScope st) a cdv A outer s H E).nox G n :=
      ⟨⟨⟨rfl, un, hr.hd, hg⟩, hr, d.sc.nd, ok.cst, ok.bi, ih⟩, PassesOwn.never, fun _ => .inl rfl, d.sc.kind⟩
    refine ⟨_, sSs (S := asgSs fd.body) (np := fd.np) fd.body z d.body, ?_⟩
    obtain ⟨As, S0, hO⟩ := start_sim (N := N) ars nd um d.nn
    refine ⟨U, DL.start fd.nn xs, As, S0, ?_⟩
    have hpl : ps.length ≤ N.length := by have := congrArg List.length d.sc.pre; rw [List.length_take] at this; omega
    have σ0 : ∀ j v, vs[j]? = some v → (L2.start N vs)[j]? = some (some v) := fun j v e => by
      have hj : j < vs.length := Classical.byContradiction fun n => by rw [List.getElem?_eq_none (by omega)] at e; cases e
      unfold L2.start
      rw [List.getElem?_append_left (by rw [List.length_map]; exact hj), List.getElem?_map, e]; rfl
    have fin : ∀ {l : Sl} {σ' : L2.St} {H' : Hp} {U' : Pd} {As' : Nat → List Addr} {A' : List Addr} {v : TV} {u : V}, Core H U (Own As) l σ' H' U' As' A' → Rep H' U' v u A' → (∀ j, j < fd.np → asgSs fd.body j = false → σ'[j]? = (L2.start N vs)[j]?) →
        RC.ok v (outs fd l 0 xs) = RC.ok v ys → (∀ w H' U' A C, Go H U (fun a => a ∈ B) H' U' → (∀ a, U' a → H' a ≠ none) → Rep H' U' v w A → Ars H' U' ys vs C → (A ++ C).Nodup → (∀ a ∈ A ++ C, a ∈ B ∨ H a = none) → Q w H') → Q u H' := fun {l σ' H' U' As' A' v u} c r same e kq => by
      cases e
      obtain ⟨C, k1, k2, k3⟩ := outs_ok (fd := fd) c.sim (fun d v f => f.over c.go S0.ownU) 0 xs vs B ars hx2 fun j v e hb => by
        rw [Nat.zero_add] at hb ⊢
        have hj : j < vs.length := Classical.byContradiction fun n => by rw [List.getElem?_eq_none (by omega)] at e; cases e
        rw [same j (by omega) hb]
        exact σ0 j v e
      refine kq u H' U' A' C (c.go.mono hO) c.sim.um r k1 (List.nodup_append.mpr ⟨c.nd, k2, fun a m b m' e => ?_⟩) fun a m => ?_
      · subst e
        obtain ⟨i, _, q⟩ := k3 a m'
        exact c.ap a m ⟨i, q⟩
      · rcases List.mem_append.mp m with m | m
        · exact (c.src a m).imp (hO a) fun z => z
        · obtain ⟨i, _, q⟩ := k3 a m
          exact (c.sub a ⟨i, q⟩).imp (hO a) fun z => z
    cases hb : evSs (evCall G.P n) (rbP G.P) fd.np fd.body (DL.start fd.nn xs) with
    | no => rw [hb] at hc; cases hc
    | bk l => rw [hb] at hc; cases hc
    | ct l => rw [hb] at hc; cases hc
    | rt v1 l =>
      rw [hb] at hc
      intro u H' ⟨σ', U', As', A', c, r, same⟩
      simp only [RC.ok.injEq] at hc
      obtain ⟨rfl, hc⟩ := hc
      exact fin c r same (by rw [hc]) kq
    | nx l =>
      rw [hb] at hc
      intro σ' H' ⟨U', As', c, same⟩
      simp only [RC.ok.injEq] at hc
      obtain ⟨rfl, hc⟩ := hc
      exact fin c (v := ⟨0, .non⟩) (u := .non) ⟨rfl, .non⟩ (fun j _ h => same.2 j h) (by rw [hc]) kq
/-- every def, to every depth -/
theorem all_fg {G : Pg} (ok : PgOk G K mg) : ∀ n f fd, G.P f = some fd → ∃ a F ps, mg (G.nm f) = some (.ref a) ∧ PySem.W.keepIn K (.ref a) = true ∧ FnG P w K mg base n a F ps (spC (evCall G.P n f) fd.np) ∧ ps.length = fd.np ∧
      (∀ (s : Shared) (us : List Value), us.length = ps.length → BindsTo s F ⟨us, []⟩ (ps.zip us)) ∧ ∀ ks pm, (f, ks, pm) ∈ G.kws → ∀ (s : Shared) (ws : List Value), ws.length = ks.length → BindsTo s F ⟨[], ks.zip ws⟩ (ps.zip (pm.map fun j => ws.getD j .none))
  | 0, f, fd, hf => by
    obtain ⟨st, a, F, ps, N, d⟩ := ok.fn f fd hf
    refine ⟨a, F, ps, d.at_, d.keep, ⟨fun vs H Q E h => by rw [h.1, d.np], fun A outer s H args us vs Q E _ _ _ _ _ h => ?_⟩, d.np, d.binds, d.kws⟩
    obtain ⟨_, U, xs, B, _, _, _, v, ys, hc, _⟩ := h
    cases hc
  | n + 1, f, fd, hf => by
    obtain ⟨st, a, F, ps, N, d⟩ := ok.fn f fd hf
    exact ⟨a, F, ps, d.at_, d.keep, def_body d hf ok (all_fg ok n), d.np, d.binds, d.kws⟩
end
end DL
end

section
set_option Elab.async false
set_option linter.all false
set_option maxRecDepth 100000
/-! ED: the end of a law. -/
namespace DL
open PySem PySem.Spec PyProof.Rows L2

theorem mem_look {K : PySem.W.Frag} {a : Addr} {o : Obj} (h : K.lookup a = some o) : (a, o) ∈ K := by
  induction K with
  | nil => simp at h
  | cons p r ih =>
    obtain ⟨b, u⟩ := p
    rw [List.lookup_cons] at h
    cases hb : a == b with
    | true => rw [hb] at h; cases h; rw [eq_of_beq hb]; exact List.mem_cons_self
    | false => rw [hb] at h; exact List.mem_cons_of_mem _ (ih h)
theorem ints_fz {H : Hp} {U : Pd} : ∀ is : List Int, FzL H U (is.map D.int) (is.map V.int)
  | [] => .nil
  | _ :: r => .cons (.int _) (ints_fz r)
/-- the law's promise at the heap behind the top, for a def of the evaluator's kind -/
theorem law_end {P : Program} {w : World} {K : PySem.W.Frag} {mg mb : Str → Option Value} {k : Nat} {fa q : Addr} {fn : FuncData} {y : Str} {sp : Sp} {t : Shared} {us : List Value} {is : List Int}
    (kin : K.In t.heap) (top : t.heap.Ns mainGlobals mg) (blt : t.heap.Ns builtinsNs mb) (same : ∀ x : Str, x ≠ "__name__" → mb x = bootBuiltins x) (quota : t.heap.NoLimit) (still : t.gens = #[])
    (at_ : t.heap.get? q = some { cls := .type "list", data := .seq us.toArray }) (nums : IntsAre us is) (room : is.length ≤ sizeLine) (deep : Room k callerA)
    (good : ∀ b0 : Heap, K.In b0 → b0.Ns mainGlobals mg → FnG P w K mg b0 k fa fn [y] sp) (one : ∀ (s : Shared) (u : Value), BindsTo s fn ⟨[u], []⟩ [(y, u)])
    (bare0 : K.all (fun p => !(p.2.cls == .type "list")) = true) (asked : ∀ H : Hp, Only H → Rd H q (.lst (is.map V.int)) → sp [.ref q] H (fun v _ => v = .bl true) fun _ _ _ => False) :
    codeAny (model P w) callerA (.call (.ref fa) ⟨[.ref q], []⟩) (fun r t' => r = .ok (.ret (.bool true)) ∧ OldK t.heap t'.heap ∧ t'.os = t.os ∧ AllBare t'.gens) t := by
  have vi := vals_ints nums
  have size : us.length = is.length := nums.length
  have go : ∀ H : Hp, Only H → Rd H q (.lst (is.map V.int)) → HOk P w H t.heap → (∀ b, H b ≠ none → b = q) → (H q ≠ none → K.lookup q = none) →
      codeAny (model P w) callerA (.call (.ref fa) ⟨[.ref q], []⟩) (fun r t' => r = .ok (.ret (.bool true)) ∧ OldK t.heap t'.heap ∧ t'.os = t.os ∧ AllBare t'.gens) t := by
    intro H lone seq fits sole away
    have under : ∀ {b : Addr} {ob : Obj}, t.heap.get? b = some ob → H b = none → (hidT t.heap H).get? b = some ob := fun e n => hidT_get e n
    have free : ∀ {b : Addr} {ob : Obj} {es : Array DictEntry} {m : Nat}, t.heap.get? b = some ob → ob.data = .dict es m → H b = none := fun {b ob es m} e d => by
      refine Classical.byContradiction fun n => ?_
      have eb := sole b n
      rw [eb, at_] at e
      cases e
      exact absurd (show Data.seq us.toArray _ = Data.dict es m from d) (by intro z; cases z)
    have ns : ∀ {b : Addr} {m : Str → Option Value}, t.heap.Ns b m → (hidT t.heap H).Ns b m := fun {b m} ⟨ob, es, z, e, d, r⟩ => ⟨ob, es, z, under e (free e d), d, r⟩
    have inb : K.In (hidT t.heap H) := fun b ob e => under (kin b ob e) (Classical.byContradiction fun n => by
      have eb := sole b n
      subst eb
      rw [away n] at e
      cases e)
    have mo : Mod K mg (hidT t.heap H) := ⟨inb, ns top, ⟨mb, ns blt, same⟩, quota.elim fun mc z => ⟨mc, ns z.1, z.2⟩⟩
    have entry : Env0 P w K mg (hidT t.heap H) callerA [] t H := ⟨rfl, mo, fun b ob e => of_hidT e, Nat.le_of_eq (hidT_size _ _), trivial, fun b z => absurd (show b ∈ ([] : List Addr) from z) (by simp), fits, .of_eq still⟩
    refine codeAny_mono ((good _ inb (ns top)).run callerA [] t H ⟨[.ref q], []⟩ [.ref q] [.ref q] _ _ deep rfl entry (one t (.ref q)) (.cons rfl .nil) (asked H lone seq)) fun r t' z => ?_
    match r, z with
    | .ok (.ret u), ⟨v, H', os, bare, un, fits', rv, e⟩ =>
      have e' : v = .bl true := e
      subst e'
      obtain rfl : u = Value.bool true := rv
      refine ⟨rfl, OldK.of_keep fun b ob eo => ?_, os, bare⟩
      rcases lone b with n | ⟨oz, xs, n⟩
      · exact un.keep b ob eo n (fun z => absurd (show b ∈ ([] : List Addr) from z) (by simp)) (by simp)
      · have n2 := un.frzs b oz _ n
        have g1 := (fits b _ n).1
        have g2 := (fits' b _ n2).1
        rw [eo] at g1
        cases g1
        exact g2
    | .ok .next, z => exact False.elim z
    | .ok .brk, z => exact False.elim z
    | .ok .cont, z => exact False.elim z
    | .error e, z => exact False.elim z
  cases hk : K.lookup q with
  | some ob =>
    have e := kin q ob hk
    rw [at_] at e
    cases e
    have z := List.all_eq_true.mp bare0 _ (mem_look hk)
    simp at z
  | none =>
    have hq : ∀ b, (if b = q then some (HO.frz { cls := .type "list", data := .seq us.toArray } (.lst (is.map V.int))) else none) ≠ none → b = q := fun b z => Classical.byContradiction fun n => z (if_neg n)
    refine go (fun b => if b = q then some (.frz { cls := .type "list", data := .seq us.toArray } (.lst (is.map V.int))) else none) (fun b => ?_) (.inr ⟨{ cls := .type "list", data := .seq us.toArray }, if_pos rfl⟩) (fun b u z => ?_) hq fun _ => hk
    · by_cases e : b = q
      · exact .inr ⟨_, _, if_pos e⟩
      · exact .inl (if_neg e)
    · have eb := hq b (fun y => by have z2 := y.symm.trans z; cases z2)
      have z : (if b = q then some (HO.frz { cls := .type "list", data := .seq us.toArray } (.lst (is.map V.int))) else none) = some u := z
      have z3 := (if_pos eb).symm.trans z
      subst eb
      cases z3
      exact ⟨at_, by rw [List.length_map]; exact room, us, _, vi, at_⟩
theorem walk_end {l : PySem.W.OpenLaw} {n k : Nat} {q : Program} {loose : List Str} {XP : (Str → Option Value) → Heap → Prop} {YP : World → Heap → Prop} {d : DefRec} {K : Params → PySem.W.Frag} {sp : Sp} {y : Str}
    (most : l.most = some n) (small : n ≤ sizeLine) (plain : d.params.defaults = []) (deep : Room k callerA) (kin : ∀ (w : World) (h : Heap), YP w h → (K w.params).In h)
    (good : ∀ (w : World) (mg : Str → Option Value) (fa : Addr) (h : Heap), (K w.params).In h → h.Ns mainGlobals mg → mg d.name = some (.ref fa) →
      ∃ fn : FuncData, (∀ (s : Shared) (u : Value), BindsTo s fn ⟨[u], []⟩ [(y, u)]) ∧ ∀ b0 : Heap, (K w.params).In b0 → b0.Ns mainGlobals mg → FnG l.prog w (K w.params) mg b0 k fa fn [y] sp)
    (bare0 : ∀ w : World, (K w.params).all (fun p => !(p.2.cls == .type "list")) = true) (asked : ∀ (w : World) (H : Hp) (a : Addr) (is : List Int), is.length ≤ n → Only H → Rd H a (.lst (is.map V.int)) → sp [.ref a] H (fun v _ => v = .bl true) fun _ _ _ => False) :
    PySem.W.WalkO q loose XP YP l.row.toRowW d [] (fun f vs => PySem.call f vs) := by
  refine Att.attach_call most plain fun w s₀ t mg mb fa o pm cd doc a us is G Y ho hd hcd found at_ nums short still => ?_
  have X := kin w _ Y
  obtain ⟨fn, one, g⟩ := good w mg fa _ X G.T.g found
  exact law_end X G.T.g G.T.b G.T.builtins G.T.nolimit still at_ nums (Nat.le_trans short small) deep g one (bare0 w) fun H lone seq => asked w H a is short lone seq
/-- the law's value by the evaluator -/
theorem asked_of {c : List TV → RC} {H : Hp} {a : Addr} {is : List Int} (seq : Rd H a (.lst (is.map V.int))) (v : ∃ as, c [⟨0, .lst (is.map D.int)⟩] = .ok ⟨0, .bl true⟩ as) :
    spC c 1 [.ref a] H (fun v _ => v = .bl true) fun _ _ _ => False := by
  obtain ⟨as, e⟩ := v
  have f : FzL H Nv (is.map D.int) (is.map V.int) := ints_fz is
  refine ⟨rfl, Nv, [⟨0, .lst (is.map D.int)⟩], [], Ars.cons (A := []) ⟨rfl, .lst seq (fun h => h) f⟩ .nil, by simp, fun _ h => h.elim, _, as, e, fun u H' U' A C go um r ar nd src => ?_⟩
  exact (r.bl).1
end DL
end

section
set_option Elab.async false
set_option linter.all false
set_option maxRecDepth 100000
/-! GA: the evaluator, read backwards: what is wanted behind it. -/
namespace DL
open PySem

@[irreducible] def qE (r : RE) (Q : TV → Sl → Prop) : Prop := match r with | .ok v l => Q v l | .no => False
@[irreducible] def qO (r : RO) (Q : List Od → Sl → Prop) : Prop := match r with | .ok v l => Q v l | .no => False
@[irreducible] def qI (r : RI) (Q : List D → Sl → Prop) : Prop := match r with | .ok v l => Q v l | .no => False
@[irreducible] def qT (r : RB) (Q : Bool → Sl → Prop) : Prop := match r with | .ok v l => Q v l | .no => False
/-- what is wanted behind a statement -/
structure Aft where
  nx : Sl → Prop
  rt : TV → Sl → Prop
  bk : Sl → Prop := fun _ => False
  ct : Sl → Prop := fun _ => False
@[irreducible] def qS (r : RS) (A : Aft) : Prop := match r with | .nx l => A.nx l | .rt v l => A.rt v l | .bk l => A.bk l | .ct l => A.ct l | .no => False

@[irreducible] def qC (r : RC) (Q : TV → List TV → Prop) : Prop := match r with | .ok v as => Q v as | .no => False
@[irreducible] def qP (r : RP) (Q : Option Int → Sl → Prop) : Prop := match r with | .ok i l => Q i l | .no => False
@[simp] theorem qC_k {Q : TV → List TV → Prop} {v : TV} {as : List TV} : qC (.ok v as) Q = Q v as := by unfold qC; rfl
@[simp] theorem qC_no {Q : TV → List TV → Prop} : qC .no Q = False := by unfold qC; rfl
@[simp] theorem qP_ok {Q : Option Int → Sl → Prop} {i : Option Int} {l : Sl} : qP (.ok i l) Q = Q i l := by unfold qP; rfl
@[simp] theorem qP_no {Q : Option Int → Sl → Prop} : qP .no Q = False := by unfold qP; rfl
section
variable {cl : Nat → List TV → RC} {rb : Nat → Nat → Bool} {np : Nat} {l : Sl} {Q : TV → Sl → Prop} {QO : List Od → Sl → Prop} {QI : List D → Sl → Prop} {QB : Bool → Sl → Prop} {A : Aft}
@[simp] theorem qE_ok {v : TV} : qE (.ok v l) Q = Q v l := by unfold qE; rfl
@[simp] theorem qE_no : qE .no Q = False := by unfold qE; rfl
@[simp] theorem qO_ok {v : List Od} : qO (.ok v l) QO = QO v l := by unfold qO; rfl
@[simp] theorem qO_no : qO .no QO = False := by unfold qO; rfl
@[simp] theorem qI_ok {v : List D} : qI (.ok v l) QI = QI v l := by unfold qI; rfl
@[simp] theorem qI_no : qI .no QI = False := by unfold qI; rfl
@[simp] theorem qT_ok {v : Bool} : qT (.ok v l) QB = QB v l := by unfold qT; rfl
@[simp] theorem qT_no : qT .no QB = False := by unfold qT; rfl
theorem noE (h : qE .no Q) : False := by simpa using h
theorem noO (h : qO .no QO) : False := by simpa using h
theorem noI (h : qI .no QI) : False := by simpa using h
theorem noT (h : qT .no QB) : False := by simpa using h
@[simp] theorem qS_nx : qS (.nx l) A = A.nx l := by unfold qS; rfl
@[simp] theorem qS_rt {v : TV} : qS (.rt v l) A = A.rt v l := by unfold qS; rfl
@[simp] theorem qS_bk : qS (.bk l) A = A.bk l := by unfold qS; rfl
@[simp] theorem qS_ct : qS (.ct l) A = A.ct l := by unfold qS; rfl
@[simp] theorem qS_no : qS .no A = False := by unfold qS; rfl
@[simp] theorem qE_bnd {r : RE} {f : TV → Sl → RE} : qE (r.bnd f) Q = qE r fun v l => qE (f v l) Q := by cases r <;> simp only [RE.bnd, RE.bO, RE.bI, RE.bS, RO.bnd, RO.bO, RO.bI, RO.bS, RI.bnd, RI.bS, RB.bS, RS.bnd, qE_ok, qE_no, qO_ok, qO_no, qI_ok, qI_no, qT_ok, qT_no, qS_nx, qS_rt, qS_bk, qS_ct, qS_no]
@[simp] theorem qO_bnd {r : RO} {f : List Od → Sl → RE} : qE (r.bnd f) Q = qO r fun v l => qE (f v l) Q := by cases r <;> simp only [RE.bnd, RE.bO, RE.bI, RE.bS, RO.bnd, RO.bO, RO.bI, RO.bS, RI.bnd, RI.bS, RB.bS, RS.bnd, qE_ok, qE_no, qO_ok, qO_no, qI_ok, qI_no, qT_ok, qT_no, qS_nx, qS_rt, qS_bk, qS_ct, qS_no]
theorem qE_bO {r : RE} {f : TV → Sl → RO} : qO (r.bO f) QO = qE r fun v l => qO (f v l) QO := by cases r <;> simp only [RE.bnd, RE.bO, RE.bI, RE.bS, RO.bnd, RO.bO, RO.bI, RO.bS, RI.bnd, RI.bS, RB.bS, RS.bnd, qE_ok, qE_no, qO_ok, qO_no, qI_ok, qI_no, qT_ok, qT_no, qS_nx, qS_rt, qS_bk, qS_ct, qS_no]
theorem qO_bO {r : RO} {f : List Od → Sl → RO} : qO (r.bO f) QO = qO r fun v l => qO (f v l) QO := by cases r <;> simp only [RE.bnd, RE.bO, RE.bI, RE.bS, RO.bnd, RO.bO, RO.bI, RO.bS, RI.bnd, RI.bS, RB.bS, RS.bnd, qE_ok, qE_no, qO_ok, qO_no, qI_ok, qI_no, qT_ok, qT_no, qS_nx, qS_rt, qS_bk, qS_ct, qS_no]
theorem qO_bI {r : RO} {f : List Od → Sl → RI} : qI (r.bI f) QI = qO r fun v l => qI (f v l) QI := by cases r <;> simp only [RE.bnd, RE.bO, RE.bI, RE.bS, RO.bnd, RO.bO, RO.bI, RO.bS, RI.bnd, RI.bS, RB.bS, RS.bnd, qE_ok, qE_no, qO_ok, qO_no, qI_ok, qI_no, qT_ok, qT_no, qS_nx, qS_rt, qS_bk, qS_ct, qS_no]
theorem qE_bI {r : RE} {f : TV → Sl → RI} : qI (r.bI f) QI = qE r fun v l => qI (f v l) QI := by cases r <;> simp only [RE.bnd, RE.bO, RE.bI, RE.bS, RO.bnd, RO.bO, RO.bI, RO.bS, RI.bnd, RI.bS, RB.bS, RS.bnd, qE_ok, qE_no, qO_ok, qO_no, qI_ok, qI_no, qT_ok, qT_no, qS_nx, qS_rt, qS_bk, qS_ct, qS_no]
theorem qI_bnd {r : RI} {f : List D → Sl → RE} : qE (r.bnd f) Q = qI r fun v l => qE (f v l) Q := by cases r <;> simp only [RE.bnd, RE.bO, RE.bI, RE.bS, RO.bnd, RO.bO, RO.bI, RO.bS, RI.bnd, RI.bS, RB.bS, RS.bnd, qE_ok, qE_no, qO_ok, qO_no, qI_ok, qI_no, qT_ok, qT_no, qS_nx, qS_rt, qS_bk, qS_ct, qS_no]
theorem qE_bS {r : RE} {f : TV → Sl → RS} : qS (r.bS f) A = qE r fun v l => qS (f v l) A := by cases r <;> simp only [RE.bnd, RE.bO, RE.bI, RE.bS, RO.bnd, RO.bO, RO.bI, RO.bS, RI.bnd, RI.bS, RB.bS, RS.bnd, qE_ok, qE_no, qO_ok, qO_no, qI_ok, qI_no, qT_ok, qT_no, qS_nx, qS_rt, qS_bk, qS_ct, qS_no]
theorem qO_bS {r : RO} {f : List Od → Sl → RS} : qS (r.bS f) A = qO r fun v l => qS (f v l) A := by cases r <;> simp only [RE.bnd, RE.bO, RE.bI, RE.bS, RO.bnd, RO.bO, RO.bI, RO.bS, RI.bnd, RI.bS, RB.bS, RS.bnd, qE_ok, qE_no, qO_ok, qO_no, qI_ok, qI_no, qT_ok, qT_no, qS_nx, qS_rt, qS_bk, qS_ct, qS_no]
theorem qI_bS {r : RI} {f : List D → Sl → RS} : qS (r.bS f) A = qI r fun v l => qS (f v l) A := by cases r <;> simp only [RE.bnd, RE.bO, RE.bI, RE.bS, RO.bnd, RO.bO, RO.bI, RO.bS, RI.bnd, RI.bS, RB.bS, RS.bnd, qE_ok, qE_no, qO_ok, qO_no, qI_ok, qI_no, qT_ok, qT_no, qS_nx, qS_rt, qS_bk, qS_ct, qS_no]
theorem qB_bS {r : RB} {f : Bool → Sl → RS} : qS (r.bS f) A = qT r fun v l => qS (f v l) A := by cases r <;> simp only [RE.bnd, RE.bO, RE.bI, RE.bS, RO.bnd, RO.bO, RO.bI, RO.bS, RI.bnd, RI.bS, RB.bS, RS.bnd, qE_ok, qE_no, qO_ok, qO_no, qI_ok, qI_no, qT_ok, qT_no, qS_nx, qS_rt, qS_bk, qS_ct, qS_no]
theorem qS_bnd {r : RS} {f : Sl → RS} : qS (r.bnd f) A = qS r { A with nx := fun l => qS (f l) A } := by cases r <;> simp only [RE.bnd, RE.bO, RE.bI, RE.bS, RO.bnd, RO.bO, RO.bI, RO.bS, RI.bnd, RI.bS, RB.bS, RS.bnd, qE_ok, qE_no, qO_ok, qO_no, qI_ok, qI_no, qT_ok, qT_no, qS_nx, qS_rt, qS_bk, qS_ct, qS_no]
theorem qT_tst {r : RE} : qT r.tst QB = qE r fun v l => ∃ b, v.d = .bl b ∧ QB b l := by
  unfold qT qE
  cases r with
  | no => rfl
  | ok v l =>
    obtain ⟨t, d⟩ := v
    cases d with
    | bl b =>
      show QB b l = _
      exact propext ⟨fun h => ⟨b, rfl, h⟩, fun ⟨c, e, h⟩ => by cases e; exact h⟩
    | _ => exact propext ⟨fun h => h.elim, fun ⟨c, e, _⟩ => by cases e⟩

theorem noS (h : qS .no A) : False := by simpa using h
/-! ### expressions -/
@[simp] theorem w_cst {d : D} : qE (evE cl rb (.cst d) l) Q = Q ⟨0, d⟩ l := by simp only [evE, qE_ok]
@[simp] theorem w_glb {x : Str} {d : D} : qE (evE cl rb (.glb x d) l) Q = Q ⟨0, d⟩ l := by simp only [evE, qE_ok]
@[simp] theorem w_op {o : Op} {es : Es} : qE (evE cl rb (.op o es) l) Q = qO (evO cl rb es l) fun os l' => qE (applyO o os l') Q := by simp only [evE, qO_bnd]
@[simp] theorem w_call {f : Nat} {x : Str} {es : Es} : qE (evE cl rb (.call f x es) l) Q = qO (evO cl rb es l) fun os l' => qE (callO cl rb f os l') Q := by simp only [evE, qO_bnd]
@[simp] theorem w_nil : qO (evO cl rb .nil l) QO = QO [] l := by simp only [evO, qO_ok]
@[simp] theorem w_cons {e : E} {r : Es} : qO (evO cl rb (.cons e r) l) QO = qO (opd e (evE cl rb e) l) fun o l1 => qO (evO cl rb r l1) fun os l2 => QO (o ++ os) l2 := by simp only [evO, qO_bO, qO_ok]
@[simp] theorem w_ovar {i : Nat} {r : Sl → RE} : qO (opd (.var i) r l) QO = ((gt l i).d.isUn = false ∧ QO [.r i] l) := by
  show qO (if (gt l i).d.isUn then .no else .ok [.r i] l) QO = _
  cases h : (gt l i).d.isUn with
  | false => simp
  | true => simp
theorem w_oe {e : E} {r : Sl → RE} (h : ∀ i, e ≠ .var i) : qO (opd e r l) QO = qE (r l) fun v l' => QO [.v v] l' := by
  unfold opd
  cases e <;> first | (simp only [qE_bO, qO_ok]; done) | exact absurd rfl (h _)
/-! ### statements -/
@[simp] theorem w_snil : qS (evSs cl rb np .nil l) A = A.nx l := by simp only [evSs, qS_nx]
theorem w_scons {s : S} {r : Ss} : qS (evSs cl rb np (.cons s r) l) A = qS (evS cl rb np s l) { A with nx := fun l => qS (evSs cl rb np r l) A } := by simp only [evSs, qS_bnd]
@[simp] theorem w_asg {i : Nat} {e : E} : qS (evS cl rb np (.asg i e) l) A = qE (evE cl rb e l) fun v l' => A.nx (st l' i v) := by simp only [evS, qE_bS, qS_nx]
@[simp] theorem w_exp {e : E} : qS (evS cl rb np (.exp e) l) A = qE (evE cl rb e l) fun _ l' => A.nx l' := by simp only [evS, qE_bS, qS_nx]
@[simp] theorem w_ite {c : E} {a b : Ss} : qS (evS cl rb np (.ite c a b) l) A = qE (evE cl rb c l) fun v l' => ∃ k, v.d = .bl k ∧ ((k = true → qS (evSs cl rb np a l') A) ∧ (k = false → qS (evSs cl rb np b l') A)) := by
  simp only [evS, qB_bS, qT_tst]
  congr 1
  funext v l'
  congr 1
  funext k
  cases k <;> simp
theorem w_retv {e : E} (h : ∀ i, e ≠ .var i) : qS (evS cl rb np (.ret e) l) A = qE (evE cl rb e l) fun v l' => A.rt v l' := by
  simp only [evS, qO_bS, w_oe h, qS_rt]
@[simp] theorem w_reti {i : Nat} : qS (evS cl rb np (.ret (.var i)) l) A = ((gt l i).d.isUn = false ∧ if np ≤ i then A.rt (gt l i) (st l i ⟨0, .un⟩) else A.rt ⟨0, (gt l i).d⟩ (low l i 0)) := by
  simp only [evS, qO_bS, w_ovar]
  congr 1
  split <;> simp only [qS_rt]
theorem w_forr {tg : List Nat} {it : It} {b : Ss} : qS (evS cl rb np (.forr tg it b) l) A = qI (evI cl rb it l) fun xs l1 => qS (forR (fun x l' => match bindT l' tg x with | some l2 => evSs cl rb np b l2 | none => .no) xs l1) A := by simp only [evS, qI_bS] <;> rfl
@[simp] theorem w_setI {i : Nat} {k e : E} : qS (evS cl rb np (.setI i k e) l) A = qE (evE cl rb e l) fun v l1 => (gt l1 i).d.isM = true ∧ qE (evE cl rb k l1) fun kv l2 => qS (setK l2 i kv.d v) A := by
  simp only [evS, qE_bS]
  congr 1
  funext v l1
  cases (gt l1 i).d.isM <;> simp [qE_bS]
/-! ### operations -/
def lowB (b : BOp) (l : Sl) (os : List Od) : Sl := match b with | .add => lowO 1 l os | .mul => lowO 1 l os | _ => l
@[simp] theorem a_bin {b : BOp} {x y : Od} : qE (applyO (.bin b) [x, y] l) Q = ∃ v, binD b (x.d l) (y.d l) = some v ∧ Q v (lowB b l [x, y]) := by
  show qE (DL.okO (binD b (x.d l) (y.d l)) _) Q = _
  cases binD b (x.d l) (y.d l) <;> cases b <;> simp [DL.okO, lowB]
@[simp] theorem a_cmp {c : COp} {x y : Od} : qE (applyO (.cmp c) [x, y] l) Q = ∃ v, cmpD c (x.d l) (y.d l) = some v ∧ Q ⟨0, .bl v⟩ l := by
  show qE (okB (cmpD c (x.d l) (y.d l)) _) Q = _
  cases cmpD c (x.d l) (y.d l) <;> simp [okB]
@[simp] theorem a_neg {x : Od} : qE (applyO .neg [x] l) Q = ∃ i, x.d l = .int i ∧ Q ⟨0, .int (-i)⟩ l := by
  show qE (match x.d l with | .int i => .ok ⟨0, .int (-i)⟩ l | _ => .no) Q = _
  cases x.d l <;> simp
def lowF (f : B1) (l : Sl) (os : List Od) : Sl := match f with | .tuple => lowO 1 l os | .list => lowO 1 l os | .sorted => lowO 1 l os | _ => l
@[simp] theorem a_b1 {f : B1} {x : Od} : qE (applyO (.b1 f) [x] l) Q = ∃ v, b1D f (x.d l) = some v ∧ Q v (lowF f l [x]) := by
  show qE (DL.okO (b1D f (x.d l)) _) Q = _
  cases b1D f (x.d l) <;> cases f <;> simp [DL.okO, lowF]
theorem a_subD {kvs : List (D × D)} {tk : Bool} {x y : Od} (h : x.d l = .dct tk kvs) : qE (applyO .sub [x, y] l) Q = ∃ d, subD (.dct tk kvs) (y.d l) = some d ∧ (d.isM = true → x.t l ≤ 1) ∧ Q ⟨0, d⟩ l := by
  show qE (match subD (x.d l) (y.d l) with
      | some d => if (x.d l).isD then (if d.isM && decide (1 < x.t l) then .no else .ok ⟨0, d⟩ l) else .ok ⟨0, d⟩ (lowSub l x d)
      | none => .no) Q = _
  rw [h]
  cases subD (.dct tk kvs) (y.d l) with
  | none => simp
  | some d =>
    simp only [D.isD, if_true]
    by_cases hm : d.isM = true <;> by_cases ht : 1 < x.t l <;> simp [hm, ht] <;> omega
theorem a_subL {xs : List D} {x y : Od} (h : seqOf (x.d l) = some xs) : qE (applyO .sub [x, y] l) Q = ∃ j k d, y.d l = .int j ∧ ixN xs.length j = some k ∧ xs[k]? = some d ∧ Q ⟨0, d⟩ (lowSub l x d) := by
  show qE (match subD (x.d l) (y.d l) with
      | some d => if (x.d l).isD then (if d.isM && decide (1 < x.t l) then .no else .ok ⟨0, d⟩ l) else .ok ⟨0, d⟩ (lowSub l x d)
      | none => .no) Q = _
  have key : ∀ dd, seqOf dd = some xs → dd.isD = false ∧ subD dd (y.d l) = (match y.d l with | .int j => (ixN xs.length j).bind fun k => xs[k]? | _ => none) := fun dd hd => by
    cases dd <;> simp [seqOf] at hd <;> subst hd <;> exact ⟨rfl, rfl⟩
  obtain ⟨h1, h2⟩ := key _ h
  rw [h1, h2]
  cases y.d l <;> simp
  rename_i j
  cases ixN xs.length j with
  | none => simp
  | some k =>
    cases hk : xs[k]? <;> simp [hk]
@[simp] theorem a_tup {os : List Od} : qE (applyO .tup os l) Q = (small os.length = true ∧ Q ⟨0, .tup (os.map (Od.d l))⟩ (lowO 0 l os)) := by
  show qE (if small os.length then .ok ⟨0, .tup (os.map (Od.d l))⟩ (lowO 0 l os) else .no) Q = _
  cases small os.length <;> simp
@[simp] theorem a_lst {os : List Od} : qE (applyO (.lst false) os l) Q = (small os.length = true ∧ Q ⟨1, .lst (os.map (Od.d l))⟩ (lowO 0 l os)) := by
  show qE (if small os.length then .ok ⟨1, .lst (os.map (Od.d l))⟩ (lowO 0 l os) else .no) Q = _
  cases small os.length <;> simp
@[simp] theorem a_popK {i : Nat} {key : D} : qE (evE cl rb (.popK i (.cst key)) l) Q = ∃ xs x, inL (gt l i) key = some xs ∧ xs.getLast? = some x ∧ Q ⟨0, x⟩ (st l i (outL (gt l i) key xs.dropLast)) := by
  simp only [evE]
  cases inL (gt l i) key with
  | none => simp
  | some xs => cases hx : xs.getLast? <;> simp [hx]
@[simp] theorem a_appK {i : Nat} {key : D} {e : E} : qE (evE cl rb (.appK i (.cst key) e) l) Q = ∃ xs x, inL (gt l i) key = some xs ∧ flatV l e = some x ∧ small (xs.length + 1) = true ∧ Q ⟨0, .non⟩ (st l i (outL (gt l i) key (xs ++ [x]))) := by
  simp only [evE]
  cases inL (gt l i) key with
  | none => simp
  | some xs =>
    cases flatV l e with
    | none => simp
    | some x => cases hs : small (xs.length + 1) <;> simp [hs]
@[simp] theorem a_neK {i : Nat} {key : D} : qE (evE cl rb (.neK i (.cst key)) l) Q = ∃ xs v, inL (gt l i) key = some xs ∧ cmpD .ne (.lst xs) (.lst []) = some v ∧ Q ⟨0, .bl v⟩ l := by
  simp only [evE]
  cases inL (gt l i) key with
  | none => simp
  | some xs =>
    cases hs : cmpD .ne (.lst xs) (.lst []) with
    | none => exact propext ⟨fun h => by simp only [okB, hs] at h; exact (noE h).elim, fun ⟨_, _, e1, e2, h⟩ => by cases e1; rw [hs] at e2; cases e2⟩
    | some b => exact propext ⟨fun h => ⟨xs, b, rfl, hs, by simpa only [okB, hs, qE_ok] using h⟩, fun ⟨_, _, e1, e2, h⟩ => by cases e1; rw [hs] at e2; cases e2; simpa only [okB, hs, qE_ok] using h⟩
end
/-! ### slots -/
@[simp] theorem gt_0 {x : TV} {r : Sl} : gt (x :: r) 0 = x := rfl
@[simp] theorem gt_S {x : TV} {r : Sl} {i : Nat} : gt (x :: r) (i + 1) = gt r i := rfl
@[simp] theorem st_0 {x y : TV} {r : Sl} : st (x :: r) 0 y = y :: r := rfl
@[simp] theorem st_S {x y : TV} {r : Sl} {i : Nat} : st (x :: r) (i + 1) y = x :: st r i y := rfl
@[simp] theorem low_0 {x : TV} {r : Sl} {n : Nat} (h : x.t ≤ n) : low (x :: r) 0 n = x :: r := if_pos h
@[simp] theorem low_S {x : TV} {r : Sl} {i n : Nat} : low (x :: r) (i + 1) n = x :: low r i n := by
  unfold low
  rw [gt_S]
  split
  · rfl
  · rfl
theorem low_id {l : Sl} {i n : Nat} (h : (gt l i).t ≤ n) : low l i n = l := if_pos h
/-- a call, read backwards -/
theorem qC_of {P : Nat → Option FD} {n f : Nat} {fd : FD} {args : List TV} {Q : TV → List TV → Prop} (hP : P f = some fd) (hl : args.length = fd.np) (hr : rebT fd.reb 0 args = true)
    (h : qS (evSs (evCall P n) (rbP P) fd.np fd.body (start fd.nn args)) { nx := fun l => Q ⟨0, .non⟩ (outs fd l 0 args), rt := fun v l => Q v (outs fd l 0 args) }) : qC (evCall P (n + 1) f args) Q := by
  have e : evCall P (n + 1) f args = evF (evCall P n) (rbP P) fd args := by
    show (match P f with | some fd => evF (evCall P n) (rbP P) fd args | none => RC.no) = _
    rw [hP]
  rw [e]
  unfold evF
  rw [if_pos ⟨hl, hr⟩]
  cases hb : evSs (evCall P n) (rbP P) fd.np fd.body (start fd.nn args) with
  | no => rw [hb] at h; exact (noS h).elim
  | nx l => rw [hb, qS_nx] at h; rw [qC_k]; exact h
  | rt v l => rw [hb, qS_rt] at h; rw [qC_k]; exact h
  | bk l => rw [hb, qS_bk] at h; exact h.elim
  | ct l => rw [hb, qS_ct] at h; exact h.elim
theorem qC_ok {r : RC} {Q : TV → List TV → Prop} (h : qC r Q) : ∃ v as, r = .ok v as ∧ Q v as := by
  cases r with
  | no => rw [qC_no] at h; exact h.elim
  | ok v as => rw [qC_k] at h; exact ⟨v, as, rfl, h⟩
/-- one statement, then the rest -/
theorem q_cons {cl : Nat → List TV → RC} {rb : Nat → Nat → Bool} {np : Nat} {s : S} {r : Ss} {l : Sl} {A : Aft} (h : ∀ N : Sl → Prop, (∀ l, qS (evSs cl rb np r l) A → N l) → qS (evS cl rb np s l) { A with nx := N }) : qS (evSs cl rb np (.cons s r) l) A := by
  rw [w_scons]
  exact h _ fun _ q => q
theorem qC_mono {r : RC} {Q Q' : TV → List TV → Prop} (h : qC r Q) (k : ∀ v as, Q v as → Q' v as) : qC r Q' := by
  cases r with
  | no => rw [qC_no] at h; exact h.elim
  | ok v as => rw [qC_k] at h ⊢; exact k v as h
theorem a_call {cl : Nat → List TV → RC} {rb : Nat → Nat → Bool} {f : Nat} {os : List Od} {l : Sl} {Q : TV → Sl → Prop} :
    qE (callO cl rb f os l) Q = (onceO (lowR (rb f) l 0 os) os = true ∧ rebOk (rb f) 0 os = true ∧ qC (cl f (takeO (lowR (rb f) l 0 os) os)) fun v as => Q v (backO (lowR (rb f) l 0 os) os as)) := by
  unfold callO
  cases h1 : onceO (lowR (rb f) l 0 os) os <;> cases h2 : rebOk (rb f) 0 os <;> simp
  cases cl f (takeO (lowR (rb f) l 0 os) os) <;> simp
/-! ### slices, sources, loops, comprehensions -/
section
variable {cl : Nat → List TV → RC} {rb : Nat → Nat → Bool} {np : Nat} {l : Sl} {Q : TV → Sl → Prop} {QO : List Od → Sl → Prop} {QI : List D → Sl → Prop} {QB : Bool → Sl → Prop} {QP : Option Int → Sl → Prop} {A : Aft}
@[simp] theorem w_part0 {r : Sl → RE} : qP (partR false r l) QP = QP none l := by
  show qP (.ok none l) QP = _
  rw [qP_ok]
@[simp] theorem w_part1 {r : Sl → RE} : qP (partR true r l) QP = qE (r l) fun v l' => ∃ i, v.d = .int i ∧ QP (some i) l' := by
  show qP (match r l with | .ok ⟨_, .int i⟩ l' => .ok (some i) l' | _ => .no) QP = _
  unfold qP qE
  cases r l with
  | no => rfl
  | ok v l' =>
    obtain ⟨t, d⟩ := v
    cases d with
    | int i => exact propext ⟨fun h => ⟨i, rfl, h⟩, fun ⟨_, e, h⟩ => by cases e; exact h⟩
    | _ => exact propext ⟨fun h => h.elim, fun ⟨_, e, _⟩ => by cases e⟩
@[simp] theorem w_slc {hl hh : Bool} {a lo hi : E} : qE (evE cl rb (.slc hl hh a lo hi) l) Q = qO (opd a (evE cl rb a) l) fun os l1 => qP (partR hl (evE cl rb lo) l1) fun i l2 => qP (partR hh (evE cl rb hi) l2) fun j l3 => qE (applySl i j os l3) Q := by
  simp only [evE, qO_bnd]
  congr 1
  funext os l1
  cases partR hl (evE cl rb lo) l1 with
  | no => simp
  | ok i l2 =>
    simp only [qP_ok]
    cases partR hh (evE cl rb hi) l2 <;> simp
@[simp] theorem a_sl {i j : Option Int} {x : Od} : qE (applySl i j [x] l) Q = ∃ v, slcD (x.d l) i j = some v ∧ Q v (lowO 1 l [x]) := by
  show qE (DL.okO (slcD (x.d l) i j) (lowO 1 l [x])) Q = _
  cases slcD (x.d l) i j <;> simp [DL.okO]
@[simp] theorem w_seq {e : E} : qI (evI cl rb (.seq e) l) QI = qO (opd e (evE cl rb e) l) fun os l' => ∃ o xs, os = [o] ∧ seqOf (o.d l') = some xs ∧ QI xs (lowO 0 l' os) := by
  simp only [evI, qO_bI]
  congr 1
  funext os l'
  match os with
  | [] => simp
  | [o] => cases h : seqOf (o.d l') <;> simp [h]
  | _ :: _ :: _ => simp
@[simp] theorem w_enum {e : E} : qI (evI cl rb (.enum e) l) QI = qO (opd e (evE cl rb e) l) fun os l' => ∃ o xs, os = [o] ∧ seqOf (o.d l') = some xs ∧ QI (enumL 0 xs) (lowO 0 l' os) := by
  simp only [evI, qO_bI]
  congr 1
  funext os l'
  match os with
  | [] => simp
  | [o] => cases h : seqOf (o.d l') <;> simp [h]
  | _ :: _ :: _ => simp
@[simp] theorem w_not {a : E} : qE (evE cl rb (.not a) l) Q = qE (evE cl rb a l) fun v l' => ∃ b, v.d = .bl b ∧ Q ⟨0, .bl (!b)⟩ l' := by
  simp only [evE, qE_bnd]
  congr 1
  funext v l'
  cases v.d <;> simp
@[simp] theorem w_iteE {c a b : E} : qE (evE cl rb (.ite c a b) l) Q = qE (evE cl rb c l) fun v l' => ∃ k, v.d = .bl k ∧ ((k = true → qE (evE cl rb a l') Q) ∧ (k = false → qE (evE cl rb b l') Q)) := by
  simp only [evE, qE_bnd]
  congr 1
  funext v l'
  cases v.d with
  | bl b => cases b <;> simp
  | _ => simp
@[simp] theorem w_and {es : Es} : qE (evE cl rb (.and es) l) Q = qE (evAnd cl rb es l) Q := by simp only [evE]
@[simp] theorem w_or {es : Es} : qE (evE cl rb (.or es) l) Q = qE (evOr cl rb es l) Q := by simp only [evE]
@[simp] theorem w_and1 {e : E} : qE (evAnd cl rb (.cons e .nil) l) Q = qE (evE cl rb e l) fun v l' => ∃ b, v.d = .bl b ∧ Q ⟨0, .bl b⟩ l' := by
  simp only [evAnd, qE_bnd]
  congr 1
  funext v l'
  cases v.d <;> simp
@[simp] theorem w_or1 {e : E} : qE (evOr cl rb (.cons e .nil) l) Q = qE (evE cl rb e l) fun v l' => ∃ b, v.d = .bl b ∧ Q ⟨0, .bl b⟩ l' := by
  simp only [evOr, qE_bnd]
  congr 1
  funext v l'
  cases v.d <;> simp
@[simp] theorem w_and2 {e f : E} {r : Es} : qE (evAnd cl rb (.cons e (.cons f r)) l) Q = qE (evE cl rb e l) fun v l' => ∃ k, v.d = .bl k ∧ ((k = true → qE (evAnd cl rb (.cons f r) l') Q) ∧ (k = false → Q ⟨0, .bl false⟩ l')) := by
  simp only [evAnd, qE_bnd]
  congr 1
  funext v l'
  cases v.d with
  | bl b => cases b <;> simp
  | _ => simp
@[simp] theorem w_or2 {e f : E} {r : Es} : qE (evOr cl rb (.cons e (.cons f r)) l) Q = qE (evE cl rb e l) fun v l' => ∃ k, v.d = .bl k ∧ ((k = false → qE (evOr cl rb (.cons f r) l') Q) ∧ (k = true → Q ⟨0, .bl true⟩ l')) := by
  simp only [evOr, qE_bnd]
  congr 1
  funext v l'
  cases v.d with
  | bl b => cases b <;> simp
  | _ => simp
/-- a loop, by an invariant on what is left -/
theorem q_for {F : D → Sl → RS} (I : List D → Sl → Prop) : ∀ (xs : List D) (l : Sl), I xs l → (∀ x r l, I (x :: r) l → qS (F x l) { nx := I r, ct := I r, bk := A.nx, rt := A.rt }) → (∀ l, I [] l → A.nx l) → qS (forR F xs l) A
  | [], l, h, _, e => by
    show qS (.nx l) A
    rw [qS_nx]
    exact e l h
  | x :: r, l, h, s, e => by
    have q := s x r l h
    show qS (match F x l with | .nx l' => forR F r l' | .ct l' => forR F r l' | .bk l' => .nx l' | .rt v l' => .rt v l' | .no => .no) A
    cases hf : F x l with
    | nx l' => rw [hf, qS_nx] at q; exact q_for I r l' q s e
    | ct l' => rw [hf, qS_ct] at q; exact q_for I r l' q s e
    | bk l' => rw [hf, qS_bk] at q; simp only; rw [qS_nx]; exact q
    | rt v l' => rw [hf, qS_rt] at q; simp only; rw [qS_rt]; exact q
    | no => rw [hf] at q; exact (noS q).elim
/-- a comprehension, by an invariant -/
theorem q_lc {f : D → Sl → RE} {dp : Bool} {tst : D → Sl → RB} (I : List D → List D → Sl → Prop) : ∀ (xs acc : List D) (l : Sl), I xs acc l →
    (∀ x r acc l, I (x :: r) acc l → qT (tst x l) fun b l1 => (b = false → I r acc l1) ∧ (b = true → qE (f x l1) fun v l2 => small (acc.length + 1) = true ∧ (!dp || !v.d.isM || v.t == 1) = true ∧ I r (acc ++ [v.d]) l2)) →
    (∀ acc l, I [] acc l → Q ⟨if dp then 2 else 1, .lst acc⟩ l) → qE (lcR f dp tst xs acc l) Q
  | [], acc, l, h, _, e => by
    show qE (.ok ⟨if dp then 2 else 1, .lst acc⟩ l) Q
    rw [qE_ok]
    exact e acc l h
  | x :: r, acc, l, h, s, e => by
    have q := s x r acc l h
    simp only [lcR]
    cases ht : tst x l with
    | no => rw [ht] at q; exact (noT q).elim
    | ok b l1 =>
      rw [ht, qT_ok] at q
      cases b with
      | false => exact q_lc I r acc l1 (q.1 rfl) s e
      | true =>
        have q := q.2 rfl
        simp only
        cases hf : f x l1 with
        | no => rw [hf] at q; exact (noE q).elim
        | ok v l2 =>
          rw [hf, qE_ok] at q
          obtain ⟨q1, q2, q3⟩ := q
          simp only [q1, q2, Bool.and_self, if_true]
          exact q_lc I r _ l2 q3 s e
theorem w_lc {dp : Bool} {tg : List Nat} {it : It} {cs : Es} {e : E} : qE (evE cl rb (.lc dp tg it cs e) l) Q = qI (evI cl rb it l) fun xs l1 =>
    qE (lcR (fun x l' => evE cl rb e l') dp (fun x l' => match bindT (clr l' tg) tg x with | some l2 => evC cl rb cs l2 | none => .no) xs [] l1) fun v l2 => Q v (rest l1 l2 tg) := by
  simp only [evE, qI_bnd, qE_bnd, qE_ok] <;> rfl
end
end DL
end

section
set_option Elab.async false
set_option linter.all false
set_option maxRecDepth 100000
/-! the defs of law_k01_machines_judged law_k02_whole_led law_k57_tables_judged, in the small language -/
namespace DL
def b351 : Ss :=
  (.cons (.ret (.and (.cons (.op (.isi .int) (.cons (.var 0) .nil)) (.cons (.not (.op (.isi .bool) (.cons (.var 0) .nil))) (.cons (.chain .le .le (.var 1) (.var 0) (.var 2)) .nil)))))
    .nil)
def f351 : FD := ⟨3, 3, b351⟩
def b352 : Ss :=
  (.cons (.ite (.or (.cons (.not (.op (.isi .tuple) (.cons (.var 0) .nil))) (.cons (.not (.chain .le .le (.cst (.int 1)) (.op (.b1 .len) (.cons (.var 0) .nil)) (.glb "MAX_ROOMS" (.int 7)))) .nil))) (.cons (.ret (.cst (.bl false)))
    .nil) .nil)
    (.cons (.forr [1] (.seq (.var 0)) (.cons (.ite (.or (.cons (.not (.op (.isi .tuple) (.cons (.var 1) .nil))) (.cons (.not (.chain .le .le (.cst (.int 1)) (.op (.b1 .len) (.cons (.var 1) .nil)) (.glb "MAX_LETTERS" (.int 4)))) (.cons (.op (.cmp .ne) (.cons (.op (.b1 .len) (.cons (.var 1) .nil)) (.cons (.op (.b1 .len) (.cons (.op .sub (.cons (.var 0) (.cons (.cst (.int 0)) .nil))) .nil)) .nil))) .nil)))) (.cons (.ret (.cst (.bl false)))
    .nil) .nil)
    .nil))
    (.cons (.ret (.cst (.bl true)))
    .nil)))
def f352 : FD := ⟨1, 2, b352⟩
def b353 : Ss :=
  (.cons (.ite (.not (.call 352 "is_square" (.cons (.var 0) .nil))) (.cons (.ret (.cst (.str "form")))
    .nil) .nil)
    (.cons (.forr [1, 2] (.enum (.var 0)) (.cons (.forr [3, 4] (.enum (.var 2)) (.cons (.ite (.not (.call 351 "is_whole" (.cons (.var 4) (.cons (.cst (.int 0)) (.cons (.op (.bin .sub) (.cons (.op (.b1 .len) (.cons (.var 0) .nil)) (.cons (.cst (.int 1)) .nil))) .nil))))) (.cons (.ret (.op .tup (.cons (.cst (.str "room")) (.cons (.var 1) (.cons (.var 3) .nil)))))
    .nil) .nil)
    .nil))
    .nil))
    (.cons (.ret (.cst .non))
    .nil)))
def f353 : FD := ⟨1, 5, b353⟩
def b354 : Ss :=
  (.cons (.ite (.or (.cons (.not (.op (.isi .tuple) (.cons (.var 1) .nil))) (.cons (.op (.cmp .gt) (.cons (.op (.b1 .len) (.cons (.var 1) .nil)) (.cons (.glb "MAX_WORD" (.int 200)) .nil))) .nil))) (.cons (.ret (.cst (.str "form")))
    .nil) .nil)
    (.cons (.forr [2, 3] (.enum (.var 1)) (.cons (.ite (.not (.call 351 "is_whole" (.cons (.var 3) (.cons (.cst (.int 0)) (.cons (.op (.bin .sub) (.cons (.op (.b1 .len) (.cons (.op .sub (.cons (.var 0) (.cons (.cst (.int 0)) .nil))) .nil)) (.cons (.cst (.int 1)) .nil))) .nil))))) (.cons (.ret (.op .tup (.cons (.cst (.str "letter")) (.cons (.var 2) .nil))))
    .nil) .nil)
    .nil))
    (.cons (.ret (.cst .non))
    .nil)))
def f354 : FD := ⟨2, 4, b354⟩
def b355 : Ss :=
  (.cons (.asg 1 (.op (.dct true false) (.cons (.cst (.str "great")) (.cons (.op (.lst false) .nil) (.cons (.cst (.str "mixed")) (.cons (.op (.bin .add) (.cons (.cst (.int 1752301)) (.cons (.op (.b1 .len) (.cons (.slc false true (.var 0) (.cst .non) (.cst (.int 63))) .nil)) .nil))) (.cons (.cst (.str "turns")) (.cons (.cst (.int 0)) .nil))))))))
    (.cons (.forr [2] (.seq (.slc false true (.var 0) (.cst .non) (.cst (.int 63)))) (.cons (.asg 3 (.op (.bin .add) (.cons (.op (.bin .mul) (.cons (.cst (.int 2)) (.cons (.op (.b1 .abs) (.cons (.var 2) .nil)) .nil))) (.cons (.op (.b1 .int) (.cons (.op (.cmp .lt) (.cons (.var 2) (.cons (.cst (.int 0)) .nil))) .nil)) .nil))))
    (.cons (.ite (.op (.cmp .ge) (.cons (.var 3) (.cons (.op (.bin .pow) (.cons (.cst (.int 10)) (.cons (.cst (.int 16)) .nil))) .nil))) (.cons (.exp (.appK 1 (.cst (.str "great")) (.var 3)))
    .nil) .nil)
    (.cons (.setI 1 (.cst (.str "mixed")) (.op (.bin .mod) (.cons (.op (.b1 .int) (.cons (.op (.bin .add) (.cons (.op (.bin .add) (.cons (.op (.bin .mul) (.cons (.op .sub (.cons (.var 1) (.cons (.cst (.str "mixed")) .nil))) (.cons (.cst (.int 69621)) .nil))) (.cons (.var 3) .nil))) (.cons (.cst (.int 29)) .nil))) .nil)) (.cons (.cst (.int 4294967291)) .nil))))
    .nil))))
    (.cons (.ret (.var 1))
    .nil)))
def f355 : FD := ⟨1, 4, b355⟩
def b356 : Ss :=
  (.cons (.ite (.op (.cmp .lt) (.cons (.var 1) (.cons (.cst (.int 2)) .nil))) (.cons (.ret (.cst (.int 0)))
    .nil) .nil)
    (.cons (.ite (.neK 0 (.cst (.str "great"))) (.cons (.asg 3 (.popK 0 (.cst (.str "great"))))
    (.cons (.ite (.op (.cmp .ge) (.cons (.var 3) (.cons (.var 1) .nil))) (.cons (.exp (.appK 0 (.cst (.str "great")) (.op (.bin .fdiv) (.cons (.var 3) (.cons (.var 1) .nil)))))
    .nil) .nil)
    (.cons (.ret (.op (.bin .mod) (.cons (.op (.b1 .int) (.cons (.var 3) .nil)) (.cons (.var 1) .nil))))
    .nil))) .nil)
    (.cons (.setI 0 (.cst (.str "turns")) (.op (.bin .add) (.cons (.op .sub (.cons (.var 0) (.cons (.cst (.str "turns")) .nil))) (.cons (.cst (.int 1)) .nil))))
    (.cons (.asg 2 (.op (.bin .mod) (.cons (.op (.b1 .int) (.cons (.op (.bin .add) (.cons (.op .sub (.cons (.var 0) (.cons (.cst (.str "mixed")) .nil))) (.cons (.op (.bin .mul) (.cons (.cst (.int 2654435761)) (.cons (.op .sub (.cons (.var 0) (.cons (.cst (.str "turns")) .nil))) .nil))) .nil))) .nil)) (.cons (.cst (.int 4294967279)) .nil))))
    (.cons (.asg 2 (.op (.bin .mod) (.cons (.op (.b1 .int) (.cons (.op (.bin .add) (.cons (.op (.bin .add) (.cons (.op (.bin .mul) (.cons (.var 2) (.cons (.var 2) .nil))) (.cons (.op (.bin .mul) (.cons (.cst (.int 40692)) (.cons (.op .sub (.cons (.var 0) (.cons (.cst (.str "turns")) .nil))) .nil))) .nil))) (.cons (.cst (.int 23)) .nil))) .nil)) (.cons (.cst (.int 4294967231)) .nil))))
    (.cons (.asg 2 (.op (.bin .mod) (.cons (.op (.b1 .int) (.cons (.op (.bin .add) (.cons (.op (.bin .mul) (.cons (.var 2) (.cons (.var 2) .nil))) (.cons (.op (.bin .mul) (.cons (.op .sub (.cons (.var 0) (.cons (.cst (.str "mixed")) .nil))) (.cons (.cst (.int 11)) .nil))) .nil))) .nil)) (.cons (.cst (.int 4294967197)) .nil))))
    (.cons (.ret (.op (.bin .mod) (.cons (.op (.b1 .int) (.cons (.op (.bin .fdiv) (.cons (.var 2) (.cons (.cst (.int 64)) .nil))) .nil)) (.cons (.var 1) .nil))))
    .nil)))))))
def f356 : FD := ⟨2, 4, b356⟩
def b357 : Ss :=
  (.cons (.ret (.op .sub (.cons (.var 1) (.cons (.call 356 "_law_draw" (.cons (.var 0) (.cons (.op (.b1 .len) (.cons (.var 1) .nil)) .nil))) .nil))))
    .nil)
def f357 : FD := ⟨2, 2, b357⟩
def b358 : Ss :=
  (.cons (.asg 2 (.call 356 "_law_draw" (.cons (.var 0) (.cons (.ite (.op (.cmp .gt) (.cons (.var 1) (.cons (.cst (.int 0)) .nil))) (.cst (.int 9)) (.cst (.int 6))) .nil))))
    (.cons (.ite (.op (.cmp .lt) (.cons (.var 2) (.cons (.cst (.int 6)) .nil))) (.cons (.ret (.op .sub (.cons (.op (.lst false) (.cons (.cst .non) (.cons (.cst (.bl true)) (.cons (.call 357 "_law_pick" (.cons (.var 0) (.cons (.op (.lst false) (.cons (.cst (.int 0)) (.cons (.cst (.int 1)) (.cons (.cst (.int 2)) (.cons (.cst (.int 3)) (.cons (.op .neg (.cons (.cst (.int 1)) .nil)) (.cons (.op (.bin .pow) (.cons (.cst (.int 10)) (.cons (.cst (.int 18)) .nil))) .nil))))))) .nil))) (.cons (.cst (.str "")) (.cons (.cst (.str "on")) (.cons (.cst (.str "in")) .nil))))))) (.cons (.var 2) .nil))))
    .nil) .nil)
    (.cons (.asg 3 (.lc false [4] (.rng (.cons (.call 356 "_law_draw" (.cons (.var 0) (.cons (.cst (.int 4)) .nil))) .nil)) .nil (.call 358 "_law_any" (.cons (.var 0) (.cons (.op (.bin .sub) (.cons (.var 1) (.cons (.cst (.int 1)) .nil))) .nil)))))
    (.cons (.ret (.ite (.op (.cmp .lt) (.cons (.var 2) (.cons (.cst (.int 8)) .nil))) (.op (.b1 .tuple) (.cons (.var 3) .nil)) (.var 3)))
    .nil))))
def f358 : FD := ⟨2, 5, b358⟩
def b359 : Ss :=
  (.cons (.ret (.and (.cons (.op (.isi .int) (.cons (.var 0) .nil)) (.cons (.not (.op (.isi .bool) (.cons (.var 0) .nil))) (.cons (.chain .le .le (.var 1) (.var 0) (.var 2)) .nil)))))
    .nil)
def f359 : FD := ⟨3, 3, b359⟩
def b360 : Ss :=
  (.cons (.asg 1 (.op (.lst false) (.cons (.cst .non) (.cons (.cst (.bl true)) (.cons (.cst (.bl false)) (.cons (.cst (.int 0)) (.cons (.cst (.int 1)) (.cons (.op .neg (.cons (.cst (.int 1)) .nil)) (.cons (.cst (.int 5)) (.cons (.op (.bin .pow) (.cons (.cst (.int 10)) (.cons (.cst (.int 30)) .nil))) (.cons (.cst (.str "")) (.cons (.cst (.str "0")) (.cons (.op .tup .nil) (.cons (.op (.lst false) .nil) (.cons (.op (.dct false false) .nil) (.cons (.op .tup (.cons (.cst (.int 0)) .nil)) (.cons (.op .tup (.cons (.cst (.int 0)) (.cons (.cst (.int 1)) .nil))) (.cons (.op (.lst false) (.cons (.cst (.int 0)) .nil)) (.cons (.op .tup (.cons (.op .tup (.cons (.cst (.int 0)) .nil)) .nil)) (.cons (.op .tup (.cons (.op .tup .nil) .nil)) .nil))))))))))))))))))))
    (.cons (.ret (.call 357 "_law_pick" (.cons (.var 0) (.cons (.var 1) .nil))))
    .nil))
def f360 : FD := ⟨1, 2, b360⟩
def b361 : Ss :=
  (.cons (.ite (.op (.cmp .eq) (.cons (.var 1) (.cons (.op .tup .nil) .nil))) (.cons (.ret (.call 357 "_law_pick" (.cons (.var 0) (.cons (.op (.lst false) (.cons (.op .tup (.cons (.cst (.int 0)) .nil)) (.cons (.op (.lst false) .nil) (.cons (.cst .non) (.cons (.op .tup (.cons (.cst (.bl true)) .nil)) (.cons (.op .tup (.cons (.var 2) .nil)) .nil)))))) .nil))))
    .nil) .nil)
    (.cons (.asgP [3, 4] (.cons (.call 356 "_law_draw" (.cons (.var 0) (.cons (.op (.b1 .len) (.cons (.var 1) .nil)) .nil))) (.cons (.call 356 "_law_draw" (.cons (.var 0) (.cons (.cst (.int 5)) .nil))) .nil)))
    (.cons (.ite (.op (.cmp .lt) (.cons (.var 4) (.cons (.cst (.int 3)) .nil))) (.cons (.asg 5 (.call 357 "_law_pick" (.cons (.var 0) (.cons (.op (.lst false) (.cons (.cst (.int 0)) (.cons (.cst (.int 1)) (.cons (.var 2) (.cons (.op (.bin .sub) (.cons (.var 2) (.cons (.cst (.int 1)) .nil))) (.cons (.op .neg (.cons (.cst (.int 1)) .nil)) (.cons (.cst (.bl true)) (.cons (.cst .non) (.cons (.cst (.str "0")) (.cons (.op .sub (.cons (.var 1) (.cons (.cst (.int 0)) .nil))) (.cons (.op .sub (.cons (.var 1) (.cons (.op .neg (.cons (.cst (.int 1)) .nil)) .nil))) .nil))))))))))) .nil))))
    (.cons (.ret (.op (.bin .add) (.cons (.op (.bin .add) (.cons (.slc false true (.var 1) (.cst .non) (.var 3)) (.cons (.op .tup (.cons (.var 5) .nil)) .nil))) (.cons (.slc true false (.var 1) (.op (.bin .add) (.cons (.var 3) (.cons (.cst (.int 1)) .nil))) (.cst .non)) .nil))))
    .nil)) .nil)
    (.cons (.ret (.call 357 "_law_pick" (.cons (.var 0) (.cons (.op (.lst false) (.cons (.op .rev (.cons (.var 1) .nil)) (.cons (.op (.bin .add) (.cons (.slc false true (.var 1) (.cst .non) (.var 3)) (.cons (.slc true false (.var 1) (.op (.bin .add) (.cons (.var 3) (.cons (.cst (.int 1)) .nil))) (.cst .non)) .nil))) (.cons (.op (.bin .add) (.cons (.var 1) (.cons (.op .tup (.cons (.cst (.int 0)) .nil)) .nil))) (.cons (.op (.b1 .list) (.cons (.var 1) .nil)) (.cons (.op (.bin .add) (.cons (.slc false true (.var 1) (.cst .non) (.op (.bin .add) (.cons (.var 3) (.cons (.cst (.int 1)) .nil)))) (.cons (.slc true false (.var 1) (.var 3) (.cst .non)) .nil))) (.cons (.cst .non) .nil))))))) .nil))))
    .nil))))
def f361 : FD := ⟨3, 6, b361⟩
def b362 : Ss :=
  (.cons (.asgT [5, 6] (.op .tup (.cons (.op (.bin .add) (.cons (.cst (.int 1)) (.cons (.call 356 "_law_draw" (.cons (.var 0) (.cons (.var 1) .nil))) .nil))) (.cons (.op (.bin .add) (.cons (.cst (.int 1)) (.cons (.call 356 "_law_draw" (.cons (.var 0) (.cons (.var 2) .nil))) .nil))) .nil))))
    (.cons (.asg 3 (.op (.lst false) .nil))
    (.cons (.forr [4] (.rng (.cons (.var 6) .nil)) (.cons (.asgP [10, 11] (.cons (.rg false (.cons (.var 5) .nil)) (.cons (.op (.lst false) .nil) .nil)))
    (.cons (.forr [7] (.rng (.cons (.var 5) .nil)) (.cons (.exp (.app 11 (.popi 10 (.call 356 "_law_draw" (.cons (.var 0) (.cons (.op (.b1 .len) (.cons (.var 10) .nil)) .nil))))))
    .nil))
    (.cons (.asg 8 (.call 356 "_law_draw" (.cons (.var 0) (.cons (.cst (.int 5)) .nil))))
    (.cons (.ite (.op (.cmp .inn) (.cons (.var 8) (.cons (.op .tup (.cons (.cst (.int 1)) (.cons (.cst (.int 2)) .nil))) .nil))) (.cons (.setI 11 (.call 356 "_law_draw" (.cons (.var 0) (.cons (.var 5) .nil))) (.call 356 "_law_draw" (.cons (.var 0) (.cons (.var 5) .nil))))
    .nil) .nil)
    (.cons (.ite (.op (.cmp .eq) (.cons (.var 8) (.cons (.cst (.int 3)) .nil))) (.cons (.asg 11 (.lc false [7] (.rng (.cons (.var 5) .nil)) .nil (.op (.bin .mod) (.cons (.op (.b1 .int) (.cons (.op (.bin .add) (.cons (.var 7) (.cons (.cst (.int 1)) .nil))) .nil)) (.cons (.var 5) .nil)))))
    .nil) .nil)
    (.cons (.ite (.op (.cmp .eq) (.cons (.var 8) (.cons (.cst (.int 4)) .nil))) (.cons (.asg 11 (.lc false [7] (.rng (.cons (.var 5) .nil)) .nil (.call 356 "_law_draw" (.cons (.var 0) (.cons (.var 5) .nil)))))
    .nil) .nil)
    (.cons (.exp (.app 3 (.var 11)))
    .nil))))))))
    (.cons (.ite (.op (.cmp .eq) (.cons (.call 356 "_law_draw" (.cons (.var 0) (.cons (.cst (.int 5)) .nil))) (.cons (.cst (.int 0)) .nil))) (.cons (.asg 9 (.op (.bin .add) (.cons (.call 356 "_law_draw" (.cons (.var 0) (.cons (.var 5) .nil))) (.cons (.cst (.int 1)) .nil))))
    (.cons (.asg 3 (.lc false [11] (.seq (.var 3)) .nil (.lc false [7] (.rng (.cons (.var 5) .nil)) .nil (.ite (.op (.cmp .lt) (.cons (.var 7) (.cons (.var 9) .nil))) (.op (.bin .mod) (.cons (.op (.b1 .int) (.cons (.op .sub (.cons (.var 11) (.cons (.var 7) .nil))) .nil)) (.cons (.var 9) .nil))) (.op .sub (.cons (.var 11) (.cons (.var 7) .nil)))))))
    .nil)) .nil)
    (.cons (.ret (.op (.b1 .tuple) (.cons (.lc false [7] (.rng (.cons (.var 5) .nil)) .nil (.op (.b1 .tuple) (.cons (.lc false [11] (.seq (.var 3)) .nil (.op .sub (.cons (.var 11) (.cons (.var 7) .nil)))) .nil))) .nil)))
    .nil)))))
def f362 : FD := ⟨3, 12, b362⟩
def b363 : Ss :=
  (.cons (.ret (.op (.b1 .tuple) (.cons (.lc false [3] (.rng (.cons (.call 356 "_law_draw" (.cons (.var 0) (.cons (.op (.bin .add) (.cons (.var 2) (.cons (.cst (.int 1)) .nil))) .nil))) .nil)) .nil (.call 356 "_law_draw" (.cons (.var 0) (.cons (.op (.b1 .len) (.cons (.op .sub (.cons (.var 1) (.cons (.cst (.int 0)) .nil))) .nil)) .nil)))) .nil)))
    .nil)
def f363 : FD := ⟨3, 4, b363⟩
def b364 : Ss :=
  (.cons (.ite (.or (.cons (.not (.op (.isi .tuple) (.cons (.var 0) .nil))) (.cons (.not (.chain .le .le (.cst (.int 1)) (.op (.b1 .len) (.cons (.var 0) .nil)) (.cst (.int 7)))) .nil))) (.cons (.ret (.cst (.str "form")))
    .nil) .nil)
    (.cons (.ite (.not (.op (.b1 .all) (.cons (.lc false [2] (.seq (.var 0)) .nil (.and (.cons (.op (.isi .tuple) (.cons (.var 2) .nil)) (.cons (.chain .le .le (.cst (.int 1)) (.op (.b1 .len) (.cons (.var 2) .nil)) (.cst (.int 4))) .nil)))) .nil))) (.cons (.ret (.cst (.str "form")))
    .nil) .nil)
    (.cons (.ite (.not (.op (.b1 .all) (.cons (.lc false [2] (.seq (.var 0)) .nil (.op (.cmp .eq) (.cons (.op (.b1 .len) (.cons (.var 2) .nil)) (.cons (.op (.b1 .len) (.cons (.op .sub (.cons (.var 0) (.cons (.cst (.int 0)) .nil))) .nil)) .nil)))) .nil))) (.cons (.ret (.cst (.str "form")))
    .nil) .nil)
    (.cons (.forr [1, 2] (.enum (.var 0)) (.cons (.forr [3, 4] (.enum (.var 2)) (.cons (.ite (.not (.call 359 "_law_is_whole" (.cons (.var 4) (.cons (.cst (.int 0)) (.cons (.op (.bin .sub) (.cons (.op (.b1 .len) (.cons (.var 0) .nil)) (.cons (.cst (.int 1)) .nil))) .nil))))) (.cons (.ret (.op .tup (.cons (.cst (.str "room")) (.cons (.var 1) (.cons (.var 3) .nil)))))
    .nil) .nil)
    .nil))
    .nil))
    (.cons (.ret (.cst .non))
    .nil)))))
def f364 : FD := ⟨1, 5, b364⟩
def b365 : Ss :=
  (.cons (.ite (.or (.cons (.not (.op (.isi .tuple) (.cons (.var 1) .nil))) (.cons (.op (.cmp .gt) (.cons (.op (.b1 .len) (.cons (.var 1) .nil)) (.cons (.cst (.int 200)) .nil))) .nil))) (.cons (.ret (.cst (.str "form")))
    .nil) .nil)
    (.cons (.forr [2, 3] (.enum (.var 1)) (.cons (.ite (.not (.call 359 "_law_is_whole" (.cons (.var 3) (.cons (.cst (.int 0)) (.cons (.op (.bin .sub) (.cons (.op (.b1 .len) (.cons (.op .sub (.cons (.var 0) (.cons (.cst (.int 0)) .nil))) .nil)) (.cons (.cst (.int 1)) .nil))) .nil))))) (.cons (.ret (.op .tup (.cons (.cst (.str "letter")) (.cons (.var 2) .nil))))
    .nil) .nil)
    .nil))
    (.cons (.ret (.cst .non))
    .nil)))
def f365 : FD := ⟨2, 4, b365⟩
def b366 : Ss :=
  (.cons (.asg 2 (.op (.b1 .len) (.cons (.var 1) .nil)))
    (.cons (.asg 3 (.call 356 "_law_draw" (.cons (.var 0) (.cons (.var 2) .nil))))
    (.cons (.asg 4 (.op .sub (.cons (.var 1) (.cons (.var 3) .nil))))
    (.cons (.asg 5 (.call 356 "_law_draw" (.cons (.var 0) (.cons (.op (.b1 .len) (.cons (.var 4) .nil)) .nil))))
    (.cons (.asg 6 (.call 357 "_law_pick" (.cons (.var 0) (.cons (.op (.lst false) (.cons (.var 2) (.cons (.op .neg (.cons (.cst (.int 1)) .nil)) (.cons (.op (.bin .sub) (.cons (.var 2) (.cons (.cst (.int 1)) .nil))) (.cons (.cst (.int 0)) (.cons (.cst (.bl true)) (.cons (.cst .non) (.cons (.cst (.str "0")) (.cons (.op (.bin .pow) (.cons (.cst (.int 10)) (.cons (.cst (.int 30)) .nil))) (.cons (.op .tup (.cons (.cst (.int 0)) .nil)) .nil)))))))))) .nil))))
    (.cons (.asg 7 (.op (.bin .mul) (.cons (.op (.lst false) (.cons (.op (.bin .add) (.cons (.op (.bin .add) (.cons (.slc false true (.var 1) (.cst .non) (.var 3)) (.cons (.op .tup (.cons (.op (.bin .add) (.cons (.op (.bin .add) (.cons (.slc false true (.var 4) (.cst .non) (.var 5)) (.cons (.op .tup (.cons (.var 6) .nil)) .nil))) (.cons (.slc true false (.var 4) (.op (.bin .add) (.cons (.var 5) (.cons (.cst (.int 1)) .nil))) (.cst .non)) .nil))) .nil)) .nil))) (.cons (.slc true false (.var 1) (.op (.bin .add) (.cons (.var 3) (.cons (.cst (.int 1)) .nil))) (.cst .non)) .nil))) .nil)) (.cons (.cst (.int 4)) .nil))))
    (.cons (.forr [8] (.seq (.op .tup (.cons (.slc true false (.var 4) (.cst (.int 1)) (.cst .non)) (.cons (.op (.bin .add) (.cons (.var 4) (.cons (.op .tup (.cons (.cst (.int 0)) .nil)) .nil))) (.cons (.op (.b1 .list) (.cons (.var 4) .nil)) (.cons (.op .tup .nil) (.cons (.cst .non) (.cons (.op (.bin .mul) (.cons (.var 4) (.cons (.cst (.int 5)) .nil))) .nil)))))))) (.cons (.exp (.app 7 (.op (.bin .add) (.cons (.op (.bin .add) (.cons (.slc false true (.var 1) (.cst .non) (.var 3)) (.cons (.op .tup (.cons (.var 8) .nil)) .nil))) (.cons (.slc true false (.var 1) (.op (.bin .add) (.cons (.var 3) (.cons (.cst (.int 1)) .nil))) (.cst .non)) .nil)))))
    .nil))
    (.cons (.asg 7 (.op (.bin .add) (.cons (.var 7) (.cons (.op (.lst false) (.cons (.slc true false (.var 1) (.cst (.int 1)) (.cst .non)) (.cons (.op (.bin .add) (.cons (.var 1) (.cons (.slc false true (.var 1) (.cst .non) (.cst (.int 1))) .nil))) (.cons (.slc false true (.op (.bin .mul) (.cons (.var 1) (.cons (.cst (.int 8)) .nil))) (.cst .non) (.cst (.int 8))) (.cons (.slc false true (.op (.bin .mul) (.cons (.var 1) (.cons (.cst (.int 7)) .nil))) (.cst .non) (.cst (.int 7))) (.cons (.op (.b1 .list) (.cons (.var 1) .nil)) (.cons (.op .tup .nil) (.cons (.cst .non) .nil)))))))) .nil))))
    (.cons (.asg 7 (.op (.bin .add) (.cons (.var 7) (.cons (.op (.lst false) (.cons (.op (.b1 .tuple) (.cons (.lc false [8] (.seq (.var 1)) .nil (.op (.bin .mul) (.cons (.var 8) (.cons (.cst (.int 2)) .nil)))) .nil)) (.cons (.op (.b1 .tuple) (.cons (.lc false [8] (.seq (.var 1)) .nil (.slc false true (.op (.bin .mul) (.cons (.var 8) (.cons (.cst (.int 5)) .nil))) (.cst .non) (.cst (.int 5)))) .nil)) (.cons (.op .sub (.cons (.var 1) (.cons (.cst (.int 0)) .nil))) .nil)))) .nil))))
    (.cons (.ret (.call 357 "_law_pick" (.cons (.var 0) (.cons (.var 7) .nil))))
    .nil))))))))))
def f366 : FD := ⟨2, 9, b366⟩
def b367 : Ss :=
  (.cons (.asg 1 (.call 355 "_law_deck" (.cons (.var 0) .nil)))
    (.cons (.forr [2] (.rng (.cons (.cst (.int 3)) .nil)) (.cons (.asg 3 (.call 362 "_law_machine" (.cons (.var 1) (.cons (.cst (.int 7)) (.cons (.cst (.int 4)) .nil)))))
    (.cons (.asg 4 (.op (.bin .add) (.cons (.op (.lst false) (.cons (.var 3) (.cons (.call 360 "_law_odd" (.cons (.var 1) .nil)) (.cons (.call 358 "_law_any" (.cons (.var 1) (.cons (.cst (.int 3)) .nil))) .nil)))) (.cons (.lc false [5] (.rng (.cons (.cst (.int 7)) .nil)) .nil (.call 366 "_law_bent" (.cons (.var 1) (.cons (.var 3) .nil)))) .nil))))
    (.cons (.forr [5] (.rng (.cons (.cst (.int 2)) .nil)) (.cons (.asg 8 (.call 366 "_law_bent" (.cons (.var 1) (.cons (.var 3) .nil))))
    (.cons (.exp (.app 4 (.ite (.op (.cmp .isc) (.cons (.call 364 "_law_machine_fault" (.cons (.var 8) .nil)) (.cons (.cst .non) .nil))) (.call 366 "_law_bent" (.cons (.var 1) (.cons (.var 8) .nil))) (.var 8))))
    .nil)))
    (.cons (.forr [9, 10] (.enum (.var 4)) (.cons (.asgP [12, 13] (.cons (.call 364 "_law_machine_fault" (.cons (.var 10) .nil)) (.cons (.op (.b1 .repr) (.cons (.var 10) .nil)) .nil)))
    (.cons (.asg 11 (.ite (.op (.cmp .eq) (.cons (.var 9) (.cons (.cst (.int 1)) .nil))) (.callk 353 "machine_error" ["value"] [0] (.cons (.var 10) .nil)) (.call 353 "machine_error" (.cons (.var 10) .nil))))
    (.cons (.ite (.or (.cons (.op (.cmp .ne) (.cons (.op (.b1 .repr) (.cons (.var 11) .nil)) (.cons (.op (.b1 .repr) (.cons (.var 12) .nil)) .nil))) (.cons (.op (.cmp .ne) (.cons (.op (.b1 .repr) (.cons (.var 10) .nil)) (.cons (.var 13) .nil))) .nil))) (.cons (.ret (.cst (.bl false)))
    .nil) .nil)
    .nil))))
    (.cons (.asg 6 (.call 363 "_law_word" (.cons (.var 1) (.cons (.var 3) (.cons (.cst (.int 9)) .nil)))))
    (.cons (.asg 7 (.op (.bin .mul) (.cons (.op (.bin .add) (.cons (.var 6) (.cons (.op .tup (.cons (.cst (.int 0)) .nil)) .nil))) (.cons (.cst (.int 200)) .nil))))
    (.cons (.asg 4 (.op (.lst false) (.cons (.var 6) (.cons (.call 360 "_law_odd" (.cons (.var 1) .nil)) (.cons (.slc false true (.var 7) (.cst .non) (.cst (.int 200))) (.cons (.slc false true (.var 7) (.cst .non) (.cst (.int 201))) .nil))))))
    (.cons (.asg 4 (.op (.bin .add) (.cons (.var 4) (.cons (.lc false [5] (.rng (.cons (.cst (.int 6)) .nil)) .nil (.call 361 "_law_bent_tuple" (.cons (.var 1) (.cons (.var 6) (.cons (.op (.b1 .len) (.cons (.op .sub (.cons (.var 3) (.cons (.cst (.int 0)) .nil))) .nil)) .nil))))) .nil))))
    (.cons (.forr [9, 10] (.enum (.var 4)) (.cons (.asgP [12, 13] (.cons (.call 365 "_law_word_due" (.cons (.var 3) (.cons (.var 10) .nil))) (.cons (.op (.b1 .repr) (.cons (.var 10) .nil)) .nil)))
    (.cons (.asg 11 (.ite (.op (.cmp .eq) (.cons (.var 9) (.cons (.cst (.int 1)) .nil))) (.callk 354 "word_error" ["value", "machine"] [1, 0] (.cons (.var 10) (.cons (.var 3) .nil))) (.call 354 "word_error" (.cons (.var 3) (.cons (.var 10) .nil)))))
    (.cons (.ite (.or (.cons (.op (.cmp .ne) (.cons (.op (.b1 .repr) (.cons (.var 11) .nil)) (.cons (.op (.b1 .repr) (.cons (.var 12) .nil)) .nil))) (.cons (.op (.cmp .ne) (.cons (.op (.b1 .repr) (.cons (.var 10) .nil)) (.cons (.var 13) .nil))) .nil))) (.cons (.ret (.cst (.bl false)))
    .nil) .nil)
    .nil))))
    .nil))))))))))
    (.cons (.ret (.cst (.bl true)))
    .nil)))
def f367 : FD := ⟨1, 14, b367⟩
def b5 : Ss :=
  (.cons (.ret (.op (.b1 .tuple) (.cons (.op .sset (.cons (.lc false [3] (.seq (.var 1)) .nil (.op .sub (.cons (.op .sub (.cons (.var 0) (.cons (.var 3) .nil))) (.cons (.var 2) .nil)))) .nil)) .nil)))
    .nil)
def f5 : FD := ⟨3, 4, b5⟩
def b7 : Ss :=
  (.cons (.asg 2 (.rg true (.cons (.op (.b1 .len) (.cons (.var 0) .nil)) .nil)))
    (.cons (.forr [3] (.seq (.var 1)) (.cons (.asg 2 (.op (.b1 .tuple) (.cons (.lc false [4] (.seq (.var 2)) .nil (.op .sub (.cons (.op .sub (.cons (.var 0) (.cons (.var 4) .nil))) (.cons (.var 3) .nil)))) .nil)))
    .nil))
    (.cons (.ret (.var 2))
    .nil)))
def f7 : FD := ⟨2, 5, b7⟩
def b8 : Ss :=
  (.cons (.ret (.op (.b1 .tuple) (.cons (.lc false [3, 4] (.enum (.call 7 "word_rooms" (.cons (.var 0) (.cons (.var 2) .nil)))) (.cons (.op (.cmp .inn) (.cons (.var 4) (.cons (.var 1) .nil))) .nil) (.var 3)) .nil)))
    .nil)
def f8 : FD := ⟨3, 5, b8⟩
def b368 : Ss :=
  (.cons (.forr [3] (.seq (.var 2)) (.cons (.asg 1 (.call 5 "led_on" (.cons (.var 0) (.cons (.var 1) (.cons (.var 3) .nil)))))
    .nil))
    (.cons (.ret (.var 1))
    .nil))
def f368 : FD := ⟨3, 4, b368⟩
def b369 : Ss :=
  (.cons (.asg 1 (.op (.dct true false) (.cons (.cst (.str "great")) (.cons (.op (.lst false) .nil) (.cons (.cst (.str "mixed")) (.cons (.op (.bin .add) (.cons (.cst (.int 1752302)) (.cons (.op (.b1 .len) (.cons (.slc false true (.var 0) (.cst .non) (.cst (.int 63))) .nil)) .nil))) (.cons (.cst (.str "turns")) (.cons (.cst (.int 0)) .nil))))))))
    (.cons (.forr [2] (.seq (.slc false true (.var 0) (.cst .non) (.cst (.int 63)))) (.cons (.asg 3 (.op (.bin .add) (.cons (.op (.bin .mul) (.cons (.cst (.int 2)) (.cons (.op (.b1 .abs) (.cons (.var 2) .nil)) .nil))) (.cons (.op (.b1 .int) (.cons (.op (.cmp .lt) (.cons (.var 2) (.cons (.cst (.int 0)) .nil))) .nil)) .nil))))
    (.cons (.ite (.op (.cmp .ge) (.cons (.var 3) (.cons (.op (.bin .pow) (.cons (.cst (.int 10)) (.cons (.cst (.int 16)) .nil))) .nil))) (.cons (.exp (.appK 1 (.cst (.str "great")) (.var 3)))
    .nil) .nil)
    (.cons (.setI 1 (.cst (.str "mixed")) (.op (.bin .mod) (.cons (.op (.b1 .int) (.cons (.op (.bin .add) (.cons (.op (.bin .add) (.cons (.op (.bin .mul) (.cons (.op .sub (.cons (.var 1) (.cons (.cst (.str "mixed")) .nil))) (.cons (.cst (.int 69621)) .nil))) (.cons (.var 3) .nil))) (.cons (.cst (.int 29)) .nil))) .nil)) (.cons (.cst (.int 4294967291)) .nil))))
    .nil))))
    (.cons (.ret (.var 1))
    .nil)))
def f369 : FD := ⟨1, 4, b369⟩
def b370 : Ss :=
  (.cons (.ret (.op (.b1 .tuple) (.cons (.op .sset (.cons (.lc false [3] (.seq (.var 1)) .nil (.op .sub (.cons (.op .sub (.cons (.var 0) (.cons (.var 3) .nil))) (.cons (.var 2) .nil)))) .nil)) .nil)))
    .nil)
def f370 : FD := ⟨3, 4, b370⟩
def b371 : Ss :=
  (.cons (.forr [3] (.seq (.var 2)) (.cons (.asg 1 (.call 370 "_law_step" (.cons (.var 0) (.cons (.var 1) (.cons (.var 3) .nil)))))
    .nil))
    (.cons (.ret (.var 1))
    .nil))
def f371 : FD := ⟨3, 4, b371⟩
def b372 : Ss :=
  (.cons (.asg 2 (.rg false (.cons (.op (.b1 .len) (.cons (.var 0) .nil)) .nil)))
    (.cons (.forr [3] (.seq (.var 1)) (.cons (.asg 2 (.lc false [4] (.seq (.var 2)) .nil (.op .sub (.cons (.op .sub (.cons (.var 0) (.cons (.var 4) .nil))) (.cons (.var 3) .nil)))))
    .nil))
    (.cons (.ret (.op (.b1 .tuple) (.cons (.var 2) .nil)))
    .nil)))
def f372 : FD := ⟨2, 5, b372⟩
def b373 : Ss :=
  (.cons (.ret (.op (.b1 .tuple) (.cons (.lc false [2] (.rng (.cons (.op (.b1 .len) (.cons (.var 1) .nil)) .nil)) (.cons (.op (.cmp .eq) (.cons (.call 356 "_law_draw" (.cons (.var 0) (.cons (.cst (.int 2)) .nil))) (.cons (.cst (.int 0)) .nil))) .nil) (.var 2)) .nil)))
    .nil)
def f373 : FD := ⟨2, 3, b373⟩
def b374 : Ss :=
  (.cons (.asg 1 (.call 369 "_law_deck" (.cons (.var 0) .nil)))
    (.cons (.forr [2] (.rng (.cons (.cst (.int 5)) .nil)) (.cons (.asg 3 (.call 362 "_law_machine" (.cons (.var 1) (.cons (.cst (.int 7)) (.cons (.cst (.int 4)) .nil)))))
    (.cons (.asg 4 (.op (.b1 .len) (.cons (.var 3) .nil)))
    (.cons (.asgP [11, 12] (.cons (.call 363 "_law_word" (.cons (.var 1) (.cons (.var 3) (.cons (.cst (.int 6)) .nil)))) (.cons (.call 363 "_law_word" (.cons (.var 1) (.cons (.var 3) (.cons (.cst (.int 6)) .nil)))) .nil)))
    (.cons (.asgT [13, 5] (.op .tup (.cons (.op (.bin .add) (.cons (.var 11) (.cons (.var 12) .nil))) (.cons (.call 373 "_law_lot" (.cons (.var 1) (.cons (.var 3) .nil))) .nil))))
    (.cons (.asg 5 (.call 357 "_law_pick" (.cons (.var 1) (.cons (.op (.lst false) (.cons (.var 5) (.cons (.var 5) (.cons (.op .tup .nil) (.cons (.rg true (.cons (.var 4) .nil)) .nil))))) .nil))))
    (.cons (.ite (.op (.cmp .eq) (.cons (.call 356 "_law_draw" (.cons (.var 1) (.cons (.cst (.int 9)) .nil))) (.cons (.cst (.int 0)) .nil))) (.cons (.asg 13 (.slc false true (.op (.bin .mul) (.cons (.op (.bin .add) (.cons (.var 13) (.cons (.op .tup (.cons (.cst (.int 0)) .nil)) .nil))) (.cons (.cst (.int 200)) .nil))) (.cst .non) (.cst (.int 200))))
    (.cons (.asgP [11, 12] (.cons (.slc false true (.var 13) (.cst .non) (.cst (.int 90))) (.cons (.slc true false (.var 13) (.cst (.int 90)) (.cst .non)) .nil)))
    .nil)) .nil)
    (.cons (.asgT [14, 15] (.op .tup (.cons (.op (.b1 .repr) (.cons (.op .tup (.cons (.var 3) (.cons (.var 13) (.cons (.var 5) .nil)))) .nil)) (.cons (.call 372 "_law_rooms" (.cons (.var 3) (.cons (.var 13) .nil))) .nil))))
    (.cons (.asg 6 (.op (.b1 .tuple) (.cons (.lc false [16] (.rng (.cons (.var 4) .nil)) (.cons (.op (.cmp .inn) (.cons (.op .sub (.cons (.var 15) (.cons (.var 16) .nil))) (.cons (.var 5) .nil))) .nil) (.var 16)) .nil)))
    (.cons (.asg 7 (.op (.lst false) (.cons (.call 371 "_law_led" (.cons (.var 3) (.cons (.var 5) (.cons (.var 13) .nil)))) (.cons (.var 6) (.cons (.var 15) .nil)))))
    (.cons (.asg 8 (.op (.lst false) (.cons (.call 368 "led" (.cons (.var 3) (.cons (.var 5) (.cons (.var 13) .nil)))) (.cons (.call 8 "leading" (.cons (.var 3) (.cons (.var 5) (.cons (.var 13) .nil)))) (.cons (.call 7 "word_rooms" (.cons (.var 3) (.cons (.var 13) .nil))) .nil)))))
    (.cons (.asg 9 (.op (.lst false) (.cons (.callk 368 "led" ["word", "lot", "machine"] [2, 1, 0] (.cons (.var 13) (.cons (.var 5) (.cons (.var 3) .nil)))) (.cons (.callk 8 "leading" ["word", "lot", "machine"] [2, 1, 0] (.cons (.var 13) (.cons (.var 5) (.cons (.var 3) .nil)))) .nil))))
    (.cons (.exp (.app 9 (.callk 7 "word_rooms" ["word", "machine"] [1, 0] (.cons (.var 13) (.cons (.var 3) .nil)))))
    (.cons (.ite (.or (.cons (.op (.cmp .ne) (.cons (.op (.b1 .repr) (.cons (.op (.lst false) (.cons (.var 8) (.cons (.var 9) .nil))) .nil)) (.cons (.op (.b1 .repr) (.cons (.op (.lst false) (.cons (.var 7) (.cons (.var 7) .nil))) .nil)) .nil))) (.cons (.op (.cmp .gt) (.cons (.op (.b1 .len) (.cons (.op .sub (.cons (.var 7) (.cons (.cst (.int 0)) .nil))) .nil)) (.cons (.op (.b1 .len) (.cons (.var 5) .nil)) .nil))) .nil))) (.cons (.ret (.cst (.bl false)))
    .nil) .nil)
    (.cons (.ite (.op (.cmp .ne) (.cons (.call 368 "led" (.cons (.var 3) (.cons (.call 368 "led" (.cons (.var 3) (.cons (.var 5) (.cons (.var 11) .nil)))) (.cons (.var 12) .nil)))) (.cons (.op .sub (.cons (.var 7) (.cons (.cst (.int 0)) .nil))) .nil))) (.cons (.ret (.cst (.bl false)))
    .nil) .nil)
    (.cons (.ite (.op (.cmp .ne) (.cons (.call 8 "leading" (.cons (.var 3) (.cons (.call 8 "leading" (.cons (.var 3) (.cons (.var 5) (.cons (.var 12) .nil)))) (.cons (.var 11) .nil)))) (.cons (.var 6) .nil))) (.cons (.ret (.cst (.bl false)))
    .nil) .nil)
    (.cons (.asg 10 (.op (.b1 .tuple) (.cons (.lc false [16] (.rng (.cons (.var 4) .nil)) (.cons (.op (.cmp .nin) (.cons (.var 16) (.cons (.var 5) .nil))) .nil) (.var 16)) .nil)))
    (.cons (.ite (.op (.cmp .ne) (.cons (.call 8 "leading" (.cons (.var 3) (.cons (.var 10) (.cons (.var 13) .nil)))) (.cons (.op (.b1 .tuple) (.cons (.lc false [16] (.rng (.cons (.var 4) .nil)) (.cons (.op (.cmp .nin) (.cons (.var 16) (.cons (.var 6) .nil))) .nil) (.var 16)) .nil)) .nil))) (.cons (.ret (.cst (.bl false)))
    .nil) .nil)
    (.cons (.ite (.op (.cmp .ne) (.cons (.op (.b1 .repr) (.cons (.op .tup (.cons (.var 3) (.cons (.var 13) (.cons (.var 5) .nil)))) .nil)) (.cons (.var 14) .nil))) (.cons (.ret (.cst (.bl false)))
    .nil) .nil)
    .nil)))))))))))))))))))
    (.cons (.ret (.cst (.bl true)))
    .nil)))
def f374 : FD := ⟨1, 17, b374⟩
def b1 : Ss :=
  (.cons (.ite (.or (.cons (.not (.op (.isi .tuple) (.cons (.var 0) .nil))) (.cons (.not (.chain .le .le (.cst (.int 1)) (.op (.b1 .len) (.cons (.var 0) .nil)) (.glb "MAX_SIDE" (.int 5)))) .nil))) (.cons (.ret (.cst (.bl false)))
    .nil) .nil)
    (.cons (.ret (.op (.b1 .all) (.cons (.lc false [1] (.seq (.var 0)) .nil (.and (.cons (.op (.isi .tuple) (.cons (.var 1) .nil)) (.cons (.op (.cmp .eq) (.cons (.op (.b1 .len) (.cons (.var 1) .nil)) (.cons (.op (.b1 .len) (.cons (.var 0) .nil)) .nil))) .nil)))) .nil)))
    .nil))
def f1 : FD := ⟨1, 2, b1⟩
def b867 : Ss :=
  (.cons (.ite (.not (.call 1 "is_square" (.cons (.var 0) .nil))) (.cons (.ret (.cst (.str "form")))
    .nil) .nil)
    (.cons (.forr [2, 3] (.enum (.var 0)) (.cons (.forr [1, 4] (.enum (.var 3)) (.cons (.ite (.or (.cons (.not (.op (.isi .int) (.cons (.var 4) .nil))) (.cons (.op (.isi .bool) (.cons (.var 4) .nil)) (.cons (.op (.cmp .nin) (.cons (.var 4) (.cons (.op .tup (.cons (.cst (.int 0)) (.cons (.cst (.int 1)) .nil))) .nil))) .nil)))) (.cons (.ret (.op .tup (.cons (.cst (.str "item")) (.cons (.var 2) (.cons (.var 1) .nil)))))
    .nil) .nil)
    .nil))
    .nil))
    (.cons (.forr [2, 3] (.enum (.var 0)) (.cons (.ite (.op (.cmp .nin) (.cons (.cst (.int 1)) (.cons (.var 3) .nil))) (.cons (.ret (.op .tup (.cons (.cst (.str "row")) (.cons (.var 2) .nil))))
    .nil) .nil)
    .nil))
    (.cons (.forr [1] (.rng (.cons (.op (.b1 .len) (.cons (.var 0) .nil)) .nil)) (.cons (.ite (.op (.cmp .nin) (.cons (.cst (.int 1)) (.cons (.lc false [3] (.seq (.var 0)) .nil (.op .sub (.cons (.var 3) (.cons (.var 1) .nil)))) .nil))) (.cons (.ret (.op .tup (.cons (.cst (.str "column")) (.cons (.var 1) .nil))))
    .nil) .nil)
    .nil))
    (.cons (.ret (.cst .non))
    .nil)))))
def f867 : FD := ⟨1, 5, b867⟩
def b868 : Ss :=
  (.cons (.ite (.or (.cons (.not (.op (.isi .tuple) (.cons (.var 0) .nil))) (.cons (.not (.chain .le .le (.cst (.int 1)) (.op (.b1 .len) (.cons (.var 0) .nil)) (.glb "MAX_LETTERS" (.int 4)))) .nil))) (.cons (.ret (.cst (.str "form")))
    .nil) .nil)
    (.cons (.forr [1, 2] (.enum (.var 0)) (.cons (.asg 3 (.call 867 "ones_error" (.cons (.var 2) .nil)))
    (.cons (.ite (.op (.cmp .isn) (.cons (.var 3) (.cons (.cst .non) .nil))) (.cons (.ret (.op .tup (.cons (.cst (.str "table")) (.cons (.var 1) (.cons (.var 3) .nil)))))
    .nil) .nil)
    .nil)))
    (.cons (.forr [1, 2] (.enum (.var 0)) (.cons (.ite (.op (.cmp .ne) (.cons (.op (.b1 .len) (.cons (.var 2) .nil)) (.cons (.op (.b1 .len) (.cons (.op .sub (.cons (.var 0) (.cons (.cst (.int 0)) .nil))) .nil)) .nil))) (.cons (.ret (.op .tup (.cons (.cst (.str "size")) (.cons (.var 1) .nil))))
    .nil) .nil)
    .nil))
    (.cons (.ret (.cst .non))
    .nil))))
def f868 : FD := ⟨1, 4, b868⟩
def b869 : Ss :=
  (.cons (.asg 1 (.op (.dct true false) (.cons (.cst (.str "great")) (.cons (.op (.lst false) .nil) (.cons (.cst (.str "mixed")) (.cons (.op (.bin .add) (.cons (.cst (.int 1752357)) (.cons (.op (.b1 .len) (.cons (.slc false true (.var 0) (.cst .non) (.cst (.int 63))) .nil)) .nil))) (.cons (.cst (.str "turns")) (.cons (.cst (.int 0)) .nil))))))))
    (.cons (.forr [2] (.seq (.slc false true (.var 0) (.cst .non) (.cst (.int 63)))) (.cons (.asg 3 (.op (.bin .add) (.cons (.op (.bin .mul) (.cons (.cst (.int 2)) (.cons (.op (.b1 .abs) (.cons (.var 2) .nil)) .nil))) (.cons (.op (.b1 .int) (.cons (.op (.cmp .lt) (.cons (.var 2) (.cons (.cst (.int 0)) .nil))) .nil)) .nil))))
    (.cons (.ite (.op (.cmp .ge) (.cons (.var 3) (.cons (.op (.bin .pow) (.cons (.cst (.int 10)) (.cons (.cst (.int 16)) .nil))) .nil))) (.cons (.exp (.appK 1 (.cst (.str "great")) (.var 3)))
    .nil) .nil)
    (.cons (.setI 1 (.cst (.str "mixed")) (.op (.bin .mod) (.cons (.op (.b1 .int) (.cons (.op (.bin .add) (.cons (.op (.bin .add) (.cons (.op (.bin .mul) (.cons (.op .sub (.cons (.var 1) (.cons (.cst (.str "mixed")) .nil))) (.cons (.cst (.int 69621)) .nil))) (.cons (.var 3) .nil))) (.cons (.cst (.int 29)) .nil))) .nil)) (.cons (.cst (.int 4294967291)) .nil))))
    .nil))))
    (.cons (.ret (.var 1))
    .nil)))
def f869 : FD := ⟨1, 4, b869⟩
def b870 : Ss :=
  (.cons (.asgP [4, 5] (.cons (.rg false (.cons (.var 1) .nil)) (.cons (.op (.lst true) .nil) .nil)))
    (.cons (.forr [3] (.rng (.cons (.var 1) .nil)) (.cons (.asg 6 (.popi 4 (.call 356 "_law_draw" (.cons (.var 0) (.cons (.op (.b1 .len) (.cons (.var 4) .nil)) .nil)))))
    (.cons (.exp (.app 5 (.lc false [8] (.rng (.cons (.var 1) .nil)) .nil (.op (.b1 .int) (.cons (.op (.cmp .eq) (.cons (.var 8) (.cons (.var 6) .nil))) .nil)))))
    .nil)))
    (.cons (.ite (.op (.cmp .gt) (.cons (.var 2) (.cons (.cst (.int 0)) .nil))) (.cons (.forr [3] (.rng (.cons (.var 1) .nil)) (.cons (.forr [6] (.rng (.cons (.var 1) .nil)) (.cons (.ite (.op (.cmp .eq) (.cons (.call 356 "_law_draw" (.cons (.var 0) (.cons (.var 2) .nil))) (.cons (.cst (.int 0)) .nil))) (.cons (.setII 5 (.var 3) (.var 6) (.cst (.int 1)))
    .nil) .nil)
    .nil))
    .nil))
    .nil) .nil)
    (.cons (.ite (.op (.cmp .eq) (.cons (.call 356 "_law_draw" (.cons (.var 0) (.cons (.cst (.int 3)) .nil))) (.cons (.cst (.int 0)) .nil))) (.cons (.asg 3 (.call 356 "_law_draw" (.cons (.var 0) (.cons (.var 1) .nil))))
    (.cons (.forr [6] (.rng (.cons (.var 1) .nil)) (.cons (.ite (.ro (.and (.cons (.op (.cmp .eq) (.cons (.op .sub (.cons (.op .sub (.cons (.var 5) (.cons (.var 3) .nil))) (.cons (.var 6) .nil))) (.cons (.cst (.int 1)) .nil))) (.cons (.op (.cmp .gt) (.cons (.op (.b1 .sum) (.cons (.op .sub (.cons (.var 5) (.cons (.var 3) .nil))) .nil)) (.cons (.cst (.int 1)) .nil))) (.cons (.op (.cmp .gt) (.cons (.op (.b1 .sum) (.cons (.lc false [7] (.seq (.var 5)) .nil (.op .sub (.cons (.var 7) (.cons (.var 6) .nil)))) .nil)) (.cons (.cst (.int 1)) .nil))) .nil))))) (.cons (.setII 5 (.var 3) (.var 6) (.cst (.int 0)))
    .nil) .nil)
    .nil))
    .nil)) .nil)
    (.cons (.ret (.op (.b1 .tuple) (.cons (.lc false [7] (.seq (.var 5)) .nil (.op (.b1 .tuple) (.cons (.var 7) .nil))) .nil)))
    .nil)))))
def f870 : FD := ⟨3, 9, b870⟩
def b871 : Ss :=
  (.cons (.asg 2 (.call 357 "_law_pick" (.cons (.var 0) (.cons (.op (.lst false) (.cons (.cst (.int 0)) (.cons (.cst (.int 2)) (.cons (.cst (.int 4)) (.cons (.cst (.int 9)) (.cons (.cst (.int 9)) .nil)))))) .nil))))
    (.cons (.ret (.op (.b1 .tuple) (.cons (.lc false [3] (.rng (.cons (.op (.bin .add) (.cons (.cst (.int 1)) (.cons (.call 356 "_law_draw" (.cons (.var 0) (.cons (.cst (.int 3)) .nil))) .nil))) .nil)) .nil (.call 870 "_law_table" (.cons (.var 0) (.cons (.var 1) (.cons (.var 2) .nil))))) .nil)))
    .nil))
def f871 : FD := ⟨2, 4, b871⟩
def b872 : Ss :=
  (.cons (.ite (.or (.cons (.not (.op (.isi .tuple) (.cons (.var 0) .nil))) (.cons (.not (.chain .le .le (.cst (.int 1)) (.op (.b1 .len) (.cons (.var 0) .nil)) (.cst (.int 5)))) .nil))) (.cons (.ret (.cst (.str "form")))
    .nil) .nil)
    (.cons (.ite (.not (.op (.b1 .all) (.cons (.lc false [3] (.seq (.var 0)) .nil (.and (.cons (.op (.isi .tuple) (.cons (.var 3) .nil)) (.cons (.op (.cmp .eq) (.cons (.op (.b1 .len) (.cons (.var 3) .nil)) (.cons (.op (.b1 .len) (.cons (.var 0) .nil)) .nil))) .nil)))) .nil))) (.cons (.ret (.cst (.str "form")))
    .nil) .nil)
    (.cons (.forr [2, 3] (.enum (.var 0)) (.cons (.forr [1, 4] (.enum (.var 3)) (.cons (.ite (.not (.call 359 "_law_is_whole" (.cons (.var 4) (.cons (.cst (.int 0)) (.cons (.cst (.int 1)) .nil))))) (.cons (.ret (.op .tup (.cons (.cst (.str "item")) (.cons (.var 2) (.cons (.var 1) .nil)))))
    .nil) .nil)
    .nil))
    .nil))
    (.cons (.forr [2, 3] (.enum (.var 0)) (.cons (.ite (.op (.cmp .nin) (.cons (.cst (.int 1)) (.cons (.var 3) .nil))) (.cons (.ret (.op .tup (.cons (.cst (.str "row")) (.cons (.var 2) .nil))))
    .nil) .nil)
    .nil))
    (.cons (.forr [1] (.rng (.cons (.op (.b1 .len) (.cons (.var 0) .nil)) .nil)) (.cons (.ite (.op (.cmp .nin) (.cons (.cst (.int 1)) (.cons (.lc false [3] (.seq (.var 0)) .nil (.op .sub (.cons (.var 3) (.cons (.var 1) .nil)))) .nil))) (.cons (.ret (.op .tup (.cons (.cst (.str "column")) (.cons (.var 1) .nil))))
    .nil) .nil)
    .nil))
    (.cons (.ret (.cst .non))
    .nil))))))
def f872 : FD := ⟨1, 5, b872⟩
def b873 : Ss :=
  (.cons (.ite (.or (.cons (.not (.op (.isi .tuple) (.cons (.var 0) .nil))) (.cons (.not (.chain .le .le (.cst (.int 1)) (.op (.b1 .len) (.cons (.var 0) .nil)) (.cst (.int 4)))) .nil))) (.cons (.ret (.cst (.str "form")))
    .nil) .nil)
    (.cons (.forr [1, 2] (.enum (.var 0)) (.cons (.asg 3 (.call 872 "_law_due" (.cons (.var 2) .nil)))
    (.cons (.ite (.op (.cmp .isn) (.cons (.var 3) (.cons (.cst .non) .nil))) (.cons (.ret (.op .tup (.cons (.cst (.str "table")) (.cons (.var 1) (.cons (.var 3) .nil)))))
    .nil) .nil)
    .nil)))
    (.cons (.forr [1, 2] (.enum (.var 0)) (.cons (.ite (.op (.cmp .ne) (.cons (.op (.b1 .len) (.cons (.var 2) .nil)) (.cons (.op (.b1 .len) (.cons (.op .sub (.cons (.var 0) (.cons (.cst (.int 0)) .nil))) .nil)) .nil))) (.cons (.ret (.op .tup (.cons (.cst (.str "size")) (.cons (.var 1) .nil))))
    .nil) .nil)
    .nil))
    (.cons (.ret (.cst .non))
    .nil))))
def f873 : FD := ⟨1, 4, b873⟩
def b874 : Ss :=
  (.cons (.asg 2 (.op (.b1 .len) (.cons (.var 1) .nil)))
    (.cons (.asgT [6, 7] (.op .tup (.cons (.call 356 "_law_draw" (.cons (.var 0) (.cons (.var 2) .nil))) (.cons (.call 356 "_law_draw" (.cons (.var 0) (.cons (.var 2) .nil))) .nil))))
    (.cons (.asg 3 (.op .sub (.cons (.var 1) (.cons (.var 6) .nil))))
    (.cons (.asg 4 (.call 357 "_law_pick" (.cons (.var 0) (.cons (.op (.lst false) (.cons (.op (.bin .sub) (.cons (.cst (.int 1)) (.cons (.op .sub (.cons (.var 3) (.cons (.var 7) .nil))) .nil))) (.cons (.cst (.int 2)) (.cons (.op .neg (.cons (.cst (.int 1)) .nil)) (.cons (.cst (.bl true)) (.cons (.cst (.bl false)) (.cons (.cst .non) (.cons (.cst (.str "1")) (.cons (.cst (.int 0)) .nil))))))))) .nil))))
    (.cons (.asg 5 (.op (.bin .mul) (.cons (.op (.lst false) (.cons (.op (.bin .add) (.cons (.op (.bin .add) (.cons (.slc false true (.var 1) (.cst .non) (.var 6)) (.cons (.op .tup (.cons (.op (.bin .add) (.cons (.op (.bin .add) (.cons (.slc false true (.var 3) (.cst .non) (.var 7)) (.cons (.op .tup (.cons (.var 4) .nil)) .nil))) (.cons (.slc true false (.var 3) (.op (.bin .add) (.cons (.var 7) (.cons (.cst (.int 1)) .nil))) (.cst .non)) .nil))) .nil)) .nil))) (.cons (.slc true false (.var 1) (.op (.bin .add) (.cons (.var 6) (.cons (.cst (.int 1)) .nil))) (.cst .non)) .nil))) .nil)) (.cons (.cst (.int 4)) .nil))))
    (.cons (.asg 5 (.op (.bin .add) (.cons (.var 5) (.cons (.op (.lst false) (.cons (.op (.bin .add) (.cons (.op (.bin .add) (.cons (.slc false true (.var 1) (.cst .non) (.var 6)) (.cons (.op .tup (.cons (.op (.bin .mul) (.cons (.op .tup (.cons (.cst (.int 0)) .nil)) (.cons (.var 2) .nil))) .nil)) .nil))) (.cons (.slc true false (.var 1) (.op (.bin .add) (.cons (.var 6) (.cons (.cst (.int 1)) .nil))) (.cst .non)) .nil))) (.cons (.op (.b1 .tuple) (.cons (.lc false [8] (.seq (.var 1)) .nil (.op (.bin .add) (.cons (.op (.bin .add) (.cons (.slc false true (.var 8) (.cst .non) (.var 7)) (.cons (.op .tup (.cons (.cst (.int 0)) .nil)) .nil))) (.cons (.slc true false (.var 8) (.op (.bin .add) (.cons (.var 7) (.cons (.cst (.int 1)) .nil))) (.cst .non)) .nil)))) .nil)) .nil))) .nil))))
    (.cons (.asg 5 (.op (.bin .add) (.cons (.var 5) (.cons (.op (.lst false) (.cons (.slc true false (.var 1) (.cst (.int 1)) (.cst .non)) (.cons (.op (.bin .add) (.cons (.var 1) (.cons (.slc false true (.var 1) (.cst .non) (.cst (.int 1))) .nil))) (.cons (.op (.b1 .list) (.cons (.var 1) .nil)) (.cons (.op (.bin .add) (.cons (.op (.bin .add) (.cons (.slc false true (.var 1) (.cst .non) (.var 6)) (.cons (.op .tup (.cons (.op (.b1 .list) (.cons (.var 3) .nil)) .nil)) .nil))) (.cons (.slc true false (.var 1) (.op (.bin .add) (.cons (.var 6) (.cons (.cst (.int 1)) .nil))) (.cst .non)) .nil))) (.cons (.op .tup .nil) (.cons (.cst .non) .nil))))))) .nil))))
    (.cons (.ret (.call 357 "_law_pick" (.cons (.var 0) (.cons (.op (.bin .add) (.cons (.var 5) (.cons (.op (.lst false) (.cons (.op (.bin .add) (.cons (.op (.bin .add) (.cons (.slc false true (.var 1) (.cst .non) (.var 6)) (.cons (.op .tup (.cons (.slc true false (.var 3) (.cst (.int 1)) (.cst .non)) .nil)) .nil))) (.cons (.slc true false (.var 1) (.op (.bin .add) (.cons (.var 6) (.cons (.cst (.int 1)) .nil))) (.cst .non)) .nil))) (.cons (.op (.bin .mul) (.cons (.op .tup (.cons (.op (.bin .mul) (.cons (.op .tup (.cons (.cst (.int 1)) .nil)) (.cons (.cst (.int 6)) .nil))) .nil)) (.cons (.cst (.int 6)) .nil))) (.cons (.op (.bin .mul) (.cons (.op .tup (.cons (.op (.bin .mul) (.cons (.op .tup (.cons (.cst (.int 1)) .nil)) (.cons (.cst (.int 5)) .nil))) .nil)) (.cons (.cst (.int 5)) .nil))) (.cons (.op .tup (.cons (.op .tup (.cons (.cst (.int 0)) .nil)) .nil)) .nil))))) .nil))) .nil))))
    .nil))))))))
def f874 : FD := ⟨2, 9, b874⟩
def b875 : Ss :=
  (.cons (.asgP [4, 5] (.cons (.call 356 "_law_draw" (.cons (.var 0) (.cons (.op (.b1 .len) (.cons (.var 1) .nil)) .nil))) (.cons (.call 356 "_law_draw" (.cons (.var 0) (.cons (.op (.b1 .len) (.cons (.var 1) .nil)) .nil))) .nil)))
    (.cons (.ite (.op (.cmp .gt) (.cons (.call 356 "_law_draw" (.cons (.var 0) (.cons (.cst (.int 3)) .nil))) (.cons (.cst (.int 0)) .nil))) (.cons (.asg 6 (.op (.bin .add) (.cons (.op (.bin .add) (.cons (.slc false true (.var 1) (.cst .non) (.var 4)) (.cons (.op .tup (.cons (.call 874 "_law_bent" (.cons (.var 0) (.cons (.op .sub (.cons (.var 1) (.cons (.var 4) .nil))) .nil))) .nil)) .nil))) (.cons (.slc true false (.var 1) (.op (.bin .add) (.cons (.var 4) (.cons (.cst (.int 1)) .nil))) (.cst .non)) .nil))))
    (.cons (.ret (.ite (.op (.cmp .eq) (.cons (.call 356 "_law_draw" (.cons (.var 0) (.cons (.cst (.int 3)) .nil))) (.cons (.cst (.int 0)) .nil))) (.op (.bin .add) (.cons (.op (.bin .add) (.cons (.slc false true (.var 6) (.cst .non) (.var 5)) (.cons (.op .tup (.cons (.call 874 "_law_bent" (.cons (.var 0) (.cons (.op .sub (.cons (.var 1) (.cons (.var 5) .nil))) .nil))) .nil)) .nil))) (.cons (.slc true false (.var 6) (.op (.bin .add) (.cons (.var 5) (.cons (.cst (.int 1)) .nil))) (.cst .non)) .nil))) (.var 6)))
    .nil)) .nil)
    (.cons (.asg 2 (.call 870 "_law_table" (.cons (.var 0) (.cons (.op (.bin .add) (.cons (.cst (.int 1)) (.cons (.call 356 "_law_draw" (.cons (.var 0) (.cons (.cst (.int 5)) .nil))) .nil))) (.cons (.cst (.int 3)) .nil)))))
    (.cons (.asg 3 (.op (.lst false) (.cons (.op .rev (.cons (.var 1) .nil)) (.cons (.op (.bin .mul) (.cons (.var 1) (.cons (.cst (.int 5)) .nil))) (.cons (.slc false true (.op (.bin .mul) (.cons (.var 1) (.cons (.cst (.int 4)) .nil))) (.cst .non) (.cst (.int 4))) (.cons (.op (.b1 .list) (.cons (.var 1) .nil)) (.cons (.op .tup .nil) (.cons (.op .sub (.cons (.var 1) (.cons (.var 4) .nil))) (.cons (.cst .non) (.cons (.call 358 "_law_any" (.cons (.var 0) (.cons (.cst (.int 3)) .nil))) .nil))))))))))
    (.cons (.asg 3 (.op (.bin .add) (.cons (.var 3) (.cons (.op (.lst false) (.cons (.op (.bin .add) (.cons (.op (.bin .add) (.cons (.slc false true (.var 1) (.cst .non) (.var 4)) (.cons (.op .tup (.cons (.var 2) .nil)) .nil))) (.cons (.slc true false (.var 1) (.op (.bin .add) (.cons (.var 4) (.cons (.cst (.int 1)) .nil))) (.cst .non)) .nil))) (.cons (.op (.bin .add) (.cons (.slc false true (.var 1) (.cst .non) (.cst (.int 3))) (.cons (.op .tup (.cons (.var 2) .nil)) .nil))) (.cons (.op (.bin .add) (.cons (.op .tup (.cons (.var 2) .nil)) (.cons (.slc false true (.var 1) (.cst .non) (.cst (.int 3))) .nil))) .nil)))) .nil))))
    (.cons (.ret (.call 357 "_law_pick" (.cons (.var 0) (.cons (.var 3) .nil))))
    .nil))))))
def f875 : FD := ⟨2, 7, b875⟩
def b876 : Ss :=
  (.cons (.asg 1 (.call 869 "_law_deck" (.cons (.var 0) .nil)))
    (.cons (.forr [2] (.rng (.cons (.cst (.int 3)) .nil)) (.cons (.asg 3 (.call 871 "_law_tables" (.cons (.var 1) (.cons (.op (.bin .add) (.cons (.cst (.int 1)) (.cons (.call 356 "_law_draw" (.cons (.var 1) (.cons (.cst (.int 5)) .nil))) .nil))) .nil))))
    (.cons (.asg 4 (.call 357 "_law_pick" (.cons (.var 1) (.cons (.var 3) .nil))))
    (.cons (.asg 5 (.call 874 "_law_bent" (.cons (.var 1) (.cons (.var 4) .nil))))
    (.cons (.asg 6 (.op (.bin .add) (.cons (.op (.lst false) (.cons (.var 4) (.cons (.call 360 "_law_odd" (.cons (.var 1) .nil)) (.cons (.var 5) .nil)))) (.cons (.lc false [12] (.rng (.cons (.cst (.int 7)) .nil)) .nil (.call 874 "_law_bent" (.cons (.var 1) (.cons (.var 4) .nil)))) .nil))))
    (.cons (.ite (.op (.cmp .isc) (.cons (.call 872 "_law_due" (.cons (.var 5) .nil)) (.cons (.cst .non) .nil))) (.cons (.exp (.app 6 (.call 874 "_law_bent" (.cons (.var 1) (.cons (.var 5) .nil)))))
    .nil) .nil)
    (.cons (.forr [7, 8] (.enum (.var 6)) (.cons (.asgP [10, 11] (.cons (.call 872 "_law_due" (.cons (.var 8) .nil)) (.cons (.op (.b1 .repr) (.cons (.var 8) .nil)) .nil)))
    (.cons (.asg 9 (.ite (.op (.cmp .eq) (.cons (.var 7) (.cons (.cst (.int 1)) .nil))) (.callk 867 "ones_error" ["value"] [0] (.cons (.var 8) .nil)) (.call 867 "ones_error" (.cons (.var 8) .nil))))
    (.cons (.ite (.or (.cons (.op (.cmp .ne) (.cons (.op (.b1 .repr) (.cons (.var 9) .nil)) (.cons (.op (.b1 .repr) (.cons (.var 10) .nil)) .nil))) (.cons (.op (.cmp .ne) (.cons (.op (.b1 .repr) (.cons (.var 8) .nil)) (.cons (.var 11) .nil))) .nil))) (.cons (.ret (.cst (.bl false)))
    .nil) .nil)
    .nil))))
    (.cons (.forr [7, 8] (.enum (.op (.bin .add) (.cons (.op (.lst false) (.cons (.var 3) (.cons (.call 360 "_law_odd" (.cons (.var 1) .nil)) .nil))) (.cons (.lc false [12] (.rng (.cons (.cst (.int 8)) .nil)) .nil (.call 875 "_law_bent_lot" (.cons (.var 1) (.cons (.var 3) .nil)))) .nil)))) (.cons (.asgP [10, 11] (.cons (.call 873 "_law_lot_due" (.cons (.var 8) .nil)) (.cons (.op (.b1 .repr) (.cons (.var 8) .nil)) .nil)))
    (.cons (.asg 9 (.ite (.op (.cmp .eq) (.cons (.var 7) (.cons (.cst (.int 1)) .nil))) (.callk 868 "tables_error" ["value"] [0] (.cons (.var 8) .nil)) (.call 868 "tables_error" (.cons (.var 8) .nil))))
    (.cons (.ite (.or (.cons (.op (.cmp .ne) (.cons (.op (.b1 .repr) (.cons (.var 9) .nil)) (.cons (.op (.b1 .repr) (.cons (.var 10) .nil)) .nil))) (.cons (.op (.cmp .ne) (.cons (.op (.b1 .repr) (.cons (.var 8) .nil)) (.cons (.var 11) .nil))) .nil))) (.cons (.ret (.cst (.bl false)))
    .nil) .nil)
    .nil))))
    .nil))))))))
    (.cons (.ret (.cst (.bl true)))
    .nil)))
def f876 : FD := ⟨1, 13, b876⟩
end DL
end

section
set_option Elab.async false
set_option linter.all false
set_option maxRecDepth 100000
namespace DL
open PySem
def deckK (gs : List Int) (m t : Int) : List (D × D) := [(.str "great", .lst (gs.map D.int)), (.str "mixed", .int m), (.str "turns", .int t)]
def deckT (gs : List Int) (m t : Int) : TV := ⟨2, .dct false (deckK gs m t)⟩
section
variable {gs gs' : List Int} {m t m' t' : Int}
theorem inL_deck : inL (deckT gs m t) (.str "great") = some (gs.map D.int) := by rfl
theorem outL_deck {xs : List D} (h : xs = gs'.map D.int) : outL (deckT gs m t) (.str "great") xs = deckT gs' m t := by subst h; rfl
theorem set_turns {l : Sl} {i : Nat} {a : Nat} (h : gt l i = deckT gs m t) : setK l i (.str "turns") ⟨a, .int t'⟩ = .nx (st l i (deckT gs m t')) := by
  unfold setK; rw [h]; rfl
theorem sub_mixed : subD (deckT gs m t).d (.str "mixed") = some (.int m) := by rfl
theorem sub_turns : subD (deckT gs m t).d (.str "turns") = some (.int t) := by rfl
theorem ints_plain : ∀ gs : List Int, PyData.plainAll (toPs (gs.map D.int)) = true ∧ PyData.depthAll (toPs (gs.map D.int)) ≤ 1
  | [] => ⟨rfl, by decide⟩
  | g :: r => by
    obtain ⟨h1, h2⟩ := ints_plain r
    constructor
    · show (PyData.plain (.int g) && PyData.plainAll (toPs (r.map D.int))) = true
      rw [h1]; rfl
    · show max (PyData.depth (.int g)) (PyData.depthAll (toPs (r.map D.int))) ≤ 1
      exact Nat.max_le.mpr ⟨Nat.zero_le _, h2⟩
theorem ints_eqOk (gs : List Int) : eqOk (.lst (gs.map D.int)) = true := by
  obtain ⟨h1, h2⟩ := ints_plain gs
  unfold eqOk
  rw [Bool.and_eq_true, decide_eq_true_eq]
  exact ⟨h1, by show PyData.depthAll (toPs (gs.map D.int)) + 1 ≤ 64; omega⟩
theorem ne_ints (gs : List Int) : cmpD .ne (.lst (gs.map D.int)) (.lst []) = some (!gs.isEmpty) := by
  show (if eqOk (.lst (gs.map D.int)) && eqOk (.lst []) then some (!dEq (.lst (gs.map D.int)) (.lst [])) else none) = _
  rw [ints_eqOk, show eqOk (.lst []) = true from ints_eqOk []]
  cases gs <;> rfl
end
structure Good (gs : List Int) : Prop where
  pos : ∀ g ∈ gs, 0 ≤ g
  len : gs.length ≤ 63
theorem emod_b {x c : Int} (h : 0 < c) (h2 : c ≤ 18446744073709551616) : -18446744073709551616 < x % c ∧ x % c < 18446744073709551616 := by
  have h3 := Int.emod_nonneg x (show c ≠ 0 by omega)
  have h4 := Int.emod_lt_of_pos x h
  omega
theorem mul_l {i j : Int} (h : -18446744073709551616 < i ∧ i < 18446744073709551616) : binD .mul (.int i) (.int j) = some ⟨0, .int (i * j)⟩ := by
  exact if_pos (decide_eq_true (.inl (by omega)))
theorem mul_r {i j : Int} (h : -18446744073709551616 < j ∧ j < 18446744073709551616) : binD .mul (.int i) (.int j) = some ⟨0, .int (i * j)⟩ := by
  exact if_pos (decide_eq_true (.inr (by omega)))
@[simp] theorem b_add {i j : Int} : binD .add (.int i) (.int j) = some ⟨0, .int (i + j)⟩ := rfl
@[simp] theorem b_sub {i j : Int} : binD .sub (.int i) (.int j) = some ⟨0, .int (i - j)⟩ := rfl
theorem b_mod {i j : Int} (h : 0 < j) : binD .mod (.int i) (.int j) = some ⟨0, .int (i % j)⟩ := if_pos (decide_eq_true h)
theorem b_fdiv {i j : Int} (h : 0 < j) (h2 : j < 1073741824) : binD .fdiv (.int i) (.int j) = some ⟨0, .int (i / j)⟩ := if_pos (decide_eq_true ⟨h, h2⟩)
@[simp] theorem b_int {i : Int} : b1D .int (.int i) = some ⟨0, .int i⟩ := rfl
@[simp] theorem Od_v {l : Sl} {x : TV} : Od.d l (.v x) = x.d := rfl
@[simp] theorem Od_r {l : Sl} {i : Nat} : Od.d l (.r i) = (gt l i).d := rfl
@[simp] theorem Od_vt {l : Sl} {x : TV} : Od.t l (.v x) = x.t := rfl
@[simp] theorem Od_rt {l : Sl} {i : Nat} : Od.t l (.r i) = (gt l i).t := rfl
@[simp] theorem c_lt {i j : Int} : cmpD .lt (.int i) (.int j) = some (decide (i < j)) := rfl
@[simp] theorem c_le {i j : Int} : cmpD .le (.int i) (.int j) = some (decide (i ≤ j)) := rfl
@[simp] theorem c_gt {i j : Int} : cmpD .gt (.int i) (.int j) = some (decide (j < i)) := rfl
@[simp] theorem c_ge {i j : Int} : cmpD .ge (.int i) (.int j) = some (decide (j ≤ i)) := rfl
@[simp] theorem un_int {i : Int} : (D.int i).isUn = false := rfl
@[simp] theorem un_deck {gs : List Int} {m t : Int} : (deckT gs m t).d.isUn = false := rfl
@[simp] theorem im_deck {gs : List Int} {m t : Int} : (deckT gs m t).d.isM = true := rfl
@[simp] theorem im_int {i : Int} : (D.int i).isM = false := rfl
@[simp] theorem lowB_int {b : BOp} {l : Sl} {x y : TV} : lowB b l [.v x, .v y] = l := by cases b <;> rfl
theorem lowB_id {b : BOp} {l : Sl} {os : List Od} (h : lowO 1 l os = l) : lowB b l os = l := by cases b <;> first | exact h | rfl
theorem a_subK {gs : List Int} {m t : Int} {r : Sl} {y : Od} {Q : TV → Sl → Prop} : qE (applyO .sub [.r 0, y] (deckT gs m t :: r)) Q = ∃ d, subD (deckT gs m t).d (y.d (deckT gs m t :: r)) = some d ∧ (d.isM = true → 2 ≤ 1) ∧ Q ⟨0, d⟩ (deckT gs m t :: r) := a_subD rfl
theorem set_turns0 {gs : List Int} {m t t' : Int} {r : Sl} {a : Nat} : setK (deckT gs m t :: r) 0 (.str "turns") ⟨a, .int t'⟩ = .nx (deckT gs m t' :: r) := set_turns rfl
theorem set_turns1 {gs : List Int} {m t t' : Int} {r : Sl} {v : TV} (h : v.d = .int t') : setK (deckT gs m t :: r) 0 (.str "turns") v = .nx (deckT gs m t' :: r) := by
  obtain ⟨a, d⟩ := v
  simp only at h
  subst h
  exact set_turns rfl
/-- what a draw gives -/
def DrawQ (m many : Int) (v : TV) (as : List TV) : Prop := ∃ i gs' t', v = ⟨0, .int i⟩ ∧ (0 ≤ i ∧ (2 ≤ many → i < many) ∧ (many < 2 → i = 0)) ∧ as = [deckT gs' m t', ⟨0, .int many⟩] ∧ Good gs'
theorem snoc_map {gs : List Int} {g : Int} : (gs ++ [g]).map D.int = gs.map D.int ++ [D.int g] := by simp
set_option maxHeartbeats 1000000 in
theorem draw356 {P : Nat → Option FD} {n : Nat} {gs : List Int} {m t many : Int} (hP : P 356 = some f356) (G : Good gs) (hm : 0 ≤ m ∧ m < 4294967296) (h : many < 1073741824) :
    qC (evCall P (n + 1) 356 [deckT gs m t, ⟨0, .int many⟩]) (DrawQ m many) := by
  refine qC_of hP rfl rfl ?_
  show qS (evSs _ _ _ b356 [deckT gs m t, ⟨0, .int many⟩, ⟨0, .un⟩, ⟨0, .un⟩]) _
  unfold b356
  refine q_cons fun N hN => ?_
  by_cases h2 : many < 2
  · simp [w_oe, w_retv, h2, w_scons]
    exact ⟨0, gs, t, rfl, ⟨by omega, fun _ => by omega, fun _ => rfl⟩, rfl, G⟩
  · have h3 : 0 < many := by omega
    simp [w_oe, h2]
    refine hN _ ?_
    clear hN N
    refine q_cons fun N hN => ?_
    simp [w_oe, inL_deck, ne_ints]
    by_cases he : gs = []
    · left
      refine ⟨he, hN _ ?_⟩
      clear hN N
      refine q_cons fun N hN => ?_
      simp [w_oe, a_subK, sub_turns, sub_mixed, set_turns0]
      refine hN _ ?_
      clear hN N
      refine q_cons fun N hN => ?_
      simp [w_oe, a_subK, sub_turns, sub_mixed, mul_l, b_mod, lowF]
      refine hN _ ?_
      clear hN N
      refine q_cons fun N hN => ?_
      generalize hx : (m + 2654435761 * (t + 1)) % 4294967279 = x
      have hb := emod_b (x := m + 2654435761 * (t + 1)) (c := 4294967279) (by decide) (by decide)
      rw [hx] at hb
      simp [w_oe, a_subK, sub_turns, sub_mixed, mul_l, b_mod, lowF, lowB, lowO, hb]
      refine hN _ ?_
      clear hN N
      refine q_cons fun N hN => ?_
      generalize hy : (x * x + 40692 * (t + 1) + 23) % 4294967231 = y
      have hc := emod_b (x := x * x + 40692 * (t + 1) + 23) (c := 4294967231) (by decide) (by decide)
      rw [hy] at hc
      simp [w_oe, a_subK, sub_turns, sub_mixed, mul_l, mul_r, b_mod, lowF, lowB, lowO, hc, hm]
      refine hN _ ?_
      clear hN N
      refine q_cons fun N hN => ?_
      generalize hz : (y * y + m * 11) % 4294967197 = z
      have hz0 : 0 ≤ z := by rw [← hz]; exact Int.emod_nonneg _ (by decide)
      simp [w_oe, w_retv, b_mod, b_fdiv, lowF, lowB, h3]
      exact ⟨z / 64 % many, gs, t + 1, rfl, ⟨Int.emod_nonneg _ (by omega), fun _ => Int.emod_lt_of_pos _ h3, fun q => absurd q h2⟩, rfl, G⟩
    · right
      refine ⟨he, ?_⟩
      have e1 : gs = gs.dropLast ++ [gs.getLast he] := (List.dropLast_concat_getLast he).symm
      have e2 : (gs.map D.int).getLast? = some (.int (gs.getLast he)) := by
        rw [List.getLast?_map, List.getLast?_eq_getLast he]; rfl
      have e3 : (gs.map D.int).dropLast = gs.dropLast.map D.int := by rw [List.map_dropLast]
      have gp : 0 ≤ gs.getLast he := G.pos _ (List.getLast_mem he)
      have gl := G.len
      have gd : ∀ g ∈ gs.dropLast, 0 ≤ g := fun g hg => G.pos g (List.dropLast_subset _ hg)
      have gn : gs.dropLast.length + 1 ≤ 63 := by
        have := List.length_pos_iff.mpr he
        rw [List.length_dropLast]; omega
      generalize gs.getLast he = g at *
      generalize gs.dropLast = ds at *
      refine q_cons fun N2 hN2 => ?_
      simp [w_oe, inL_deck, e2, outL_deck e3]
      refine hN2 _ ?_
      clear hN2 N2
      refine q_cons fun N2 hN2 => ?_
      have hsm : small (ds.length + 1) = true := decide_eq_true (by omega)
      by_cases hg : many ≤ g
      · simp [w_oe, hg, w_scons, inL_deck, flatV, h3, h, outL_deck (snoc_map (gs := ds) (g := g / many)).symm, hsm]
        refine hN2 _ ?_
        clear hN2 N2
        refine q_cons fun N2 hN2 => ?_
        simp [w_oe, w_retv, b_mod, lowF, h3]
        exact ⟨g % many, ds ++ [g / many], t, rfl, ⟨Int.emod_nonneg _ (by omega), fun _ => Int.emod_lt_of_pos _ h3, fun q => absurd q h2⟩, rfl, fun x hx => by
          rcases List.mem_append.mp hx with hx | hx
          · exact gd x hx
          · obtain rfl : x = g / many := by simpa using hx
            exact Int.ediv_nonneg gp (by omega), by simpa using gn⟩
      · simp [w_oe, hg, w_scons]
        refine hN2 _ ?_
        clear hN2 N2
        refine q_cons fun N2 hN2 => ?_
        simp [w_oe, w_retv, b_mod, lowF, h3]
        exact ⟨g % many, ds, t, rfl, ⟨Int.emod_nonneg _ (by omega), fun _ => Int.emod_lt_of_pos _ h3, fun q => absurd q h2⟩, rfl, gd, by omega⟩
theorem rb356 {P : Nat → Option FD} (hP : P 356 = some f356) : rbP P 356 = f356.reb := by
  funext p
  unfold rbP
  rw [hP]
theorem reb356 : f356.reb 0 = false ∧ f356.reb 1 = false := ⟨rfl, rfl⟩
theorem ix_pos {n : Nat} {i : Int} (h : 0 ≤ i) (h2 : i < n) : ixN n i = some i.toNat := by
  unfold ixN
  rw [if_pos h, if_pos h2]
/-- what a pick gives -/
def PickQ (m : Int) (xs : List D) (row : TV) (v : TV) (as : List TV) : Prop := ∃ x gs' t', x ∈ xs ∧ v = ⟨0, x⟩ ∧ as = [deckT gs' m t', row] ∧ Good gs'
set_option maxHeartbeats 1000000 in
theorem pick357 {P : Nat → Option FD} {n : Nat} {gs : List Int} {m t : Int} {xs : List D} {row : TV} (hP : P 356 = some f356) (hQ : P 357 = some f357) (G : Good gs) (hm : 0 ≤ m ∧ m < 4294967296)
    (hr : row.d = .lst xs ∨ row.d = .tup xs) (ht : row.t ≤ 1) (h1 : xs ≠ []) (h2 : xs.length ≤ 1000000) : qC (evCall P (n + 2) 357 [deckT gs m t, row]) (PickQ m xs row) := by
  refine qC_of hQ rfl rfl ?_
  show qS (evSs _ _ _ b357 [deckT gs m t, row]) _
  unfold b357
  refine q_cons fun N hN => ?_
  have hu : row.d.isUn = false := by rcases hr with h | h <;> rw [h] <;> rfl
  have hl : b1D .len row.d = some ⟨0, .int xs.length⟩ := by rcases hr with h | h <;> rw [h] <;> rfl
  have hs : seqOf row.d = some xs := by rcases hr with h | h <;> rw [h] <;> rfl
  have hp : 0 < xs.length := List.length_pos_iff.mpr h1
  simp [w_oe, w_retv, hu, hl, lowF, a_call, rb356 hP, lowR, onceO, rebOk, takeO, reb356]
  refine qC_mono (draw356 hP G hm (by omega)) ?_
  rintro v as ⟨i, gs', t', rfl, ⟨i0, i1, i2⟩, rfl, G'⟩
  have hi : i < xs.length := by
    by_cases h : 2 ≤ (xs.length : Int)
    · exact i1 h
    · have := i2 (by omega)
      omega
  have hk : i.toNat < xs.length := by omega
  simp only [backO]
  have hb : (if (gt [deckT gs m t, row] 0).t = 0 then [deckT gs m t, row] else st [deckT gs m t, row] 0 (deckT gs' m t')) = [deckT gs' m t', row] := rfl
  rw [hb, a_subL (xs := xs) (by exact hs)]
  have hlow : ∀ d, lowSub [deckT gs' m t', row] (.r 1) d = [deckT gs' m t', row] := fun d => by
    show (if d.isM then low [deckT gs' m t', row] 1 1 else [deckT gs' m t', row]) = _
    split
    · exact low_id (l := [deckT gs' m t', row]) (i := 1) (n := 1) ht
    · rfl
  refine ⟨i, i.toNat, xs[i.toNat], rfl, ix_pos i0 hi, List.getElem?_eq_getElem hk, ?_⟩
  rw [hlow]
  exact ⟨xs[i.toNat], gs', t', List.getElem_mem hk, rfl, rfl, G'⟩
end DL
end

section
set_option Elab.async false
set_option linter.all false
set_option maxRecDepth 100000
namespace DL
open PySem
theorem set_mixed1 {gs : List Int} {m t m' : Int} {a0 : TV} {r : Sl} {v : TV} (h : v.d = .int m') : setK (a0 :: deckT gs m t :: r) 1 (.str "mixed") v = .nx (a0 :: deckT gs m' t :: r) := by
  obtain ⟨a, d⟩ := v
  simp only at h
  subst h
  rfl
theorem a_subD1 {gs : List Int} {m t : Int} {a0 : TV} {r : Sl} {y : Od} {Q : TV → Sl → Prop} : qE (applyO .sub [.r 1, y] (a0 :: deckT gs m t :: r)) Q = ∃ d, subD (deckT gs m t).d (y.d (a0 :: deckT gs m t :: r)) = some d ∧ (d.isM = true → 2 ≤ 1) ∧ Q ⟨0, d⟩ (a0 :: deckT gs m t :: r) := a_subD rfl
theorem cut_take {α : Type} (xs : List α) (k : Nat) : cut xs none (some (k : Int)) = xs.take k := by
  unfold cut cutIx
  simp only
  rw [if_neg (by omega)]
  simp only [List.drop_zero, Nat.sub_zero, Int.toNat_natCast]
  by_cases h : k ≤ xs.length
  · rw [Nat.min_eq_left h]
  · rw [Nat.min_eq_right (by omega), List.take_of_length_le (Nat.le_refl _), List.take_of_length_le (by omega)]
theorem sl63 (is : List Int) (h : is.length ≤ 63) : slcD (.lst (is.map D.int)) none (some 63) = some ⟨1, .lst (is.map D.int)⟩ := by
  show some (TV.mk 1 (.lst (cut (is.map D.int) none (some ((63 : Nat) : Int))))) = _
  rw [cut_take, List.take_of_length_le (by simpa using h)]
@[simp] theorem b_abs {j : Int} : b1D .abs (.int j) = some ⟨0, .int (if j < 0 then -j else j)⟩ := rfl
@[simp] theorem b_ibl {b : Bool} : b1D .int (.bl b) = some ⟨0, .int (if b then 1 else 0)⟩ := rfl
@[simp] theorem b_pow16 : binD .pow (.int 10) (.int 16) = some ⟨0, .int 10000000000000000⟩ := by rfl
def DeckQ (script : TV) (v : TV) (as : List TV) : Prop := ∃ gs m t, v = deckT gs m t ∧ Good gs ∧ (0 ≤ m ∧ m < 4294967296) ∧ as = [script]
set_option maxHeartbeats 1000000 in
theorem deck355 {P : Nat → Option FD} {n : Nat} {is : List Int} (hP : P 355 = some f355) (h : is.length ≤ 63) : qC (evCall P (n + 1) 355 [⟨0, .lst (is.map D.int)⟩]) (DeckQ ⟨0, .lst (is.map D.int)⟩) := by
  refine qC_of hP rfl rfl ?_
  show qS (evSs _ _ _ b355 [⟨0, .lst (is.map D.int)⟩, ⟨0, .un⟩, ⟨0, .un⟩, ⟨0, .un⟩]) _
  unfold b355
  have hlen : b1D .len (.lst (is.map D.int)) = some ⟨0, .int is.length⟩ := by
    show some (TV.mk 0 (.int ((is.map D.int).length : Nat))) = _
    rw [List.length_map]
  have hu : (D.lst (is.map D.int)).isUn = false := rfl
  refine q_cons fun N hN => ?_
  simp [w_oe, w_retv, hu, sl63 is h, hlen, lowO, lowF, lowB]
  refine ⟨rfl, ?_⟩
  show qE (.ok (deckT [] (1752301 + (is.length : Int)) 0) [⟨0, .lst (is.map D.int)⟩, ⟨0, .un⟩, ⟨0, .un⟩, ⟨0, .un⟩]) _
  rw [qE_ok]
  show N [⟨0, .lst (is.map D.int)⟩, deckT [] (1752301 + (is.length : Int)) 0, ⟨0, .un⟩, ⟨0, .un⟩]
  refine hN _ ?_
  clear hN N
  refine q_cons fun N hN => ?_
  rw [w_forr]
  simp [w_oe, hu, sl63 is h, lowO, seqOf]
  refine q_for (fun xs l => ∃ js gs m a b, xs = js.map D.int ∧ l = [⟨0, .lst (is.map D.int)⟩, deckT gs m 0, a, b] ∧ (∀ g ∈ gs, 0 ≤ g) ∧ gs.length + js.length ≤ 63 ∧ 0 ≤ m ∧ m < 4294967296) _ _ ⟨is, [], _, _, _, rfl, rfl, by simp, by simpa using h, by omega, by omega⟩ ?_ ?_
  · rintro x r l ⟨js, gs, m, a, b, e, rfl, g1, g2, m1, m2⟩
    obtain ⟨j, js, rfl, rfl, rfl⟩ : ∃ j js', js = j :: js' ∧ x = .int j ∧ r = js'.map D.int := by
      cases js with
      | nil => cases e
      | cons j js' => cases e; exact ⟨j, js', rfl, rfl, rfl⟩
    show qS (evSs _ _ _ _ [⟨0, .lst (is.map D.int)⟩, deckT gs m 0, ⟨0, .int j⟩, b]) _
    refine q_cons fun N1 hN1 => ?_
    simp [w_oe, mul_l, lowF, lowB, lowO]
    have rest : ∀ own : Int, 0 ≤ own → N1 [⟨0, .lst (is.map D.int)⟩, deckT gs m 0, ⟨0, .int j⟩, ⟨0, .int own⟩] := fun own ho => by
      refine hN1 _ ?_
      clear hN1 N1
      refine q_cons fun N1 hN1 => ?_
      have fin : ∀ gs2 : List Int, (∀ g ∈ gs2, 0 ≤ g) → gs2.length + js.length ≤ 63 → N1 [⟨0, .lst (is.map D.int)⟩, deckT gs2 m 0, ⟨0, .int j⟩, ⟨0, .int own⟩] := fun gs2 h1 h2 => by
        refine hN1 _ ?_
        clear hN1 N1
        refine q_cons fun N1 hN1 => ?_
        simp [w_oe, a_subD1, sub_mixed, mul_r, b_mod, lowF, lowB, lowO, set_mixed1]
        refine hN1 _ ?_
        rw [w_snil]
        exact ⟨js, gs2, _, _, _, rfl, rfl, h1, h2, Int.emod_nonneg _ (by decide), by have := Int.emod_lt_of_pos (m * 69621 + own + 29) (show (0:Int) < 4294967291 by decide); omega⟩
      have g3 : gs.length + js.length + 1 ≤ 63 := by simpa [Nat.add_assoc] using g2
      by_cases hb : 10000000000000000 ≤ own
      · simp [w_oe, w_scons, inL_deck, flatV, hb, outL_deck (snoc_map (gs := gs) (g := own)).symm]
        refine ⟨decide_eq_true (by omega), fin _ (fun g hg => ?_) (by simp; omega)⟩
        rcases List.mem_append.mp hg with hg | hg
        · exact g1 g hg
        · obtain rfl : g = own := by simpa using hg
          exact ho
      · simp [w_oe, w_scons, hb]
        exact fin gs g1 (by omega)
    by_cases hj : j < 0
    · right
      refine ⟨hj, ?_⟩
      rw [if_pos hj]
      exact rest _ (by omega)
    · left
      refine ⟨by omega, ?_⟩
      rw [if_neg hj]
      exact rest _ (by omega)
  · rintro l ⟨js, gs, m, a, b, e, rfl, g1, g2, m1, m2⟩
    refine hN _ ?_
    clear hN N
    refine q_cons fun N hN => ?_
    simp
    exact ⟨gs, m, 0, rfl, ⟨g1, by omega⟩, ⟨m1, m2⟩, rfl⟩
end DL
end

section
set_option Elab.async false
set_option linter.all false
set_option maxRecDepth 100000
namespace DL
open PySem
def isWhole (v : D) (lo hi : Int) : Bool := match v with | .int i => decide (lo ≤ i) && decide (i ≤ hi) | _ => false
def noDt : D → Bool
  | .dct true _ => false
  | .un => false
  | _ => true
theorem a_isi {ty : Ty} {x : Od} {l : Sl} {Q : TV → Sl → Prop} (h : noDt (x.d l) = true) : qE (applyO (.isi ty) [x] l) Q = Q ⟨0, .bl (tyD ty (x.d l))⟩ l := by
  show qE (match x.d l with | .dct true _ => .no | d => .ok ⟨0, .bl (tyD ty d)⟩ l) Q = _
  cases hd : x.d l with
  | dct tk kvs => cases tk with
    | true => rw [hd] at h; cases h
    | false => simp only [qE_ok]
  | _ => simp only [qE_ok]
theorem noDt_un {d : D} (h : noDt d = true) : d.isUn = false := by cases d <;> first | rfl | cases h
@[simp] theorem w_chain {cl : Nat → List TV → RC} {rb : Nat → Nat → Bool} {l : Sl} {Q : TV → Sl → Prop} {o o2 : COp} {a b c : E} : qE (evE cl rb (.chain o o2 a b c) l) Q = qO (opd a (evE cl rb a) l) fun x l1 => qO (opd b (evE cl rb b) l1) fun y l2 => midOk y = true ∧
      qE (applyO (.cmp o) (x ++ y) l2) fun v l3 => ∃ k, v.d = .bl k ∧ ((k = false → Q ⟨0, .bl false⟩ l3) ∧ (k = true → qO (opd c (evE cl rb c) l3) fun z l4 => qE (applyO (.cmp o2) (y ++ z) l4) Q)) := by
  simp only [evE, qO_bnd]
  congr 1
  funext x l1
  congr 1
  funext y l2
  cases hm : midOk y with
  | false => simp
  | true =>
    simp only [if_true, true_and, qE_bnd]
    congr 1
    funext v l3
    cases v.d with
    | bl b => cases b <;> simp [qO_bnd]
    | _ => simp
/-- a def that hands its arguments back as they came -/
theorem outs_same {fd : FD} : ∀ (p : Nat) (pre args r : List TV), (∀ x ∈ args, x.t = 0) → pre.length = p → outs fd (pre ++ args ++ r) p args = args
  | p, pre, [], r, _, _ => rfl
  | p, pre, x :: args, r, h, e => by
    have hx : x.t = 0 := h x (by simp)
    have h1 : gt (pre ++ x :: args ++ r) p = x := by
      unfold gt
      rw [List.getD_eq_getElem?_getD, List.append_assoc, List.getElem?_append_right (by omega), e]
      simp
    have ih := outs_same (fd := fd) (p + 1) (pre ++ [x]) args r (fun y hy => h y (by simp [hy])) (by simp [e])
    simp only [List.append_assoc, List.cons_append, List.nil_append] at ih h1 ⊢
    simp only [outs, ih, h1]
    split
    · obtain ⟨t, d⟩ := x
      simp only at hx
      subst hx
      rfl
    · rfl
set_option maxHeartbeats 1000000 in
theorem whole351 {P : Nat → Option FD} {n : Nat} {v : D} {lo hi : Int} {Q : TV → List TV → Prop} (hP : P 351 = some f351) (hv : noDt v = true) (hQ : Q ⟨0, .bl (isWhole v lo hi)⟩ [⟨0, v⟩, ⟨0, .int lo⟩, ⟨0, .int hi⟩]) :
    qC (evCall P (n + 1) 351 [⟨0, v⟩, ⟨0, .int lo⟩, ⟨0, .int hi⟩]) Q := by
  refine qC_of hP rfl rfl ?_
  show qS (evSs _ _ _ b351 [⟨0, v⟩, ⟨0, .int lo⟩, ⟨0, .int hi⟩]) _
  unfold b351
  refine q_cons fun N hN => ?_
  have hu := noDt_un hv
  have ho : outs f351 [⟨0, v⟩, ⟨0, .int lo⟩, ⟨0, .int hi⟩] 0 [⟨0, v⟩, ⟨0, .int lo⟩, ⟨0, .int hi⟩] = [⟨0, v⟩, ⟨0, .int lo⟩, ⟨0, .int hi⟩] := outs_same (fd := f351) 0 [] [⟨0, v⟩, ⟨0, .int lo⟩, ⟨0, .int hi⟩] [] (fun x hx => by rcases List.mem_cons.mp hx with rfl | hx; rfl; rcases List.mem_cons.mp hx with rfl | hx; rfl; rcases List.mem_cons.mp hx with rfl | hx; rfl; cases hx) rfl
  simp only [w_retv, reduceCtorEq, ne_eq, not_false_eq_true, implies_true]
  clear hN
  cases v with
  | int i =>
    by_cases h1 : lo ≤ i <;> by_cases h2 : i ≤ hi <;> simp [isWhole, h1, h2] at hQ <;> simp [w_oe, hu, a_isi, hv, midOk, tyD, h1, h2, ho, hQ]
  | _ => simp [isWhole] at hQ; first | (simp [w_oe, hu, a_isi, hv, midOk, tyD, ho, hQ]; done) | (cases hv)
end DL
end

section
set_option Elab.async false
set_option linter.all false
set_option maxRecDepth 100000
namespace DL
open PySem
mutual
/-- a value as the laws meet them: no dict with tuples as keys -/
def D.ok : D → Bool
  | .un => false
  | .tup xs => oks xs
  | .lst xs => oks xs
  | .dct tk kvs => !tk && okk kvs
  | _ => true
def oks : List D → Bool
  | [] => true
  | x :: r => x.ok && oks r
def okk : List (D × D) → Bool
  | [] => true
  | (_, v) :: r => v.ok && okk r
end
theorem ok_noDt {d : D} (h : d.ok = true) : noDt d = true := by
  cases d with
  | dct tk kvs => cases tk with
    | true => simp [D.ok] at h
    | false => rfl
  | un => simp [D.ok] at h
  | _ => rfl
theorem ok_un {d : D} (h : d.ok = true) : d.isUn = false := noDt_un (ok_noDt h)
theorem oks_mem : ∀ {xs : List D} {x : D}, oks xs = true → x ∈ xs → x.ok = true
  | y :: r, x, h, m => by
    simp only [oks, Bool.and_eq_true] at h
    rcases List.mem_cons.mp m with rfl | m
    · exact h.1
    · exact oks_mem h.2 m
def rowOk (first : D) (r : D) : Bool := match r with
  | .tup xs => decide (1 ≤ xs.length) && decide (xs.length ≤ 4) && (match first with | .tup ys => decide (xs.length = ys.length) | _ => false)
  | _ => false
def isSq (v : D) : Bool := match v with
  | .tup rows => decide (1 ≤ rows.length) && decide (rows.length ≤ 7) && rows.all (rowOk (rows.headD .un))
  | _ => false
@[simp] theorem b_len {xs : List D} : b1D .len (.tup xs) = some ⟨0, .int xs.length⟩ := rfl
@[simp] theorem un_tup {xs : List D} : (D.tup xs).isUn = false := rfl
@[simp] theorem c_ne {i j : Int} : cmpD .ne (.int i) (.int j) = some (!(i == j)) := rfl
@[simp] theorem c_eq {i j : Int} : cmpD .eq (.int i) (.int j) = some (i == j) := rfl
theorem a_sub0 {x : D} {xs : List D} {r : Sl} {Q : TV → Sl → Prop} (h : x.isM = false) : qE (applyO .sub [.r 0, .v ⟨0, .int 0⟩] (⟨0, .tup (x :: xs)⟩ :: r)) Q = Q ⟨0, x⟩ (⟨0, .tup (x :: xs)⟩ :: r) := by
  have e : (subD (Od.d (⟨0, .tup (x :: xs)⟩ :: r) (.r 0)) (Od.d (⟨0, .tup (x :: xs)⟩ :: r) (.v ⟨0, .int 0⟩))) = some x := by
    show ((ixN (x :: xs).length 0).bind fun k => (x :: xs)[k]?) = some x
    have : ixN (x :: xs).length 0 = some 0 := ix_pos (by decide) (by simp)
    rw [this]; rfl
  show qE (match subD (Od.d (⟨0, .tup (x :: xs)⟩ :: r) (.r 0)) (Od.d (⟨0, .tup (x :: xs)⟩ :: r) (.v ⟨0, .int 0⟩)) with
      | some d => if (Od.d (⟨0, .tup (x :: xs)⟩ :: r) (.r 0)).isD then _ else .ok ⟨0, d⟩ (lowSub (⟨0, .tup (x :: xs)⟩ :: r) (.r 0) d)
      | none => .no) Q = _
  rw [e]
  show qE (.ok ⟨0, x⟩ (lowSub (⟨0, .tup (x :: xs)⟩ :: r) (.r 0) x)) Q = _
  rw [qE_ok]
  show Q ⟨0, x⟩ (if x.isM then low (⟨0, .tup (x :: xs)⟩ :: r) 0 1 else (⟨0, .tup (x :: xs)⟩ :: r)) = _
  rw [h]; rfl
set_option maxHeartbeats 2000000 in
theorem square352 {P : Nat → Option FD} {n : Nat} {v : D} {Q : TV → List TV → Prop} (hP : P 352 = some f352) (hv : v.ok = true) (hQ : Q ⟨0, .bl (isSq v)⟩ [⟨0, v⟩]) : qC (evCall P (n + 1) 352 [⟨0, v⟩]) Q := by
  refine qC_of hP rfl rfl ?_
  show qS (evSs _ _ _ b352 [⟨0, v⟩, ⟨0, .un⟩]) _
  unfold b352
  have hu := ok_un hv
  have hd := ok_noDt hv
  have ho : ∀ x : TV, outs f352 [⟨0, v⟩, x] 0 [⟨0, v⟩] = [⟨0, v⟩] := fun x => outs_same (fd := f352) 0 [] [⟨0, v⟩] [x] (fun x hx => by rcases List.mem_cons.mp hx with rfl | hx; rfl; cases hx) rfl
  refine q_cons fun N hN => ?_
  by_cases ht : ∃ rows, v = .tup rows ∧ 1 ≤ rows.length ∧ rows.length ≤ 7
  · obtain ⟨rows, rfl, l1, l2⟩ := ht
    have l1' : (1 : Int) ≤ rows.length := by omega
    have l2' : (rows.length : Int) ≤ 7 := by omega
    simp [w_oe, a_isi, hd, tyD, midOk, lowF, l1, l2, l1', l2']
    refine hN _ ?_
    clear hN N
    refine q_cons fun N hN => ?_
    rw [w_forr]
    simp [w_oe, seqOf, lowO]
    obtain ⟨first, rest, rfl⟩ : ∃ a r, rows = a :: r := by
      cases rows with
      | nil => simp at l1
      | cons a r => exact ⟨a, r, rfl⟩
    have hf : isSq (.tup (first :: rest)) = (first :: rest).all (rowOk first) := by
      show (decide (1 ≤ (first :: rest).length) && decide ((first :: rest).length ≤ 7) && (first :: rest).all (rowOk first)) = _
      rw [decide_eq_true l1, decide_eq_true l2]; rfl
    rw [hf] at hQ
    have hoks : oks (first :: rest) = true := hv
    refine q_for (fun xs l => ∃ pre b, first :: rest = pre ++ xs ∧ pre.all (rowOk first) = true ∧ l = [⟨0, .tup (first :: rest)⟩, b]) _ _ ⟨[], _, rfl, rfl, rfl⟩ ?_ ?_
    · rintro x r l ⟨pre, b, e, hp, rfl⟩
      have hx : x.ok = true := oks_mem hoks (by rw [e]; simp)
      have hxd := ok_noDt hx
      have hxu := ok_un hx
      show qS (evSs _ _ _ _ [⟨0, .tup (first :: rest)⟩, ⟨0, x⟩]) _
      have bad : rowOk first x = false → ∀ z, Q ⟨0, .bl false⟩ (outs f352 [⟨0, .tup (first :: rest)⟩, z] 0 [⟨0, .tup (first :: rest)⟩]) := fun h z => by
        rw [ho z]
        have : (first :: rest).all (rowOk first) = false := by
          rw [e, List.all_append, List.all_cons, h]; simp
        rw [this] at hQ
        exact hQ
      refine q_cons fun N1 hN1 => ?_
      by_cases hxt : ∃ xs, x = .tup xs ∧ 1 ≤ xs.length ∧ xs.length ≤ 4
      · obtain ⟨xs, rfl, x1, x2⟩ := hxt
        have x1' : (1 : Int) ≤ xs.length := by omega
        have x2' : (xs.length : Int) ≤ 4 := by omega
        obtain ⟨ys, hy⟩ : ∃ ys, first = .tup ys := by
          cases pre with
          | nil => cases e; exact ⟨_, rfl⟩
          | cons p pre =>
            cases e
            simp only [List.all_cons, Bool.and_eq_true] at hp
            have := hp.1
            cases first with
            | tup ys => exact ⟨ys, rfl⟩
            | _ => simp [rowOk] at this
        subst hy
        have hym : (D.tup ys).isM = false := rfl
        by_cases hlen : xs.length = ys.length
        · have hlen' : (xs.length : Int) = ys.length := by omega
          have y1 : (1 : Int) ≤ ys.length := by omega
          have y2 : (ys.length : Int) ≤ 4 := by omega
          have y3 : 1 ≤ ys.length := by omega
          have y4 : ys.length ≤ 4 := by omega
          simp [w_oe, w_scons, a_isi, hxd, tyD, midOk, lowF, a_sub0 hym, hlen, hlen', y1, y2, y3, y4]
          refine hN1 _ ?_
          rw [w_snil]
          refine ⟨pre ++ [.tup xs], _, by rw [e]; simp, ?_, rfl⟩
          rw [List.all_append, hp]
          simp [rowOk, x1, x2, hlen]
          omega
        · have hlen' : ¬ (xs.length : Int) = ys.length := by omega
          simp [w_oe, w_scons, w_retv, a_isi, hxd, tyD, midOk, lowF, x1, x2, x1', x2', a_sub0 hym, hlen, hlen']
          exact bad (by simp [rowOk, hlen]) _
      · by_cases hx2 : ∃ xs, x = .tup xs
        · obtain ⟨xs, rfl⟩ := hx2
          have hno : ¬ (1 ≤ xs.length ∧ xs.length ≤ 4) := fun z => hxt ⟨xs, rfl, z.1, z.2⟩
          have hbad := bad (by simp [rowOk]; omega)
          by_cases x1 : 1 ≤ xs.length
          · have x2 : ¬ xs.length ≤ 4 := fun z => hno ⟨x1, z⟩
            have x1' : (1 : Int) ≤ xs.length := by omega
            have x2' : ¬ (xs.length : Int) ≤ 4 := by omega
            simp [w_oe, w_scons, w_retv, a_isi, hxd, tyD, midOk, lowF, x1, x2, x1', x2']
            exact hbad _
          · have x1' : ¬ (1 : Int) ≤ xs.length := by omega
            simp [w_oe, w_scons, w_retv, a_isi, hxd, tyD, midOk, lowF, x1, x1']
            exact hbad _
        · have hty : tyD .tuple x = false := by cases x <;> first | rfl | exact absurd ⟨_, rfl⟩ hx2
          simp [w_oe, w_scons, w_retv, a_isi, hxd, hxu, hty, midOk, lowF]
          exact bad (by cases x <;> first | rfl | exact absurd ⟨_, rfl⟩ hx2) _
    · rintro l ⟨pre, b, e, hp, rfl⟩
      refine hN _ ?_
      clear hN N
      refine q_cons fun N hN => ?_
      rw [List.append_nil] at e
      simp [w_oe, w_retv, ho]
      rw [e, hp] at hQ
      rw [← e] at hQ
      exact hQ
  · have hq : isSq v = false → Q ⟨0, .bl false⟩ (outs f352 [⟨0, v⟩, ⟨0, .un⟩] 0 [⟨0, v⟩]) := fun h => by rw [ho]; rw [h] at hQ; exact hQ
    by_cases hx2 : ∃ xs, v = .tup xs
    · obtain ⟨xs, rfl⟩ := hx2
      have hno : ¬ (1 ≤ xs.length ∧ xs.length ≤ 7) := fun z => ht ⟨xs, rfl, z.1, z.2⟩
      have hbad := hq (by simp [isSq]; omega)
      by_cases x1 : 1 ≤ xs.length
      · have x2 : ¬ xs.length ≤ 7 := fun z => hno ⟨x1, z⟩
        have x1' : (1 : Int) ≤ xs.length := by omega
        have x2' : ¬ (xs.length : Int) ≤ 7 := by omega
        simp [w_oe, w_scons, w_retv, a_isi, hd, tyD, midOk, lowF, x1, x2, x1', x2']
        exact hbad
      · have x1' : ¬ (1 : Int) ≤ xs.length := by omega
        simp [w_oe, w_scons, w_retv, a_isi, hd, tyD, midOk, lowF, x1, x1']
        exact hbad
    · have hty : tyD .tuple v = false := by cases v <;> first | rfl | exact absurd ⟨_, rfl⟩ hx2
      simp [w_oe, w_scons, w_retv, a_isi, hd, hu, hty, midOk, lowF]
      exact hq (by cases v <;> first | rfl | exact absurd ⟨_, rfl⟩ hx2)
end DL
end

section
set_option Elab.async false
set_option linter.all false
set_option maxRecDepth 100000
namespace DL
open PySem
def badAt (hi : Int) : Nat → List D → Option Nat
  | _, [] => none
  | k, x :: r => if isWhole x 0 hi then badAt hi (k + 1) r else some k
def errRows (hi : Int) : Nat → List D → D
  | _, [] => .non
  | k, .tup xs :: r => (match badAt hi 0 xs with | some j => .tup [.str "room", .int k, .int j] | none => errRows hi (k + 1) r)
  | k, _ :: r => errRows hi (k + 1) r
def machErr (v : D) : D := if isSq v then (match v with | .tup rows => errRows ((rows.length : Int) - 1) 0 rows | _ => .non) else .str "form"
theorem rb352 {P : Nat → Option FD} (hP : P 352 = some f352) : rbP P 352 = f352.reb := by funext p; unfold rbP; rw [hP]
theorem rb351 {P : Nat → Option FD} (hP : P 351 = some f351) : rbP P 351 = f351.reb := by funext p; unfold rbP; rw [hP]
theorem reb352 : f352.reb 0 = false := rfl
theorem reb351 : f351.reb 0 = false ∧ f351.reb 1 = false ∧ f351.reb 2 = false := ⟨rfl, rfl, rfl⟩
theorem isSq_tup {v : D} (h : isSq v = true) : ∃ rows, v = .tup rows ∧ ∀ r ∈ rows, ∃ xs, r = .tup xs := by
  cases v with
  | tup rows =>
    refine ⟨rows, rfl, fun r hr => ?_⟩
    simp only [isSq, Bool.and_eq_true, List.all_eq_true] at h
    have := h.2 r hr
    cases r with
    | tup xs => exact ⟨xs, rfl⟩
    | _ => simp [rowOk] at this
  | _ => simp [isSq] at h
set_option maxHeartbeats 2000000 in
theorem merr353 {P : Nat → Option FD} {n : Nat} {v : D} {Q : TV → List TV → Prop} (hP : P 353 = some f353) (h2 : P 352 = some f352) (h1 : P 351 = some f351) (hv : v.ok = true) (hQ : Q ⟨0, machErr v⟩ [⟨0, v⟩]) : qC (evCall P (n + 2) 353 [⟨0, v⟩]) Q := by
  refine qC_of hP rfl rfl ?_
  show qS (evSs _ _ _ b353 [⟨0, v⟩, ⟨0, .un⟩, ⟨0, .un⟩, ⟨0, .un⟩, ⟨0, .un⟩]) _
  unfold b353
  have hu := ok_un hv
  have hd := ok_noDt hv
  have ho : ∀ r : List TV, outs f353 (⟨0, v⟩ :: r) 0 [⟨0, v⟩] = [⟨0, v⟩] := fun r => outs_same (fd := f353) 0 [] [⟨0, v⟩] r (fun x hx => by rcases List.mem_cons.mp hx with rfl | hx; rfl; cases hx) rfl
  refine q_cons fun N hN => ?_
  simp [w_oe, w_scons, w_retv, hu, a_call, rb352 h2, lowR, onceO, rebOk, takeO, reb352]
  refine square352 h2 hv ?_
  by_cases hs : isSq v = true
  · simp [backO, hs]
    refine hN _ ?_
    clear hN N
    obtain ⟨rows, rfl, hrows⟩ := isSq_tup hs
    refine q_cons fun N hN => ?_
    rw [w_forr]
    simp [w_oe, seqOf, lowO]
    have hm : machErr (.tup rows) = errRows ((rows.length : Int) - 1) 0 rows := by unfold machErr; rw [hs]; rfl
    rw [hm] at hQ
    generalize hhi : (rows.length : Int) - 1 = hi at hQ
    generalize hW : errRows hi 0 rows = W at hQ
    have hoks : oks rows = true := hv
    refine q_for (fun xs l => ∃ k rs a b c d, xs = enumL k rs ∧ errRows hi k rs = W ∧ (∀ r ∈ rs, r ∈ rows) ∧ l = [⟨0, .tup rows⟩, a, b, c, d]) _ _ ⟨0, rows, _, _, _, _, rfl, hW, fun _ h => h, rfl⟩ ?_ ?_
    · rintro x r l ⟨k, rs, a, b, c, d, e, hw, hin, rfl⟩
      obtain ⟨y, rs, rfl, rfl, rfl⟩ : ∃ y rs', rs = y :: rs' ∧ x = .tup [.int k, y] ∧ r = enumL (k + 1) rs' := by
        cases rs with
        | nil => cases e
        | cons y rs' => cases e; exact ⟨y, rs', rfl, rfl, rfl⟩
      obtain ⟨ys, rfl⟩ := hrows y (hin y (by simp))
      have hys : oks ys = true := oks_mem (x := .tup ys) hoks (hin _ (by simp))
      show qS (evSs _ _ _ _ [⟨0, .tup rows⟩, ⟨0, .int k⟩, ⟨0, .tup ys⟩, c, d]) _
      refine q_cons fun N1 hN1 => ?_
      rw [w_forr]
      simp [w_oe, seqOf, lowO]
      refine q_for (fun xs l => ∃ j zs c d, xs = enumL j zs ∧ badAt hi j zs = badAt hi 0 ys ∧ (∀ z ∈ zs, z ∈ ys) ∧ l = [⟨0, .tup rows⟩, ⟨0, .int k⟩, ⟨0, .tup ys⟩, c, d]) _ _ ⟨0, ys, _, _, rfl, rfl, fun _ h => h, rfl⟩ ?_ ?_
      · rintro x r l ⟨j, zs, c, d, e, hb, hzs, rfl⟩
        obtain ⟨z, zs, rfl, rfl, rfl⟩ : ∃ z zs', zs = z :: zs' ∧ x = .tup [.int j, z] ∧ r = enumL (j + 1) zs' := by
          cases zs with
          | nil => cases e
          | cons y rs' => cases e; exact ⟨y, rs', rfl, rfl, rfl⟩
        have hz : z.ok = true := oks_mem hys (hzs z (by simp))
        have hzu := ok_un hz
        show qS (evSs _ _ _ _ [⟨0, .tup rows⟩, ⟨0, .int k⟩, ⟨0, .tup ys⟩, ⟨0, .int j⟩, ⟨0, z⟩]) _
        refine q_cons fun N2 hN2 => ?_
        simp [w_oe, w_scons, w_retv, hzu, lowF, lowB, lowO, a_call, rb351 h1, lowR, onceO, rebOk, takeO, reb351]
        rw [hhi]
        refine whole351 h1 (ok_noDt hz) ?_
        simp only [badAt] at hb
        by_cases hw1 : isWhole z 0 hi = true
        · simp [backO, hw1]
          refine hN2 _ ?_
          rw [w_snil]
          rw [hw1] at hb
          exact ⟨j + 1, zs, _, _, rfl, hb, fun q hq => hzs q (by simp [hq]), rfl⟩
        · have hw2 : isWhole z 0 hi = false := by simpa using hw1
          simp [backO, hw2, small, ho]
          rw [hw2] at hb
          have hw3 : W = .tup [.str "room", .int k, .int j] := by
            rw [← hw]
            show (match badAt hi 0 ys with | some j => D.tup [.str "room", .int k, .int j] | none => errRows hi (k + 1) rs) = _
            rw [← hb]; rfl
          rw [hw3] at hQ
          exact hQ
      · rintro l ⟨j, zs, c, d, e, hb, hzs, rfl⟩
        refine hN1 _ ?_
        rw [w_snil]
        have hz0 : zs = [] := by cases zs with | nil => rfl | cons _ _ => cases e
        subst hz0
        refine ⟨k + 1, rs, _, _, _, _, rfl, ?_, fun q hq => hin q (by simp [hq]), rfl⟩
        rw [← hw]
        show errRows hi (k + 1) rs = (match badAt hi 0 ys with | some j => .tup [.str "room", .int k, .int j] | none => errRows hi (k + 1) rs)
        rw [← hb]; rfl
    · rintro l ⟨k, rs, a, b, c, d, e, hw, hin, rfl⟩
      refine hN _ ?_
      have hz0 : rs = [] := by cases rs with | nil => rfl | cons _ _ => cases e
      subst hz0
      refine q_cons fun N hN => ?_
      simp [w_oe, w_retv, ho]
      rw [← hw] at hQ
      exact hQ
  · have hs' : isSq v = false := by simpa using hs
    simp [backO, hs', ho]
    have : machErr v = .str "form" := by unfold machErr; rw [hs']; rfl
    rw [this] at hQ
    exact hQ
end DL
end

section
set_option Elab.async false
set_option linter.all false
set_option maxRecDepth 100000
namespace DL
open PySem
def wordErr (k : Int) (v : D) : D := match v with
  | .tup xs => if xs.length ≤ 200 then (match badAt (k - 1) 0 xs with | some j => .tup [.str "letter", .int j] | none => .non) else .str "form"
  | _ => .str "form"
set_option maxHeartbeats 2000000 in
theorem werr354 {P : Nat → Option FD} {n : Nat} {v : D} {r0 rest : List D} {Q : TV → List TV → Prop} (hP : P 354 = some f354) (h1 : P 351 = some f351) (hv : v.ok = true)
    (hQ : Q ⟨0, wordErr r0.length v⟩ [⟨0, .tup (.tup r0 :: rest)⟩, ⟨0, v⟩]) : qC (evCall P (n + 2) 354 [⟨0, .tup (.tup r0 :: rest)⟩, ⟨0, v⟩]) Q := by
  refine qC_of hP rfl rfl ?_
  show qS (evSs _ _ _ b354 [⟨0, .tup (.tup r0 :: rest)⟩, ⟨0, v⟩, ⟨0, .un⟩, ⟨0, .un⟩]) _
  unfold b354
  have hu := ok_un hv
  have hd := ok_noDt hv
  have hym : (D.tup r0).isM = false := rfl
  have ho : ∀ r : List TV, outs f354 (⟨0, .tup (.tup r0 :: rest)⟩ :: ⟨0, v⟩ :: r) 0 [⟨0, .tup (.tup r0 :: rest)⟩, ⟨0, v⟩] = [⟨0, .tup (.tup r0 :: rest)⟩, ⟨0, v⟩] := fun r => outs_same (fd := f354) 0 [] [⟨0, .tup (.tup r0 :: rest)⟩, ⟨0, v⟩] r (fun x hx => by rcases List.mem_cons.mp hx with rfl | hx; rfl; rcases List.mem_cons.mp hx with rfl | hx; rfl; cases hx) rfl
  refine q_cons fun N hN => ?_
  by_cases ht : ∃ xs, v = .tup xs
  · obtain ⟨xs, rfl⟩ := ht
    by_cases hl : xs.length ≤ 200
    · have hl' : ¬ (200 : Int) < xs.length := by omega
      have hl2 : ¬ 200 < xs.length := by omega
      simp [w_oe, w_scons, a_isi, hd, tyD, lowF, hl, hl', hl2]
      refine hN _ ?_
      clear hN N
      refine q_cons fun N hN => ?_
      rw [w_forr]
      simp [w_oe, seqOf, lowO]
      generalize hhi : (r0.length : Int) - 1 = hi
      have hxs : oks xs = true := hv
      refine q_for (fun ys l => ∃ j zs c d, ys = enumL j zs ∧ badAt hi j zs = badAt hi 0 xs ∧ (∀ z ∈ zs, z ∈ xs) ∧ l = [⟨0, .tup (.tup r0 :: rest)⟩, ⟨0, .tup xs⟩, c, d]) _ _ ⟨0, xs, _, _, rfl, rfl, fun _ h => h, rfl⟩ ?_ ?_
      · rintro x r l ⟨j, zs, c, d, e, hb, hzs, rfl⟩
        obtain ⟨z, zs, rfl, rfl, rfl⟩ : ∃ z zs', zs = z :: zs' ∧ x = .tup [.int j, z] ∧ r = enumL (j + 1) zs' := by
          cases zs with
          | nil => cases e
          | cons y rs' => cases e; exact ⟨y, rs', rfl, rfl, rfl⟩
        have hz : z.ok = true := oks_mem hxs (hzs z (by simp))
        have hzu := ok_un hz
        show qS (evSs _ _ _ _ [⟨0, .tup (.tup r0 :: rest)⟩, ⟨0, .tup xs⟩, ⟨0, .int j⟩, ⟨0, z⟩]) _
        refine q_cons fun N2 hN2 => ?_
        simp [w_oe, w_scons, w_retv, hzu, lowF, lowB, lowO, a_call, rb351 h1, lowR, onceO, rebOk, takeO, reb351, a_sub0 hym]
        rw [hhi]
        refine whole351 h1 (ok_noDt hz) ?_
        simp only [badAt] at hb
        by_cases hw1 : isWhole z 0 hi = true
        · simp [backO, hw1]
          refine hN2 _ ?_
          rw [w_snil]
          rw [hw1] at hb
          exact ⟨j + 1, zs, _, _, rfl, hb, fun q hq => hzs q (by simp [hq]), rfl⟩
        · have hw2 : isWhole z 0 hi = false := by simpa using hw1
          simp [backO, hw2, small, ho]
          rw [hw2] at hb
          have hw3 : wordErr r0.length (.tup xs) = .tup [.str "letter", .int j] := by
            show (if xs.length ≤ 200 then (match badAt ((r0.length : Int) - 1) 0 xs with | some j => D.tup [.str "letter", .int j] | none => .non) else .str "form") = _
            rw [if_pos hl, hhi, ← hb]; rfl
          rw [hw3] at hQ
          exact hQ
      · rintro l ⟨j, zs, c, d, e, hb, hzs, rfl⟩
        refine hN _ ?_
        have hz0 : zs = [] := by cases zs with | nil => rfl | cons _ _ => cases e
        subst hz0
        refine q_cons fun N hN => ?_
        simp [w_oe, w_retv, ho]
        have hw3 : wordErr r0.length (.tup xs) = .non := by
          show (if xs.length ≤ 200 then (match badAt ((r0.length : Int) - 1) 0 xs with | some j => D.tup [.str "letter", .int j] | none => .non) else .str "form") = _
          rw [if_pos hl, hhi, ← hb]; rfl
        rw [hw3] at hQ
        exact hQ
    · have hl' : (200 : Int) < xs.length := by omega
      have hl2 : 200 < xs.length := by omega
      simp [w_oe, w_scons, w_retv, a_isi, hd, tyD, lowF, hl, hl', hl2, ho]
      have : wordErr r0.length (.tup xs) = .str "form" := if_neg hl
      rw [this] at hQ
      exact hQ
  · have hty : tyD .tuple v = false := by cases v <;> first | rfl | exact absurd ⟨_, rfl⟩ ht
    simp [w_oe, w_scons, w_retv, a_isi, hd, hu, hty, lowF, ho]
    have : wordErr r0.length v = .str "form" := by cases v <;> first | rfl | exact absurd ⟨_, rfl⟩ ht
    rw [this] at hQ
    exact hQ
end DL
end

section
set_option Elab.async false
set_option linter.all false
set_option maxRecDepth 100000
namespace DL
open PySem
set_option maxHeartbeats 1000000 in
theorem whole359 {P : Nat → Option FD} {n : Nat} {v : D} {lo hi : Int} {Q : TV → List TV → Prop} (hP : P 359 = some f359) (hv : noDt v = true) (hQ : Q ⟨0, .bl (isWhole v lo hi)⟩ [⟨0, v⟩, ⟨0, .int lo⟩, ⟨0, .int hi⟩]) :
    qC (evCall P (n + 1) 359 [⟨0, v⟩, ⟨0, .int lo⟩, ⟨0, .int hi⟩]) Q := by
  refine qC_of hP rfl rfl ?_
  show qS (evSs _ _ _ b359 [⟨0, v⟩, ⟨0, .int lo⟩, ⟨0, .int hi⟩]) _
  unfold b359
  refine q_cons fun N hN => ?_
  have hu := noDt_un hv
  have ho : outs f359 [⟨0, v⟩, ⟨0, .int lo⟩, ⟨0, .int hi⟩] 0 [⟨0, v⟩, ⟨0, .int lo⟩, ⟨0, .int hi⟩] = [⟨0, v⟩, ⟨0, .int lo⟩, ⟨0, .int hi⟩] := outs_same (fd := f359) 0 [] [⟨0, v⟩, ⟨0, .int lo⟩, ⟨0, .int hi⟩] [] (fun x hx => by rcases List.mem_cons.mp hx with rfl | hx; rfl; rcases List.mem_cons.mp hx with rfl | hx; rfl; rcases List.mem_cons.mp hx with rfl | hx; rfl; cases hx) rfl
  simp only [w_retv, reduceCtorEq, ne_eq, not_false_eq_true, implies_true]
  clear hN
  cases v with
  | int i =>
    by_cases h1 : lo ≤ i <;> by_cases h2 : i ≤ hi <;> simp [isWhole, h1, h2] at hQ <;> simp [w_oe, hu, a_isi, hv, midOk, tyD, h1, h2, ho, hQ]
  | _ => simp [isWhole] at hQ; first | (simp [w_oe, hu, a_isi, hv, midOk, tyD, ho, hQ]; done) | (cases hv)
theorem rb359 {P : Nat → Option FD} (hP : P 359 = some f359) : rbP P 359 = f359.reb := by funext p; unfold rbP; rw [hP]
theorem reb359 : f359.reb 0 = false ∧ f359.reb 1 = false ∧ f359.reb 2 = false := ⟨rfl, rfl, rfl⟩
set_option maxHeartbeats 2000000 in
theorem due365 {P : Nat → Option FD} {n : Nat} {v : D} {r0 rest : List D} {Q : TV → List TV → Prop} (hP : P 365 = some f365) (h1 : P 359 = some f359) (hv : v.ok = true)
    (hQ : Q ⟨0, wordErr r0.length v⟩ [⟨0, .tup (.tup r0 :: rest)⟩, ⟨0, v⟩]) : qC (evCall P (n + 2) 365 [⟨0, .tup (.tup r0 :: rest)⟩, ⟨0, v⟩]) Q := by
  refine qC_of hP rfl rfl ?_
  show qS (evSs _ _ _ b365 [⟨0, .tup (.tup r0 :: rest)⟩, ⟨0, v⟩, ⟨0, .un⟩, ⟨0, .un⟩]) _
  unfold b365
  have hu := ok_un hv
  have hd := ok_noDt hv
  have hym : (D.tup r0).isM = false := rfl
  have ho : ∀ r : List TV, outs f365 (⟨0, .tup (.tup r0 :: rest)⟩ :: ⟨0, v⟩ :: r) 0 [⟨0, .tup (.tup r0 :: rest)⟩, ⟨0, v⟩] = [⟨0, .tup (.tup r0 :: rest)⟩, ⟨0, v⟩] := fun r => outs_same (fd := f365) 0 [] [⟨0, .tup (.tup r0 :: rest)⟩, ⟨0, v⟩] r (fun x hx => by rcases List.mem_cons.mp hx with rfl | hx; rfl; rcases List.mem_cons.mp hx with rfl | hx; rfl; cases hx) rfl
  refine q_cons fun N hN => ?_
  by_cases ht : ∃ xs, v = .tup xs
  · obtain ⟨xs, rfl⟩ := ht
    by_cases hl : xs.length ≤ 200
    · have hl' : ¬ (200 : Int) < xs.length := by omega
      have hl2 : ¬ 200 < xs.length := by omega
      simp [w_oe, w_scons, a_isi, hd, tyD, lowF, hl, hl', hl2]
      refine hN _ ?_
      clear hN N
      refine q_cons fun N hN => ?_
      rw [w_forr]
      simp [w_oe, seqOf, lowO]
      generalize hhi : (r0.length : Int) - 1 = hi
      have hxs : oks xs = true := hv
      refine q_for (fun ys l => ∃ j zs c d, ys = enumL j zs ∧ badAt hi j zs = badAt hi 0 xs ∧ (∀ z ∈ zs, z ∈ xs) ∧ l = [⟨0, .tup (.tup r0 :: rest)⟩, ⟨0, .tup xs⟩, c, d]) _ _ ⟨0, xs, _, _, rfl, rfl, fun _ h => h, rfl⟩ ?_ ?_
      · rintro x r l ⟨j, zs, c, d, e, hb, hzs, rfl⟩
        obtain ⟨z, zs, rfl, rfl, rfl⟩ : ∃ z zs', zs = z :: zs' ∧ x = .tup [.int j, z] ∧ r = enumL (j + 1) zs' := by
          cases zs with
          | nil => cases e
          | cons y rs' => cases e; exact ⟨y, rs', rfl, rfl, rfl⟩
        have hz : z.ok = true := oks_mem hxs (hzs z (by simp))
        have hzu := ok_un hz
        show qS (evSs _ _ _ _ [⟨0, .tup (.tup r0 :: rest)⟩, ⟨0, .tup xs⟩, ⟨0, .int j⟩, ⟨0, z⟩]) _
        refine q_cons fun N2 hN2 => ?_
        simp [w_oe, w_scons, w_retv, hzu, lowF, lowB, lowO, a_call, rb359 h1, lowR, onceO, rebOk, takeO, reb359, a_sub0 hym]
        rw [hhi]
        refine whole359 h1 (ok_noDt hz) ?_
        simp only [badAt] at hb
        by_cases hw1 : isWhole z 0 hi = true
        · simp [backO, hw1]
          refine hN2 _ ?_
          rw [w_snil]
          rw [hw1] at hb
          exact ⟨j + 1, zs, _, _, rfl, hb, fun q hq => hzs q (by simp [hq]), rfl⟩
        · have hw2 : isWhole z 0 hi = false := by simpa using hw1
          simp [backO, hw2, small, ho]
          rw [hw2] at hb
          have hw3 : wordErr r0.length (.tup xs) = .tup [.str "letter", .int j] := by
            show (if xs.length ≤ 200 then (match badAt ((r0.length : Int) - 1) 0 xs with | some j => D.tup [.str "letter", .int j] | none => .non) else .str "form") = _
            rw [if_pos hl, hhi, ← hb]; rfl
          rw [hw3] at hQ
          exact hQ
      · rintro l ⟨j, zs, c, d, e, hb, hzs, rfl⟩
        refine hN _ ?_
        have hz0 : zs = [] := by cases zs with | nil => rfl | cons _ _ => cases e
        subst hz0
        refine q_cons fun N hN => ?_
        simp [w_oe, w_retv, ho]
        have hw3 : wordErr r0.length (.tup xs) = .non := by
          show (if xs.length ≤ 200 then (match badAt ((r0.length : Int) - 1) 0 xs with | some j => D.tup [.str "letter", .int j] | none => .non) else .str "form") = _
          rw [if_pos hl, hhi, ← hb]; rfl
        rw [hw3] at hQ
        exact hQ
    · have hl' : (200 : Int) < xs.length := by omega
      have hl2 : 200 < xs.length := by omega
      simp [w_oe, w_scons, w_retv, a_isi, hd, tyD, lowF, hl, hl', hl2, ho]
      have : wordErr r0.length (.tup xs) = .str "form" := if_neg hl
      rw [this] at hQ
      exact hQ
  · have hty : tyD .tuple v = false := by cases v <;> first | rfl | exact absurd ⟨_, rfl⟩ ht
    simp [w_oe, w_scons, w_retv, a_isi, hd, hu, hty, lowF, ho]
    have : wordErr r0.length v = .str "form" := by cases v <;> first | rfl | exact absurd ⟨_, rfl⟩ ht
    rw [this] at hQ
    exact hQ
end DL
end

section
set_option Elab.async false
set_option linter.all false
set_option maxRecDepth 100000
namespace DL
open PySem
theorem st_st {l : Sl} {i : Nat} {a b : TV} : st (st l i a) i b = st l i b := by unfold st; exact List.set_set ..
theorem st_gt {l : Sl} {i : Nat} : st l i (gt l i) = l := by
  refine List.ext_getElem? fun j => ?_
  unfold st
  by_cases e : i = j
  · subst e
    by_cases hi : i < l.length
    · rw [List.getElem?_set_self hi, gt_at hi]
    · rw [List.getElem?_eq_none (by rw [List.length_set]; omega), List.getElem?_eq_none (by omega)]
  · rw [List.getElem?_set_ne e]
/-- a comprehension that maps: the elements are told, the slots stay -/
theorem q_map {cl : Nat → List TV → RC} {rb : Nat → Nat → Bool} {xs : List D} {l : Sl} {i : Nat} {e : E} {g : D → D} {Q : TV → Sl → Prop} (hl : xs.length ≤ 16777216)
    (h : ∀ x ∈ xs, qE (evE cl rb e (st l i ⟨0, x⟩)) fun v l' => v.d = g x ∧ l' = st l i ⟨0, x⟩) (hQ : Q ⟨1, .lst (xs.map g)⟩ l) :
    qE (lcR (fun x l' => evE cl rb e l') false (fun x l' => match bindT (clr l' [i]) [i] x with | some l2 => evC cl rb .nil l2 | none => .no) xs [] l) fun v l2 => Q v (rest l l2 [i]) := by
  refine q_lc (fun ys acc l2 => ∃ pre, xs = pre ++ ys ∧ acc = pre.map g ∧ ∃ a, l2 = st l i a) xs [] l ⟨[], rfl, rfl, gt l i, st_gt.symm⟩ ?_ ?_
  · rintro x r acc l2 ⟨pre, e1, rfl, a, rfl⟩
    have hb : (match bindT (clr (st l i a) [i]) [i] x with | some l2 => evC cl rb .nil l2 | none => RB.no) = .ok true (st l i ⟨0, x⟩) := by
      show evC cl rb .nil (st (st (st l i a) i ⟨0, .un⟩) i ⟨0, x⟩) = _
      rw [st_st, st_st]
      simp only [evC]
    rw [hb, qT_ok]
    refine ⟨fun q => (by cases q), fun _ => ?_⟩
    have hx := h x (by rw [e1]; simp)
    cases hr : evE cl rb e (st l i ⟨0, x⟩) with
    | no => rw [hr] at hx; exact (noE hx).elim
    | ok v l3 =>
      rw [hr, qE_ok] at hx
      rw [qE_ok]
      obtain ⟨hv, hl3⟩ := hx
      refine ⟨decide_eq_true ?_, rfl, pre ++ [x], by rw [e1]; simp, by simp [hv], ⟨0, x⟩, hl3⟩
      have : xs.length = pre.length + (r.length + 1) := by rw [e1]; simp
      simp; omega
  · rintro acc l2 ⟨pre, e1, rfl, a, rfl⟩
    rw [List.append_nil] at e1
    subst e1
    show Q ⟨1, .lst (xs.map g)⟩ (st (st l i a) i (gt l i))
    rw [st_st, st_gt]
    exact hQ
/-- the same, whatever is wanted behind it -/
theorem q_mapR {cl : Nat → List TV → RC} {rb : Nat → Nat → Bool} {xs : List D} {l : Sl} {i : Nat} {e : E} (g : D → D) {R : TV → Sl → Prop} (hl : xs.length ≤ 16777216)
    (h : ∀ x ∈ xs, qE (evE cl rb e (st l i ⟨0, x⟩)) fun v l' => v.d = g x ∧ l' = st l i ⟨0, x⟩) (hR : ∀ a, R ⟨1, .lst (xs.map g)⟩ (st l i a)) :
    qE (lcR (fun x l' => evE cl rb e l') false (fun x l' => match bindT (clr l' [i]) [i] x with | some l2 => evC cl rb .nil l2 | none => .no) xs [] l) R := by
  have k := q_map (Q := fun v l2 => ∀ a, R v (st l2 i a)) (g := g) hl h hR
  cases hq : lcR (fun x l' => evE cl rb e l') false (fun x l' => match bindT (clr l' [i]) [i] x with | some l2 => evC cl rb .nil l2 | none => .no) xs [] l with
  | no => rw [hq] at k; exact (noE k).elim
  | ok v l2 =>
    rw [hq, qE_ok] at k
    rw [qE_ok]
    have k2 : R v (st (st l2 i (gt l i)) i (gt l2 i)) := k (gt l2 i)
    rw [st_st, st_gt] at k2
    exact k2
end DL
end

section
set_option Elab.async false
set_option linter.all false
set_option maxRecDepth 100000
namespace DL
open PySem
theorem b_all {bs : List Bool} : b1D .all (.lst (bs.map D.bl)) = some ⟨0, .bl (bs.all id)⟩ := by
  have : ∀ bs : List Bool, blsOf (bs.map D.bl) = some bs := by
    intro bs
    induction bs with
    | nil => rfl
    | cons b r ih => show (blsOf (r.map D.bl)).map (b :: ·) = _; rw [ih]; rfl
  show (blsOf (bs.map D.bl)).map _ = _
  rw [this]; rfl
def shapeOk (r : D) : Bool := match r with | .tup xs => decide (1 ≤ xs.length) && decide (xs.length ≤ 4) | _ => false
def lenEq (k : Nat) (r : D) : Bool := match r with | .tup xs => decide (xs.length = k) | _ => false
set_option maxHeartbeats 2000000 in
theorem fault364 {P : Nat → Option FD} {n : Nat} {v : D} {Q : TV → List TV → Prop} (hP : P 364 = some f364) (h1 : P 359 = some f359) (hv : v.ok = true) (hQ : Q ⟨0, machErr v⟩ [⟨0, v⟩]) : qC (evCall P (n + 2) 364 [⟨0, v⟩]) Q := by
  refine qC_of hP rfl rfl ?_
  show qS (evSs _ _ _ b364 [⟨0, v⟩, ⟨0, .un⟩, ⟨0, .un⟩, ⟨0, .un⟩, ⟨0, .un⟩]) _
  unfold b364
  have hu := ok_un hv
  have hd := ok_noDt hv
  have ho : ∀ r : List TV, outs f364 (⟨0, v⟩ :: r) 0 [⟨0, v⟩] = [⟨0, v⟩] := fun r => outs_same (fd := f364) 0 [] [⟨0, v⟩] r (fun x hx => by rcases List.mem_cons.mp hx with rfl | hx; rfl; cases hx) rfl
  have hq : isSq v = false → ∀ r, Q ⟨0, .str "form"⟩ (outs f364 (⟨0, v⟩ :: r) 0 [⟨0, v⟩]) := fun h r => by
    rw [ho]
    have : machErr v = .str "form" := by unfold machErr; rw [h]; rfl
    rw [this] at hQ
    exact hQ
  refine q_cons fun N hN => ?_
  by_cases ht : ∃ rows, v = .tup rows ∧ 1 ≤ rows.length ∧ rows.length ≤ 7
  · obtain ⟨rows, rfl, l1, l2⟩ := ht
    have l1' : (1 : Int) ≤ rows.length := by omega
    have l2' : (rows.length : Int) ≤ 7 := by omega
    simp [w_oe, a_isi, hd, tyD, midOk, lowF, l1, l2, l1', l2']
    refine hN _ ?_
    clear hN N
    refine q_cons fun N hN => ?_
    simp [w_oe, w_lc, seqOf, lowO]
    refine q_mapR (xs := rows) (i := 2) (fun r => .bl (shapeOk r)) (by omega) (fun x hx => ?_) (fun a => ?_)
    · have hxo := oks_mem (show oks rows = true from hv) hx
      have hxu := ok_un hxo
      have hxd := ok_noDt hxo
      by_cases hxt : ∃ xs, x = .tup xs
      · obtain ⟨xs, rfl⟩ := hxt
        simp [w_oe, a_isi, hxd, tyD, midOk, lowF, shapeOk]
        omega
      · have hty : tyD .tuple x = false := by cases x <;> first | rfl | exact absurd ⟨_, rfl⟩ hxt
        have hsh : shapeOk x = false := by cases x <;> first | rfl | exact absurd ⟨_, rfl⟩ hxt
        simp [w_oe, a_isi, hxd, hxu, hty, hsh]
    · have e1 : (rows.map fun r => D.bl (shapeOk r)) = (rows.map shapeOk).map D.bl := by rw [List.map_map]; rfl
      have eb : ∀ l : Sl, rest [⟨0, .tup rows⟩, ⟨0, .un⟩, ⟨0, .un⟩, ⟨0, .un⟩, ⟨0, .un⟩] (st l 2 a) [2] = st l 2 ⟨0, .un⟩ := fun l => by
        show st (st l 2 a) 2 ⟨0, .un⟩ = _
        exact st_st
      rw [eb]
      simp only [e1]
      refine ⟨_, b_all, ?_⟩
      by_cases hsh : rows.all shapeOk = true
      · have h2 : ((rows.map shapeOk).all id) = true := by rw [List.all_map]; simpa using hsh
        right
        rw [h2]
        refine ⟨rfl, ?_⟩
        simp [lowF]
        refine hN _ ?_
        clear hN N
        have hall : ∀ r ∈ rows, ∃ xs, r = .tup xs ∧ 1 ≤ xs.length ∧ xs.length ≤ 4 := fun r hr => by
          have := List.all_eq_true.mp hsh r hr
          cases r with
          | tup xs => simp only [shapeOk, Bool.and_eq_true, decide_eq_true_eq] at this; exact ⟨xs, rfl, this.1, this.2⟩
          | _ => simp [shapeOk] at this
        obtain ⟨first, rest, rfl⟩ : ∃ a r, rows = a :: r := by
          cases rows with
          | nil => simp at l1
          | cons a r => exact ⟨a, r, rfl⟩
        obtain ⟨ys, rfl, _, _⟩ := hall first (by simp)
        have hym : (D.tup ys).isM = false := rfl
        refine q_cons fun N hN => ?_
        simp [w_oe, w_lc, seqOf, lowO]
        refine q_mapR (xs := .tup ys :: rest) (i := 2) (fun r => .bl (lenEq ys.length r)) (by omega) (fun x hx => ?_) (fun a => ?_)
        · obtain ⟨xs, rfl, x1, x2⟩ := hall x hx
          simp [w_oe, midOk, lowF, a_sub0 hym, lenEq]
          omega
        · have e1 : ((D.tup ys :: rest).map fun r => D.bl (lenEq ys.length r)) = ((D.tup ys :: rest).map (lenEq ys.length)).map D.bl := by rw [List.map_map]; rfl
          have eb : ∀ l : Sl, DL.rest [⟨0, .tup (.tup ys :: rest)⟩, ⟨0, .un⟩, ⟨0, .un⟩, ⟨0, .un⟩, ⟨0, .un⟩] (st l 2 a) [2] = st l 2 ⟨0, .un⟩ := fun l => by
            show st (st l 2 a) 2 ⟨0, .un⟩ = _
            exact st_st
          rw [eb]
          simp only [e1]
          refine ⟨_, b_all, ?_⟩
          by_cases hle : (D.tup ys :: rest).all (lenEq ys.length) = true
          · have h2 : (((D.tup ys :: rest).map (lenEq ys.length)).all id) = true := by rw [List.all_map]; simpa using hle
            right
            rw [h2]
            refine ⟨rfl, ?_⟩
            simp [lowF]
            refine hN _ ?_
            clear hN N
            have hs : isSq (.tup (.tup ys :: rest)) = true := by
              show (decide (1 ≤ (D.tup ys :: rest).length) && decide ((D.tup ys :: rest).length ≤ 7) && (D.tup ys :: rest).all (rowOk (.tup ys))) = true
              rw [decide_eq_true l1, decide_eq_true l2]
              refine List.all_eq_true.mpr fun r hr => ?_
              have h3 := List.all_eq_true.mp hle r hr
              obtain ⟨xs, rfl, y1, y2⟩ := hall r hr
              simp only [rowOk, Bool.and_eq_true, decide_eq_true_eq]
              exact ⟨⟨y1, y2⟩, by simpa [lenEq] using h3⟩
            have hrows : ∀ r ∈ D.tup ys :: rest, ∃ xs, r = .tup xs := fun r hr => (hall r hr).elim fun xs h => ⟨xs, h.1⟩
            clear hle h2 e1 eb hall hsh
            generalize D.tup ys :: rest = rows at *
            refine q_cons fun N hN => ?_
            rw [w_forr]
            simp [w_oe, seqOf, lowO]
            have hm : machErr (.tup rows) = errRows ((rows.length : Int) - 1) 0 rows := by unfold machErr; rw [hs]; rfl
            rw [hm] at hQ
            generalize hhi : (rows.length : Int) - 1 = hi at hQ
            generalize hW : errRows hi 0 rows = W at hQ
            have hoks : oks rows = true := hv
            refine q_for (fun xs l => ∃ k rs a b c d, xs = enumL k rs ∧ errRows hi k rs = W ∧ (∀ r ∈ rs, r ∈ rows) ∧ l = [⟨0, .tup rows⟩, a, b, c, d]) _ _ ⟨0, rows, _, _, _, _, rfl, hW, fun _ h => h, rfl⟩ ?_ ?_
            · rintro x r l ⟨k, rs, a, b, c, d, e, hw, hin, rfl⟩
              obtain ⟨y, rs, rfl, rfl, rfl⟩ : ∃ y rs', rs = y :: rs' ∧ x = .tup [.int k, y] ∧ r = enumL (k + 1) rs' := by
                cases rs with
                | nil => cases e
                | cons y rs' => cases e; exact ⟨y, rs', rfl, rfl, rfl⟩
              obtain ⟨ys, rfl⟩ := hrows y (hin y (by simp))
              have hys : oks ys = true := oks_mem (x := .tup ys) hoks (hin _ (by simp))
              show qS (evSs _ _ _ _ [⟨0, .tup rows⟩, ⟨0, .int k⟩, ⟨0, .tup ys⟩, c, d]) _
              refine q_cons fun N1 hN1 => ?_
              rw [w_forr]
              simp [w_oe, seqOf, lowO]
              refine q_for (fun xs l => ∃ j zs c d, xs = enumL j zs ∧ badAt hi j zs = badAt hi 0 ys ∧ (∀ z ∈ zs, z ∈ ys) ∧ l = [⟨0, .tup rows⟩, ⟨0, .int k⟩, ⟨0, .tup ys⟩, c, d]) _ _ ⟨0, ys, _, _, rfl, rfl, fun _ h => h, rfl⟩ ?_ ?_
              · rintro x r l ⟨j, zs, c, d, e, hb, hzs, rfl⟩
                obtain ⟨z, zs, rfl, rfl, rfl⟩ : ∃ z zs', zs = z :: zs' ∧ x = .tup [.int j, z] ∧ r = enumL (j + 1) zs' := by
                  cases zs with
                  | nil => cases e
                  | cons y rs' => cases e; exact ⟨y, rs', rfl, rfl, rfl⟩
                have hz : z.ok = true := oks_mem hys (hzs z (by simp))
                have hzu := ok_un hz
                show qS (evSs _ _ _ _ [⟨0, .tup rows⟩, ⟨0, .int k⟩, ⟨0, .tup ys⟩, ⟨0, .int j⟩, ⟨0, z⟩]) _
                refine q_cons fun N2 hN2 => ?_
                simp [w_oe, w_scons, w_retv, hzu, lowF, lowB, lowO, a_call, rb359 h1, lowR, onceO, rebOk, takeO, reb359]
                rw [hhi]
                refine whole359 h1 (ok_noDt hz) ?_
                simp only [badAt] at hb
                by_cases hw1 : isWhole z 0 hi = true
                · simp [backO, hw1]
                  refine hN2 _ ?_
                  rw [w_snil]
                  rw [hw1] at hb
                  exact ⟨j + 1, zs, _, _, rfl, hb, fun q hq => hzs q (by simp [hq]), rfl⟩
                · have hw2 : isWhole z 0 hi = false := by simpa using hw1
                  simp [backO, hw2, small, ho]
                  rw [hw2] at hb
                  have hw3 : W = .tup [.str "room", .int k, .int j] := by
                    rw [← hw]
                    show (match badAt hi 0 ys with | some j => D.tup [.str "room", .int k, .int j] | none => errRows hi (k + 1) rs) = _
                    rw [← hb]; rfl
                  rw [hw3] at hQ
                  exact hQ
              · rintro l ⟨j, zs, c, d, e, hb, hzs, rfl⟩
                refine hN1 _ ?_
                rw [w_snil]
                have hz0 : zs = [] := by cases zs with | nil => rfl | cons _ _ => cases e
                subst hz0
                refine ⟨k + 1, rs, _, _, _, _, rfl, ?_, fun q hq => hin q (by simp [hq]), rfl⟩
                rw [← hw]
                show errRows hi (k + 1) rs = (match badAt hi 0 ys with | some j => .tup [.str "room", .int k, .int j] | none => errRows hi (k + 1) rs)
                rw [← hb]; rfl
            · rintro l ⟨k, rs, a, b, c, d, e, hw, hin, rfl⟩
              refine hN _ ?_
              have hz0 : rs = [] := by cases rs with | nil => rfl | cons _ _ => cases e
              subst hz0
              refine q_cons fun N hN => ?_
              simp [w_oe, w_retv, ho]
              rw [← hw] at hQ
              exact hQ
          · have h2 : (((D.tup ys :: rest).map (lenEq ys.length)).all id) = false := by rw [List.all_map]; simpa using hle
            left
            rw [h2]
            refine ⟨rfl, ?_⟩
            have hsq : isSq (.tup (.tup ys :: rest)) = false := by
              cases hs : isSq (.tup (.tup ys :: rest)) with
              | false => rfl
              | true =>
                exfalso
                refine hle (List.all_eq_true.mpr fun r hr => ?_)
                simp only [isSq, Bool.and_eq_true, List.all_eq_true] at hs
                have := hs.2 r hr
                obtain ⟨xs, rfl, _, _⟩ := hall r hr
                simp only [rowOk, Bool.and_eq_true, List.headD_cons] at this
                exact this.2
            simp [lowF, w_oe, w_scons, w_retv]
            exact hq hsq _
      · have h2 : ((rows.map shapeOk).all id) = false := by rw [List.all_map]; simpa using hsh
        left
        rw [h2]
        refine ⟨rfl, ?_⟩
        have hsq : isSq (.tup rows) = false := by
          cases hs : isSq (.tup rows) with
          | false => rfl
          | true =>
            exfalso
            refine hsh (List.all_eq_true.mpr fun r hr => ?_)
            simp only [isSq, Bool.and_eq_true, List.all_eq_true] at hs
            have := hs.2 r hr
            cases r with
            | tup xs => simp only [rowOk, Bool.and_eq_true] at this; simp only [shapeOk, Bool.and_eq_true]; exact this.1
            | _ => simp [rowOk] at this
        simp [lowF, w_oe, w_scons, w_retv]
        exact hq hsq _
  · by_cases hx2 : ∃ xs, v = .tup xs
    · obtain ⟨xs, rfl⟩ := hx2
      have hno : ¬ (1 ≤ xs.length ∧ xs.length ≤ 7) := fun z => ht ⟨xs, rfl, z.1, z.2⟩
      have hbad := hq (by simp [isSq]; omega)
      by_cases x1 : 1 ≤ xs.length
      · have x2 : ¬ xs.length ≤ 7 := fun z => hno ⟨x1, z⟩
        have x1' : (1 : Int) ≤ xs.length := by omega
        have x2' : ¬ (xs.length : Int) ≤ 7 := by omega
        simp [w_oe, w_scons, w_retv, a_isi, hd, tyD, midOk, lowF, x1, x2, x1', x2']
        exact hbad _
      · have x1' : ¬ (1 : Int) ≤ xs.length := by omega
        simp [w_oe, w_scons, w_retv, a_isi, hd, tyD, midOk, lowF, x1, x1']
        exact hbad _
    · have hty : tyD .tuple v = false := by cases v <;> first | rfl | exact absurd ⟨_, rfl⟩ hx2
      simp [w_oe, w_scons, w_retv, a_isi, hd, hu, hty, midOk, lowF]
      exact hq (by cases v <;> first | rfl | exact absurd ⟨_, rfl⟩ hx2) _
end DL
end

section
set_option Elab.async false
set_option linter.all false
set_option maxRecDepth 100000
namespace DL
open PySem
@[simp] theorem w_rng1 {cl : Nat → List TV → RC} {rb : Nat → Nat → Bool} {l : Sl} {QI : List D → Sl → Prop} {e : E} : qI (evI cl rb (.rng (.cons e .nil)) l) QI = qO (opd e (evE cl rb e) l) fun os l' => ∃ n : Int, os.map (Od.d l') = [.int n] ∧ (-(2 ^ 62) ≤ n ∧ n < 2 ^ 62) ∧ QI (rngL 0 n) l' := by
  simp only [evI, qO_bI, w_cons, w_nil, List.append_nil]
  cases hr : opd e (evE cl rb e) l with
  | no => rw [qO_no, qO_no]
  | ok os l' =>
    obtain ⟨o, rfl⟩ := opd_one hr
    rw [qO_ok, qO_ok]
    show qI (match [o.d l'] with | [.int n] => if decide (-(2 ^ 62) ≤ n ∧ n < 2 ^ 62) then .ok (rngL 0 n) l' else .no | [.int a, .int b] => _ | _ => .no) QI = ∃ n : Int, [o.d l'] = [D.int n] ∧ (-(2 ^ 62) ≤ n ∧ n < 2 ^ 62) ∧ QI (rngL 0 n) l'
    generalize o.d l' = dd
    cases dd with
    | int n =>
      by_cases hn : -(2 ^ 62) ≤ n ∧ n < 2 ^ 62
      · have : decide (-(2 ^ 62) ≤ n ∧ n < 2 ^ 62) = true := decide_eq_true hn
        simp only [this, if_true, qI_ok]
        exact propext ⟨fun h => ⟨n, rfl, hn, h⟩, fun ⟨m, e, _, h⟩ => by cases e; exact h⟩
      · have : decide (-(2 ^ 62) ≤ n ∧ n < 2 ^ 62) = false := decide_eq_false hn
        simp only [this, Bool.false_eq_true, if_false]
        exact propext ⟨fun h => (noI h).elim, fun ⟨m, e, h, _⟩ => by cases e; exact absurd h hn⟩
    | _ => exact propext ⟨fun h => (noI h).elim, fun ⟨m, e, _⟩ => by cases e⟩
end DL
end

section
set_option Elab.async false
set_option linter.all false
set_option maxRecDepth 100000
namespace DL
open PySem
/-- what a drawn word is -/
def WordQ (m : Int) (k : Int) (mach : D) (most : Int) (v : TV) (as : List TV) : Prop := ∃ (ws gs : List Int) (t : Int), v = ⟨0, .tup (ws.map D.int)⟩ ∧ (∀ z ∈ ws, 0 ≤ z ∧ (2 ≤ k → z < k) ∧ (k < 2 → z = 0)) ∧ (ws.length : Int) ≤ most ∧ as = [deckT gs m t, ⟨0, mach⟩, ⟨0, .int most⟩] ∧ Good gs
set_option maxHeartbeats 2000000 in
theorem word363 {P : Nat → Option FD} {n : Nat} {gs : List Int} {m t most : Int} {r0 rest : List D} (hP : P 363 = some f363) (hD : P 356 = some f356) (G : Good gs) (hm : 0 ≤ m ∧ m < 4294967296) (h0 : 0 ≤ most) (h1 : most < 1000) (h2 : r0.length < 1000) :
    qC (evCall P (n + 2) 363 [deckT gs m t, ⟨0, .tup (.tup r0 :: rest)⟩, ⟨0, .int most⟩]) (WordQ m r0.length (.tup (.tup r0 :: rest)) most) := by
  refine qC_of hP rfl rfl ?_
  show qS (evSs _ _ _ b363 [deckT gs m t, ⟨0, .tup (.tup r0 :: rest)⟩, ⟨0, .int most⟩, ⟨0, .un⟩]) _
  unfold b363
  refine q_cons fun N hN => ?_
  clear hN
  simp [w_oe, w_retv, w_lc, a_call, rb356 hD, lowR, onceO, rebOk, takeO, reb356, lowF, lowB, lowO]
  refine qC_mono (draw356 hD G hm (by omega)) ?_
  rintro v as ⟨i, gs', t', rfl, ⟨i0, i1, i2⟩, rfl, G'⟩
  simp [backO]
  refine ⟨by omega, ?_⟩
  have hi : i ≤ most := by
    by_cases h : 2 ≤ most + 1
    · have := i1 h; omega
    · have := i2 (by omega); omega
  have hym : (D.tup r0).isM = false := rfl
  refine q_lc (fun xs acc l => ∃ (ws gs : List Int) (t : Int) (a : TV), acc = ws.map D.int ∧ (∀ z ∈ ws, 0 ≤ z ∧ (2 ≤ (r0.length : Int) → z < r0.length) ∧ ((r0.length : Int) < 2 → z = 0)) ∧ ((ws.length + xs.length : Nat) : Int) ≤ i ∧ l = [deckT gs m t, ⟨0, .tup (.tup r0 :: rest)⟩, ⟨0, .int most⟩, a] ∧ Good gs) _ _ _ ⟨[], gs', t', _, rfl, by simp, by unfold rngL; simp; omega, rfl, G'⟩ ?_ ?_
  · rintro x r acc l ⟨ws, gs2, t2, a, rfl, hz, hn, rfl, G2⟩
    show qT (evC _ _ .nil [deckT gs2 m t2, ⟨0, .tup (.tup r0 :: rest)⟩, ⟨0, .int most⟩, ⟨0, x⟩]) _
    simp only [evC, qT_ok]
    refine ⟨fun q => (by cases q), fun _ => ?_⟩
    simp [w_oe, a_call, rb356 hD, lowR, onceO, rebOk, takeO, reb356, lowF, a_sub0]
    rw [a_subL (xs := .tup r0 :: rest) rfl]
    refine ⟨0, 0, .tup r0, rfl, ix_pos (by decide) (by simp), rfl, ?_⟩
    show ∃ v_1, b1D .len (.tup r0) = some v_1 ∧ _
    refine ⟨_, rfl, ?_⟩
    refine qC_mono (draw356 hD G2 hm (by omega)) ?_
    rintro v as ⟨y, gs3, t3, rfl, hy, rfl, G3⟩
    have hn' : (ws.length : Int) + (r.length + 1) ≤ i := by simpa using hn
    refine ⟨decide_eq_true (by omega), ws ++ [y], by simp, fun z hz2 => ?_, by simp; omega, gs3, ⟨t3, ⟨0, x⟩, rfl⟩, G3⟩
    rcases List.mem_append.mp hz2 with q | q
    · exact hz z q
    · obtain rfl : z = y := by simpa using q
      exact hy
  · rintro acc l ⟨ws, gs2, t2, a, rfl, hz, hn, rfl, G2⟩
    exact ⟨⟨0, .tup (ws.map D.int)⟩, rfl, ws, gs2, t2, rfl, hz, by simp at hn; omega, rfl, G2⟩
end DL
end

section
set_option Elab.async false
set_option linter.all false
set_option maxRecDepth 100000
namespace DL
open PySem
def oddL : List D := [.non, .bl true, .bl false, .int 0, .int 1, .int (-1), .int 5, .int 1000000000000000000000000000000, .str "", .str "0", .tup [], .lst [], .dct false [], .tup [.int 0], .tup [.int 0, .int 1], .lst [.int 0], .tup [.tup [.int 0]], .tup [.tup []]]
@[simp] theorem a_dct0 {tk : Bool} {l : Sl} {Q : TV → Sl → Prop} : qE (applyO (.dct false tk) [] l) Q = Q ⟨1, .dct tk []⟩ l := by
  show qE (.ok ⟨1, .dct tk []⟩ l) Q = _
  rw [qE_ok]
def OddQ (m : Int) (v : TV) (as : List TV) : Prop := ∃ x gs t, x ∈ oddL ∧ v = ⟨0, x⟩ ∧ as = [deckT gs m t] ∧ Good gs
@[simp] theorem b_pow30 : binD .pow (.int 10) (.int 30) = some ⟨0, .int 1000000000000000000000000000000⟩ := by rfl
theorem rb357 {P : Nat → Option FD} (hP : P 357 = some f357) : rbP P 357 = f357.reb := by funext p; unfold rbP; rw [hP]
theorem reb357 : f357.reb 0 = false ∧ f357.reb 1 = false := ⟨rfl, rfl⟩
set_option maxHeartbeats 2000000 in
theorem odd360 {P : Nat → Option FD} {n : Nat} {gs : List Int} {m t : Int} (hP : P 360 = some f360) (hD : P 356 = some f356) (hE : P 357 = some f357) (G : Good gs) (hm : 0 ≤ m ∧ m < 4294967296) :
    qC (evCall P (n + 3) 360 [deckT gs m t]) (OddQ m) := by
  refine qC_of hP rfl rfl ?_
  show qS (evSs _ _ _ b360 [deckT gs m t, ⟨0, .un⟩]) _
  unfold b360
  refine q_cons fun N hN => ?_
  simp [w_oe, small, lowO]
  show N [deckT gs m t, ⟨1, .lst oddL⟩]
  refine hN _ ?_
  clear hN N
  refine q_cons fun N hN => ?_
  have hu : (D.lst oddL).isUn = false := rfl
  simp [w_oe, w_retv, hu, a_call, rb357 hE, lowR, onceO, rebOk, takeO, reb357]
  refine qC_mono (pick357 hD hE G hm (.inl rfl) (Nat.le_refl 1) (by decide) (by decide)) ?_
  rintro v as ⟨x, gs', t', hx, rfl, rfl, G'⟩
  exact ⟨x, gs', t', hx, rfl, rfl, G'⟩
end DL
end

section
set_option Elab.async false
set_option linter.all false
set_option maxRecDepth 100000
/-! HA: values of bounded size; they can be shown. -/
namespace DL
open PySem
def leafB : D → Bool
  | .non => true
  | .bl _ => true
  | .int i => decide (i.natAbs < 10000000000000000000000000000000)
  | .str x => decide (x.cps.size ≤ 8) && x.cps.toList.all fun c => decide (c < 16 ^ 8)
  | _ => false
/-- nested n deep at most, at most L items each -/
def Cl (L : Nat) : Nat → D → Prop
  | 0, d => leafB d = true
  | n + 1, d => leafB d = true ∨ ∃ xs, (d = .tup xs ∨ d = .lst xs) ∧ xs.length ≤ L ∧ ∀ x ∈ xs, Cl L n x
def Wt (L : Nat) : Nat → Nat
  | 0 => 8
  | n + 1 => 8 + L * (Wt L n + 1)
theorem Cl_leaf {L : Nat} : ∀ {n : Nat} {d : D}, leafB d = true → Cl L n d
  | 0, _, h => h
  | _ + 1, _, h => .inl h
theorem Cl_up {L : Nat} : ∀ {n : Nat} {d : D}, Cl L n d → Cl L (n + 1) d
  | 0, _, h => .inl h
  | n + 1, d, h => by
    rcases h with h | ⟨xs, h1, h2, h3⟩
    · exact .inl h
    · exact .inr ⟨xs, h1, h2, fun x hx => Cl_up (h3 x hx)⟩
theorem Cl_tup {L n : Nat} {xs : List D} (h : xs.length ≤ L) (h2 : ∀ x ∈ xs, Cl L n x) : Cl L (n + 1) (.tup xs) := .inr ⟨xs, .inl rfl, h, h2⟩
theorem Cl_lst {L n : Nat} {xs : List D} (h : xs.length ≤ L) (h2 : ∀ x ∈ xs, Cl L n x) : Cl L (n + 1) (.lst xs) := .inr ⟨xs, .inr rfl, h, h2⟩
theorem Cl_int {L n : Nat} {i : Int} (h : i.natAbs < 10000000000000000000000000000000) : Cl L n (.int i) := Cl_leaf (decide_eq_true h)
theorem oks_of : ∀ {xs : List D}, (∀ x ∈ xs, x.ok = true) → oks xs = true
  | [], _ => rfl
  | x :: r, h => by
    show (x.ok && oks r) = true
    rw [h x (by simp), oks_of fun y hy => h y (by simp [hy])]; rfl
/-- all that a show asks -/
structure Shw (B : Nat) (n : Nat) (d : D) : Prop where
  ok : d.ok = true
  sb : (toP d).showable = true
  hd : (toP d).hasDict = false
  dp : (toP d).depth ≤ n
  nt : d.noT = true
  ls : (toP d).leavesShort 33 = true
  bk : (toP d).bulk ≤ B
theorem Shw_leaf {d : D} (h : leafB d = true) (n : Nat) : Shw 8 n d := by
  cases d with
  | non => exact ⟨rfl, rfl, rfl, Nat.zero_le _, rfl, rfl, by decide⟩
  | bl b => exact ⟨rfl, rfl, rfl, Nat.zero_le _, rfl, rfl, Nat.zero_le _⟩
  | int i =>
    have h1 : i.natAbs < 10 ^ 31 := of_decide_eq_true h
    have h2 : i.natAbs.log2 < 1920 := by
      by_cases h0 : i.natAbs = 0
      · rw [h0]; decide
      · exact Nat.lt_of_lt_of_le ((Nat.log2_lt h0).mpr (Nat.lt_of_lt_of_le h1 (show 10 ^ 31 ≤ 2 ^ 103 by decide))) (by decide)
    refine ⟨rfl, decide_eq_true h2, rfl, Nat.zero_le _, rfl, decide_eq_true ?_, Nat.zero_le _⟩
    have e := int_text_length_le10 (k := 31) (by decide) h1
    show (Str.ofString (toString i)).length ≤ 33
    rw [ofString_length]; omega
  | str x =>
    have h' : x.cps.size ≤ 8 ∧ (x.cps.toList.all fun c => decide (c < 16 ^ 8)) = true := by
      simp only [leafB, Bool.and_eq_true, decide_eq_true_eq] at h
      exact h
    exact ⟨rfl, rfl, rfl, Nat.zero_le _, rfl, h'.2, h'.1⟩
  | _ => simp [leafB] at h
theorem Shw_all {B n L : Nat} : ∀ {xs : List D}, (∀ x ∈ xs, Shw B n x) → xs.length ≤ L → oks xs = true ∧ PyData.showableAll (toPs xs) = true ∧ PyData.hasDictAll (toPs xs) = false ∧ PyData.depthAll (toPs xs) ≤ n ∧ noTs xs = true ∧ PyData.leavesShortAll 33 (toPs xs) = true ∧ PyData.bulkAll (toPs xs) ≤ xs.length * (B + 1)
  | [], _, _ => ⟨rfl, rfl, rfl, Nat.zero_le _, rfl, rfl, Nat.zero_le _⟩
  | x :: r, h, hl => by
    have hx := h x (by simp)
    obtain ⟨h1, h2, h3, h4, h5, h6, h7⟩ := Shw_all (L := L) (fun y hy => h y (List.mem_cons_of_mem _ hy)) (by simp at hl; omega)
    refine ⟨?_, ?_, ?_, ?_, ?_, ?_, ?_⟩
    · show (x.ok && oks r) = true; rw [hx.ok, h1]; rfl
    · show (PyData.showable (toP x) && PyData.showableAll (toPs r)) = true; rw [hx.sb, h2]; rfl
    · show (PyData.hasDict (toP x) || PyData.hasDictAll (toPs r)) = false; rw [hx.hd, h3]; rfl
    · show max (PyData.depth (toP x)) (PyData.depthAll (toPs r)) ≤ n; exact Nat.max_le.mpr ⟨hx.dp, h4⟩
    · show (x.noT && noTs r) = true; rw [hx.nt, h5]; rfl
    · show (PyData.leavesShort 33 (toP x) && PyData.leavesShortAll 33 (toPs r)) = true; rw [hx.ls, h6]; rfl
    · show PyData.bulk (toP x) + 1 + PyData.bulkAll (toPs r) ≤ (r.length + 1) * (B + 1)
      have := hx.bk
      rw [Nat.add_mul]; omega
theorem Cl_shw {L : Nat} : ∀ {n : Nat} {d : D}, Cl L n d → Shw (Wt L n) n d
  | 0, d, h => Shw_leaf h 0
  | n + 1, d, h => by
    rcases h with h | ⟨xs, h1, h2, h3⟩
    · have q := Shw_leaf h (n + 1)
      exact ⟨q.ok, q.sb, q.hd, q.dp, q.nt, q.ls, by have := q.bk; show _ ≤ 8 + L * (Wt L n + 1); omega⟩
    · obtain ⟨q1, q2, q3, q4, q5, q6, q7⟩ := Shw_all (L := L) (fun x hx => Cl_shw (h3 x hx)) h2
      have hb : PyData.bulkAll (toPs xs) ≤ 8 + L * (Wt L n + 1) := by
        have := Nat.mul_le_mul_right (Wt L n + 1) h2
        omega
      rcases h1 with rfl | rfl
      · exact ⟨q1, q2, q3, Nat.succ_le_succ q4, q5, q6, hb⟩
      · exact ⟨q1, q2, q3, Nat.succ_le_succ q4, q5, q6, hb⟩
theorem Cl_ok {L n : Nat} {d : D} (h : Cl L n d) : d.ok = true := (Cl_shw h).ok
/-- a value that can be shown -/
def Shd (d : D) : Prop := d.ok = true ∧ b1D .repr d = some ⟨0, .str (reprD d)⟩
theorem shd_of {L n : Nat} {d : D} (h : Cl L n d) (hn : n ≤ 64) (hw : 35 * Wt L n + 33 ≤ 16777216) : Shd d := by
  have q := Cl_shw h
  refine ⟨q.ok, ?_⟩
  have hs := PyData.shown_le_bulk 33 (by decide) (toP d) q.ls
  have hb := q.bk
  have hlen : (reprD d).length ≤ 16777216 := by
    show (toP d).shown.length ≤ _
    have := Nat.mul_le_mul_left 35 hb
    omega
  have hd := q.dp
  show (if (toP d).showable && decide ((reprD d).length ≤ 16777216) && decide ((toP d).depth ≤ 64) && (d.noT && (!(toP d).hasDict || d.noL)) then some (TV.mk 0 (.str (reprD d))) else none) = _
  rw [q.sb, q.nt, q.hd, decide_eq_true hlen, decide_eq_true (show (toP d).depth ≤ 64 by omega)]
  rfl
theorem shd_dct : Shd (.dct false []) := by
  refine ⟨rfl, ?_⟩
  have h1 : (reprD (.dct false [])).length ≤ 16777216 := by
    have : (reprD (.dct false [])).length ≤ 3 := by decide +kernel
    omega
  show (if (toP (.dct false [])).showable && decide ((reprD (.dct false [])).length ≤ 16777216) && decide ((toP (.dct false [])).depth ≤ 64) && ((D.dct false []).noT && (!(toP (.dct false [])).hasDict || (D.dct false []).noL)) then some (TV.mk 0 (.str (reprD (.dct false [])))) else none) = _
  rw [decide_eq_true h1]
  rfl
/-- a text differs from itself not at all -/
theorem ne_str (x : Str) : cmpD .ne (.str x) (.str x) = some false := by
  have h : dEq (.str x) (.str x) = true := by
    show PyData.eqv (.str x) (.str x) = true
    simp [PyData.eqv]
  show (if eqOk (.str x) && eqOk (.str x) then some (!dEq (.str x) (.str x)) else none) = _
  rw [h]
  have : eqOk (.str x) = true := rfl
  rw [this]; rfl
end DL
end

section
set_option Elab.async false
set_option linter.all false
set_option maxRecDepth 100000
/-! HB: the evaluator, read backwards: what GA lacks. -/
namespace DL
open PySem
section
variable {cl : Nat → List TV → RC} {rb : Nat → Nat → Bool} {np : Nat} {l : Sl} {Q : TV → Sl → Prop} {QO : List Od → Sl → Prop} {QI : List D → Sl → Prop} {A : Aft}
theorem w_asgP2 {i j : Nat} {a b : E} : qS (evS cl rb np (.asgP [i, j] (.cons a (.cons b .nil))) l) A = qE (evE cl rb a l) fun v l1 => qE (evE cl rb b l1) fun w l2 => A.nx (st (st l2 i v) j w) := by
  simp only [evS, evVs, qE_bS, List.reverse_cons, List.reverse_nil, List.nil_append, List.cons_append, setVs, qS_nx]
theorem w_asgT2 {i j : Nat} {a b : E} (ha : ∀ i, a ≠ .var i) (hb : ∀ i, b ≠ .var i) : qS (evS cl rb np (.asgT [i, j] (.op .tup (.cons a (.cons b .nil)))) l) A = qE (evE cl rb a l) fun v l1 => qE (evE cl rb b l1) fun w l2 => A.nx (st (st l2 i ⟨0, v.d⟩) j ⟨0, w.d⟩) := by
  simp only [evS, qE_bS, w_op, w_cons, w_nil, w_oe ha, w_oe hb, List.append_nil, List.cons_append, List.nil_append, a_tup, List.length_cons, List.length_nil]
  congr 1
  funext v l1
  congr 1
  funext w l2
  refine Eq.trans (propext ⟨fun h => h.2, fun h => ⟨rfl, h⟩⟩) ?_
  show qS (.nx _) A = _
  rw [qS_nx]
  rfl
@[simp] theorem w_var {i : Nat} : qE (evE cl rb (.var i) l) Q = ((gt l i).d.isUn = false ∧ Q ⟨0, (gt l i).d⟩ (low l i 0)) := by
  simp only [evE]
  cases h : (gt l i).d.isUn <;> simp
@[simp] theorem w_rg1 {e : E} : qE (evE cl rb (.rg false (.cons e .nil)) l) Q = qO (opd e (evE cl rb e) l) fun os l' => ∃ n : Int, os.map (Od.d l') = [.int n] ∧ rgOk 0 n = true ∧ Q ⟨1, .lst (rngL 0 n)⟩ l' := by
  simp only [evE, qO_bnd, w_cons, w_nil, List.append_nil]
  cases hr : opd e (evE cl rb e) l with
  | no => rw [qO_no, qO_no]
  | ok os l' =>
    obtain ⟨o, rfl⟩ := opd_one hr
    rw [qO_ok, qO_ok]
    show qE (rgE false [o.d l'] l') Q = ∃ n : Int, [o.d l'] = [D.int n] ∧ rgOk 0 n = true ∧ Q ⟨1, .lst (rngL 0 n)⟩ l'
    generalize o.d l' = dd
    cases dd with
    | int n =>
      by_cases hn : rgOk 0 n = true
      · simp only [rgE, hn, if_true, Bool.false_eq_true, if_false, qE_ok]
        exact propext ⟨fun h => ⟨n, rfl, hn, h⟩, fun ⟨m, e, _, h⟩ => by cases e; exact h⟩
      · have hn' : rgOk 0 n = false := by simpa using hn
        simp only [rgE, hn', Bool.false_eq_true, if_false]
        exact propext ⟨fun h => (noE h).elim, fun ⟨m, e, h, _⟩ => by cases e; rw [hn'] at h; cases h⟩
    | _ => exact propext ⟨fun h => (noE h).elim, fun ⟨m, e, _⟩ => by cases e⟩
/-- append to a list that owns itself alone -/
theorem q_app {i : Nat} {e : E} (h0 : (gt l i).d.isL = true) (h : qO (opd e (evE cl rb e) l) fun os l' => ∃ o xs, os = [o] ∧ notI i os = true ∧ gt l' i = ⟨1, .lst xs⟩ ∧ small (xs.length + 1) = true ∧ Q ⟨0, .non⟩ (st (lowO 0 l' os) i ⟨1, .lst (xs ++ [o.d l'])⟩)) : qE (evE cl rb (.app i e) l) Q := by
  simp only [evE, h0, if_true]
  cases hr : opd e (evE cl rb e) l with
  | no => rw [hr] at h; exact (noO h).elim
  | ok os l' =>
    rw [hr, qO_ok] at h
    obtain ⟨o, xs, rfl, h1, h2, h3, h4⟩ := h
    simp only [RO.bnd, h1, h2, h3, if_true, qE_ok]
    exact h4
theorem q_popi {i : Nat} {e : E} (h0 : (gt l i).d.isL = true) (h : qE (evE cl rb e l) fun v l' => ∃ t xs k j x, gt l' i = ⟨t + 1, .lst xs⟩ ∧ v.d = .int k ∧ ixN xs.length k = some j ∧ xs[j]? = some x ∧ Q ⟨if x.isM then t else 0, x⟩ (st l' i ⟨t + 1, .lst (xs.eraseIdx j)⟩)) : qE (evE cl rb (.popi i e) l) Q := by
  simp only [evE, h0, if_true]
  cases hr : evE cl rb e l with
  | no => rw [hr] at h; exact (noE h).elim
  | ok v l' =>
    rw [hr, qE_ok] at h
    obtain ⟨t, xs, k, j, x, h1, h2, h3, h4, h5⟩ := h
    simp only [RE.bnd, h1, h2, h3, h4, qE_ok]
    exact h5
theorem w_callk {f : Nat} {x : Str} {ks : List Str} {pm : List Nat} {es : Es} : qE (evE cl rb (.callk f x ks pm es) l) Q = qO (evO cl rb es l) fun os l' => (os.length == ks.length && pm.all (fun j => decide (j < os.length))) = true ∧ qE (callO cl rb f (pm.map fun j => dropO (os.getD j (.v ⟨0, .un⟩))) l') Q := by
  simp only [evE, qO_bnd]
  congr 1
  funext os l'
  cases (os.length == ks.length && pm.all (fun j => decide (j < os.length))) <;> simp
/-- an item of a list that is at hand -/
theorem q_subV {x : TV} {xs : List D} {y : Od} {j : Int} (hs : seqOf x.d = some xs) (hj : y.d l = .int j) (h0 : 0 ≤ j) (h1 : j < xs.length) (hQ : ∀ d ∈ xs, Q ⟨0, d⟩ l) : qE (applyO .sub [.v x, y] l) Q := by
  rw [a_subL (xs := xs) (by exact hs)]
  have hk : j.toNat < xs.length := by omega
  exact ⟨j, j.toNat, xs[j.toNat], hj, ix_pos h0 h1, List.getElem?_eq_getElem hk, hQ _ (List.getElem_mem hk)⟩
/-- an item of a thing that a name holds; the name owns nothing within -/
theorem q_subR {i : Nat} {xs : List D} {y : Od} {j : Int} {k : Nat} (hs : seqOf (gt l i).d = some xs) (ht : (gt l i).t ≤ 1) (hj : y.d l = .int j) (hk : ixN xs.length j = some k) (h1 : k < xs.length) (hQ : Q ⟨0, xs[k]⟩ l) : qE (applyO .sub [.r i, y] l) Q := by
  rw [a_subL (xs := xs) (by exact hs)]
  refine ⟨j, k, xs[k], hj, hk, List.getElem?_eq_getElem h1, ?_⟩
  have : ∀ d : D, lowSub l (.r i) d = l := fun d => by
    show (if d.isM then low l i 1 else l) = l
    split
    · exact low_id ht
    · rfl
  rw [this]; exact hQ
end
@[simp] theorem sq_tup {xs : List D} : seqOf (.tup xs) = some xs := rfl
@[simp] theorem sq_lst {xs : List D} : seqOf (.lst xs) = some xs := rfl
@[simp] theorem deckT_t {gs : List Int} {m t : Int} : (deckT gs m t).t = 2 := rfl
theorem cut_mem {α : Type} {xs : List α} {lo hi : Option Int} {x : α} (h : x ∈ cut xs lo hi) : x ∈ xs := List.mem_of_mem_drop (List.mem_of_mem_take h)
theorem cut_len {α : Type} {xs : List α} {lo hi : Option Int} : (cut xs lo hi).length ≤ xs.length := by
  unfold cut
  rw [List.length_take, List.length_drop]
  omega
@[simp] theorem s_tup {xs : List D} {lo hi : Option Int} : slcD (.tup xs) lo hi = some ⟨0, .tup (cut xs lo hi)⟩ := rfl
@[simp] theorem s_lst {xs : List D} {lo hi : Option Int} : slcD (.lst xs) lo hi = some ⟨1, .lst (cut xs lo hi)⟩ := rfl
theorem b_addT {x y : List D} (h : x.length + y.length ≤ 16777216) : binD .add (.tup x) (.tup y) = some ⟨0, .tup (x ++ y)⟩ := if_pos (decide_eq_true h)
theorem b_addL {x y : List D} (h : x.length + y.length ≤ 16777216) : binD .add (.lst x) (.lst y) = some ⟨1, .lst (x ++ y)⟩ := if_pos (decide_eq_true h)
theorem b_mulT {x : List D} {j : Int} (h0 : x ≠ []) (h : 2 ≤ j ∧ j ≤ 1000 ∧ x.length ≤ 1000) : binD .mul (.tup x) (.int j) = some ⟨0, .tup (List.replicate j.toNat x).flatten⟩ := by
  show (if !x.isEmpty && decide (2 ≤ j ∧ j ≤ 1000 ∧ x.length ≤ 1000) then _ else _) = _
  rw [decide_eq_true h]
  cases x with
  | nil => exact absurd rfl h0
  | cons a r => rfl
theorem b_mul1 {x : List D} (h : x.length ≤ 1000) : binD .mul (.tup x) (.int 1) = some ⟨0, .tup x⟩ := by
  show (if !x.isEmpty && decide (2 ≤ (1 : Int) ∧ (1 : Int) ≤ 1000 ∧ x.length ≤ 1000) then _ else (if (1 : Int) = 1 then some (TV.mk 0 (.tup x)) else none)) = _
  rw [decide_eq_false (by omega), Bool.and_false]
  rfl
theorem b_mulL {x : List D} {j : Int} (h : j < 2 ^ 62 ∧ -(2 ^ 62) < j) (h2 : x.length * j.toNat ≤ 16777216) : binD .mul (.lst x) (.int j) = some ⟨1, .lst (List.replicate j.toNat x).flatten⟩ := by
  show (if decide (j < 2 ^ 62 ∧ -(2 ^ 62) < j) && small (x.length * j.toNat) then _ else none) = _
  rw [decide_eq_true h, show small (x.length * j.toNat) = true from decide_eq_true h2]
  rfl
theorem rep_mem {x : List D} {n : Nat} {d : D} (h : d ∈ (List.replicate n x).flatten) : d ∈ x := by
  obtain ⟨y, h1, h2⟩ := List.mem_flatten.mp h
  rw [List.eq_of_mem_replicate h1] at h2
  exact h2
theorem rep_len {x : List D} {n : Nat} : (List.replicate n x).flatten.length = n * x.length := by
  induction n with
  | zero => simp
  | succ n ih => rw [List.replicate_succ, List.flatten_cons, List.length_append, ih, Nat.succ_mul, Nat.add_comm]
theorem eq_unit (ws : List D) (h : PyData.plainAll (toPs ws) = true ∧ PyData.depthAll (toPs ws) ≤ 60) : cmpD .eq (.tup ws) (.tup []) = some ws.isEmpty := by
  have h1 : eqOk (.tup ws) = true := by
    unfold eqOk
    rw [Bool.and_eq_true, decide_eq_true_eq]
    exact ⟨h.1, by show PyData.depthAll (toPs ws) + 1 ≤ 64; omega⟩
  show (if eqOk (.tup ws) && eqOk (.tup []) then some (dEq (.tup ws) (.tup [])) else none) = _
  rw [h1, show eqOk (.tup []) = true from rfl]
  cases ws <;> rfl
end DL
end

section
set_option Elab.async false
set_option linter.all false
set_option maxRecDepth 100000
namespace DL
open PySem
/-- any value, nested deep at most -/
def AnyQ (m : Int) (deep : Nat) (v : TV) (as : List TV) : Prop := ∃ x gs t, v = ⟨0, x⟩ ∧ Cl 30 deep x ∧ as = [deckT gs m t, ⟨0, .int deep⟩] ∧ Good gs
theorem rb358 {P : Nat → Option FD} (hP : P 358 = some f358) : rbP P 358 = f358.reb := by funext p; unfold rbP; rw [hP]
theorem reb358 : f358.reb 0 = false ∧ f358.reb 1 = false := ⟨rfl, rfl⟩
@[simp] theorem b_pow18 : binD .pow (.int 10) (.int 18) = some ⟨0, .int 1000000000000000000⟩ := by rfl
@[simp] theorem b_tupL {xs : List D} : b1D .tuple (.lst xs) = some ⟨0, .tup xs⟩ := rfl
@[simp] theorem un_lst {xs : List D} : (D.lst xs).isUn = false := rfl
def anyL (z : Int) : List D := [.non, .bl true, .int z, .str "", .str "on", .str "in"]
set_option maxHeartbeats 2000000 in
theorem any_step {P : Nat → Option FD} {n : Nat} {m : Int} {deep : Nat} {gs : List Int} {t : Int} (hP : P 358 = some f358) (hD : P 356 = some f356) (hE : P 357 = some f357) (hm : 0 ≤ m ∧ m < 4294967296) (G : Good gs)
    (hrec : ∀ d, deep = d + 1 → ∀ gs t, Good gs → qC (evCall P (n + 2) 358 [deckT gs m t, ⟨0, .int d⟩]) (AnyQ m d)) : qC (evCall P (n + 3) 358 [deckT gs m t, ⟨0, .int deep⟩]) (AnyQ m deep) := by
  refine qC_of hP rfl rfl ?_
  show qS (evSs _ _ _ b358 [deckT gs m t, ⟨0, .int deep⟩, ⟨0, .un⟩, ⟨0, .un⟩, ⟨0, .un⟩]) _
  unfold b358
  refine q_cons fun N hN => ?_
  have go : ∀ (i : Int) (gs' : List Int) (t' : Int), 0 ≤ i → (deep = 0 → i < 6) → i < 9 → Good gs' → N [deckT gs' m t', ⟨0, .int deep⟩, ⟨0, .int i⟩, ⟨0, .un⟩, ⟨0, .un⟩] := by
    intro i gs t i0 i1 i2 G
    refine hN _ ?_
    clear hN N
    refine q_cons fun N hN => ?_
    by_cases h6 : i < 6
    · simp [w_oe, w_scons, w_retv, h6, small, lowO, a_call, rb357 hE, lowR, onceO, rebOk, takeO, reb357]
      refine qC_mono (pick357 (xs := [.int 0, .int 1, .int 2, .int 3, .int (-1), .int 1000000000000000000]) hD hE G hm (.inl rfl) (Nat.le_refl 1) (by decide) (by decide)) ?_
      rintro v as ⟨x, gs', t', hx, rfl, rfl, G'⟩
      simp [backO]
      refine q_subV (xs := [.non, .bl true, x, .str "", .str "on", .str "in"]) (j := i) ?_ ?_ i0 (by simp; omega) fun d hd => ?_
      · rfl
      · rfl
      refine ⟨d, gs', t', rfl, ?_, rfl, G'⟩
      refine Cl_leaf ?_
      simp only [List.mem_cons, List.not_mem_nil, or_false] at hd hx
      rcases hd with rfl | rfl | rfl | rfl | rfl | rfl
      · rfl
      · rfl
      · rcases hx with rfl | rfl | rfl | rfl | rfl | rfl <;> decide +kernel
      · decide +kernel
      · decide +kernel
      · decide +kernel
    · simp [w_oe, h6]
      refine hN _ ?_
      clear hN N
      obtain ⟨d, rfl⟩ : ∃ d, deep = d + 1 := ⟨deep - 1, by omega⟩
      have ed : ((d + 1 : Nat) : Int) - 1 = (d : Int) := by omega
      refine q_cons fun N hN => ?_
      simp [w_oe, w_lc, a_call, rb356 hD, lowR, onceO, rebOk, takeO, reb356]
      refine qC_mono (draw356 hD G hm (by decide)) ?_
      rintro v as ⟨c, gs', t', rfl, ⟨c0, c1, c2⟩, rfl, G'⟩
      have c3 := c1 (by decide)
      simp [backO]
      refine ⟨by omega, ?_⟩
      refine q_lc (fun xs acc l => ∃ (gs : List Int) (t : Int) (a : TV), (∀ z ∈ acc, Cl 30 d z) ∧ ((acc.length + xs.length : Nat) : Int) ≤ c ∧ l = [deckT gs m t, ⟨0, .int (d + 1 : Nat)⟩, ⟨0, .int i⟩, ⟨0, .un⟩, a] ∧ Good gs) _ _ _ ⟨gs', t', _, by simp, by unfold rngL; simp; omega, rfl, G'⟩ ?_ ?_
      · rintro x r acc l ⟨gs2, t2, a, hz, hn, rfl, G2⟩
        show qT (evC _ _ .nil [deckT gs2 m t2, ⟨0, .int (d + 1 : Nat)⟩, ⟨0, .int i⟩, ⟨0, .un⟩, ⟨0, x⟩]) _
        simp only [evC, qT_ok]
        refine ⟨fun q => (by cases q), fun _ => ?_⟩
        simp [w_oe, a_call, rb358 hP, lowR, onceO, rebOk, takeO, reb358, lowF, lowB]
        refine qC_mono (hrec d rfl gs2 t2 G2) ?_
        rintro v as ⟨y, gs3, t3, rfl, hy, rfl, G3⟩
        have hn' : (acc.length : Int) + (r.length + 1) ≤ c := by simpa using hn
        refine ⟨decide_eq_true (by omega), ?_⟩
        refine ⟨fun z hz2 => ?_, by omega, gs3, ⟨t3, ⟨0, x⟩, rfl⟩, G3⟩
        rcases hz2 with q | rfl
        · exact hz z q
        · exact hy
      · rintro acc l ⟨gs2, t2, a, hz, hn, rfl, G2⟩
        show N [deckT gs2 m t2, ⟨0, .int (d + 1 : Nat)⟩, ⟨0, .int i⟩, ⟨1, .lst acc⟩, ⟨0, .un⟩]
        refine hN _ ?_
        clear hN N
        have hl : acc.length ≤ 30 := by simp at hn; omega
        refine q_cons fun N hN => ?_
        by_cases h8 : i < 8
        · simp [w_oe, w_retv, h8, lowF]
          exact ⟨.tup acc, gs2, t2, rfl, Cl_tup hl hz, rfl, G2⟩
        · simp [w_oe, w_retv, h8, lowF]
          exact ⟨.lst acc, gs2, t2, rfl, Cl_lst hl hz, rfl, G2⟩
  by_cases h0 : deep = 0
  · subst h0
    simp [w_oe, a_call, rb356 hD, lowR, onceO, rebOk, takeO, reb356]
    refine qC_mono (draw356 hD G hm (by decide)) ?_
    rintro v as ⟨i, gs', t', rfl, ⟨i0, i1, i2⟩, rfl, G'⟩
    have := i1 (by decide)
    exact go i gs' t' i0 (fun _ => by omega) (by omega) G'
  · have h1 : 0 < deep := by omega
    simp [w_oe, a_call, rb356 hD, lowR, onceO, rebOk, takeO, reb356, h1, h0]
    refine qC_mono (draw356 hD G hm (by decide)) ?_
    rintro v as ⟨i, gs', t', rfl, ⟨i0, i1, i2⟩, rfl, G'⟩
    have := i1 (by decide)
    exact go i gs' t' i0 (fun q => absurd q h0) (by omega) G'
theorem any358 {P : Nat → Option FD} {n : Nat} {m : Int} (hP : P 358 = some f358) (hD : P 356 = some f356) (hE : P 357 = some f357) (hm : 0 ≤ m ∧ m < 4294967296) :
    ∀ (deep : Nat) {gs : List Int} {t : Int}, Good gs → qC (evCall P (n + 3 + deep) 358 [deckT gs m t, ⟨0, .int deep⟩]) (AnyQ m deep)
  | 0, gs, t, G => any_step hP hD hE hm G fun d e => by cases e
  | deep + 1, gs, t, G => by
    have e : n + 3 + (deep + 1) = (n + deep + 1) + 3 := by omega
    rw [e]
    refine any_step hP hD hE hm G fun d e gs t G => ?_
    obtain rfl : d = deep := by omega
    have e2 : n + d + 1 + 2 = n + 3 + d := by omega
    rw [e2]
    exact any358 hP hD hE hm d G
end DL
end

section
set_option Elab.async false
set_option linter.all false
set_option maxRecDepth 100000
namespace DL
open PySem
def revD (d : D) : Option TV := match d with
  | .tup xs => some ⟨0, .tup xs.reverse⟩
  | .lst xs => some ⟨1, .lst xs.reverse⟩
  | _ => none
@[simp] theorem revD_tup {xs : List D} : revD (.tup xs) = some ⟨0, .tup xs.reverse⟩ := rfl
@[simp] theorem revD_lst {xs : List D} : revD (.lst xs) = some ⟨1, .lst xs.reverse⟩ := rfl
@[simp] theorem a_rev {x : Od} {l : Sl} {Q : TV → Sl → Prop} : qE (applyO .rev [x] l) Q = ∃ v, revD (x.d l) = some v ∧ Q v (lowO 1 l [x]) := by
  show qE (match x.d l with | .tup xs => .ok ⟨0, .tup xs.reverse⟩ (lowO 1 l [x]) | .lst xs => .ok ⟨1, .lst xs.reverse⟩ (lowO 1 l [x]) | _ => .no) Q = _
  cases x.d l <;> simp [revD]
@[simp] theorem b_lstT {xs : List D} : b1D .list (.tup xs) = some ⟨1, .lst xs⟩ := rfl
@[simp] theorem b_lstL {xs : List D} : b1D .list (.lst xs) = some ⟨1, .lst xs⟩ := rfl
@[simp] theorem b_lenL {xs : List D} : b1D .len (.lst xs) = some ⟨0, .int xs.length⟩ := rfl
def BentTQ (m : Int) (row : D) (high : Int) (v : TV) (as : List TV) : Prop := ∃ x gs t, v = ⟨0, x⟩ ∧ Cl 201 1 x ∧ as = [deckT gs m t, ⟨0, row⟩, ⟨0, .int high⟩] ∧ Good gs
theorem rb361 {P : Nat → Option FD} (hP : P 361 = some f361) : rbP P 361 = f361.reb := by funext p; unfold rbP; rw [hP]
theorem reb361 : f361.reb 0 = false ∧ f361.reb 1 = false ∧ f361.reb 2 = false := ⟨rfl, rfl, rfl⟩
theorem ix_last {n : Nat} (h : 0 < n) : ixN n (-1) = some (n - 1) := by
  unfold ixN
  rw [if_neg (by omega), if_pos (by omega)]
  congr 1
  omega
theorem leaf_int {i : Int} (h : i.natAbs < 10000000000000000000000000000000) : leafB (.int i) = true := decide_eq_true h
set_option maxHeartbeats 4000000 in
theorem bentT361 {P : Nat → Option FD} {n : Nat} {m : Int} {gs : List Int} {t high : Int} {ws : List Int} (hP : P 361 = some f361) (hD : P 356 = some f356) (hE : P 357 = some f357) (hm : 0 ≤ m ∧ m < 4294967296) (G : Good gs)
    (hw : ∀ z ∈ ws, z.natAbs < 10000000000000000000000000000000) (hl : ws.length ≤ 199) (hh : high.natAbs < 1000000) : qC (evCall P (n + 3) 361 [deckT gs m t, ⟨0, .tup (ws.map D.int)⟩, ⟨0, .int high⟩]) (BentTQ m (.tup (ws.map D.int)) high) := by
  refine qC_of hP rfl rfl ?_
  show qS (evSs _ _ _ b361 [deckT gs m t, ⟨0, .tup (ws.map D.int)⟩, ⟨0, .int high⟩, ⟨0, .un⟩, ⟨0, .un⟩, ⟨0, .un⟩]) _
  unfold b361
  have hu : (D.tup (ws.map D.int)).isUn = false := rfl
  have hmem : ∀ d ∈ ws.map D.int, leafB d = true := fun d hd => by
    obtain ⟨z, hz, rfl⟩ := List.mem_map.mp hd
    exact leaf_int (hw z hz)
  refine q_cons fun N hN => ?_
  have heq := eq_unit (ws.map D.int) ⟨(ints_plain ws).1, Nat.le_trans (ints_plain ws).2 (by decide)⟩
  by_cases h0 : ws = []
  · subst h0
    simp [w_oe, w_scons, w_retv, hu, heq, small, lowO, a_call, rb357 hE, lowR, onceO, rebOk, takeO, reb357]
    right
    refine ⟨heq, ?_⟩
    refine qC_mono (pick357 (xs := [.tup [.int 0], .lst [], .non, .tup [.bl true], .tup [.int high]]) hD hE G hm (.inl rfl) (Nat.le_refl 1) (by simp) (by simp)) ?_
    rintro v as ⟨x, gs', t', hx, rfl, rfl, G'⟩
    refine ⟨x, gs', t', rfl, ?_, rfl, G'⟩
    simp only [List.mem_cons, List.not_mem_nil, or_false] at hx
    rcases hx with rfl | rfl | rfl | rfl | rfl
    · exact Cl_tup (by decide) fun x hx => by simp at hx; subst hx; exact Cl_int (by decide)
    · exact Cl_lst (by decide) fun x hx => by simp at hx
    · exact Cl_leaf rfl
    · exact Cl_tup (by decide) fun x hx => by simp at hx; subst hx; exact Cl_leaf rfl
    · exact Cl_tup (by simp) fun x hx => by simp at hx; subst hx; exact Cl_int (by omega)
  · have hem : (ws.map D.int).isEmpty = false := by cases ws with | nil => exact absurd rfl h0 | cons _ _ => rfl
    have hpos : 0 < ws.length := List.length_pos_iff.mpr h0
    rw [hem] at heq
    simp [w_oe, hu, heq, small, lowO]
    refine hN _ ?_
    clear hN N
    refine q_cons fun N hN => ?_
    rw [w_asgP2]
    simp [w_oe, hu, a_call, rb356 hD, lowR, onceO, rebOk, takeO, reb356, lowF]
    refine qC_mono (draw356 hD G hm (by omega)) ?_
    rintro v as ⟨p, gs, t, rfl, ⟨p0, p1, p2⟩, rfl, G⟩
    simp [backO]
    refine qC_mono (draw356 hD G hm (by decide)) ?_
    rintro v as ⟨w, gs, t, rfl, ⟨w0, w1, w2⟩, rfl, G⟩
    simp [backO]
    refine hN _ ?_
    clear hN N w1 w2 p1 p2
    refine q_cons fun N hN => ?_
    by_cases h3 : w < 3
    · simp [w_oe, h3]
      refine q_cons fun N1 hN1 => ?_
      simp [w_oe, w_retv, hu, h3, a_call, rb357 hE, lowR, onceO, rebOk, takeO, reb357, lowB, lowF]
      have hl0 : 0 < (ws.map D.int).length := by simpa using hpos
      have hl1 : (ws.map D.int).length - 1 < (ws.map D.int).length := by omega
      refine q_subR (xs := ws.map D.int) (j := 0) (k := 0) rfl (Nat.zero_le _) rfl (ix_pos (by decide) (by omega)) hl0 ?_
      refine ⟨rfl, ?_⟩
      refine q_subR (xs := ws.map D.int) (j := -1) (k := (ws.map D.int).length - 1) rfl (Nat.zero_le _) rfl (ix_last hl0) hl1 ?_
      have m1 := hmem _ (List.getElem_mem hl0)
      have m2 := hmem _ (List.getElem_mem hl1)
      generalize (ws.map D.int)[0] = y1 at m1
      generalize (ws.map D.int)[(ws.map D.int).length - 1] = y2 at m2
      refine ⟨rfl, ?_⟩
      refine qC_mono (pick357 (xs := [.int 0, .int 1, .int high, .int (high - 1), .int (-1), .bl true, .non, .str "0", y1, y2]) hD hE G hm (.inl rfl) (Nat.le_refl 1) (by simp) (by simp)) ?_
      rintro v as ⟨x, gs', t', hx, rfl, rfl, G'⟩
      have hx1 : leafB x = true := by
        simp only [List.mem_cons, List.not_mem_nil, or_false] at hx
        rcases hx with rfl | rfl | rfl | rfl | rfl | rfl | rfl | rfl | rfl | rfl
        · rfl
        · rfl
        · exact leaf_int (by omega)
        · exact leaf_int (by omega)
        · rfl
        · rfl
        · rfl
        · decide +kernel
        · exact m1
        · exact m2
      have hxu : x.isUn = false := by cases x <;> first | rfl | (simp [leafB] at hx1)
      show N1 [deckT gs' m t', ⟨0, .tup (ws.map D.int)⟩, ⟨0, .int high⟩, ⟨0, .int p⟩, ⟨0, .int w⟩, ⟨0, x⟩]
      refine hN1 _ ?_
      clear hN1 N1
      refine q_cons fun N1 hN1 => ?_
      have c1 := cut_len (xs := ws.map D.int) (lo := none) (hi := some p)
      have c2 := cut_len (xs := ws.map D.int) (lo := some (p + 1)) (hi := none)
      have m1 : ∀ y ∈ cut (ws.map D.int) none (some p), leafB y = true := fun y hy => hmem y (cut_mem hy)
      have m2 : ∀ y ∈ cut (ws.map D.int) (some (p + 1)) none, leafB y = true := fun y hy => hmem y (cut_mem hy)
      rw [List.length_map] at c1 c2
      generalize hc1 : cut (ws.map D.int) none (some p) = a1 at *
      generalize hc2 : cut (ws.map D.int) (some (p + 1)) none = a2 at *
      have f1 : binD .add (.tup a1) (.tup [x]) = some ⟨0, .tup (a1 ++ [x])⟩ := b_addT (by simp; omega)
      have f2 : binD .add (.tup (a1 ++ [x])) (.tup a2) = some ⟨0, .tup (a1 ++ [x] ++ a2)⟩ := b_addT (by simp; omega)
      simp only [List.append_assoc, List.cons_append, List.nil_append] at f2
      have c3 : a1.length + a2.length ≤ ws.length := by
        rw [← hc1, ← hc2]
        unfold cut
        simp only [List.length_take, List.length_drop, List.length_map, cutIx]
        split <;> split <;> omega
      simp [w_oe, w_retv, hu, hxu, small, lowB, lowF, lowO, hc1, hc2, f1, f2]
      refine ⟨_, gs', t', rfl, Cl_tup (by simp; omega) fun y hy => ?_, rfl, G'⟩
      rcases List.mem_append.mp hy with q | q
      · exact Cl_leaf (m1 y q)
      · rcases List.mem_cons.mp q with rfl | q
        · exact Cl_leaf hx1
        · exact Cl_leaf (m2 y q)
    · simp [w_oe, h3]
      refine hN _ ?_
      clear hN N
      refine q_cons fun N hN => ?_
      have c1 := cut_len (xs := ws.map D.int) (lo := none) (hi := some p)
      have c2 := cut_len (xs := ws.map D.int) (lo := some (p + 1)) (hi := none)
      have c3 := cut_len (xs := ws.map D.int) (lo := none) (hi := some (p + 1))
      have c4 := cut_len (xs := ws.map D.int) (lo := some p) (hi := none)
      have m1 : ∀ y ∈ cut (ws.map D.int) none (some p), leafB y = true := fun y hy => hmem y (cut_mem hy)
      have m2 : ∀ y ∈ cut (ws.map D.int) (some (p + 1)) none, leafB y = true := fun y hy => hmem y (cut_mem hy)
      have m3 : ∀ y ∈ cut (ws.map D.int) none (some (p + 1)), leafB y = true := fun y hy => hmem y (cut_mem hy)
      have m4 : ∀ y ∈ cut (ws.map D.int) (some p) none, leafB y = true := fun y hy => hmem y (cut_mem hy)
      have d1 : (cut (ws.map D.int) none (some p)).length + (cut (ws.map D.int) (some (p + 1)) none).length ≤ ws.length := by
        unfold cut
        simp only [List.length_take, List.length_drop, List.length_map, cutIx]
        split <;> split <;> omega
      have d2 : (cut (ws.map D.int) none (some (p + 1))).length + (cut (ws.map D.int) (some p) none).length ≤ ws.length + 1 := by
        unfold cut
        simp only [List.length_take, List.length_drop, List.length_map, cutIx]
        split <;> split <;> omega
      rw [List.length_map] at c1 c2 c3 c4
      generalize hc1 : cut (ws.map D.int) none (some p) = a1 at *
      generalize hc2 : cut (ws.map D.int) (some (p + 1)) none = a2 at *
      generalize hc3 : cut (ws.map D.int) none (some (p + 1)) = a3 at *
      generalize hc4 : cut (ws.map D.int) (some p) none = a4 at *
      have f1 : binD .add (.tup a1) (.tup a2) = some ⟨0, .tup (a1 ++ a2)⟩ := b_addT (by omega)
      have f2 : binD .add (.tup (ws.map D.int)) (.tup [.int 0]) = some ⟨0, .tup (ws.map D.int ++ [.int 0])⟩ := b_addT (by simp; omega)
      have f3 : binD .add (.tup a3) (.tup a4) = some ⟨0, .tup (a3 ++ a4)⟩ := b_addT (by omega)
      simp [w_oe, w_retv, hu, h3, a_call, rb357 hE, lowR, onceO, rebOk, takeO, reb357, small, lowB, lowF, lowO, hc1, hc2, hc3, hc4, f1, f2, f3]
      refine qC_mono (pick357 (xs := [.tup (ws.map D.int).reverse, .tup (a1 ++ a2), .tup (ws.map D.int ++ [.int 0]), .lst (ws.map D.int), .tup (a3 ++ a4), .non]) hD hE G hm (.inl (by simp)) (Nat.le_refl 1) (by simp) (by simp)) ?_
      rintro v as ⟨x, gs', t', hx, rfl, rfl, G'⟩
      refine ⟨x, gs', t', rfl, ?_, rfl, G'⟩
      simp only [List.mem_cons, List.not_mem_nil, or_false] at hx
      rcases hx with rfl | rfl | rfl | rfl | rfl | rfl
      · exact Cl_tup (by simp; omega) fun y hy => Cl_leaf (hmem y (List.mem_reverse.mp hy))
      · exact Cl_tup (by simp; omega) fun y hy => by
          rcases List.mem_append.mp hy with q | q
          · exact Cl_leaf (m1 y q)
          · exact Cl_leaf (m2 y q)
      · exact Cl_tup (by simp; omega) fun y hy => by
          rcases List.mem_append.mp hy with q | q
          · exact Cl_leaf (hmem y q)
          · obtain rfl : y = .int 0 := by simpa using q
            exact Cl_leaf rfl
      · exact Cl_lst (by simp; omega) fun y hy => Cl_leaf (hmem y hy)
      · exact Cl_tup (by simp; omega) fun y hy => by
          rcases List.mem_append.mp hy with q | q
          · exact Cl_leaf (m3 y q)
          · exact Cl_leaf (m4 y q)
      · exact Cl_leaf rfl
end DL
end

section
set_option Elab.async false
set_option linter.all false
set_option maxRecDepth 100000
/-! HE: comprehensions by what stays. -/
namespace DL
open PySem
/-- a comprehension over told items, each element told; J stays true of the slots but i -/
theorem q_mapJ {α : Type} {cl : Nat → List TV → RC} {rb : Nat → Nat → Bool} {as : List α} {e g : α → D} {l : Sl} {i : Nat} {E : E} {R : TV → Sl → Prop} (J : Sl → Prop) (hJ : J l) (hl : as.length ≤ 16777216)
    (h : ∀ a ∈ as, ∀ l, J l → qE (evE cl rb E (st l i ⟨0, e a⟩)) fun v l' => v.d = g a ∧ ∃ l1 b, J l1 ∧ l' = st l1 i b) (hR : ∀ l1 b, J l1 → R ⟨1, .lst (as.map g)⟩ (st l1 i b)) :
    qE (lcR (fun x l' => evE cl rb E l') false (fun x l' => match bindT (clr l' [i]) [i] x with | some l2 => evC cl rb .nil l2 | none => .no) (as.map e) [] l) R := by
  refine q_lc (fun ys acc l2 => ∃ pre suf, as = pre ++ suf ∧ ys = suf.map e ∧ acc = pre.map g ∧ ∃ l0 a, J l0 ∧ l2 = st l0 i a) _ [] l ⟨[], as, rfl, rfl, rfl, l, gt l i, hJ, st_gt.symm⟩ ?_ ?_
  · rintro x r acc l2 ⟨pre, suf, e1, e2, rfl, l0, a, j0, rfl⟩
    obtain ⟨y, suf, rfl, rfl, rfl⟩ : ∃ y suf', suf = y :: suf' ∧ x = e y ∧ r = suf'.map e := by
      cases suf with
      | nil => cases e2
      | cons y s => cases e2; exact ⟨y, s, rfl, rfl, rfl⟩
    have hb : (match bindT (clr (st l0 i a) [i]) [i] (e y) with | some l2 => evC cl rb .nil l2 | none => RB.no) = .ok true (st l0 i ⟨0, e y⟩) := by
      show evC cl rb .nil (st (st (st l0 i a) i ⟨0, .un⟩) i ⟨0, e y⟩) = _
      rw [st_st, st_st]
      simp only [evC]
    rw [hb, qT_ok]
    refine ⟨fun q => (by cases q), fun _ => ?_⟩
    have hx := h y (by rw [e1]; simp) l0 j0
    cases hr : evE cl rb E (st l0 i ⟨0, e y⟩) with
    | no => rw [hr] at hx; exact (noE hx).elim
    | ok v l3 =>
      rw [hr, qE_ok] at hx
      rw [qE_ok]
      obtain ⟨hv, l1, b, j1, hl3⟩ := hx
      refine ⟨decide_eq_true ?_, rfl, pre ++ [y], suf, by rw [e1]; simp, rfl, by simp [hv], l1, b, j1, hl3⟩
      have : as.length = pre.length + (suf.length + 1) := by rw [e1]; simp
      simp; omega
  · rintro acc l2 ⟨pre, suf, e1, e2, rfl, l0, a, j0, rfl⟩
    have hs : suf = [] := by cases suf with | nil => rfl | cons _ _ => cases e2
    subst hs
    rw [List.append_nil] at e1
    subst e1
    exact hR l0 a j0
/-- a comprehension each element of which is of a kind -/
theorem q_kindJ {α : Type} {cl : Nat → List TV → RC} {rb : Nat → Nat → Bool} {as : List α} {e : α → D} {l : Sl} {i : Nat} {E : E} {R : TV → Sl → Prop} (J : Sl → Prop) (K : D → Prop) (hJ : J l) (hl : as.length ≤ 16777216)
    (h : ∀ a ∈ as, ∀ l, J l → qE (evE cl rb E (st l i ⟨0, e a⟩)) fun v l' => K v.d ∧ ∃ l1 b, J l1 ∧ l' = st l1 i b) (hR : ∀ ds l1 b, ds.length = as.length → (∀ d ∈ ds, K d) → J l1 → R ⟨1, .lst ds⟩ (st l1 i b)) :
    qE (lcR (fun x l' => evE cl rb E l') false (fun x l' => match bindT (clr l' [i]) [i] x with | some l2 => evC cl rb .nil l2 | none => .no) (as.map e) [] l) R := by
  refine q_lc (fun ys acc l2 => ∃ suf, (∀ a ∈ suf, a ∈ as) ∧ ys = suf.map e ∧ acc.length + suf.length = as.length ∧ (∀ d ∈ acc, K d) ∧ ∃ l0 a, J l0 ∧ l2 = st l0 i a) _ [] l ⟨as, fun _ h => h, rfl, by simp, by simp, l, gt l i, hJ, st_gt.symm⟩ ?_ ?_
  · rintro x r acc l2 ⟨suf, e1, e2, e3, e4, l0, a, j0, rfl⟩
    obtain ⟨y, suf, rfl, rfl, rfl⟩ : ∃ y suf', suf = y :: suf' ∧ x = e y ∧ r = suf'.map e := by
      cases suf with
      | nil => cases e2
      | cons y s => cases e2; exact ⟨y, s, rfl, rfl, rfl⟩
    have hb : (match bindT (clr (st l0 i a) [i]) [i] (e y) with | some l2 => evC cl rb .nil l2 | none => RB.no) = .ok true (st l0 i ⟨0, e y⟩) := by
      show evC cl rb .nil (st (st (st l0 i a) i ⟨0, .un⟩) i ⟨0, e y⟩) = _
      rw [st_st, st_st]
      simp only [evC]
    rw [hb, qT_ok]
    refine ⟨fun q => (by cases q), fun _ => ?_⟩
    have hx := h y (e1 y (by simp)) l0 j0
    cases hr : evE cl rb E (st l0 i ⟨0, e y⟩) with
    | no => rw [hr] at hx; exact (noE hx).elim
    | ok v l3 =>
      rw [hr, qE_ok] at hx
      rw [qE_ok]
      obtain ⟨hv, l1, b, j1, hl3⟩ := hx
      have e3' : acc.length + (suf.length + 1) = as.length := e3
      refine ⟨decide_eq_true (by omega), rfl, suf, fun a ha => e1 a (by simp [ha]), rfl, by simp; omega, fun d hd => ?_, l1, b, j1, hl3⟩
      rcases List.mem_append.mp hd with q | q
      · exact e4 d q
      · obtain rfl : d = v.d := by simpa using q
        exact hv
  · rintro acc l2 ⟨suf, e1, e2, e3, e4, l0, a, j0, rfl⟩
    have hs : suf = [] := by cases suf with | nil => rfl | cons _ _ => cases e2
    subst hs
    exact hR acc l0 a (by simpa using e3) e4 j0
theorem allInts {p : Int → Prop} : ∀ {ds : List D}, (∀ d ∈ ds, ∃ z, d = .int z ∧ p z) → ∃ zs : List Int, ds = zs.map D.int ∧ zs.length = ds.length ∧ ∀ z ∈ zs, p z
  | [], _ => ⟨[], rfl, rfl, by simp⟩
  | d :: r, h => by
    obtain ⟨z, rfl, hz⟩ := h _ List.mem_cons_self
    obtain ⟨zs, rfl, h2, h3⟩ := allInts fun d hd => h d (List.mem_cons_of_mem _ hd)
    exact ⟨z :: zs, rfl, by simp, fun y hy => by
      rcases List.mem_cons.mp hy with rfl | q
      · exact hz
      · exact h3 y q⟩
/-- the numbers of a range -/
def rngI (n : Nat) : List Int := (List.range n).map fun k : Nat => (k : Int)
theorem rngL_I (n : Nat) : rngL 0 (n : Int) = (rngI n).map D.int := by
  unfold rngL rngI
  rw [List.map_map]
  have : ((n : Int) - 0).toNat = n := by omega
  rw [this]
  refine List.map_congr_left fun k _ => ?_
  simp
theorem rngI_len {n : Nat} : (rngI n).length = n := by simp [rngI]
theorem rngI_mem {n : Nat} {z : Int} (h : z ∈ rngI n) : 0 ≤ z ∧ z < n := by
  obtain ⟨k, hk, rfl⟩ := List.mem_map.mp h
  have := List.mem_range.mp hk
  omega
def colD (c : List Int) : D := .lst (c.map D.int)
def rowD (c : List Int) : D := .tup (c.map D.int)
def machD (rs : List (List Int)) : D := .tup (rs.map rowD)
/-- a machine of n rooms and k letters -/
structure Mk (n k : Nat) (rs : List (List Int)) : Prop where
  len : rs.length = n
  row : ∀ r ∈ rs, r.length = k
  ent : ∀ r ∈ rs, ∀ z ∈ r, 0 ≤ z ∧ z < (n : Int)
def atI (c : List Int) (r : Int) : Int := c.getD r.toNat 0
theorem atI_mem {c : List Int} {r : Int} (h0 : 0 ≤ r) (h1 : r < c.length) : atI c r ∈ c := by
  unfold atI
  rw [List.getD_eq_getElem?_getD, List.getElem?_eq_getElem (by omega), Option.getD_some]
  exact List.getElem_mem _
theorem atI_get {c : List Int} {r : Int} (h0 : 0 ≤ r) (h1 : r < c.length) (h : r.toNat < (c.map D.int).length) : (c.map D.int)[r.toNat] = .int (atI c r) := by
  unfold atI
  rw [List.getD_eq_getElem?_getD, List.getElem?_eq_getElem (by omega), Option.getD_some, List.getElem_map]
end DL
end

section
set_option Elab.async false
set_option linter.all false
set_option maxRecDepth 100000
namespace DL
open PySem
def MachQ (m : Int) (most letters : Nat) (v : TV) (as : List TV) : Prop := ∃ rs n k gs t, v = ⟨0, machD rs⟩ ∧ Mk n k rs ∧ (1 ≤ n ∧ n ≤ most) ∧ (1 ≤ k ∧ k ≤ letters) ∧ as = [deckT gs m t, ⟨0, .int most⟩, ⟨0, .int letters⟩] ∧ Good gs
theorem in12 {w : Int} : cmpD .inn (.int w) (.tup [.int 1, .int 2]) = some (decide (w = 1 ∨ w = 2)) := by
  show (if eqOk (.int w) && eqOks [.int 1, .int 2] then some (inD (.int w) [.int 1, .int 2]) else none) = _
  rw [show eqOk (.int w) = true from rfl, show eqOks [.int 1, .int 2] = true from rfl]
  show some ((1 == w) || ((2 == w) || false)) = _
  congr 1
  rw [Bool.eq_iff_iff]
  simp
  omega
theorem set_ints {xs : List Int} {j : Nat} {z : Int} : (xs.map D.int).set j (.int z) = (xs.set j z).map D.int := by rw [List.map_set]
theorem erase_ints {xs : List Int} {j : Nat} : (xs.map D.int).eraseIdx j = (xs.eraseIdx j).map D.int := by
  induction xs generalizing j with
  | nil => simp
  | cons a r ih => cases j with
    | zero => simp
    | succ j => simp [ih]
/-- all the numbers are below n -/
def Below (n : Nat) (c : List Int) : Prop := ∀ z ∈ c, 0 ≤ z ∧ z < (n : Int)
theorem Below_snoc {n : Nat} {c : List Int} {z : Int} (h : Below n c) (hz : 0 ≤ z ∧ z < (n : Int)) : Below n (c ++ [z]) := fun x hx => by
  rcases List.mem_append.mp hx with q | q
  · exact h x q
  · obtain rfl : x = z := by simpa using q
    exact hz
theorem Below_set {n j : Nat} {c : List Int} {z : Int} (h : Below n c) (hz : 0 ≤ z ∧ z < (n : Int)) : Below n (c.set j z) := fun x hx => by
  rcases List.mem_or_eq_of_mem_set hx with q | rfl
  · exact h x q
  · exact hz
theorem Below_sub {n : Nat} {c d : List Int} (h : Below n c) (hd : ∀ x ∈ d, x ∈ c) : Below n d := fun x hx => h x (hd x hx)
set_option maxHeartbeats 4000000 in
theorem mach362 {P : Nat → Option FD} {n : Nat} {m : Int} {gs : List Int} {t : Int} {most letters : Nat} (hP : P 362 = some f362) (hD : P 356 = some f356) (hm : 0 ≤ m ∧ m < 4294967296) (G : Good gs)
    (hmo : 1 ≤ most ∧ most < 1000) (hle : 1 ≤ letters ∧ letters < 1000) : qC (evCall P (n + 2) 362 [deckT gs m t, ⟨0, .int most⟩, ⟨0, .int letters⟩]) (MachQ m most letters) := by
  refine qC_of hP rfl rfl ?_
  show qS (evSs _ _ _ b362 [deckT gs m t, ⟨0, .int most⟩, ⟨0, .int letters⟩, ⟨0, .un⟩, ⟨0, .un⟩, ⟨0, .un⟩, ⟨0, .un⟩, ⟨0, .un⟩, ⟨0, .un⟩, ⟨0, .un⟩, ⟨0, .un⟩, ⟨0, .un⟩]) _
  unfold b362
  refine q_cons fun N hN => ?_
  rw [w_asgT2 (by simp) (by simp)]
  simp [w_oe, a_call, rb356 hD, lowR, onceO, rebOk, takeO, reb356]
  refine qC_mono (draw356 hD G hm (by omega)) ?_
  rintro v as ⟨i, gs, t, rfl, ⟨i0, i1, i2⟩, rfl, G⟩
  simp [backO]
  refine qC_mono (draw356 hD G hm (by omega)) ?_
  rintro v as ⟨j, gs, t, rfl, ⟨j0, j1, j2⟩, rfl, G⟩
  simp [backO]
  obtain ⟨N0, hn, n1, n2⟩ : ∃ N0 : Nat, 1 + i = (N0 : Int) ∧ 1 ≤ N0 ∧ N0 ≤ most := ⟨(1 + i).toNat, by omega, by omega, by
    by_cases q : 2 ≤ (most : Int)
    · have := i1 q; omega
    · have := i2 (by omega); omega⟩
  obtain ⟨K0, hk, k1, k2⟩ : ∃ K0 : Nat, 1 + j = (K0 : Int) ∧ 1 ≤ K0 ∧ K0 ≤ letters := ⟨(1 + j).toNat, by omega, by omega, by
    by_cases q : 2 ≤ (letters : Int)
    · have := j1 q; omega
    · have := j2 (by omega); omega⟩
  rw [hn, hk]
  clear hn hk i0 i1 i2 j0 j1 j2
  refine hN _ ?_
  clear hN N
  refine q_cons fun N hN => ?_
  simp [w_oe, small, lowO]
  refine hN _ ?_
  clear hN N
  refine q_cons fun N hN => ?_
  rw [w_forr]
  simp [w_oe]
  refine ⟨by omega, ?_⟩
  refine q_for (fun xs l => ∃ (gs : List Int) (t : Int) (cols : List (List Int)) (a7 a4 a8 a10 a11 : TV), cols.length + xs.length = K0 ∧ (∀ c ∈ cols, c.length = N0 ∧ Below N0 c) ∧ Good gs ∧ l = [deckT gs m t, ⟨0, .int most⟩, ⟨0, .int letters⟩, ⟨1, .lst (cols.map colD)⟩, a4, ⟨0, .int N0⟩, ⟨0, .int K0⟩, a7, a8, ⟨0, .un⟩, a10, a11]) _ _
    ⟨gs, t, [], _, _, _, _, _, by unfold rngL; simp, by simp, G, rfl⟩ ?_ ?_
  · rintro x r l ⟨gs, t, cols, a7, a4, a8, a10, a11, hlen, hcols, G, rfl⟩
    show qS (evSs _ _ _ _ [deckT gs m t, ⟨0, .int most⟩, ⟨0, .int letters⟩, ⟨1, .lst (cols.map colD)⟩, ⟨0, x⟩, ⟨0, .int N0⟩, ⟨0, .int K0⟩, a7, a8, ⟨0, .un⟩, a10, a11]) _
    refine q_cons fun N hN => ?_
    rw [w_asgP2]
    simp [w_oe, small, lowO]
    refine ⟨decide_eq_true (by omega), ?_⟩
    refine hN _ ?_
    clear hN N
    refine q_cons fun N hN => ?_
    rw [w_forr]
    simp [w_oe]
    refine ⟨by omega, ?_⟩
    rw [rngL_I]
    refine q_for (fun xs l => ∃ (gs : List Int) (t : Int) (left col : List Int) (a7 : TV), left.length = xs.length ∧ col.length + xs.length = N0 ∧ Below N0 left ∧ Below N0 col ∧ Good gs ∧ l = [deckT gs m t, ⟨0, .int most⟩, ⟨0, .int letters⟩, ⟨1, .lst (cols.map colD)⟩, ⟨0, x⟩, ⟨0, .int N0⟩, ⟨0, .int K0⟩, a7, a8, ⟨0, .un⟩, ⟨1, .lst (left.map D.int)⟩, ⟨1, .lst (col.map D.int)⟩]) _ _
      ⟨gs, t, rngI N0, [], _, by simp, by simp [rngI_len], fun z hz => rngI_mem hz, fun z hz => (by simp at hz), G, rfl⟩ ?_ ?_
    · rintro y r2 l ⟨gs, t, left, col, a7, h1, h2, h3, h4, G, rfl⟩
      show qS (evSs _ _ _ _ [deckT gs m t, ⟨0, .int most⟩, ⟨0, .int letters⟩, ⟨1, .lst (cols.map colD)⟩, ⟨0, x⟩, ⟨0, .int N0⟩, ⟨0, .int K0⟩, ⟨0, y⟩, a8, ⟨0, .un⟩, ⟨1, .lst (left.map D.int)⟩, ⟨1, .lst (col.map D.int)⟩]) _
      refine q_cons fun N2 hN2 => ?_
      rw [w_exp]
      refine q_app rfl ?_
      rw [w_oe (by simp)]
      refine q_popi rfl ?_
      simp [w_oe, a_call, rb356 hD, lowR, onceO, rebOk, takeO, reb356, lowF]
      have h1' : left.length = r2.length + 1 := h1
      have h2' : col.length + (r2.length + 1) = N0 := h2
      refine qC_mono (draw356 hD G hm (by omega)) ?_
      rintro v as ⟨i, gs, t, rfl, ⟨i0, i1, i2⟩, rfl, G⟩
      have hi : i.toNat < left.length := by
        by_cases q : 2 ≤ (left.length : Int)
        · have := i1 q; omega
        · have := i2 (by omega); omega
      have hi2 : i < ((left.map D.int).length : Nat) := by rw [List.length_map]; omega
      refine ⟨0, left.map D.int, rfl, i, rfl, i.toNat, ix_pos i0 hi2, .int left[i.toNat], by rw [List.getElem?_map, List.getElem?_eq_getElem hi]; rfl, rfl, col.map D.int, rfl, decide_eq_true (by rw [List.length_map]; omega), ?_⟩
      have hz := h3 _ (List.getElem_mem hi)
      show N2 [deckT gs m t, ⟨0, .int most⟩, ⟨0, .int letters⟩, ⟨1, .lst (cols.map colD)⟩, ⟨0, x⟩, ⟨0, .int N0⟩, ⟨0, .int K0⟩, ⟨0, y⟩, a8, ⟨0, .un⟩, ⟨1, .lst ((left.map D.int).eraseIdx i.toNat)⟩, ⟨1, .lst (col.map D.int ++ [.int left[i.toNat]])⟩]
      refine hN2 _ ?_
      rw [w_snil, erase_ints, ← snoc_map]
      exact ⟨gs, t, left.eraseIdx i.toNat, col ++ [left[i.toNat]], _, by rw [List.length_eraseIdx_of_lt hi]; omega, by simp; omega, Below_sub h3 fun z hz => List.mem_of_mem_eraseIdx hz, Below_snoc h4 hz, G, rfl⟩
    · rintro l ⟨gs, t, left, col, a7, h1, h2, h3, h4, G, rfl⟩
      have hleft : left = [] := List.eq_nil_of_length_eq_zero h1
      subst hleft
      have hc : col.length = N0 := h2
      clear h1 h2 h3
      refine hN _ ?_
      clear hN N
      -- way
      refine q_cons fun N hN => ?_
      simp [w_oe, a_call, rb356 hD, lowR, onceO, rebOk, takeO, reb356, lowF]
      refine qC_mono (draw356 hD G hm (by decide)) ?_
      rintro v as ⟨w, gs, t, rfl, ⟨w0, w1, w2⟩, rfl, G⟩
      simp [backO]
      refine hN _ ?_
      clear hN N
      have hN1 : (N0 : Int) < 1073741824 := by omega
      have dr : ∀ {v : Int}, (0 ≤ v ∧ (2 ≤ (N0 : Int) → v < N0) ∧ ((N0 : Int) < 2 → v = 0)) → 0 ≤ v ∧ v < (N0 : Int) := fun {v} ⟨h0, h1, h2⟩ => by
        by_cases q : 2 ≤ (N0 : Int)
        · have := h1 q; omega
        · have := h2 (by omega); omega
      -- one place otherwise
      refine q_cons fun N hN => ?_
      have go : ∀ (gs : List Int) (t : Int) (col : List Int) (a7 : TV), Good gs → col.length = N0 → Below N0 col → N [deckT gs m t, ⟨0, .int most⟩, ⟨0, .int letters⟩, ⟨1, .lst (cols.map colD)⟩, ⟨0, x⟩, ⟨0, .int N0⟩, ⟨0, .int K0⟩, a7, ⟨0, .int w⟩, ⟨0, .un⟩, ⟨1, .lst []⟩, ⟨1, .lst (col.map D.int)⟩] := by
        clear hc h4 G
        intro gs t col a7 G hc h4
        refine hN _ ?_
        clear hN N
        refine q_cons fun N hN => ?_
        have go : ∀ (gs : List Int) (t : Int) (col : List Int) (a7 : TV), Good gs → col.length = N0 → Below N0 col → N [deckT gs m t, ⟨0, .int most⟩, ⟨0, .int letters⟩, ⟨1, .lst (cols.map colD)⟩, ⟨0, x⟩, ⟨0, .int N0⟩, ⟨0, .int K0⟩, a7, ⟨0, .int w⟩, ⟨0, .un⟩, ⟨1, .lst []⟩, ⟨1, .lst (col.map D.int)⟩] := by
          clear hc h4 G
          intro gs t col a7 G hc h4
          refine hN _ ?_
          clear hN N
          refine q_cons fun N hN => ?_
          have go : ∀ (gs : List Int) (t : Int) (col : List Int) (a7 : TV), Good gs → col.length = N0 → Below N0 col → N [deckT gs m t, ⟨0, .int most⟩, ⟨0, .int letters⟩, ⟨1, .lst (cols.map colD)⟩, ⟨0, x⟩, ⟨0, .int N0⟩, ⟨0, .int K0⟩, a7, ⟨0, .int w⟩, ⟨0, .un⟩, ⟨1, .lst []⟩, ⟨1, .lst (col.map D.int)⟩] := by
            clear hc h4 G
            intro gs t col a7 G hc h4
            refine hN _ ?_
            clear hN N
            refine q_cons fun N hN => ?_
            rw [w_exp]
            refine q_app rfl ?_
            simp
            have hlen' : cols.length + (r.length + 1) = K0 := hlen
            refine ⟨rfl, decide_eq_true (by omega), ?_⟩
            show N [deckT gs m t, ⟨0, .int most⟩, ⟨0, .int letters⟩, ⟨1, .lst (cols.map colD ++ [colD col])⟩, ⟨0, x⟩, ⟨0, .int N0⟩, ⟨0, .int K0⟩, a7, ⟨0, .int w⟩, ⟨0, .un⟩, ⟨1, .lst []⟩, ⟨0, .lst (col.map D.int)⟩]
            refine hN _ ?_
            rw [w_snil]
            refine ⟨gs, t, cols ++ [col], _, _, _, _, _, by simp; omega, fun c hc2 => ?_, G, by rw [List.map_append]; rfl⟩
            rcases List.mem_append.mp hc2 with q | q
            · exact hcols c q
            · obtain rfl : c = col := by simpa using q
              exact ⟨hc, h4⟩
          by_cases hw : w = 4
          · simp [w_oe, w_scons, hw, w_lc]
            refine ⟨by omega, ?_⟩
            rw [rngL_I]
            refine q_kindJ (J := fun l => ∃ gs t, Good gs ∧ l = [deckT gs m t, ⟨0, .int most⟩, ⟨0, .int letters⟩, ⟨1, .lst (cols.map colD)⟩, ⟨0, x⟩, ⟨0, .int N0⟩, ⟨0, .int K0⟩, a7, ⟨0, .int 4⟩, ⟨0, .un⟩, ⟨1, .lst []⟩, ⟨1, .lst (col.map D.int)⟩]) (K := fun d => ∃ z, d = .int z ∧ 0 ≤ z ∧ z < (N0 : Int)) ⟨gs, t, G, rfl⟩ (by rw [rngI_len]; omega) ?_ ?_
            · rintro z hz _ ⟨gs, t, G, rfl⟩
              simp [w_oe, a_call, rb356 hD, lowR, onceO, rebOk, takeO, reb356, lowF]
              refine qC_mono (draw356 hD G hm hN1) ?_
              rintro v as ⟨i, gs, t, rfl, hi, rfl, G⟩
              simp [backO]
              exact ⟨dr hi, _, ⟨gs, G, t, rfl⟩, _, rfl⟩
            · rintro ds _ b hds hk ⟨gs, t, G, rfl⟩
              obtain ⟨zs, rfl, h5, h6⟩ := allInts hk
              rw [rngI_len] at hds
              simp [rest]
              have g2 := go gs t zs a7 G (by omega) h6
              rw [hw] at g2
              exact g2
          · simp [w_oe, w_scons, hw]
            exact go gs t col a7 G hc h4
        by_cases hw : w = 3
        · simp [w_oe, w_scons, hw, w_lc]
          refine ⟨by omega, ?_⟩
          rw [rngL_I]
          refine q_mapJ (g := fun z => .int ((z + 1) % N0)) (J := fun l => l = [deckT gs m t, ⟨0, .int most⟩, ⟨0, .int letters⟩, ⟨1, .lst (cols.map colD)⟩, ⟨0, x⟩, ⟨0, .int N0⟩, ⟨0, .int K0⟩, a7, ⟨0, .int 3⟩, ⟨0, .un⟩, ⟨1, .lst []⟩, ⟨1, .lst (col.map D.int)⟩]) rfl (by rw [rngI_len]; omega) ?_ ?_
          · rintro z hz _ rfl
            have hn : (0 : Int) < N0 := by omega
            simp [w_oe, lowF, lowB, lowO, b_mod hn]
          · rintro _ b rfl
            simp [rest]
            have g2 := go gs t ((rngI N0).map fun z => (z + 1) % N0) a7 G (by rw [List.length_map, rngI_len]) (fun z hz => by
              obtain ⟨y, _, rfl⟩ := List.mem_map.mp hz
              exact ⟨Int.emod_nonneg _ (by omega), Int.emod_lt_of_pos _ (by omega)⟩)
            rw [hw, List.map_map] at g2
            exact g2
        · simp [w_oe, w_scons, hw]
          exact go gs t col a7 G hc h4
      by_cases hw : w = 1 ∨ w = 2
      · simp [w_oe, w_scons, hw, in12, small, lowO]
        simp [a_call, rb356 hD, lowR, onceO, rebOk, takeO, reb356]
        refine qC_mono (draw356 hD G hm hN1) ?_
        rintro v as ⟨z, gs, t, rfl, hz, rfl, G⟩
        simp [backO]
        refine ⟨rfl, ?_⟩
        refine qC_mono (draw356 hD G hm hN1) ?_
        rintro v as ⟨y, gs, t, rfl, hy, rfl, G⟩
        have hy2 := dr hy
        have hz2 := dr hz
        have hy3 : y < ((col.map D.int).length : Nat) := by rw [List.length_map, hc]; exact hy2.2
        have hs : setK [deckT gs m t, ⟨0, .int most⟩, ⟨0, .int letters⟩, ⟨1, .lst (cols.map colD)⟩, ⟨0, x⟩, ⟨0, .int N0⟩, ⟨0, .int K0⟩, a7, ⟨0, .int w⟩, ⟨0, .un⟩, ⟨1, .lst []⟩, ⟨1, .lst (col.map D.int)⟩] 11 (.int y) ⟨0, .int z⟩
            = .nx [deckT gs m t, ⟨0, .int most⟩, ⟨0, .int letters⟩, ⟨1, .lst (cols.map colD)⟩, ⟨0, x⟩, ⟨0, .int N0⟩, ⟨0, .int K0⟩, a7, ⟨0, .int w⟩, ⟨0, .un⟩, ⟨1, .lst []⟩, ⟨1, .lst ((col.set y.toNat z).map D.int)⟩] := by
          show (match ixN (col.map D.int).length y with | some j => RS.nx (st _ 11 ⟨1, .lst ((col.map D.int).set j (.int z))⟩) | none => RS.no) = _
          rw [ix_pos hy2.1 hy3]
          simp only [set_ints]
          rfl
        simp [backO, hs]
        have g2 := go gs t (col.set y.toNat z) a7 G (by rw [List.length_set]; exact hc) (Below_set h4 hz2)
        simpa using g2
      · simp [w_oe, w_scons, hw, in12, small, lowO]
        exact go gs t col _ G hc h4
  · rintro l ⟨gs, t, cols, a7, a4, a8, a10, a11, hlen, hcols, G, rfl⟩
    have hlen' : cols.length = K0 := hlen
    clear hlen
    refine hN _ ?_
    clear hN N
    refine q_cons fun N hN => ?_
    have go : ∀ (gs : List Int) (t : Int) (cols : List (List Int)) (a9 a7 a11 : TV), Good gs → cols.length = K0 → (∀ c ∈ cols, c.length = N0 ∧ Below N0 c) → N [deckT gs m t, ⟨0, .int most⟩, ⟨0, .int letters⟩, ⟨1, .lst (cols.map colD)⟩, a4, ⟨0, .int N0⟩, ⟨0, .int K0⟩, a7, a8, a9, a10, a11] := by
      clear hlen' hcols G
      intro gs t cols a9 a7 a11 G hlen hcols
      refine hN _ ?_
      clear hN N
      refine q_cons fun N hN => ?_
      simp [w_oe, w_retv, w_lc]
      refine ⟨by omega, ?_⟩
      rw [rngL_I]
      refine q_mapJ (g := fun z => rowD (cols.map fun c => atI c z)) (J := fun l => ∃ tg, tg ≤ 1 ∧ l = [deckT gs m t, ⟨0, .int most⟩, ⟨0, .int letters⟩, ⟨tg, .lst (cols.map colD)⟩, a4, ⟨0, .int N0⟩, ⟨0, .int K0⟩, a7, a8, a9, a10, a11]) ⟨1, Nat.le_refl 1, rfl⟩ (by rw [rngI_len]; omega) ?_ ?_
      · rintro z hz _ ⟨tg, htg, rfl⟩
        obtain ⟨hz0, hz1⟩ := rngI_mem hz
        simp [w_oe, w_lc, seqOf]
        have e : lowO 0 [deckT gs m t, ⟨0, .int most⟩, ⟨0, .int letters⟩, ⟨tg, .lst (cols.map colD)⟩, a4, ⟨0, .int N0⟩, ⟨0, .int K0⟩, ⟨0, .int z⟩, a8, a9, a10, a11] [.r 3] = [deckT gs m t, ⟨0, .int most⟩, ⟨0, .int letters⟩, ⟨0, .lst (cols.map colD)⟩, a4, ⟨0, .int N0⟩, ⟨0, .int K0⟩, ⟨0, .int z⟩, a8, a9, a10, a11] := by
          rcases (show tg = 0 ∨ tg = 1 by omega) with rfl | rfl <;> rfl
        rw [e]
        refine q_mapJ (e := colD) (g := fun c => .int (atI c z)) (J := fun l => l = [deckT gs m t, ⟨0, .int most⟩, ⟨0, .int letters⟩, ⟨0, .lst (cols.map colD)⟩, a4, ⟨0, .int N0⟩, ⟨0, .int K0⟩, ⟨0, .int z⟩, a8, a9, a10, a11]) rfl (by omega) ?_ ?_
        · rintro c hc _ rfl
          have hcl := (hcols c hc).1
          have hu : (colD c).isUn = false := rfl
          simp [w_oe, hu]
          refine q_subR (xs := c.map D.int) (j := z) (k := z.toNat) rfl (Nat.zero_le _) rfl (ix_pos hz0 (by rw [List.length_map]; omega)) (by rw [List.length_map]; omega) ?_
          exact ⟨atI_get hz0 (by omega) _, _, rfl⟩
        · rintro _ b rfl
          refine ⟨_, rfl, ?_, _, ⟨0, Nat.zero_le _, rfl⟩, _, rfl⟩
          show D.tup _ = D.tup _
          rw [List.map_map]
          rfl
      · rintro _ b ⟨tg, htg, rfl⟩
        simp [rest, lowF]
        refine ⟨(rngI N0).map fun z => cols.map fun c => atI c z, N0, K0, gs, t, ?_, ⟨by rw [List.length_map, rngI_len], fun r hr => ?_, fun r hr z hz => ?_⟩, ⟨n1, n2⟩, ⟨k1, k2⟩, rfl, G⟩
        · show TV.mk 0 (.tup _) = TV.mk 0 (.tup _)
          rw [List.map_map]
          rfl
        · obtain ⟨y, _, rfl⟩ := List.mem_map.mp hr
          rw [List.length_map]; exact hlen
        · obtain ⟨y, hy, rfl⟩ := List.mem_map.mp hr
          obtain ⟨c, hc, rfl⟩ := List.mem_map.mp hz
          obtain ⟨hy0, hy1⟩ := rngI_mem hy
          exact (hcols c hc).2 _ (atI_mem hy0 (by have := (hcols c hc).1; omega))
    simp [w_oe, a_call, rb356 hD, lowR, onceO, rebOk, takeO, reb356, lowF]
    refine qC_mono (draw356 hD G hm (by decide)) ?_
    rintro v as ⟨w, gs, t, rfl, ⟨w0, w1, w2⟩, rfl, G⟩
    simp [backO]
    by_cases hw : w = 0
    · right
      refine ⟨hw, ?_⟩
      refine q_cons fun N2 hN2 => ?_
      simp [w_oe, a_call, rb356 hD, lowR, onceO, rebOk, takeO, reb356, lowF]
      refine qC_mono (draw356 hD G hm (by omega)) ?_
      rintro v as ⟨ct, gs, t, rfl, ⟨c0, c1, c2⟩, rfl, G⟩
      have hct : ct < N0 := by
        by_cases q : 2 ≤ (N0 : Int)
        · have := c1 q; omega
        · have := c2 (by omega); omega
      simp [backO]
      refine hN2 _ ?_
      clear hN2 N2 c1 c2
      refine q_cons fun N2 hN2 => ?_
      simp [w_oe, w_lc, seqOf, lowO]
      have fe : ∀ c ∈ cols, ∀ z, 0 ≤ z → z < (N0 : Int) → 0 ≤ atI c z ∧ atI c z < (N0 : Int) := fun c hc z h0 h1 => (hcols c hc).2 _ (atI_mem h0 (by have := (hcols c hc).1; omega))
      refine q_mapJ (e := colD) (g := fun c => colD ((rngI N0).map fun z => if z < ct + 1 then atI c z % (ct + 1) else atI c z)) (J := fun l => l = [deckT gs m t, ⟨0, .int most⟩, ⟨0, .int letters⟩, ⟨0, .lst (cols.map colD)⟩, a4, ⟨0, .int N0⟩, ⟨0, .int K0⟩, a7, a8, ⟨0, .int (ct + 1)⟩, a10, a11]) rfl (by omega) ?_ ?_
      · rintro c hc _ rfl
        have hcl := (hcols c hc).1
        have hu : (colD c).isUn = false := rfl
        simp [w_oe, w_lc]
        refine ⟨by omega, ?_⟩
        rw [rngL_I]
        refine q_mapJ (g := fun z => .int (if z < ct + 1 then atI c z % (ct + 1) else atI c z)) (J := fun l => l = [deckT gs m t, ⟨0, .int most⟩, ⟨0, .int letters⟩, ⟨0, .lst (cols.map colD)⟩, a4, ⟨0, .int N0⟩, ⟨0, .int K0⟩, a7, a8, ⟨0, .int (ct + 1)⟩, a10, ⟨0, colD c⟩]) rfl (by rw [rngI_len]; omega) ?_ ?_
        · rintro z hz _ rfl
          obtain ⟨hz0, hz1⟩ := rngI_mem hz
          have hg : ∀ h : z.toNat < (c.map D.int).length, (c.map D.int)[z.toNat] = .int (atI c z) := fun h => atI_get hz0 (by omega) h
          by_cases hlt : z < ct + 1
          · simp [w_oe, hlt, hu]
            refine q_subR (xs := c.map D.int) (j := z) (k := z.toNat) rfl (Nat.zero_le _) rfl (ix_pos hz0 (by rw [List.length_map]; omega)) (by rw [List.length_map]; omega) ?_
            rw [hg]
            have hp : (0 : Int) < ct + 1 := by omega
            simp [lowF, b_mod hp]
            exact ⟨_, rfl⟩
          · simp [w_oe, hlt, hu]
            refine q_subR (xs := c.map D.int) (j := z) (k := z.toNat) rfl (Nat.zero_le _) rfl (ix_pos hz0 (by rw [List.length_map]; omega)) (by rw [List.length_map]; omega) ?_
            rw [hg]
            exact ⟨rfl, _, rfl⟩
        · rintro _ b rfl
          refine ⟨?_, _, rfl⟩
          show D.lst _ = D.lst _
          rw [List.map_map]
          rfl
      · rintro _ b rfl
        show N2 [deckT gs m t, ⟨0, .int most⟩, ⟨0, .int letters⟩, ⟨1, .lst (cols.map fun c => colD ((rngI N0).map fun z => if z < ct + 1 then atI c z % (ct + 1) else atI c z))⟩, a4, ⟨0, .int N0⟩, ⟨0, .int K0⟩, a7, a8, ⟨0, .int (ct + 1)⟩, a10, a11]
        refine hN2 _ ?_
        rw [w_snil]
        have g2 := go gs t (cols.map fun c => (rngI N0).map fun z => if z < ct + 1 then atI c z % (ct + 1) else atI c z) ⟨0, .int (ct + 1)⟩ a7 a11 G (by rw [List.length_map]; exact hlen') (fun c hc => by
          obtain ⟨d, hd, rfl⟩ := List.mem_map.mp hc
          refine ⟨by rw [List.length_map, rngI_len], fun y hy => ?_⟩
          obtain ⟨z, hz, rfl⟩ := List.mem_map.mp hy
          obtain ⟨hz0, hz1⟩ := rngI_mem hz
          have q := fe d hd z hz0 hz1
          split
          · have q1 := Int.emod_nonneg (atI d z) (show ct + 1 ≠ 0 by omega)
            have q2 := Int.emod_lt_of_pos (atI d z) (show 0 < ct + 1 by omega)
            omega
          · exact q)
        rw [List.map_map] at g2
        exact g2
    · left
      exact ⟨hw, go gs t cols _ _ _ G hlen' hcols⟩
end DL
end

section
set_option Elab.async false
set_option linter.all false
set_option maxRecDepth 100000
namespace DL
open PySem
def BentQ (m : Int) (mach : D) (v : TV) (as : List TV) : Prop := ∃ x gs t, v = ⟨0, x⟩ ∧ Cl 30 3 x ∧ as = [deckT gs m t, ⟨0, mach⟩] ∧ Good gs
theorem rb366 {P : Nat → Option FD} (hP : P 366 = some f366) : rbP P 366 = f366.reb := by funext p; unfold rbP; rw [hP]
theorem reb366 : f366.reb 0 = false ∧ f366.reb 1 = false := ⟨rfl, rfl⟩
theorem cut_hi {α : Type} {xs : List α} {k : Nat} : (cut xs none (some (k : Int))).length ≤ k := by
  rw [cut_take, List.length_take]; omega
@[simp] theorem un_rowD {r : List Int} : (rowD r).isUn = false := rfl
@[simp] theorem un_machD {rs : List (List Int)} : (machD rs).isUn = false := rfl
@[simp] theorem un_colD {r : List Int} : (colD r).isUn = false := rfl
theorem draw_lt {i : Int} {n : Nat} (h : 0 ≤ i ∧ (2 ≤ (n : Int) → i < n) ∧ ((n : Int) < 2 → i = 0)) (hn : 1 ≤ n) : 0 ≤ i ∧ i < (n : Int) := by
  obtain ⟨h0, h1, h2⟩ := h
  by_cases q : 2 ≤ (n : Int)
  · have := h1 q; omega
  · have := h2 (by omega); omega
def repD (j : Int) (r : List Int) : List D := (List.replicate j.toNat (r.map D.int)).flatten
theorem mem_cons_app {x : D} {A B : List D} {y : D} (h : y ∈ A ++ x :: B) : y ∈ A ∨ y = x ∨ y ∈ B := by
  rcases List.mem_append.mp h with q | q
  · exact .inl q
  · rcases List.mem_cons.mp q with q | q
    · exact .inr (.inl q)
    · exact .inr (.inr q)
set_option maxHeartbeats 4000000 in
theorem bent366 {P : Nat → Option FD} {n : Nat} {m : Int} {gs : List Int} {t : Int} {N0 K0 : Nat} {rs : List (List Int)} (hP : P 366 = some f366) (hD : P 356 = some f356) (hE : P 357 = some f357) (hm : 0 ≤ m ∧ m < 4294967296) (G : Good gs)
    (M : Mk N0 K0 rs) (hn : 1 ≤ N0 ∧ N0 ≤ 7) (hk : 1 ≤ K0 ∧ K0 ≤ 4) : qC (evCall P (n + 3) 366 [deckT gs m t, ⟨0, machD rs⟩]) (BentQ m (machD rs)) := by
  refine qC_of hP rfl rfl ?_
  show qS (evSs _ _ _ b366 [deckT gs m t, ⟨0, .tup (rs.map rowD)⟩, ⟨0, .un⟩, ⟨0, .un⟩, ⟨0, .un⟩, ⟨0, .un⟩, ⟨0, .un⟩, ⟨0, .un⟩, ⟨0, .un⟩]) _
  unfold b366
  have hrow : ∀ x ∈ rs.map rowD, ∃ W, x = .tup W ∧ 1 ≤ W.length ∧ W.length ≤ 4 ∧ ∀ y ∈ W, leafB y = true := fun x hx => by
    obtain ⟨r, hr, rfl⟩ := List.mem_map.mp hx
    have h1 := M.row r hr
    refine ⟨r.map D.int, rfl, by rw [List.length_map]; omega, by rw [List.length_map]; omega, fun y hy => ?_⟩
    obtain ⟨z, hz, rfl⟩ := List.mem_map.mp hy
    have := M.ent r hr z hz
    exact leaf_int (by omega)
  have hRl : (rs.map rowD).length = N0 := by rw [List.length_map]; exact M.len
  have hrs : rs.length = N0 := M.len
  have hrowC : ∀ x ∈ rs.map rowD, Cl 30 1 x := fun x hx => by
    obtain ⟨W, rfl, h1, h2, h3⟩ := hrow x hx
    exact Cl_tup (by omega) fun y hy => Cl_leaf (h3 y hy)
  refine q_cons fun N hN => ?_
  simp [w_oe, lowF]
  refine hN _ ?_
  clear hN N
  refine q_cons fun N hN => ?_
  simp [w_oe, a_call, rb356 hD, lowR, onceO, rebOk, takeO, reb356, lowF]
  refine qC_mono (draw356 hD G hm (by omega)) ?_
  rintro v as ⟨r, gs, t, rfl, hr, rfl, G⟩
  have hr := draw_lt hr (by omega)
  simp [backO]
  refine hN _ ?_
  clear hN N
  refine q_cons fun N hN => ?_
  simp [w_oe]
  have hr1 : r.toNat < (rs.map rowD).length := by omega
  refine q_subR (xs := rs.map rowD) (j := r) (k := r.toNat) rfl (Nat.zero_le _) rfl (ix_pos hr.1 (by omega)) hr1 ?_
  obtain ⟨W, hW, w1, w2, w3⟩ := hrow _ (List.getElem_mem hr1)
  rw [hW]
  simp
  refine hN _ ?_
  clear hN N
  refine q_cons fun N hN => ?_
  simp [w_oe, a_call, rb356 hD, lowR, onceO, rebOk, takeO, reb356, lowF]
  refine qC_mono (draw356 hD G hm (by omega)) ?_
  rintro v as ⟨a, gs, t, rfl, ha, rfl, G⟩
  have ha := draw_lt ha w1
  simp [backO]
  refine hN _ ?_
  clear hN N
  refine q_cons fun N hN => ?_
  simp [w_oe, a_call, rb357 hE, lowR, onceO, rebOk, takeO, reb357, lowF, small, lowO, lowB, hrs]
  refine qC_mono (pick357 (xs := [.int N0, .int (-1), .int (N0 - 1), .int 0, .bl true, .non, .str "0", .int 1000000000000000000000000000000, .tup [.int 0]]) hD hE G hm (.inl rfl) (Nat.le_refl 1) (by simp) (by simp)) ?_
  rintro v as ⟨item, gs, t, hitem, rfl, rfl, G⟩
  have hi1 : Cl 30 1 item := by
    simp only [List.mem_cons, List.not_mem_nil, or_false] at hitem
    rcases hitem with rfl | rfl | rfl | rfl | rfl | rfl | rfl | rfl | rfl
    · exact Cl_int (by omega)
    · exact Cl_leaf rfl
    · exact Cl_int (by omega)
    · exact Cl_leaf rfl
    · exact Cl_leaf rfl
    · exact Cl_leaf rfl
    · exact Cl_leaf (by decide +kernel)
    · exact Cl_int (by decide)
    · exact Cl_tup (by decide) fun x hx => by simp at hx; subst hx; exact Cl_int (by decide)
  have hiu : item.isUn = false := ok_un (Cl_ok hi1)
  clear hitem
  show N [deckT gs m t, ⟨0, .tup (rs.map rowD)⟩, ⟨0, .int N0⟩, ⟨0, .int r⟩, ⟨0, .tup W⟩, ⟨0, .int a⟩, ⟨0, item⟩, ⟨0, .un⟩, ⟨0, .un⟩]
  refine hN _ ?_
  clear hN N
  -- the parts
  have a1 := cut_len (xs := rs.map rowD) (lo := none) (hi := some r)
  have a2 := cut_len (xs := rs.map rowD) (lo := some (r + 1)) (hi := none)
  have b1 := cut_len (xs := W) (lo := none) (hi := some a)
  have b2 := cut_len (xs := W) (lo := some (a + 1)) (hi := none)
  have b3 := cut_len (xs := W) (lo := some 1) (hi := none)
  have m1 : ∀ y ∈ cut (rs.map rowD) none (some r), Cl 30 1 y := fun y hy => hrowC y (cut_mem hy)
  have m2 : ∀ y ∈ cut (rs.map rowD) (some (r + 1)) none, Cl 30 1 y := fun y hy => hrowC y (cut_mem hy)
  have n1 : ∀ y ∈ cut W none (some a), leafB y = true := fun y hy => w3 y (cut_mem hy)
  have n2 : ∀ y ∈ cut W (some (a + 1)) none, leafB y = true := fun y hy => w3 y (cut_mem hy)
  have n3 : ∀ y ∈ cut W (some 1) none, leafB y = true := fun y hy => w3 y (cut_mem hy)
  generalize hA1 : cut (rs.map rowD) none (some r) = A1 at *
  generalize hA2 : cut (rs.map rowD) (some (r + 1)) none = A2 at *
  generalize hB1 : cut W none (some a) = B1 at *
  generalize hB2 : cut W (some (a + 1)) none = B2 at *
  generalize hB3 : cut W (some 1) none = B3 at *
  have f1 : binD .add (.tup B1) (.tup [item]) = some ⟨0, .tup (B1 ++ [item])⟩ := b_addT (by simp; omega)
  have f2 : binD .add (.tup (B1 ++ [item])) (.tup B2) = some ⟨0, .tup (B1 ++ item :: B2)⟩ := by
    rw [b_addT (by simp; omega)]; simp
  have f3 : ∀ x, binD .add (.tup A1) (.tup [x]) = some ⟨0, .tup (A1 ++ [x])⟩ := fun x => b_addT (by simp; omega)
  have f4 : ∀ x, binD .add (.tup (A1 ++ [x])) (.tup A2) = some ⟨0, .tup (A1 ++ x :: A2)⟩ := fun x => by
    rw [b_addT (by simp; omega)]; simp
  have k1 : ∀ x, Cl 30 2 x → Cl 30 3 (.tup (A1 ++ x :: A2)) := fun x hx => Cl_tup (by simp; omega) fun y hy => by
    rcases mem_cons_app hy with q | rfl | q
    · exact Cl_up (m1 y q)
    · exact hx
    · exact Cl_up (m2 y q)
  have k2 : Cl 30 2 (.tup (B1 ++ item :: B2)) := Cl_tup (by simp; omega) fun y hy => by
    rcases mem_cons_app hy with q | rfl | q
    · exact Cl_leaf (n1 y q)
    · exact hi1
    · exact Cl_leaf (n2 y q)
  have f5 : binD .mul (.lst [.tup (A1 ++ .tup (B1 ++ item :: B2) :: A2)]) (.int 4) = some ⟨1, .lst (List.replicate 4 [.tup (A1 ++ .tup (B1 ++ item :: B2) :: A2)]).flatten⟩ := b_mulL (by decide) (by simp)
  refine q_cons fun N hN => ?_
  simp [w_oe, hiu, small, lowB, lowO, lowF, hA1, hA2, hB1, hB2, f1, f2, f3, f4, f5]
  have hS0 : ∀ x ∈ [D.tup (A1 ++ D.tup (B1 ++ item :: B2) :: A2), D.tup (A1 ++ D.tup (B1 ++ item :: B2) :: A2), D.tup (A1 ++ D.tup (B1 ++ item :: B2) :: A2), D.tup (A1 ++ D.tup (B1 ++ item :: B2) :: A2)], Cl 30 3 x := fun x hx => by
    simp only [List.mem_cons, List.not_mem_nil, or_false, or_self] at hx
    subst hx
    exact k1 _ k2
  have hL0 : [D.tup (A1 ++ D.tup (B1 ++ item :: B2) :: A2), D.tup (A1 ++ D.tup (B1 ++ item :: B2) :: A2), D.tup (A1 ++ D.tup (B1 ++ item :: B2) :: A2), D.tup (A1 ++ D.tup (B1 ++ item :: B2) :: A2)].length = 4 := rfl
  generalize [D.tup (A1 ++ D.tup (B1 ++ item :: B2) :: A2), D.tup (A1 ++ D.tup (B1 ++ item :: B2) :: A2), D.tup (A1 ++ D.tup (B1 ++ item :: B2) :: A2), D.tup (A1 ++ D.tup (B1 ++ item :: B2) :: A2)] = S at hS0 hL0 ⊢
  refine hN _ ?_
  clear hN N f5 k2 f1 f2
  refine q_cons fun N hN => ?_
  rw [w_forr]
  have wne : W ≠ [] := fun h => by rw [h] at w1; simp at w1
  have g1 : binD .add (.tup W) (.tup [.int 0]) = some ⟨0, .tup (W ++ [.int 0])⟩ := b_addT (by simp; omega)
  have g2 : binD .mul (.tup W) (.int 5) = some ⟨0, .tup (List.replicate 5 W).flatten⟩ := b_mulT wne ⟨by decide, by decide, by omega⟩
  generalize hX : (List.replicate 5 W).flatten = X at g2
  have hX1 : X.length ≤ 20 := by rw [← hX, rep_len]; omega
  have hX2 : ∀ y ∈ X, leafB y = true := fun y hy => w3 y (rep_mem (hX ▸ hy))
  simp [w_oe, small, lowB, lowO, lowF, hB3, g1, g2, seqOf]
  have hxs : ∀ x ∈ [D.tup B3, .tup (W ++ [.int 0]), .lst W, .tup [], .non, .tup X], Cl 30 1 x := fun x hx => by
    simp only [List.mem_cons, List.not_mem_nil, or_false] at hx
    rcases hx with rfl | rfl | rfl | rfl | rfl | rfl
    · exact Cl_tup (by omega) fun y hy => Cl_leaf (n3 y hy)
    · exact Cl_tup (by simp; omega) fun y hy => by
        rcases List.mem_append.mp hy with q | q
        · exact Cl_leaf (w3 y q)
        · obtain rfl : y = .int 0 := by simpa using q
          exact Cl_leaf rfl
    · exact Cl_lst (by omega) fun y hy => Cl_leaf (w3 y hy)
    · exact Cl_tup (by simp) fun y hy => by simp at hy
    · exact Cl_leaf rfl
    · exact Cl_tup (by omega) fun y hy => Cl_leaf (hX2 y hy)
  refine q_for (fun xs l => ∃ S a8, (∀ x ∈ S, Cl 30 3 x) ∧ S.length + xs.length ≤ 10 ∧ (∀ x ∈ xs, Cl 30 1 x) ∧ l = [deckT gs m t, ⟨0, .tup (rs.map rowD)⟩, ⟨0, .int N0⟩, ⟨0, .int r⟩, ⟨0, .tup W⟩, ⟨0, .int a⟩, ⟨0, item⟩, ⟨1, .lst S⟩, a8]) _ _ ⟨S, _, hS0, by simp; omega, hxs, rfl⟩ ?_ ?_
  · rintro x xs l ⟨S, a8, s1, s2, s3, rfl⟩
    have s2' : S.length + (xs.length + 1) ≤ 10 := s2
    have hx := s3 x (by simp)
    have hxu := ok_un (Cl_ok hx)
    show qS (evSs _ _ _ _ [deckT gs m t, ⟨0, .tup (rs.map rowD)⟩, ⟨0, .int N0⟩, ⟨0, .int r⟩, ⟨0, .tup W⟩, ⟨0, .int a⟩, ⟨0, item⟩, ⟨1, .lst S⟩, ⟨0, x⟩]) _
    refine q_cons fun N2 hN2 => ?_
    rw [w_exp]
    refine q_app rfl ?_
    simp [w_oe, hxu, small, lowB, lowO, lowF, hA1, hA2, f3, f4]
    refine ⟨rfl, by omega, ?_⟩
    refine hN2 _ ?_
    rw [w_snil]
    refine ⟨_, _, fun y hy => ?_, by simp; omega, fun y hy => s3 y (by simp [hy]), rfl⟩
    rcases List.mem_append.mp hy with q | q
    · exact s1 y q
    · obtain rfl : y = .tup (A1 ++ x :: A2) := by simpa using q
      exact k1 x (Cl_up hx)
  · rintro l ⟨S, a8, s1, s2, s3, rfl⟩
    refine hN _ ?_
    clear hN N
    have s2' : S.length ≤ 10 := s2
    have rne : rs.map rowD ≠ [] := fun h => by rw [h] at hRl; simp at hRl; omega
    refine q_cons fun N hN => ?_
    simp [w_oe, small, lowB, lowO, lowF, hA1, hA2, f3, f4]
    have c1 := cut_hi (xs := rs.map rowD) (k := 1)
    have c2 := cut_hi (xs := (List.replicate 8 (rs.map rowD)).flatten) (k := 8)
    have c3 := cut_hi (xs := (List.replicate 7 (rs.map rowD)).flatten) (k := 7)
    have c4 := cut_len (xs := rs.map rowD) (lo := some 1) (hi := none)
    refine ⟨_, b_addT (by simp only [hRl]; exact Nat.le_trans (Nat.add_le_add_left c1 _) (by omega)), _, b_mulT rne ⟨by decide, by decide, by omega⟩, _, rfl, _, b_mulT rne ⟨by decide, by decide, by omega⟩, _, rfl, _, b_addL (by simp; omega), ?_⟩
    have hT : ∀ x ∈ S ++ [D.tup (cut (rs.map rowD) (some 1) none), .tup (rs.map rowD ++ cut (rs.map rowD) none (some 1)), .tup (cut (List.replicate (8 : Int).toNat (rs.map rowD)).flatten none (some 8)), .tup (cut (List.replicate (7 : Int).toNat (rs.map rowD)).flatten none (some 7)), .lst (rs.map rowD), .tup [], .non], Cl 30 3 x := fun x hx => by
      rcases List.mem_append.mp hx with q | q
      · exact s1 x q
      · refine Cl_up ?_
        simp only [List.mem_cons, List.not_mem_nil, or_false] at q
        rcases q with rfl | rfl | rfl | rfl | rfl | rfl | rfl
        · exact Cl_tup (by omega) fun y hy => hrowC y (cut_mem hy)
        · refine Cl_tup (by rw [List.length_append, hRl]; exact Nat.le_trans (Nat.add_le_add_left c1 _) (by omega)) fun y hy => ?_
          rcases List.mem_append.mp hy with q | q
          · exact hrowC y q
          · exact hrowC y (cut_mem q)
        · exact Cl_tup (Nat.le_trans c2 (by decide)) fun y hy => hrowC y (rep_mem (cut_mem hy))
        · exact Cl_tup (Nat.le_trans c3 (by decide)) fun y hy => hrowC y (rep_mem (cut_mem hy))
        · exact Cl_lst (by omega) hrowC
        · exact Cl_tup (by simp) fun y hy => by simp at hy
        · exact Cl_leaf rfl
    have hTl : (S ++ [D.tup (cut (rs.map rowD) (some 1) none), .tup (rs.map rowD ++ cut (rs.map rowD) none (some 1)), .tup (cut (List.replicate (8 : Int).toNat (rs.map rowD)).flatten none (some 8)), .tup (cut (List.replicate (7 : Int).toNat (rs.map rowD)).flatten none (some 7)), .lst (rs.map rowD), .tup [], .non]).length ≤ 17 := by simp; omega
    refine hN _ ?_
    clear hN N
    generalize S ++ [D.tup (cut (rs.map rowD) (some 1) none), .tup (rs.map rowD ++ cut (rs.map rowD) none (some 1)), .tup (cut (List.replicate (8 : Int).toNat (rs.map rowD)).flatten none (some 8)), .tup (cut (List.replicate (7 : Int).toNat (rs.map rowD)).flatten none (some 7)), .lst (rs.map rowD), .tup [], .non] = T at hT hTl ⊢
    refine q_cons fun N hN => ?_
    simp [w_oe, w_lc, small, lowB, lowO, lowF]
    have hmul : ∀ r ∈ rs, ∀ j : Int, 2 ≤ j → j ≤ 1000 → binD .mul (rowD r) (.int j) = some ⟨0, .tup (repD j r)⟩ := fun r hr j h1 h2 => by
      have hl := M.row r hr
      refine b_mulT (fun h => ?_) ⟨h1, h2, by rw [List.length_map]; omega⟩
      rw [List.map_eq_nil_iff.mp h] at hl
      simp at hl
      omega
    have hleaf : ∀ r ∈ rs, ∀ y ∈ r.map D.int, leafB y = true := fun r hr y hy => by
      obtain ⟨z, hz, rfl⟩ := List.mem_map.mp hy
      have := M.ent r hr z hz
      exact leaf_int (by omega)
    refine q_mapJ (e := rowD) (g := fun r => .tup (repD 2 r)) (J := fun l => l = [deckT gs m t, ⟨0, .tup (rs.map rowD)⟩, ⟨0, .int N0⟩, ⟨0, .int r⟩, ⟨0, .tup W⟩, ⟨0, .int a⟩, ⟨0, item⟩, ⟨1, .lst T⟩, a8]) rfl (by omega) ?_ ?_
    · rintro r hr _ rfl
      simp [w_oe, lowB, lowO]
      exact ⟨_, hmul r hr 2 (by decide) (by decide), rfl⟩
    · rintro _ b rfl
      refine ⟨_, rfl, ?_⟩
      simp [rest]
      refine q_mapJ (e := rowD) (g := fun r => .tup (cut (repD 5 r) none (some 5))) (J := fun l => l = [deckT gs m t, ⟨0, .tup (rs.map rowD)⟩, ⟨0, .int N0⟩, ⟨0, .int r⟩, ⟨0, .tup W⟩, ⟨0, .int a⟩, ⟨0, item⟩, ⟨1, .lst T⟩, a8]) rfl (by omega) ?_ ?_
      · rintro r hr _ rfl
        simp [w_oe, lowB, lowO]
        exact ⟨_, hmul r hr 5 (by decide) (by decide), _, rfl, rfl⟩
      · rintro _ b rfl
        refine ⟨_, rfl, ?_⟩
        simp [rest]
        have h0 : 0 < (rs.map rowD).length := by omega
        refine q_subR (xs := rs.map rowD) (j := 0) (k := 0) rfl (Nat.zero_le _) rfl (ix_pos (by decide) (by omega)) h0 ?_
        have hr0 := hrowC _ (List.getElem_mem h0)
        generalize (rs.map rowD)[0] = row0 at hr0
        refine ⟨_, b_addL (by simp; omega), ?_⟩
        have h2 : ∀ r ∈ rs, Cl 30 2 (.tup (repD 2 r)) := fun r hr => Cl_tup (by
          have := M.row r hr
          unfold repD
          rw [rep_len, List.length_map, this]
          show 2 * K0 ≤ 30
          omega) fun y hy => Cl_leaf (hleaf r hr y (rep_mem hy))
        have h5 : ∀ r ∈ rs, Cl 30 2 (.tup (cut (repD 5 r) none (some 5))) := fun r hr => Cl_tup (Nat.le_trans (cut_hi (k := 5)) (by decide)) fun y hy => Cl_leaf (hleaf r hr y (rep_mem (cut_mem hy)))
        have hU : ∀ x ∈ T ++ [D.tup (rs.map fun r => .tup (repD 2 r)), .tup (rs.map fun r => .tup (cut (repD 5 r) none (some 5))), row0], Cl 30 3 x := fun x hx => by
          rcases List.mem_append.mp hx with q | q
          · exact hT x q
          · simp only [List.mem_cons, List.not_mem_nil, or_false] at q
            rcases q with rfl | rfl | rfl
            · refine Cl_tup (by rw [List.length_map]; omega) fun y hy => ?_
              obtain ⟨r, hr, rfl⟩ := List.mem_map.mp hy
              exact h2 r hr
            · refine Cl_tup (by rw [List.length_map]; omega) fun y hy => ?_
              obtain ⟨r, hr, rfl⟩ := List.mem_map.mp hy
              exact h5 r hr
            · exact Cl_up (Cl_up hr0)
        have hUl : (T ++ [D.tup (rs.map fun r => .tup (repD 2 r)), .tup (rs.map fun r => .tup (cut (repD 5 r) none (some 5))), row0]).length ≤ 20 := by simp; omega
        have hUn : (T ++ [D.tup (rs.map fun r => .tup (repD 2 r)), .tup (rs.map fun r => .tup (cut (repD 5 r) none (some 5))), row0]) ≠ [] := by simp
        generalize hUU : T ++ [D.tup (rs.map fun r => .tup (repD 2 r)), .tup (rs.map fun r => .tup (cut (repD 5 r) none (some 5))), row0] = U at hU hUl hUn
        show N [deckT gs m t, ⟨0, .tup (rs.map rowD)⟩, ⟨0, .int N0⟩, ⟨0, .int r⟩, ⟨0, .tup W⟩, ⟨0, .int a⟩, ⟨0, item⟩, ⟨1, .lst U⟩, a8]
        refine hN _ ?_
        clear hN N
        refine q_cons fun N hN => ?_
        simp [w_oe, w_retv, a_call, rb357 hE, lowR, onceO, rebOk, takeO, reb357]
        refine qC_mono (pick357 (xs := U) hD hE G hm (.inl rfl) (Nat.le_refl 1) hUn (by omega)) ?_
        rintro v as ⟨x, gs', t', hx, rfl, rfl, G'⟩
        exact ⟨x, gs', t', rfl, hU x hx, rfl, G'⟩
end DL
end

section
set_option Elab.async false
set_option linter.all false
set_option maxRecDepth 100000
namespace DL
open PySem
theorem rb_of {P : Nat → Option FD} {f : Nat} {fd : FD} (hP : P f = some fd) : rbP P f = fd.reb := by funext p; unfold rbP; rw [hP]
theorem whole_int {d : D} {lo hi : Int} (h : isWhole d lo hi = true) : ∃ z, d = .int z ∧ lo ≤ z ∧ z ≤ hi := by
  cases d with
  | int z =>
    simp only [isWhole, Bool.and_eq_true, decide_eq_true_eq] at h
    exact ⟨z, rfl, h⟩
  | _ => simp [isWhole] at h
theorem badAt_none {hi : Int} : ∀ {k : Nat} {xs : List D}, badAt hi k xs = none → ∃ zs : List Int, xs = zs.map D.int ∧ ∀ z ∈ zs, 0 ≤ z ∧ z ≤ hi
  | _, [], _ => ⟨[], rfl, by simp⟩
  | k, x :: r, h => by
    simp only [badAt] at h
    by_cases hw : isWhole x 0 hi = true
    · rw [hw] at h
      obtain ⟨z, rfl, hz⟩ := whole_int hw
      obtain ⟨zs, rfl, h2⟩ := badAt_none (k := k + 1) (xs := r) h
      refine ⟨z :: zs, rfl, fun y hy => ?_⟩
      rcases List.mem_cons.mp hy with rfl | q
      · exact hz
      · exact h2 y q
    · have : isWhole x 0 hi = false := by simpa using hw
      rw [this] at h
      cases h
theorem errRows_non {hi : Int} : ∀ {k : Nat} {rows : List D}, (∀ r ∈ rows, ∃ xs, r = .tup xs) → errRows hi k rows = .non → ∃ rs : List (List Int), rows = rs.map rowD ∧ ∀ r ∈ rs, ∀ z ∈ r, 0 ≤ z ∧ z ≤ hi
  | _, [], _, _ => ⟨[], rfl, by simp⟩
  | k, x :: r, ht, h => by
    obtain ⟨xs, rfl⟩ := ht x (by simp)
    simp only [errRows] at h
    cases hb : badAt hi 0 xs with
    | some j => rw [hb] at h; cases h
    | none =>
      rw [hb] at h
      obtain ⟨zs, rfl, hz⟩ := badAt_none hb
      obtain ⟨rs, rfl, h2⟩ := errRows_non (k := k + 1) (rows := r) (fun y hy => ht y (by simp [hy])) h
      refine ⟨zs :: rs, rfl, fun y hy => ?_⟩
      rcases List.mem_cons.mp hy with rfl | q
      · exact hz
      · exact h2 y q
/-- what nothing keeps from being a machine is one -/
theorem mach_of {d : D} (h : machErr d = .non) : ∃ rs n k, d = machD rs ∧ Mk n k rs ∧ (1 ≤ n ∧ n ≤ 7) ∧ (1 ≤ k ∧ k ≤ 4) := by
  unfold machErr at h
  cases hs : isSq d with
  | false => rw [hs] at h; cases h
  | true =>
    rw [hs] at h
    obtain ⟨rows, rfl, hrows⟩ := isSq_tup hs
    obtain ⟨rs, rfl, hrr⟩ := errRows_non hrows h
    simp only [isSq, Bool.and_eq_true, decide_eq_true_eq, List.all_eq_true, List.length_map] at hs
    obtain ⟨⟨h1, h2⟩, h3⟩ := hs
    obtain ⟨r0, rt, rfl⟩ : ∃ a r, rs = a :: r := by
      cases rs with
      | nil => simp at h1
      | cons a r => exact ⟨a, r, rfl⟩
    have h4 : ∀ r ∈ r0 :: rt, 1 ≤ r.length ∧ r.length ≤ 4 ∧ r.length = r0.length := fun r hr => by
      have := h3 (rowD r) (List.mem_map.mpr ⟨r, hr, rfl⟩)
      simp only [List.map_cons, List.headD_cons, rowD, rowOk, Bool.and_eq_true, decide_eq_true_eq, List.length_map] at this
      exact ⟨this.1.1, this.1.2, this.2⟩
    refine ⟨r0 :: rt, (r0 :: rt).length, r0.length, rfl, ⟨rfl, fun r hr => (h4 r hr).2.2, fun r hr z hz => ?_⟩, ⟨h1, h2⟩, ⟨(h4 r0 (by simp)).1, (h4 r0 (by simp)).2.1⟩⟩
    have := hrr r hr z hz
    rw [List.length_map] at this
    omega
theorem badAt_lt {hi : Int} : ∀ {k : Nat} {xs : List D} {j : Nat}, badAt hi k xs = some j → j < k + xs.length
  | _, [], _, h => by cases h
  | k, x :: r, j, h => by
    simp only [badAt] at h
    split at h
    · have := badAt_lt h
      show j < k + (r.length + 1)
      omega
    · cases h
      show k < k + (r.length + 1)
      omega
theorem errRows_cl {hi : Int} : ∀ {k : Nat} {rows : List D}, (∀ r ∈ rows, ∃ xs, r = .tup xs ∧ xs.length ≤ 1000) → k + rows.length ≤ 1000 → Cl 30 1 (errRows hi k rows)
  | _, [], _, _ => Cl_leaf rfl
  | k, x :: r, ht, hk => by
    have hk' : k + (r.length + 1) ≤ 1000 := hk
    obtain ⟨xs, rfl, hx⟩ := ht x (by simp)
    simp only [errRows]
    cases hb : badAt hi 0 xs with
    | some j =>
      have := badAt_lt hb
      refine Cl_tup (by simp) fun y hy => ?_
      simp only [List.mem_cons, List.not_mem_nil, or_false] at hy
      rcases hy with rfl | rfl | rfl
      · exact Cl_leaf (by decide +kernel)
      · exact Cl_int (by omega)
      · exact Cl_int (by omega)
    | none => exact errRows_cl (fun y hy => ht y (by simp [hy])) (by omega)
theorem shd30 {d : D} {n : Nat} (h : Cl 30 n d) (hn : n ≤ 3) : Shd d := by
  have h3 : Cl 30 3 d := by
    obtain rfl | rfl | rfl | rfl : n = 0 ∨ n = 1 ∨ n = 2 ∨ n = 3 := by omega
    · exact Cl_up (Cl_up (Cl_up h))
    · exact Cl_up (Cl_up h)
    · exact Cl_up h
    · exact h
  exact shd_of h3 (by decide) (by decide)
theorem shd201 {d : D} (h : Cl 201 1 d) : Shd d := shd_of h (by decide) (by decide)
theorem shd_machErr {v : D} : Shd (machErr v) := by
  refine shd30 (n := 1) ?_ (by decide)
  unfold machErr
  cases hs : isSq v with
  | false => exact Cl_leaf (show leafB (.str "form") = true by decide +kernel)
  | true =>
    obtain ⟨rows, rfl, hrows⟩ := isSq_tup hs
    simp only [isSq, Bool.and_eq_true, decide_eq_true_eq, List.all_eq_true] at hs
    refine errRows_cl (fun r hr => ?_) (by omega)
    obtain ⟨xs, rfl⟩ := hrows r hr
    have := hs.2 _ hr
    simp only [rowOk, Bool.and_eq_true, decide_eq_true_eq] at this
    exact ⟨xs, rfl, by omega⟩
theorem shd_wordErr {k : Int} {v : D} : Shd (wordErr k v) := by
  refine shd30 (n := 1) ?_ (by decide)
  unfold wordErr
  split
  · rename_i xs
    split
    · cases hb : badAt (k - 1) 0 xs with
      | none => exact Cl_leaf rfl
      | some j =>
        have := badAt_lt hb
        refine Cl_tup (by simp) fun y hy => ?_
        simp only [List.mem_cons, List.not_mem_nil, or_false] at hy
        rcases hy with rfl | rfl
        · exact Cl_leaf (by decide +kernel)
        · exact Cl_int (by omega)
    · exact Cl_leaf (by decide +kernel)
  · exact Cl_leaf (by decide +kernel)
theorem shd_odd {x : D} (h : x ∈ oddL) : Shd x := by
  have h0 : ∀ i : Int, i = 0 ∨ i = 1 → Cl 30 0 (.int i) := fun i hi => by rcases hi with rfl | rfl <;> exact Cl_leaf rfl
  simp only [oddL, List.mem_cons, List.not_mem_nil, or_false] at h
  rcases h with rfl | rfl | rfl | rfl | rfl | rfl | rfl | rfl | rfl | rfl | rfl | rfl | rfl | rfl | rfl | rfl | rfl | rfl
  · exact shd30 (n := 0) rfl (by decide)
  · exact shd30 (n := 0) rfl (by decide)
  · exact shd30 (n := 0) rfl (by decide)
  · exact shd30 (n := 0) rfl (by decide)
  · exact shd30 (n := 0) rfl (by decide)
  · exact shd30 (n := 0) rfl (by decide)
  · exact shd30 (n := 0) rfl (by decide)
  · exact shd30 (n := 0) (Cl_int (by decide)) (by decide)
  · exact shd30 (n := 0) (Cl_leaf (by decide +kernel)) (by decide)
  · exact shd30 (n := 0) (Cl_leaf (by decide +kernel)) (by decide)
  · exact shd30 (n := 1) (Cl_tup (by decide) fun y hy => by simp at hy) (by decide)
  · exact shd30 (n := 1) (Cl_lst (by decide) fun y hy => by simp at hy) (by decide)
  · exact shd_dct
  · exact shd30 (n := 1) (Cl_tup (by decide) fun y hy => by simp at hy; subst hy; exact h0 _ (.inl rfl)) (by decide)
  · exact shd30 (n := 1) (Cl_tup (by decide) fun y hy => by
      simp at hy
      rcases hy with rfl | rfl
      · exact h0 _ (.inl rfl)
      · exact h0 _ (.inr rfl)) (by decide)
  · exact shd30 (n := 1) (Cl_lst (by decide) fun y hy => by simp at hy; subst hy; exact h0 _ (.inl rfl)) (by decide)
  · exact shd30 (n := 2) (Cl_tup (by decide) fun y hy => by simp at hy; subst hy; exact Cl_tup (by decide) fun y hy => by simp at hy; subst hy; exact h0 _ (.inl rfl)) (by decide)
  · exact shd30 (n := 2) (Cl_tup (by decide) fun y hy => by simp at hy; subst hy; exact Cl_tup (by decide) fun y hy => by simp at hy) (by decide)
theorem Mk_cl {n k : Nat} {rs : List (List Int)} (M : Mk n k rs) (hn : n ≤ 30) (hk : k ≤ 30) : Cl 30 2 (machD rs) := Cl_tup (by rw [List.length_map, M.len]; exact hn) fun y hy => by
  obtain ⟨r, hr, rfl⟩ := List.mem_map.mp hy
  refine Cl_tup (by rw [List.length_map, M.row r hr]; exact hk) fun y hy => ?_
  obtain ⟨z, hz, rfl⟩ := List.mem_map.mp hy
  have := M.ent r hr z hz
  exact Cl_int (by omega)
end DL
end

section
set_option Elab.async false
set_option linter.all false
set_option maxRecDepth 100000
/-! JA: machines of numbers: steps, runs, lots; plain facts and readings. -/
namespace DL
open PySem
/-- where a letter leads a room -/
def at2 (rs : List (List Int)) (r a : Int) : Int := atI (rs.getD r.toNat []) a
def stepL (rs : List (List Int)) (lot : List Int) (a : Int) : List Int := sortS (lot.map fun r => at2 rs r a)
def ledL (rs : List (List Int)) (lot word : List Int) : List Int := word.foldl (stepL rs) lot
def run (rs : List (List Int)) (word : List Int) (r : Int) : Int := word.foldl (at2 rs) r
def roomsL (rs : List (List Int)) (word : List Int) : List Int := (rngI rs.length).map (run rs word)
def leadL (rs : List (List Int)) (lot word : List Int) : List Int := (rngI rs.length).filter fun r => decide (run rs word r ∈ lot)
def noL' (rs : List (List Int)) (lot : List Int) : List Int := (rngI rs.length).filter fun r => !decide (r ∈ lot)
section
variable {n k : Nat} {rs : List (List Int)} {lot word : List Int} {r a : Int}
theorem at2_lt (M : Mk n k rs) (hr : 0 ≤ r ∧ r < (n : Int)) (ha : 0 ≤ a ∧ a < (k : Int)) : 0 ≤ at2 rs r a ∧ at2 rs r a < (n : Int) := by
  have hl := M.len
  have hi : r.toNat < rs.length := by omega
  unfold at2
  rw [List.getD_eq_getElem?_getD, List.getElem?_eq_getElem hi, Option.getD_some]
  have hm := List.getElem_mem hi
  exact M.ent _ hm _ (atI_mem ha.1 (by have := M.row _ hm; omega))
theorem run_lt (M : Mk n k rs) : ∀ {word : List Int} {r : Int}, (0 ≤ r ∧ r < (n : Int)) → Below k word → 0 ≤ run rs word r ∧ run rs word r < (n : Int)
  | [], _, hr, _ => hr
  | a :: w, r, hr, hw => run_lt M (word := w) (at2_lt M hr (hw a (by simp))) fun x hx => hw x (by simp [hx])
theorem run_app {w1 w2 : List Int} : run rs (w1 ++ w2) r = run rs w2 (run rs w1 r) := by unfold run; rw [List.foldl_append]
theorem ledL_app {w1 w2 : List Int} : ledL rs lot (w1 ++ w2) = ledL rs (ledL rs lot w1) w2 := by unfold ledL; rw [List.foldl_append]
theorem insS_len {z : Int} : ∀ l : List Int, (insS z l).length ≤ l.length + 1
  | [] => by simp [insS]
  | x :: r => by
    unfold insS
    have := insS_len (z := z) r
    split
    · simp
    · split
      · simp
      · simp; omega
theorem sortS_len : ∀ l : List Int, (sortS l).length ≤ l.length
  | [] => Nat.le_refl _
  | x :: r => by
    have h1 := insS_len (z := x) (sortS r)
    have h2 := sortS_len r
    show (insS x (sortS r)).length ≤ r.length + 1
    omega
theorem stepL_len : (stepL rs lot a).length ≤ lot.length := by
  unfold stepL
  have := sortS_len (lot.map fun r => at2 rs r a)
  rw [List.length_map] at this
  exact this
theorem ledL_len : ∀ {word lot : List Int}, (ledL rs lot word).length ≤ lot.length
  | [], _ => Nat.le_refl _
  | a :: w, lot => Nat.le_trans (ledL_len (word := w) (lot := stepL rs lot a)) stepL_len
theorem stepL_below (M : Mk n k rs) (hl : Below n lot) (ha : 0 ≤ a ∧ a < (k : Int)) : Below n (stepL rs lot a) := fun z hz => by
  obtain ⟨r, hr, rfl⟩ := List.mem_map.mp (sortS_mem.mp hz)
  exact at2_lt M (hl r hr) ha
theorem ledL_below (M : Mk n k rs) : ∀ {word lot : List Int}, Below n lot → Below k word → Below n (ledL rs lot word)
  | [], _, h, _ => h
  | a :: w, lot, h, hw => ledL_below M (word := w) (stepL_below M h (hw a (by simp))) fun x hx => hw x (by simp [hx])
theorem rngI_iff {z : Int} : z ∈ rngI n ↔ 0 ≤ z ∧ z < (n : Int) := by
  refine ⟨rngI_mem, fun h => List.mem_map.mpr ⟨z.toNat, List.mem_range.mpr (by omega), by omega⟩⟩
theorem leadL_below : Below rs.length (leadL rs lot word) := fun z hz => rngI_mem (List.mem_filter.mp hz).1
theorem noL'_below : Below rs.length (noL' rs lot) := fun z hz => rngI_mem (List.mem_filter.mp hz).1
theorem leadL_len : (leadL rs lot word).length ≤ rs.length := Nat.le_trans (List.length_filter_le ..) (by rw [rngI_len]; exact Nat.le_refl _)
theorem noL'_len : (noL' rs lot).length ≤ rs.length := Nat.le_trans (List.length_filter_le ..) (by rw [rngI_len]; exact Nat.le_refl _)
theorem leadL_app (M : Mk n k rs) {w1 w2 : List Int} (h1 : Below k w1) : leadL rs (leadL rs lot w2) w1 = leadL rs lot (w1 ++ w2) := by
  refine List.filter_congr fun r hr => ?_
  have hr2 := rngI_mem hr
  rw [M.len] at hr2
  have h := run_lt M hr2 h1
  rw [run_app]
  congr 1
  refine propext ⟨fun q => of_decide_eq_true (List.mem_filter.mp q).2, fun q => List.mem_filter.mpr ⟨rngI_iff.mpr ?_, decide_eq_true q⟩⟩
  rw [M.len]; exact h
theorem leadL_no (M : Mk n k rs) (hw : Below k word) : leadL rs (noL' rs lot) word = noL' rs (leadL rs lot word) := by
  refine List.filter_congr fun r hr => ?_
  have hr2 := rngI_mem hr
  have hr3 := hr2
  rw [M.len] at hr3
  have h := run_lt M hr3 hw
  have e1 : (run rs word r ∈ noL' rs lot) = ¬ (run rs word r ∈ lot) := propext ⟨fun q => by
    have := (List.mem_filter.mp q).2
    simpa using this, fun q => List.mem_filter.mpr ⟨rngI_iff.mpr (by rw [M.len]; exact h), by simpa using q⟩⟩
  have e2 : (r ∈ leadL rs lot word) = (run rs word r ∈ lot) := propext ⟨fun q => of_decide_eq_true (List.mem_filter.mp q).2, fun q => List.mem_filter.mpr ⟨hr, decide_eq_true q⟩⟩
  simp only [e1, e2, decide_not]
end
/-! ### readings -/
@[simp] theorem len_rowD {c : List Int} : b1D .len (rowD c) = some ⟨0, .int c.length⟩ := by
  show some (TV.mk 0 (.int ((c.map D.int).length : Nat))) = _; rw [List.length_map]
@[simp] theorem len_machD {rs : List (List Int)} : b1D .len (machD rs) = some ⟨0, .int rs.length⟩ := by
  show some (TV.mk 0 (.int ((rs.map rowD).length : Nat))) = _; rw [List.length_map]
@[simp] theorem sq_rowD {c : List Int} : seqOf (rowD c) = some (c.map D.int) := rfl
theorem intsOf_map : ∀ ns : List Int, intsOf (ns.map D.int) = some ns
  | [] => rfl
  | n :: r => by show (intsOf (r.map D.int)).map (n :: ·) = _; rw [intsOf_map r]; rfl
theorem sset_ints {ns : List Int} (h : ns.length < 64) : ssetD (.lst (ns.map D.int)) = some ⟨1, .lst ((sortS ns).map D.int)⟩ := by
  show (intsOf (ns.map D.int)).bind _ = _
  rw [intsOf_map]
  show (if decide (ns.length < 64) then _ else none) = _
  rw [decide_eq_true h]; rfl
@[simp] theorem a_sset {x : Od} {l : Sl} {Q : TV → Sl → Prop} : qE (applyO .sset [x] l) Q = ∃ v, ssetD (x.d l) = some v ∧ Q v (lowO 1 l [x]) := by
  show qE (DL.okO (ssetD (x.d l)) (lowO 1 l [x])) Q = _
  cases ssetD (x.d l) <;> simp [DL.okO]
theorem eqOk_row (c : List Int) : eqOk (rowD c) = true := by
  obtain ⟨h1, h2⟩ := ints_plain c
  unfold eqOk
  rw [Bool.and_eq_true, decide_eq_true_eq]
  exact ⟨h1, by show PyData.depthAll (toPs (c.map D.int)) + 1 ≤ 64; omega⟩
theorem eqOks_ints (c : List Int) : eqOks (c.map D.int) = true := by
  obtain ⟨h1, h2⟩ := ints_plain c
  unfold eqOks
  rw [Bool.and_eq_true, decide_eq_true_eq]
  exact ⟨h1, by omega⟩
theorem ne_row {c : List Int} : cmpD .ne (rowD c) (rowD c) = some false := by
  show (if eqOk (rowD c) && eqOk (rowD c) then some (!dEq (rowD c) (rowD c)) else none) = _
  rw [eqOk_row]
  have h : dEq (rowD c) (rowD c) = true := PySem.SeqAt.eqv_refl_plain _ (show (toP (rowD c)).plain = true from (ints_plain c).1)
  rw [h]; rfl
theorem inD_ints {z : Int} : ∀ c : List Int, inD (.int z) (c.map D.int) = decide (z ∈ c)
  | [] => by simp [inD]
  | x :: r => by
    show (dEq (.int x) (.int z) || inD (.int z) (r.map D.int)) = _
    rw [inD_ints r]
    show ((x == z) || decide (z ∈ r)) = _
    rw [Bool.eq_iff_iff]
    simp
    constructor
    · rintro (h | h)
      · exact .inl h.symm
      · exact .inr h
    · rintro (h | h)
      · exact .inl h.symm
      · exact .inr h
theorem in_row {z : Int} {c : List Int} : cmpD .inn (.int z) (rowD c) = some (decide (z ∈ c)) := by
  show (if eqOk (.int z) && eqOks (c.map D.int) then some (inD (.int z) (c.map D.int)) else none) = _
  rw [show eqOk (.int z) = true from rfl, eqOks_ints, inD_ints]; rfl
theorem nin_row {z : Int} {c : List Int} : cmpD .nin (.int z) (rowD c) = some (!decide (z ∈ c)) := by
  show (if eqOk (.int z) && eqOks (c.map D.int) then some (!inD (.int z) (c.map D.int)) else none) = _
  rw [show eqOk (.int z) = true from rfl, eqOks_ints, inD_ints]; rfl
/-- a row of a machine, an item of a row -/
theorem row_at {rs : List (List Int)} {r : Int} (h0 : 0 ≤ r) (h1 : r < rs.length) (h : r.toNat < (rs.map rowD).length) : (rs.map rowD)[r.toNat] = rowD (rs.getD r.toNat []) := by
  rw [List.getElem_map, List.getD_eq_getElem?_getD, List.getElem?_eq_getElem (by omega), Option.getD_some]
section
variable {l : Sl} {Q : TV → Sl → Prop} {i : Nat} {y : Od} {r : Int}
theorem q_subM {rs : List (List Int)} (hs : (gt l i).d = machD rs) (ht : (gt l i).t ≤ 1) (hj : y.d l = .int r) (h0 : 0 ≤ r) (h1 : r < rs.length) (hQ : Q ⟨0, rowD (rs.getD r.toNat [])⟩ l) : qE (applyO .sub [.r i, y] l) Q := by
  have hl : r.toNat < (rs.map rowD).length := by rw [List.length_map]; omega
  refine q_subR (xs := rs.map rowD) (by rw [hs]; rfl) ht hj (ix_pos h0 (by rw [List.length_map]; exact h1)) hl ?_
  rw [row_at h0 h1]; exact hQ
theorem q_subI {c : List Int} {x : TV} (hs : x.d = rowD c) (hj : y.d l = .int r) (h0 : 0 ≤ r) (h1 : r < c.length) (hQ : Q ⟨0, .int (atI c r)⟩ l) : qE (applyO .sub [.v x, y] l) Q := by
  have hq : seqOf (Od.d l (.v x)) = some (c.map D.int) := by
    show seqOf x.d = _
    rw [hs]; rfl
  rw [a_subL hq]
  have hl : r.toNat < (c.map D.int).length := by rw [List.length_map]; omega
  exact ⟨r, r.toNat, _, hj, ix_pos h0 (by rw [List.length_map]; exact h1), List.getElem?_eq_getElem hl, by rw [atI_get h0 h1]; exact hQ⟩
theorem q_subC {c : List Int} (hs : (gt l i).d = rowD c) (ht : (gt l i).t ≤ 1) (hj : y.d l = .int r) (h0 : 0 ≤ r) (h1 : r < c.length) (hQ : Q ⟨0, .int (atI c r)⟩ l) : qE (applyO .sub [.r i, y] l) Q := by
  have hl : r.toNat < (c.map D.int).length := by rw [List.length_map]; omega
  refine q_subR (xs := c.map D.int) (by rw [hs]; rfl) ht hj (ix_pos h0 (by rw [List.length_map]; exact h1)) hl ?_
  rw [atI_get h0 h1]; exact hQ
end
end DL
end

section
set_option Elab.async false
set_option linter.all false
set_option maxRecDepth 100000
/-! JB: the defs of k02, each told. -/
namespace DL
open PySem
set_option maxHeartbeats 2000000 in
theorem step5 {P : Nat → Option FD} {n id N0 K0 : Nat} {rs : List (List Int)} {lot : List Int} {a : Int} {Q : TV → List TV → Prop} (hP : P id = some f5) (M : Mk N0 K0 rs) (hl : Below N0 lot) (h64 : lot.length < 64) (ha : 0 ≤ a ∧ a < (K0 : Int))
    (hQ : Q ⟨0, rowD (stepL rs lot a)⟩ [⟨0, machD rs⟩, ⟨0, rowD lot⟩, ⟨0, .int a⟩]) : qC (evCall P (n + 1) id [⟨0, machD rs⟩, ⟨0, rowD lot⟩, ⟨0, .int a⟩]) Q := by
  refine qC_of hP rfl rfl ?_
  show qS (evSs _ _ _ b5 [⟨0, machD rs⟩, ⟨0, rowD lot⟩, ⟨0, .int a⟩, ⟨0, .un⟩]) _
  unfold b5
  refine q_cons fun N hN => ?_
  simp [w_oe, w_retv, w_lc, lowO]
  refine q_mapJ (g := fun r => .int (at2 rs r a)) (J := fun l => l = [⟨0, machD rs⟩, ⟨0, rowD lot⟩, ⟨0, .int a⟩, ⟨0, .un⟩]) rfl (by omega) ?_ ?_
  · rintro r hr _ rfl
    have hr2 := hl r hr
    have hrl : r < (rs.length : Int) := by rw [M.len]; exact hr2.2
    simp [w_oe]
    refine q_subM (rs := rs) (r := r) rfl (Nat.zero_le _) rfl hr2.1 hrl ?_
    have hm : rs.getD r.toNat [] ∈ rs := by
      rw [List.getD_eq_getElem?_getD, List.getElem?_eq_getElem (by omega), Option.getD_some]
      exact List.getElem_mem _
    simp
    refine q_subI (c := rs.getD r.toNat []) (r := a) rfl rfl ha.1 (by rw [M.row _ hm]; exact ha.2) ?_
    exact ⟨rfl, _, rfl⟩
  · rintro _ b rfl
    have e : lot.map (fun r => D.int (at2 rs r a)) = (lot.map fun r => at2 rs r a).map D.int := by rw [List.map_map]; rfl
    rw [e]
    refine ⟨_, sset_ints (by rw [List.length_map]; exact h64), _, rfl, ?_⟩
    exact hQ
set_option maxHeartbeats 2000000 in
theorem led368 {P : Nat → Option FD} {n id : Nat} {N0 K0 : Nat} {rs : List (List Int)} {lot word : List Int} {Q : TV → List TV → Prop} (hP : P id = some f368) (h5 : P 5 = some f5) (M : Mk N0 K0 rs) (hl : Below N0 lot) (h64 : lot.length < 64) (hw : Below K0 word)
    (hQ : Q ⟨0, rowD (ledL rs lot word)⟩ [⟨0, machD rs⟩, ⟨0, rowD lot⟩, ⟨0, rowD word⟩]) : qC (evCall P (n + 2) id [⟨0, machD rs⟩, ⟨0, rowD lot⟩, ⟨0, rowD word⟩]) Q := by
  refine qC_of hP rfl rfl ?_
  show qS (evSs _ _ _ b368 [⟨0, machD rs⟩, ⟨0, rowD lot⟩, ⟨0, rowD word⟩, ⟨0, .un⟩]) _
  unfold b368
  have r5 : f5.reb 0 = false ∧ f5.reb 1 = false ∧ f5.reb 2 = false := ⟨rfl, rfl, rfl⟩
  refine q_cons fun N hN => ?_
  rw [w_forr]
  simp [w_oe, lowO]
  refine q_for (fun xs l => ∃ (ws cur : List Int) (a3 : TV), xs = ws.map D.int ∧ Below K0 ws ∧ Below N0 cur ∧ cur.length < 64 ∧ ledL rs cur ws = ledL rs lot word ∧ l = [⟨0, machD rs⟩, ⟨0, rowD cur⟩, ⟨0, rowD word⟩, a3]) _ _ ⟨word, lot, _, rfl, hw, hl, h64, rfl, rfl⟩ ?_ ?_
  · rintro x xs l ⟨ws, cur, a3, e, hws, hc, hc64, hled, rfl⟩
    obtain ⟨a, ws, rfl, rfl, rfl⟩ : ∃ a ws', ws = a :: ws' ∧ x = .int a ∧ xs = ws'.map D.int := by
      cases ws with
      | nil => cases e
      | cons a w => cases e; exact ⟨a, w, rfl, rfl, rfl⟩
    show qS (evSs _ _ _ _ [⟨0, machD rs⟩, ⟨0, rowD cur⟩, ⟨0, rowD word⟩, ⟨0, .int a⟩]) _
    refine q_cons fun N1 hN1 => ?_
    simp [w_oe, a_call, rb_of h5, lowR, onceO, rebOk, takeO, r5]
    refine step5 h5 M hc hc64 (hws a (by simp)) ?_
    simp [backO]
    refine hN1 _ ?_
    rw [w_snil]
    exact ⟨ws, stepL rs cur a, _, rfl, fun z hz => hws z (by simp [hz]), stepL_below M hc (hws a (by simp)), Nat.lt_of_le_of_lt stepL_len hc64, hled, rfl⟩
  · rintro l ⟨ws, cur, a3, e, hws, hc, hc64, hled, rfl⟩
    have hz0 : ws = [] := by cases ws with | nil => rfl | cons _ _ => cases e
    subst hz0
    refine hN _ ?_
    clear hN N
    have e2 : cur = ledL rs lot word := hled
    subst e2
    refine q_cons fun N hN => ?_
    simp
    exact hQ
set_option maxHeartbeats 2000000 in
theorem led371 {P : Nat → Option FD} {n id : Nat} {N0 K0 : Nat} {rs : List (List Int)} {lot word : List Int} {Q : TV → List TV → Prop} (hP : P id = some f371) (h370 : P 370 = some f370) (M : Mk N0 K0 rs) (hl : Below N0 lot) (h64 : lot.length < 64) (hw : Below K0 word)
    (hQ : Q ⟨0, rowD (ledL rs lot word)⟩ [⟨0, machD rs⟩, ⟨0, rowD lot⟩, ⟨0, rowD word⟩]) : qC (evCall P (n + 2) id [⟨0, machD rs⟩, ⟨0, rowD lot⟩, ⟨0, rowD word⟩]) Q := by
  refine qC_of hP rfl rfl ?_
  show qS (evSs _ _ _ b371 [⟨0, machD rs⟩, ⟨0, rowD lot⟩, ⟨0, rowD word⟩, ⟨0, .un⟩]) _
  unfold b371
  have r370 : f370.reb 0 = false ∧ f370.reb 1 = false ∧ f370.reb 2 = false := ⟨rfl, rfl, rfl⟩
  refine q_cons fun N hN => ?_
  rw [w_forr]
  simp [w_oe, lowO]
  refine q_for (fun xs l => ∃ (ws cur : List Int) (a3 : TV), xs = ws.map D.int ∧ Below K0 ws ∧ Below N0 cur ∧ cur.length < 64 ∧ ledL rs cur ws = ledL rs lot word ∧ l = [⟨0, machD rs⟩, ⟨0, rowD cur⟩, ⟨0, rowD word⟩, a3]) _ _ ⟨word, lot, _, rfl, hw, hl, h64, rfl, rfl⟩ ?_ ?_
  · rintro x xs l ⟨ws, cur, a3, e, hws, hc, hc64, hled, rfl⟩
    obtain ⟨a, ws, rfl, rfl, rfl⟩ : ∃ a ws', ws = a :: ws' ∧ x = .int a ∧ xs = ws'.map D.int := by
      cases ws with
      | nil => cases e
      | cons a w => cases e; exact ⟨a, w, rfl, rfl, rfl⟩
    show qS (evSs _ _ _ _ [⟨0, machD rs⟩, ⟨0, rowD cur⟩, ⟨0, rowD word⟩, ⟨0, .int a⟩]) _
    refine q_cons fun N1 hN1 => ?_
    simp [w_oe, a_call, rb_of h370, lowR, onceO, rebOk, takeO, r370]
    refine step5 (id := 370) h370 M hc hc64 (hws a (by simp)) ?_
    simp [backO]
    refine hN1 _ ?_
    rw [w_snil]
    exact ⟨ws, stepL rs cur a, _, rfl, fun z hz => hws z (by simp [hz]), stepL_below M hc (hws a (by simp)), Nat.lt_of_le_of_lt stepL_len hc64, hled, rfl⟩
  · rintro l ⟨ws, cur, a3, e, hws, hc, hc64, hled, rfl⟩
    have hz0 : ws = [] := by cases ws with | nil => rfl | cons _ _ => cases e
    subst hz0
    refine hN _ ?_
    clear hN N
    have e2 : cur = ledL rs lot word := hled
    subst e2
    refine q_cons fun N hN => ?_
    simp
    exact hQ
@[simp] theorem w_rgT {cl : Nat → List TV → RC} {rb : Nat → Nat → Bool} {l : Sl} {Q : TV → Sl → Prop} {e : E} : qE (evE cl rb (.rg true (.cons e .nil)) l) Q = qO (opd e (evE cl rb e) l) fun os l' => ∃ n : Int, os.map (Od.d l') = [.int n] ∧ rgOk 0 n = true ∧ Q ⟨0, .tup (rngL 0 n)⟩ l' := by
  simp only [evE, qO_bnd, w_cons, w_nil, List.append_nil]
  cases hr : opd e (evE cl rb e) l with
  | no => rw [qO_no, qO_no]
  | ok os l' =>
    obtain ⟨o, rfl⟩ := opd_one hr
    rw [qO_ok, qO_ok]
    show qE (rgE true [o.d l'] l') Q = ∃ n : Int, [o.d l'] = [D.int n] ∧ rgOk 0 n = true ∧ Q ⟨0, .tup (rngL 0 n)⟩ l'
    generalize o.d l' = dd
    cases dd with
    | int n =>
      by_cases hn : rgOk 0 n = true
      · simp only [rgE, hn, if_true, Bool.false_eq_true, if_false, qE_ok]
        exact propext ⟨fun h => ⟨n, rfl, hn, h⟩, fun ⟨m, e, _, h⟩ => by cases e; exact h⟩
      · have hn' : rgOk 0 n = false := by simpa using hn
        simp only [rgE, hn', Bool.false_eq_true, if_false]
        exact propext ⟨fun h => (noE h).elim, fun ⟨m, e, h, _⟩ => by cases e; rw [hn'] at h; cases h⟩
    | _ => exact propext ⟨fun h => (noE h).elim, fun ⟨m, e, _⟩ => by cases e⟩
theorem rooms_step {rs : List (List Int)} {ws : List Int} {a : Int} : ((rngI rs.length).map (run rs ws)).map (fun r => at2 rs r a) = (rngI rs.length).map (run rs (ws ++ [a])) := by
  rw [List.map_map]
  refine List.map_congr_left fun r _ => ?_
  rw [run_app]
  rfl
theorem run_nil {rs : List (List Int)} {n : Nat} : (rngI n).map (run rs []) = rngI n := by
  conv => rhs; rw [← List.map_id (rngI n)]
  rfl
set_option maxHeartbeats 2000000 in
theorem rooms7 {P : Nat → Option FD} {n id : Nat} {N0 K0 : Nat} {rs : List (List Int)} {word : List Int} {Q : TV → List TV → Prop} (hP : P id = some f7) (M : Mk N0 K0 rs) (hN0 : N0 < 1000) (hw : Below K0 word)
    (hQ : Q ⟨0, rowD (roomsL rs word)⟩ [⟨0, machD rs⟩, ⟨0, rowD word⟩]) : qC (evCall P (n + 1) id [⟨0, machD rs⟩, ⟨0, rowD word⟩]) Q := by
  have hlen := M.len
  refine qC_of hP rfl rfl ?_
  show qS (evSs _ _ _ b7 [⟨0, machD rs⟩, ⟨0, rowD word⟩, ⟨0, .un⟩, ⟨0, .un⟩, ⟨0, .un⟩]) _
  unfold b7
  refine q_cons fun N hN => ?_
  simp [w_oe, lowF]
  refine ⟨decide_eq_true (by omega), ?_⟩
  rw [rngL_I]
  refine hN _ ?_
  clear hN N
  refine q_cons fun N hN => ?_
  rw [w_forr]
  simp [w_oe, lowO]
  refine q_for (fun xs l => ∃ (pre ws : List Int) (a3 : TV), word = pre ++ ws ∧ xs = ws.map D.int ∧ l = [⟨0, machD rs⟩, ⟨0, rowD word⟩, ⟨0, rowD ((rngI rs.length).map (run rs pre))⟩, a3, ⟨0, .un⟩]) _ _ ⟨[], word, _, rfl, rfl, by rw [run_nil]; rfl⟩ ?_ ?_
  · rintro x xs l ⟨pre, ws, a3, ew, e, rfl⟩
    obtain ⟨a, ws, rfl, rfl, rfl⟩ : ∃ a ws', ws = a :: ws' ∧ x = .int a ∧ xs = ws'.map D.int := by
      cases ws with
      | nil => cases e
      | cons a w => cases e; exact ⟨a, w, rfl, rfl, rfl⟩
    have ha := hw a (by rw [ew]; simp)
    have hpre : Below K0 pre := fun z hz => hw z (by rw [ew]; simp [hz])
    generalize hcur : (rngI rs.length).map (run rs pre) = cur
    have hcl : cur.length = N0 := by rw [← hcur, List.length_map, rngI_len, hlen]
    have hcb : Below N0 cur := fun z hz => by
      rw [← hcur] at hz
      obtain ⟨r, hr, rfl⟩ := List.mem_map.mp hz
      exact run_lt M (hlen ▸ rngI_mem hr) hpre
    show qS (evSs _ _ _ _ [⟨0, machD rs⟩, ⟨0, rowD word⟩, ⟨0, rowD cur⟩, ⟨0, .int a⟩, ⟨0, .un⟩]) _
    refine q_cons fun N1 hN1 => ?_
    simp [w_oe, w_lc, lowO]
    refine q_mapJ (g := fun r => .int (at2 rs r a)) (J := fun l => l = [⟨0, machD rs⟩, ⟨0, rowD word⟩, ⟨0, rowD cur⟩, ⟨0, .int a⟩, ⟨0, .un⟩]) rfl (by omega) ?_ ?_
    · rintro r hr _ rfl
      have hr2 := hcb r hr
      have hrl : r < (rs.length : Int) := by omega
      simp [w_oe]
      refine q_subM (rs := rs) (r := r) rfl (Nat.zero_le _) rfl hr2.1 hrl ?_
      have hm : rs.getD r.toNat [] ∈ rs := by
        rw [List.getD_eq_getElem?_getD, List.getElem?_eq_getElem (by omega), Option.getD_some]
        exact List.getElem_mem _
      simp
      refine q_subI (c := rs.getD r.toNat []) (r := a) rfl rfl ha.1 (by rw [M.row _ hm]; exact ha.2) ?_
      exact ⟨rfl, _, rfl⟩
    · rintro _ b rfl
      have e : cur.map (fun r => D.int (at2 rs r a)) = (cur.map fun r => at2 rs r a).map D.int := by rw [List.map_map]; rfl
      rw [e, ← hcur, rooms_step]
      refine ⟨_, rfl, ?_⟩
      refine hN1 _ ?_
      rw [w_snil]
      exact ⟨pre ++ [a], ws, _, by rw [ew]; simp, rfl, rfl⟩
  · rintro l ⟨pre, ws, a3, ew, e, rfl⟩
    have hz0 : ws = [] := by cases ws with | nil => rfl | cons _ _ => cases e
    subst hz0
    rw [List.append_nil] at ew
    subst ew
    refine hN _ ?_
    clear hN N
    refine q_cons fun N hN => ?_
    simp
    exact hQ
@[simp] theorem sq_colD {c : List Int} : seqOf (colD c) = some (c.map D.int) := rfl
set_option maxHeartbeats 2000000 in
theorem rooms372 {P : Nat → Option FD} {n id : Nat} {N0 K0 : Nat} {rs : List (List Int)} {word : List Int} {Q : TV → List TV → Prop} (hP : P id = some f372) (M : Mk N0 K0 rs) (hN0 : N0 < 1000) (hw : Below K0 word)
    (hQ : Q ⟨0, rowD (roomsL rs word)⟩ [⟨0, machD rs⟩, ⟨0, rowD word⟩]) : qC (evCall P (n + 1) id [⟨0, machD rs⟩, ⟨0, rowD word⟩]) Q := by
  have hlen := M.len
  refine qC_of hP rfl rfl ?_
  show qS (evSs _ _ _ b372 [⟨0, machD rs⟩, ⟨0, rowD word⟩, ⟨0, .un⟩, ⟨0, .un⟩, ⟨0, .un⟩]) _
  unfold b372
  refine q_cons fun N hN => ?_
  simp [w_oe, lowF]
  refine ⟨decide_eq_true (by omega), ?_⟩
  rw [rngL_I]
  refine hN _ ?_
  clear hN N
  refine q_cons fun N hN => ?_
  rw [w_forr]
  simp [w_oe, lowO]
  refine q_for (fun xs l => ∃ (pre ws : List Int) (a3 : TV) (tg : Nat), tg ≤ 1 ∧ word = pre ++ ws ∧ xs = ws.map D.int ∧ l = [⟨0, machD rs⟩, ⟨0, rowD word⟩, ⟨tg, colD ((rngI rs.length).map (run rs pre))⟩, a3, ⟨0, .un⟩]) _ _ ⟨[], word, _, 1, Nat.le_refl 1, rfl, rfl, by rw [run_nil]; rfl⟩ ?_ ?_
  · rintro x xs l ⟨pre, ws, a3, tg, htg, ew, e, rfl⟩
    obtain ⟨a, ws, rfl, rfl, rfl⟩ : ∃ a ws', ws = a :: ws' ∧ x = .int a ∧ xs = ws'.map D.int := by
      cases ws with
      | nil => cases e
      | cons a w => cases e; exact ⟨a, w, rfl, rfl, rfl⟩
    have ha := hw a (by rw [ew]; simp)
    have hpre : Below K0 pre := fun z hz => hw z (by rw [ew]; simp [hz])
    generalize hcur : (rngI rs.length).map (run rs pre) = cur
    have hcl : cur.length = N0 := by rw [← hcur, List.length_map, rngI_len, hlen]
    have hcb : Below N0 cur := fun z hz => by
      rw [← hcur] at hz
      obtain ⟨r, hr, rfl⟩ := List.mem_map.mp hz
      exact run_lt M (hlen ▸ rngI_mem hr) hpre
    show qS (evSs _ _ _ _ [⟨0, machD rs⟩, ⟨0, rowD word⟩, ⟨tg, colD cur⟩, ⟨0, .int a⟩, ⟨0, .un⟩]) _
    refine q_cons fun N1 hN1 => ?_
    have elo : lowO 0 [⟨0, machD rs⟩, ⟨0, rowD word⟩, ⟨tg, colD cur⟩, ⟨0, .int a⟩, ⟨0, .un⟩] [.r 2] = [⟨0, machD rs⟩, ⟨0, rowD word⟩, ⟨0, colD cur⟩, ⟨0, .int a⟩, ⟨0, .un⟩] := by
      rcases (show tg = 0 ∨ tg = 1 by omega) with rfl | rfl <;> rfl
    simp [w_oe, w_lc, elo]
    refine q_mapJ (g := fun r => .int (at2 rs r a)) (J := fun l => l = [⟨0, machD rs⟩, ⟨0, rowD word⟩, ⟨0, colD cur⟩, ⟨0, .int a⟩, ⟨0, .un⟩]) rfl (by omega) ?_ ?_
    · rintro r hr _ rfl
      have hr2 := hcb r hr
      have hrl : r < (rs.length : Int) := by omega
      simp [w_oe]
      refine q_subM (rs := rs) (r := r) rfl (Nat.zero_le _) rfl hr2.1 hrl ?_
      have hm : rs.getD r.toNat [] ∈ rs := by
        rw [List.getD_eq_getElem?_getD, List.getElem?_eq_getElem (by omega), Option.getD_some]
        exact List.getElem_mem _
      simp
      refine q_subI (c := rs.getD r.toNat []) (r := a) rfl rfl ha.1 (by rw [M.row _ hm]; exact ha.2) ?_
      exact ⟨rfl, _, rfl⟩
    · rintro _ b rfl
      have e : cur.map (fun r => D.int (at2 rs r a)) = (cur.map fun r => at2 rs r a).map D.int := by rw [List.map_map]; rfl
      rw [e, ← hcur, rooms_step]
      refine hN1 _ ?_
      rw [w_snil]
      exact ⟨pre ++ [a], ws, _, 1, Nat.le_refl 1, by rw [ew]; simp, rfl, rfl⟩
  · rintro l ⟨pre, ws, a3, tg, htg, ew, e, rfl⟩
    have hz0 : ws = [] := by cases ws with | nil => rfl | cons _ _ => cases e
    subst hz0
    rw [List.append_nil] at ew
    subst ew
    refine hN _ ?_
    clear hN N
    refine q_cons fun N hN => ?_
    simp [w_retv, w_oe]
    refine ⟨_, rfl, ?_⟩
    rcases (show tg = 0 ∨ tg = 1 by omega) with rfl | rfl <;> exact hQ
/-- a comprehension with a condition, what is kept of told items; J stays true of the slots but i -/
theorem q_filtJ {α : Type} {cl : Nat → List TV → RC} {rb : Nat → Nat → Bool} {as : List α} {e g : α → D} {l : Sl} {i : Nat} {C E : E} {R : TV → Sl → Prop} (J : Sl → Prop) (p : α → Bool) (hJ : J l) (hl : as.length ≤ 16777216)
    (h : ∀ a ∈ as, ∀ l, J l → qE (evE cl rb C (st l i ⟨0, e a⟩)) fun v l' => v.d = .bl (p a) ∧ ∃ l1, J l1 ∧ l' = st l1 i ⟨0, e a⟩ ∧ (p a = true → qE (evE cl rb E l') fun v l' => v.d = g a ∧ ∃ l1 b, J l1 ∧ l' = st l1 i b))
    (hR : ∀ l1 b, J l1 → R ⟨1, .lst ((as.filter p).map g)⟩ (st l1 i b)) :
    qE (lcR (fun x l' => evE cl rb E l') false (fun x l' => match bindT (clr l' [i]) [i] x with | some l2 => evC cl rb (.cons C .nil) l2 | none => .no) (as.map e) [] l) R := by
  refine q_lc (fun ys acc l2 => ∃ pre suf, as = pre ++ suf ∧ ys = suf.map e ∧ acc = (pre.filter p).map g ∧ ∃ l0 a, J l0 ∧ l2 = st l0 i a) _ [] l ⟨[], as, rfl, rfl, rfl, l, gt l i, hJ, st_gt.symm⟩ ?_ ?_
  · rintro x r acc l2 ⟨pre, suf, e1, e2, rfl, l0, a, j0, rfl⟩
    obtain ⟨y, suf, rfl, rfl, rfl⟩ : ∃ y suf', suf = y :: suf' ∧ x = e y ∧ r = suf'.map e := by
      cases suf with
      | nil => cases e2
      | cons y s => cases e2; exact ⟨y, s, rfl, rfl, rfl⟩
    have hb : (match bindT (clr (st l0 i a) [i]) [i] (e y) with | some l2 => evC cl rb (.cons C .nil) l2 | none => RB.no) = (evE cl rb C (st l0 i ⟨0, e y⟩)).tst := by
      show evC cl rb (.cons C .nil) (st (st (st l0 i a) i ⟨0, .un⟩) i ⟨0, e y⟩) = _
      rw [st_st, st_st]
      simp only [evC]
    rw [hb, qT_tst]
    have hx := h y (by rw [e1]; simp) l0 j0
    cases hr : evE cl rb C (st l0 i ⟨0, e y⟩) with
    | no => rw [hr] at hx; exact (noE hx).elim
    | ok v l3 =>
      rw [hr, qE_ok] at hx
      rw [qE_ok]
      obtain ⟨hv, l1, j1, hl3, hE⟩ := hx
      refine ⟨p y, hv, fun hf => ⟨pre ++ [y], suf, by rw [e1]; simp, rfl, ?_, l1, ⟨0, e y⟩, j1, hl3⟩, fun ht => ?_⟩
      · rw [List.filter_append, List.filter_cons, hf]; simp
      · have q := hE ht
        cases hr2 : evE cl rb E l3 with
        | no => rw [hr2] at q; exact (noE q).elim
        | ok v2 l4 =>
          rw [hr2, qE_ok] at q
          rw [qE_ok]
          obtain ⟨hv2, l5, b, j5, hl5⟩ := q
          have hlen : ((pre.filter p).map g).length ≤ pre.length := by rw [List.length_map]; exact List.length_filter_le ..
          have hpl : as.length = pre.length + (suf.length + 1) := by rw [e1]; simp
          refine ⟨decide_eq_true (by omega), rfl, pre ++ [y], suf, by rw [e1]; simp, rfl, ?_, l5, b, j5, hl5⟩
          rw [List.filter_append, List.filter_cons, ht]
          simp [hv2]
  · rintro acc l2 ⟨pre, suf, e1, e2, rfl, l0, a, j0, rfl⟩
    have hs : suf = [] := by cases suf with | nil => rfl | cons _ _ => cases e2
    subst hs
    rw [List.append_nil] at e1
    subst e1
    exact hR l0 a j0
end DL
end

section
set_option Elab.async false
set_option linter.all false
set_option maxRecDepth 100000
namespace DL
open PySem
theorem rngI_get {n j : Nat} (h : j < (rngI n).length) : (rngI n)[j] = (j : Int) := by
  simp [rngI]
set_option maxHeartbeats 2000000 in
theorem lead8 {P : Nat → Option FD} {n : Nat} {N0 K0 : Nat} {rs : List (List Int)} {lot word : List Int} {Q : TV → List TV → Prop} (hP : P 8 = some f8) (h7 : P 7 = some f7) (M : Mk N0 K0 rs) (hN0 : N0 < 1000) (hw : Below K0 word)
    (hQ : Q ⟨0, rowD (leadL rs lot word)⟩ [⟨0, machD rs⟩, ⟨0, rowD lot⟩, ⟨0, rowD word⟩]) : qC (evCall P (n + 2) 8 [⟨0, machD rs⟩, ⟨0, rowD lot⟩, ⟨0, rowD word⟩]) Q := by
  have hlen := M.len
  refine qC_of hP rfl rfl ?_
  show qS (evSs _ _ _ b8 [⟨0, machD rs⟩, ⟨0, rowD lot⟩, ⟨0, rowD word⟩, ⟨0, .un⟩, ⟨0, .un⟩]) _
  unfold b8
  have r7 : f7.reb 0 = false ∧ f7.reb 1 = false := ⟨rfl, rfl⟩
  refine q_cons fun N hN => ?_
  simp [w_oe, w_retv, w_lc, a_call, rb_of h7, lowR, onceO, rebOk, takeO, r7]
  refine rooms7 h7 M hN0 hw ?_
  simp [backO, lowO]
  have e0 : (roomsL rs word).map D.int = (((rngI rs.length).drop 0).map fun r => D.int (run rs word r)) := by
    unfold roomsL; rw [List.map_map]; rfl
  rw [e0]
  refine q_lc (fun xs acc l => ∃ (j : Nat) (a3 a4 : TV), j ≤ rs.length ∧ xs = enumL j (((rngI rs.length).drop j).map fun r => D.int (run rs word r)) ∧ acc = (((rngI rs.length).take j).filter fun r => decide (run rs word r ∈ lot)).map D.int ∧ l = [⟨0, machD rs⟩, ⟨0, rowD lot⟩, ⟨0, rowD word⟩, a3, a4]) _ _ _ ⟨0, _, _, Nat.zero_le _, rfl, rfl, rfl⟩ ?_ ?_
  · rintro x r acc l ⟨j, a3, a4, hj, e, rfl, rfl⟩
    have hj2 : j < (rngI rs.length).length := by
      rw [rngI_len]
      by_cases q : j < rs.length
      · exact q
      · rw [List.drop_eq_nil_of_le (by rw [rngI_len]; omega)] at e
        cases e
    have hj3 : j < rs.length := by rw [rngI_len] at hj2; exact hj2
    rw [List.drop_eq_getElem_cons hj2, rngI_get hj2] at e
    obtain ⟨rfl, rfl⟩ := List.cons.inj e
    show qT (evC _ _ _ [⟨0, machD rs⟩, ⟨0, rowD lot⟩, ⟨0, rowD word⟩, ⟨0, .int j⟩, ⟨0, .int (run rs word j)⟩]) _
    simp only [evC, qT_tst]
    have et : (rngI rs.length).take (j + 1) = (rngI rs.length).take j ++ [(j : Int)] := by
      rw [List.take_add_one, List.getElem?_eq_getElem hj2, rngI_get hj2]; rfl
    simp [in_row]
    by_cases hin : run rs word j ∈ lot
    · right
      have hfl := List.length_filter_le (fun r => decide (run rs word r ∈ lot)) ((rngI rs.length).take j)
      rw [List.length_take] at hfl
      refine ⟨hin, decide_eq_true (by omega), j + 1, hj3, rfl, ?_⟩
      rw [et, List.filter_append, List.filter_cons, decide_eq_true hin]
      simp
    · left
      refine ⟨hin, j + 1, hj3, rfl, ?_⟩
      rw [et, List.filter_append, List.filter_cons, decide_eq_false hin]
      simp
  · rintro acc l ⟨j, a3, a4, hj, e, rfl, rfl⟩
    have hj2 : rs.length ≤ j := by
      by_cases q : j < rs.length
      · have hj2 : j < (rngI rs.length).length := by rw [rngI_len]; exact q
        rw [List.drop_eq_getElem_cons hj2] at e
        cases e
      · omega
    have ej : (rngI rs.length).take j = rngI rs.length := List.take_of_length_le (by rw [rngI_len]; exact hj2)
    rw [ej]
    exact ⟨_, rfl, hQ⟩
/-- a drawn lot -/
def LotQ (m : Int) (N0 : Nat) (rs : List (List Int)) (v : TV) (as : List TV) : Prop := ∃ lot gs t, v = ⟨0, rowD lot⟩ ∧ Below N0 lot ∧ lot.length ≤ N0 ∧ as = [deckT gs m t, ⟨0, machD rs⟩] ∧ Good gs
@[simp] theorem ceq {i j : Int} : cmpD .eq (.int i) (.int j) = some (decide (i = j)) := by
  show some (i == j) = _
  congr 1
set_option maxHeartbeats 2000000 in
theorem lot373 {P : Nat → Option FD} {n : Nat} {m : Int} {gs : List Int} {t : Int} {N0 K0 : Nat} {rs : List (List Int)} (hP : P 373 = some f373) (hD : P 356 = some f356) (M : Mk N0 K0 rs) (hN0 : N0 < 1000) (G : Good gs) (hm : 0 ≤ m ∧ m < 4294967296) :
    qC (evCall P (n + 2) 373 [deckT gs m t, ⟨0, machD rs⟩]) (LotQ m N0 rs) := by
  have hlen := M.len
  refine qC_of hP rfl rfl ?_
  show qS (evSs _ _ _ b373 [deckT gs m t, ⟨0, machD rs⟩, ⟨0, .un⟩]) _
  unfold b373
  refine q_cons fun N hN => ?_
  simp [w_oe, w_retv, w_lc, lowF]
  refine ⟨by omega, ?_⟩
  rw [rngL_I]
  refine q_lc (fun xs acc l => ∃ (suf c gs : List Int) (t : Int) (a2 : TV), xs = suf.map D.int ∧ acc = c.map D.int ∧ Below N0 suf ∧ Below N0 c ∧ c.length + suf.length ≤ N0 ∧ Good gs ∧ l = [deckT gs m t, ⟨0, machD rs⟩, a2]) _ _ _ ⟨rngI rs.length, [], gs, t, _, rfl, rfl, fun z hz => hlen ▸ rngI_mem hz, fun z hz => by simp at hz, by rw [rngI_len]; simp; omega, G, rfl⟩ ?_ ?_
  · rintro x r acc l ⟨suf, c, gs, t, a2, e, rfl, hs, hc, hl, G, rfl⟩
    obtain ⟨z, suf, rfl, rfl, rfl⟩ : ∃ a ws', suf = a :: ws' ∧ x = .int a ∧ r = ws'.map D.int := by
      cases suf with
      | nil => cases e
      | cons a w => cases e; exact ⟨a, w, rfl, rfl, rfl⟩
    have hl' : c.length + (suf.length + 1) ≤ N0 := hl
    show qT (evC _ _ _ [deckT gs m t, ⟨0, machD rs⟩, ⟨0, .int z⟩]) _
    simp only [evC, qT_tst]
    simp [w_oe, a_call, rb356 hD, lowR, onceO, rebOk, takeO, reb356]
    refine qC_mono (draw356 hD G hm (by decide)) ?_
    rintro v as ⟨w, gs, t, rfl, ⟨w0, w1, w2⟩, rfl, G⟩
    simp [backO]
    by_cases hw : w = 0
    · right
      exact ⟨hw, decide_eq_true (by omega), suf, rfl, c ++ [z], by simp, fun y hy => hs y (by simp [hy]), Below_snoc hc (hs z (by simp)), by simp; omega, gs, G, t, rfl⟩
    · left
      exact ⟨hw, suf, rfl, c, rfl, fun y hy => hs y (by simp [hy]), hc, by omega, gs, G, t, rfl⟩
  · rintro acc l ⟨suf, c, gs, t, a2, e, rfl, hs, hc, hl, G, rfl⟩
    exact ⟨_, rfl, c, gs, t, rfl, hc, by omega, rfl, G⟩
end DL
end

section
set_option Elab.async false
set_option linter.all false
set_option maxRecDepth 100000
namespace DL
open PySem
set_option maxHeartbeats 1000000 in
theorem deck369 {P : Nat → Option FD} {n : Nat} {is : List Int} (hP : P 369 = some f369) (h : is.length ≤ 63) : qC (evCall P (n + 1) 369 [⟨0, .lst (is.map D.int)⟩]) (DeckQ ⟨0, .lst (is.map D.int)⟩) := by
  refine qC_of hP rfl rfl ?_
  show qS (evSs _ _ _ b369 [⟨0, .lst (is.map D.int)⟩, ⟨0, .un⟩, ⟨0, .un⟩, ⟨0, .un⟩]) _
  unfold b369
  have hlen : b1D .len (.lst (is.map D.int)) = some ⟨0, .int is.length⟩ := by
    show some (TV.mk 0 (.int ((is.map D.int).length : Nat))) = _
    rw [List.length_map]
  have hu : (D.lst (is.map D.int)).isUn = false := rfl
  refine q_cons fun N hN => ?_
  simp [w_oe, w_retv, hu, sl63 is h, hlen, lowO, lowF, lowB]
  refine ⟨rfl, ?_⟩
  show qE (.ok (deckT [] (1752302 + (is.length : Int)) 0) [⟨0, .lst (is.map D.int)⟩, ⟨0, .un⟩, ⟨0, .un⟩, ⟨0, .un⟩]) _
  rw [qE_ok]
  show N [⟨0, .lst (is.map D.int)⟩, deckT [] (1752302 + (is.length : Int)) 0, ⟨0, .un⟩, ⟨0, .un⟩]
  refine hN _ ?_
  clear hN N
  refine q_cons fun N hN => ?_
  rw [w_forr]
  simp [w_oe, hu, sl63 is h, lowO, seqOf]
  refine q_for (fun xs l => ∃ js gs m a b, xs = js.map D.int ∧ l = [⟨0, .lst (is.map D.int)⟩, deckT gs m 0, a, b] ∧ (∀ g ∈ gs, 0 ≤ g) ∧ gs.length + js.length ≤ 63 ∧ 0 ≤ m ∧ m < 4294967296) _ _ ⟨is, [], _, _, _, rfl, rfl, by simp, by simpa using h, by omega, by omega⟩ ?_ ?_
  · rintro x r l ⟨js, gs, m, a, b, e, rfl, g1, g2, m1, m2⟩
    obtain ⟨j, js, rfl, rfl, rfl⟩ : ∃ j js', js = j :: js' ∧ x = .int j ∧ r = js'.map D.int := by
      cases js with
      | nil => cases e
      | cons j js' => cases e; exact ⟨j, js', rfl, rfl, rfl⟩
    show qS (evSs _ _ _ _ [⟨0, .lst (is.map D.int)⟩, deckT gs m 0, ⟨0, .int j⟩, b]) _
    refine q_cons fun N1 hN1 => ?_
    simp [w_oe, mul_l, lowF, lowB, lowO]
    have rest : ∀ own : Int, 0 ≤ own → N1 [⟨0, .lst (is.map D.int)⟩, deckT gs m 0, ⟨0, .int j⟩, ⟨0, .int own⟩] := fun own ho => by
      refine hN1 _ ?_
      clear hN1 N1
      refine q_cons fun N1 hN1 => ?_
      have fin : ∀ gs2 : List Int, (∀ g ∈ gs2, 0 ≤ g) → gs2.length + js.length ≤ 63 → N1 [⟨0, .lst (is.map D.int)⟩, deckT gs2 m 0, ⟨0, .int j⟩, ⟨0, .int own⟩] := fun gs2 h1 h2 => by
        refine hN1 _ ?_
        clear hN1 N1
        refine q_cons fun N1 hN1 => ?_
        simp [w_oe, a_subD1, sub_mixed, mul_r, b_mod, lowF, lowB, lowO, set_mixed1]
        refine hN1 _ ?_
        rw [w_snil]
        exact ⟨js, gs2, _, _, _, rfl, rfl, h1, h2, Int.emod_nonneg _ (by decide), by have := Int.emod_lt_of_pos (m * 69621 + own + 29) (show (0:Int) < 4294967291 by decide); omega⟩
      have g3 : gs.length + js.length + 1 ≤ 63 := by simpa [Nat.add_assoc] using g2
      by_cases hb : 10000000000000000 ≤ own
      · simp [w_oe, w_scons, inL_deck, flatV, hb, outL_deck (snoc_map (gs := gs) (g := own)).symm]
        refine ⟨decide_eq_true (by omega), fin _ (fun g hg => ?_) (by simp; omega)⟩
        rcases List.mem_append.mp hg with hg | hg
        · exact g1 g hg
        · obtain rfl : g = own := by simpa using hg
          exact ho
      · simp [w_oe, w_scons, hb]
        exact fin gs g1 (by omega)
    by_cases hj : j < 0
    · right
      refine ⟨hj, ?_⟩
      rw [if_pos hj]
      exact rest _ (by omega)
    · left
      refine ⟨by omega, ?_⟩
      rw [if_neg hj]
      exact rest _ (by omega)
  · rintro l ⟨js, gs, m, a, b, e, rfl, g1, g2, m1, m2⟩
    refine hN _ ?_
    clear hN N
    refine q_cons fun N hN => ?_
    simp
    exact ⟨gs, m, 0, rfl, ⟨g1, by omega⟩, ⟨m1, m2⟩, rfl⟩
theorem cut_map {α β : Type} {f : α → β} {xs : List α} {lo hi : Option Int} : cut (xs.map f) lo hi = (cut xs lo hi).map f := by
  unfold cut
  rw [List.length_map, List.map_take, List.map_drop]
theorem rep_map {f : Int → D} {xs : List Int} {k : Nat} : (List.replicate k (xs.map f)).flatten = ((List.replicate k xs).flatten).map f := by
  induction k with
  | zero => rfl
  | succ k ih => rw [List.replicate_succ, List.flatten_cons, ih, List.replicate_succ, List.flatten_cons, List.map_append]
theorem rep_memI {x : List Int} {n : Nat} {d : Int} (h : d ∈ (List.replicate n x).flatten) : d ∈ x := by
  obtain ⟨y, h1, h2⟩ := List.mem_flatten.mp h
  rw [List.eq_of_mem_replicate h1] at h2
  exact h2
theorem cut_drop {α : Type} (xs : List α) (k : Nat) : cut xs (some (k : Int)) none = xs.drop k := by
  unfold cut cutIx
  simp only
  rw [if_neg (by omega)]
  have e : ((k : Int).toNat) = k := by omega
  rw [e]
  by_cases h : k ≤ xs.length
  · rw [Nat.min_eq_left h, List.take_of_length_le (by rw [List.length_drop]; exact Nat.le_refl _)]
  · rw [Nat.min_eq_right (by omega), List.drop_eq_nil_of_le (by omega), List.drop_eq_nil_of_le (by omega)]
    simp
theorem atI_rooms {rs : List (List Int)} {w : List Int} {r : Int} (h0 : 0 ≤ r) (h1 : r < rs.length) : atI (roomsL rs w) r = run rs w r := by
  unfold atI roomsL
  have h : r.toNat < ((rngI rs.length).map (run rs w)).length := by rw [List.length_map, rngI_len]; omega
  rw [List.getD_eq_getElem?_getD, List.getElem?_eq_getElem h, Option.getD_some, List.getElem_map, rngI_get]
  congr 1
  omega
theorem roomsL_len {rs : List (List Int)} {w : List Int} : (roomsL rs w).length = rs.length := by unfold roomsL; rw [List.length_map, rngI_len]
/-! ### shown -/
theorem shd_of_shw {B n : Nat} {d : D} (q : Shw B n d) (hn : n ≤ 64) (hw : 35 * B + 33 ≤ 16777216) : Shd d := by
  refine ⟨q.ok, ?_⟩
  have hs := PyData.shown_le_bulk 33 (by decide) (toP d) q.ls
  have hb := q.bk
  have hlen : (reprD d).length ≤ 16777216 := by
    show (toP d).shown.length ≤ _
    have := Nat.mul_le_mul_left 35 hb
    omega
  have hd := q.dp
  show (if (toP d).showable && decide ((reprD d).length ≤ 16777216) && decide ((toP d).depth ≤ 64) && (d.noT && (!(toP d).hasDict || d.noL)) then some (TV.mk 0 (.str (reprD d))) else none) = _
  rw [q.sb, q.nt, q.hd, decide_eq_true hlen, decide_eq_true (show (toP d).depth ≤ 64 by omega)]
  rfl
theorem Shw.mono {B C n k : Nat} {d : D} (q : Shw B n d) (h : B ≤ C) (h2 : n ≤ k) : Shw C k d := ⟨q.ok, q.sb, q.hd, Nat.le_trans q.dp h2, q.nt, q.ls, Nat.le_trans q.bk h⟩
theorem Shw_tup {B n : Nat} {xs : List D} (h : ∀ x ∈ xs, Shw B n x) : Shw (xs.length * (B + 1)) (n + 1) (.tup xs) := by
  obtain ⟨q1, q2, q3, q4, q5, q6, q7⟩ := Shw_all (L := xs.length) h (Nat.le_refl _)
  exact ⟨q1, q2, q3, Nat.succ_le_succ q4, q5, q6, q7⟩
theorem Shw_lst {B n : Nat} {xs : List D} (h : ∀ x ∈ xs, Shw B n x) : Shw (xs.length * (B + 1)) (n + 1) (.lst xs) := by
  obtain ⟨q1, q2, q3, q4, q5, q6, q7⟩ := Shw_all (L := xs.length) h (Nat.le_refl _)
  exact ⟨q1, q2, q3, Nat.succ_le_succ q4, q5, q6, q7⟩
theorem Shw_row {L : Nat} {c : List Int} (h : ∀ z ∈ c, z.natAbs < 1000000) (hl : c.length ≤ L) : Shw (8 + L * 9) 1 (rowD c) := by
  refine (Cl_shw (L := L) (n := 1) (Cl_tup (by rw [List.length_map]; exact hl) fun y hy => ?_)).mono (Nat.le_refl _) (Nat.le_refl _)
  obtain ⟨z, hz, rfl⟩ := List.mem_map.mp hy
  have := h z hz
  exact Cl_int (by omega)
theorem below_abs {n : Nat} {c : List Int} (h : Below n c) (hn : n ≤ 1000) : ∀ z ∈ c, z.natAbs < 1000000 := fun z hz => by
  have := h z hz; omega
@[simp] theorem low_10 {d : D} {r : Sl} : low (⟨1, d⟩ :: r) 0 0 = ⟨0, d⟩ :: r := rfl
@[simp] theorem low_20 {d : D} {r : Sl} : low (⟨2, d⟩ :: r) 0 0 = ⟨0, d⟩ :: r := rfl
@[simp] theorem low_21 {d : D} {r : Sl} : low (⟨2, d⟩ :: r) 0 1 = ⟨1, d⟩ :: r := rfl
end DL
end

section
set_option Elab.async false
set_option linter.all false
set_option maxRecDepth 100000
/-! KA: tables of noughts and ones, judged. -/
namespace DL
open PySem
def isTL (k : Nat) (r : D) : Bool := match r with | .tup xs => decide (xs.length = k) | _ => false
def tblSq (v : D) : Bool := match v with
  | .tup rows => decide (1 ≤ rows.length) && decide (rows.length ≤ 5) && rows.all (isTL rows.length)
  | _ => false
def itemErr : Nat → List D → Option D
  | _, [] => none
  | i, .tup xs :: r => (match badAt 1 0 xs with | some j => some (.tup [.str "item", .int i, .int j]) | none => itemErr (i + 1) r)
  | i, _ :: r => itemErr (i + 1) r
def rowE : Nat → List (List Int) → Option D
  | _, [] => none
  | i, r :: rs => if (1 : Int) ∈ r then rowE (i + 1) rs else some (.tup [.str "row", .int i])
def colE (rs : List (List Int)) : List Int → Option D
  | [] => none
  | j :: js => if (1 : Int) ∈ rs.map (fun r => atI r j) then colE rs js else some (.tup [.str "column", .int j])
def tailV (rs : List (List Int)) : D := match rowE 0 rs with | some e => e | none => (match colE rs (rngI rs.length) with | some e => e | none => .non)
def toRs (rows : List D) : List (List Int) := rows.map fun r => match r with | .tup xs => (intsOf xs).getD [] | _ => []
def onesErr (v : D) : D := if tblSq v then (match v with | .tup rows => (match itemErr 0 rows with | some e => e | none => tailV (toRs rows)) | _ => .non) else .str "form"
theorem toRs_map (rs : List (List Int)) : toRs (rs.map rowD) = rs := by
  unfold toRs
  rw [List.map_map]
  conv => rhs; rw [← List.map_id rs]
  refine List.map_congr_left fun r _ => ?_
  show (intsOf (r.map D.int)).getD [] = r
  rw [intsOf_map]; rfl
/-- a table of side n -/
structure Bits (n : Nat) (rs : List (List Int)) : Prop where
  len : rs.length = n
  row : ∀ r ∈ rs, r.length = n
  ent : ∀ r ∈ rs, ∀ z ∈ r, 0 ≤ z ∧ z ≤ 1
theorem itemErr_none : ∀ {i : Nat} {rows : List D}, (∀ r ∈ rows, ∃ xs, r = .tup xs) → itemErr i rows = none → ∃ rs : List (List Int), rows = rs.map rowD ∧ ∀ r ∈ rs, ∀ z ∈ r, 0 ≤ z ∧ z ≤ 1
  | _, [], _, _ => ⟨[], rfl, by simp⟩
  | i, x :: r, ht, h => by
    obtain ⟨xs, rfl⟩ := ht x (by simp)
    simp only [itemErr] at h
    cases hb : badAt 1 0 xs with
    | some j => rw [hb] at h; cases h
    | none =>
      rw [hb] at h
      obtain ⟨zs, rfl, hz⟩ := badAt_none hb
      obtain ⟨rs, rfl, h2⟩ := itemErr_none (i := i + 1) (rows := r) (fun y hy => ht y (by simp [hy])) h
      refine ⟨zs :: rs, rfl, fun y hy => ?_⟩
      rcases List.mem_cons.mp hy with rfl | q
      · exact hz
      · exact h2 y q
theorem tblSq_tup {v : D} (h : tblSq v = true) : ∃ rows, v = .tup rows ∧ 1 ≤ rows.length ∧ rows.length ≤ 5 ∧ ∀ r ∈ rows, ∃ xs, r = .tup xs ∧ xs.length = rows.length := by
  cases v with
  | tup rows =>
    simp only [tblSq, Bool.and_eq_true, decide_eq_true_eq, List.all_eq_true] at h
    refine ⟨rows, rfl, h.1.1, h.1.2, fun r hr => ?_⟩
    have := h.2 r hr
    cases r with
    | tup xs => exact ⟨xs, rfl, by simpa [isTL] using this⟩
    | _ => simp [isTL] at this
  | _ => simp [tblSq] at h
def tailB : Ss :=
  (.cons (.forr [2, 3] (.enum (.var 0)) (.cons (.ite (.op (.cmp .nin) (.cons (.cst (.int 1)) (.cons (.var 3) .nil))) (.cons (.ret (.op .tup (.cons (.cst (.str "row")) (.cons (.var 2) .nil))))
    .nil) .nil)
    .nil))
    (.cons (.forr [1] (.rng (.cons (.op (.b1 .len) (.cons (.var 0) .nil)) .nil)) (.cons (.ite (.op (.cmp .nin) (.cons (.cst (.int 1)) (.cons (.lc false [3] (.seq (.var 0)) .nil (.op .sub (.cons (.var 3) (.cons (.var 1) .nil)))) .nil))) (.cons (.ret (.op .tup (.cons (.cst (.str "column")) (.cons (.var 1) .nil))))
    .nil) .nil)
    .nil))
    (.cons (.ret (.cst .non))
    .nil)))
theorem nin_col {z : Int} {c : List Int} : cmpD .nin (.int z) (.lst (c.map D.int)) = some (!decide (z ∈ c)) := by
  show (if eqOk (.int z) && eqOks (c.map D.int) then some (!inD (.int z) (c.map D.int)) else none) = _
  rw [show eqOk (.int z) = true from rfl, eqOks_ints, inD_ints]; rfl
@[simp] theorem sq_machD {rs : List (List Int)} : seqOf (machD rs) = some (rs.map rowD) := rfl
set_option maxHeartbeats 2000000 in
theorem tail_ct {cl : Nat → List TV → RC} {rb : Nat → Nat → Bool} {np n : Nat} {rs : List (List Int)} {a1 a2 a3 a4 : TV} {A : Aft} (hB : Bits n rs) (hn : n ≤ 1000) (h : ∀ b1 b2 b3 b4 : TV, A.rt ⟨0, tailV rs⟩ [⟨0, machD rs⟩, b1, b2, b3, b4]) :
    qS (evSs cl rb np tailB [⟨0, machD rs⟩, a1, a2, a3, a4]) A := by
  have hlen := hB.len
  unfold tailB
  refine q_cons fun N hN => ?_
  rw [w_forr]
  simp [w_oe, lowO]
  refine q_for (fun xs l => ∃ (i : Nat) (ts : List (List Int)) (b2 b3 : TV), xs = enumL i (ts.map rowD) ∧ rowE i ts = rowE 0 rs ∧ l = [⟨0, machD rs⟩, a1, b2, b3, a4]) _ _ ⟨0, rs, _, _, rfl, rfl, rfl⟩ ?_ ?_
  · rintro x xs l ⟨i, ts, b2, b3, e, hr, rfl⟩
    obtain ⟨r, ts, rfl, rfl, rfl⟩ : ∃ r ts', ts = r :: ts' ∧ x = .tup [.int i, rowD r] ∧ xs = enumL (i + 1) (ts'.map rowD) := by
      cases ts with
      | nil => cases e
      | cons r t => cases e; exact ⟨r, t, rfl, rfl, rfl⟩
    show qS (evSs _ _ _ _ [⟨0, machD rs⟩, a1, ⟨0, .int i⟩, ⟨0, rowD r⟩, a4]) _
    refine q_cons fun N1 hN1 => ?_
    simp only [rowE] at hr
    by_cases h1 : (1 : Int) ∈ r
    · rw [if_pos h1] at hr
      simp [w_oe, w_scons, w_retv, nin_row, h1]
      refine hN1 _ ?_
      rw [w_snil]
      exact ⟨i + 1, ts, _, _, rfl, hr, rfl⟩
    · rw [if_neg h1] at hr
      simp [w_oe, w_scons, w_retv, nin_row, h1, small, lowO]
      have e : tailV rs = .tup [.str "row", .int i] := by unfold tailV; rw [← hr]
      rw [e] at h
      exact h _ _ _ _
  · rintro l ⟨i, ts, b2, b3, e, hr, rfl⟩
    have hz0 : ts = [] := by cases ts with | nil => rfl | cons _ _ => cases e
    subst hz0
    have hrow : rowE 0 rs = none := hr.symm
    have hv : tailV rs = (match colE rs (rngI rs.length) with | some e => e | none => .non) := by unfold tailV; rw [hrow]
    rw [hv] at h
    clear hr e hv
    refine hN _ ?_
    clear hN N
    refine q_cons fun N hN => ?_
    rw [w_forr]
    simp [w_oe]
    refine ⟨by omega, ?_⟩
    rw [rngL_I]
    refine q_for (fun xs l => ∃ (js : List Int) (b1 b2 b3 : TV), xs = js.map D.int ∧ (∀ j ∈ js, 0 ≤ j ∧ j < (n : Int)) ∧ colE rs js = colE rs (rngI rs.length) ∧ l = [⟨0, machD rs⟩, b1, b2, b3, a4]) _ _ ⟨rngI rs.length, _, _, _, rfl, fun j hj => hlen ▸ rngI_mem hj, rfl, rfl⟩ ?_ ?_
    · rintro x xs l ⟨js, b1, b2, b3, e, hj, hc, rfl⟩
      obtain ⟨j, js, rfl, rfl, rfl⟩ : ∃ r ts', js = r :: ts' ∧ x = .int r ∧ xs = ts'.map D.int := by
        cases js with
        | nil => cases e
        | cons r t => cases e; exact ⟨r, t, rfl, rfl, rfl⟩
      have hj0 := hj j (by simp)
      show qS (evSs _ _ _ _ [⟨0, machD rs⟩, ⟨0, .int j⟩, b2, b3, a4]) _
      refine q_cons fun N1 hN1 => ?_
      simp [w_oe, w_lc, lowO]
      refine q_mapJ (e := rowD) (g := fun r => .int (atI r j)) (J := fun l => l = [⟨0, machD rs⟩, ⟨0, .int j⟩, b2, b3, a4]) rfl (by omega) ?_ ?_
      · rintro r hr _ rfl
        have hrl := hB.row r hr
        simp [w_oe]
        refine q_subC (c := r) (r := j) rfl (Nat.zero_le _) rfl hj0.1 (by rw [hrl]; exact hj0.2) ?_
        exact ⟨rfl, _, rfl⟩
      · rintro _ b rfl
        have e2 : rs.map (fun r => D.int (atI r j)) = (rs.map fun r => atI r j).map D.int := by rw [List.map_map]; rfl
        rw [e2]
        simp only [colE] at hc
        have hnc : cmpD .nin (.int 1) (.lst ((rs.map fun r => atI r j).map D.int)) = some (!decide ((1 : Int) ∈ rs.map fun r => atI r j)) := nin_col
        by_cases h1 : (1 : Int) ∈ rs.map (fun r => atI r j)
        · rw [if_pos h1] at hc
          rw [decide_eq_true h1] at hnc
          left
          refine ⟨hnc, ?_⟩
          refine hN1 _ ?_
          rw [w_snil]
          exact ⟨js, _, _, _, rfl, fun z hz => hj z (by simp [hz]), hc, rfl⟩
        · rw [if_neg h1] at hc
          rw [decide_eq_false h1] at hnc
          right
          refine ⟨hnc, ?_⟩
          simp [w_scons, w_retv, w_oe, small, lowO, rest]
          rw [← hc] at h
          exact h _ _ _ _
    · rintro l ⟨js, b1, b2, b3, e, hj, hc, rfl⟩
      have hz0 : js = [] := by cases js with | nil => rfl | cons _ _ => cases e
      subst hz0
      refine hN _ ?_
      refine q_cons fun N hN => ?_
      simp [w_retv, w_oe]
      rw [← hc] at h
      exact h _ _ _ _
end DL
end

section
set_option Elab.async false
set_option linter.all false
set_option maxRecDepth 100000
namespace DL
open PySem
theorem nin01 {i : Int} : cmpD .nin (.int i) (.tup [.int 0, .int 1]) = some (!decide (i = 0 ∨ i = 1)) := by
  have h := nin_row (z := i) (c := [0, 1])
  have e : decide (i ∈ [(0 : Int), 1]) = decide (i = 0 ∨ i = 1) := by
    rw [Bool.eq_iff_iff]; simp
  rw [e] at h
  exact h
theorem tl_elem {k : Nat} {x : D} {cl : Nat → List TV → RC} {rb : Nat → Nat → Bool} {i : Nat} {l : Sl} (hx : x.ok = true) (h0 : ∃ rows, (gt l 0).d = .tup rows ∧ rows.length = k ∧ (gt l 0).t = 0) (hi : i ≠ 0) (hl : gt l i = ⟨0, x⟩) :
    qE (evE cl rb (.and (.cons (.op (.isi .tuple) (.cons (.var i) .nil)) (.cons (.op (.cmp .eq) (.cons (.op (.b1 .len) (.cons (.var i) .nil)) (.cons (.op (.b1 .len) (.cons (.var 0) .nil)) .nil))) .nil))) l) fun v l' => v.d = .bl (isTL k x) ∧ l' = l := by
  obtain ⟨rows, h1, h2, h3⟩ := h0
  have hxu := ok_un hx
  have hxd := ok_noDt hx
  have hd : (gt l i).d = x := by rw [hl]
  have hu1 : (gt l 0).d.isUn = false := by rw [h1]; rfl
  have hu2 : (gt l i).d.isUn = false := by rw [hd]; exact hxu
  have hnd : noDt (gt l i).d = true := by rw [hd]; exact hxd
  by_cases hxt : ∃ xs, x = .tup xs
  · obtain ⟨xs, rfl⟩ := hxt
    have hty : tyD .tuple (gt l i).d = true := by rw [hd]; rfl
    have hnT : noDt (.tup xs) = true := rfl
    simp [w_oe, hu1, hu2, a_isi, hnT, tyD, lowF, hd, h1, isTL, h2]
    omega
  · have hty : tyD .tuple (gt l i).d = false := by rw [hd]; cases x <;> first | rfl | exact absurd ⟨_, rfl⟩ hxt
    have ht2 : isTL k x = false := by cases x <;> first | rfl | exact absurd ⟨_, rfl⟩ hxt
    simp [w_oe, hu1, hu2, a_isi, hnd, hty, ht2]
set_option maxHeartbeats 2000000 in
theorem sq1 {P : Nat → Option FD} {n : Nat} {v : D} {Q : TV → List TV → Prop} (hP : P 1 = some f1) (hv : v.ok = true) (hQ : Q ⟨0, .bl (tblSq v)⟩ [⟨0, v⟩]) : qC (evCall P (n + 1) 1 [⟨0, v⟩]) Q := by
  refine qC_of hP rfl rfl ?_
  show qS (evSs _ _ _ b1 [⟨0, v⟩, ⟨0, .un⟩]) _
  unfold b1
  have hu := ok_un hv
  have hd := ok_noDt hv
  have ho : ∀ x : TV, outs f1 [⟨0, v⟩, x] 0 [⟨0, v⟩] = [⟨0, v⟩] := fun x => outs_same (fd := f1) 0 [] [⟨0, v⟩] [x] (fun x hx => by rcases List.mem_cons.mp hx with rfl | hx; rfl; cases hx) rfl
  refine q_cons fun N hN => ?_
  by_cases ht : ∃ rows, v = .tup rows ∧ 1 ≤ rows.length ∧ rows.length ≤ 5
  · obtain ⟨rows, rfl, l1, l2⟩ := ht
    have l1' : (1 : Int) ≤ rows.length := by omega
    have l2' : (rows.length : Int) ≤ 5 := by omega
    simp [w_oe, a_isi, hd, tyD, midOk, lowF, l1, l2, l1', l2']
    refine hN _ ?_
    clear hN N
    refine q_cons fun N hN => ?_
    simp [w_oe, w_retv, w_lc, lowO]
    refine q_mapR (xs := rows) (i := 1) (fun r => .bl (isTL rows.length r)) (by omega) (fun x hx => ?_) (fun a => ?_)
    · exact tl_elem (oks_mem (show oks rows = true from hv) hx) ⟨rows, rfl, rfl, rfl⟩ (by decide) rfl
    · have e1 : (rows.map fun r => D.bl (isTL rows.length r)) = (rows.map (isTL rows.length)).map D.bl := by rw [List.map_map]; rfl
      simp only [e1]
      refine ⟨_, b_all, ?_⟩
      have e2 : ((rows.map (isTL rows.length)).all id) = tblSq (.tup rows) := by
        rw [List.all_map]
        show _ = (decide (1 ≤ rows.length) && decide (rows.length ≤ 5) && rows.all (isTL rows.length))
        rw [decide_eq_true l1, decide_eq_true l2]; rfl
      rw [e2]
      show Q _ (outs f1 [⟨0, .tup rows⟩, _] 0 [⟨0, .tup rows⟩])
      rw [ho]; exact hQ
  · have hq : ∀ r, Q ⟨0, .bl false⟩ (outs f1 [⟨0, v⟩, r] 0 [⟨0, v⟩]) := fun r => by
      rw [ho]
      have : tblSq v = false := by
        cases hs : tblSq v with
        | false => rfl
        | true =>
          obtain ⟨rows, rfl, a, b, _⟩ := tblSq_tup hs
          exact absurd ⟨rows, rfl, a, b⟩ ht
      rw [this] at hQ; exact hQ
    by_cases hx2 : ∃ xs, v = .tup xs
    · obtain ⟨xs, rfl⟩ := hx2
      have hno : ¬ (1 ≤ xs.length ∧ xs.length ≤ 5) := fun z => ht ⟨xs, rfl, z.1, z.2⟩
      by_cases x1 : 1 ≤ xs.length
      · have x2 : ¬ xs.length ≤ 5 := fun z => hno ⟨x1, z⟩
        have x1' : (1 : Int) ≤ xs.length := by omega
        have x2' : ¬ (xs.length : Int) ≤ 5 := by omega
        simp [w_oe, w_scons, w_retv, a_isi, hd, tyD, midOk, lowF, x1, x2, x1', x2']
        exact hq _
      · have x1' : ¬ (1 : Int) ≤ xs.length := by omega
        simp [w_oe, w_scons, w_retv, a_isi, hd, tyD, midOk, lowF, x1, x1']
        exact hq _
    · have hty : tyD .tuple v = false := by cases v <;> first | rfl | exact absurd ⟨_, rfl⟩ hx2
      simp [w_oe, w_scons, w_retv, a_isi, hd, hu, hty, midOk, lowF]
      exact hq _
theorem bits_of {rows : List D} (h : itemErr 0 rows = none) (ht : ∀ r ∈ rows, ∃ xs, r = .tup xs ∧ xs.length = rows.length) : ∃ rs, rows = rs.map rowD ∧ Bits rows.length rs := by
  obtain ⟨rs, rfl, hr⟩ := itemErr_none (fun r hr => (ht r hr).elim fun xs q => ⟨xs, q.1⟩) h
  refine ⟨rs, rfl, ⟨by rw [List.length_map], fun r hr2 => ?_, hr⟩⟩
  obtain ⟨xs, e, hl⟩ := ht (rowD r) (List.mem_map.mpr ⟨r, hr2, rfl⟩)
  cases e
  rw [List.length_map] at hl
  exact hl
set_option maxHeartbeats 2000000 in
theorem ones867 {P : Nat → Option FD} {n : Nat} {v : D} {Q : TV → List TV → Prop} (hP : P 867 = some f867) (h1 : P 1 = some f1) (hv : v.ok = true) (hQ : Q ⟨0, onesErr v⟩ [⟨0, v⟩]) : qC (evCall P (n + 2) 867 [⟨0, v⟩]) Q := by
  refine qC_of hP rfl rfl ?_
  show qS (evSs _ _ _ b867 [⟨0, v⟩, ⟨0, .un⟩, ⟨0, .un⟩, ⟨0, .un⟩, ⟨0, .un⟩]) _
  unfold b867
  have hu := ok_un hv
  have r1 : f1.reb 0 = false := rfl
  have ho : ∀ r : List TV, outs f867 (⟨0, v⟩ :: r) 0 [⟨0, v⟩] = [⟨0, v⟩] := fun r => outs_same (fd := f867) 0 [] [⟨0, v⟩] r (fun x hx => by rcases List.mem_cons.mp hx with rfl | hx; rfl; cases hx) rfl
  refine q_cons fun N hN => ?_
  simp [w_oe, w_scons, w_retv, hu, a_call, rb_of h1, lowR, onceO, rebOk, takeO, r1]
  refine sq1 h1 hv ?_
  cases hs : tblSq v with
  | false =>
    simp [backO, ho]
    have : onesErr v = .str "form" := by unfold onesErr; rw [hs]; rfl
    rw [this] at hQ
    exact hQ
  | true =>
    simp [backO]
    refine hN _ ?_
    clear hN N
    obtain ⟨rows, rfl, l1, l2, hrows⟩ := tblSq_tup hs
    have hm : onesErr (.tup rows) = (match itemErr 0 rows with | some e => e | none => tailV (toRs rows)) := by unfold onesErr; rw [hs]; rfl
    have hoks : oks rows = true := hv
    refine q_cons fun N hN => ?_
    rw [w_forr]
    simp [w_oe, lowO]
    refine q_for (fun xs l => ∃ k rs a b c d, xs = enumL k rs ∧ itemErr k rs = itemErr 0 rows ∧ (∀ r ∈ rs, r ∈ rows) ∧ l = [⟨0, .tup rows⟩, a, b, c, d]) _ _ ⟨0, rows, _, _, _, _, rfl, rfl, fun _ h => h, rfl⟩ ?_ ?_
    · rintro x r l ⟨k, rs, a, b, c, d, e, hw, hin, rfl⟩
      obtain ⟨y, rs, rfl, rfl, rfl⟩ : ∃ y rs', rs = y :: rs' ∧ x = .tup [.int k, y] ∧ r = enumL (k + 1) rs' := by
        cases rs with
        | nil => cases e
        | cons y rs' => cases e; exact ⟨y, rs', rfl, rfl, rfl⟩
      obtain ⟨ys, rfl, _⟩ := hrows y (hin y (by simp))
      have hys : oks ys = true := oks_mem (x := .tup ys) hoks (hin _ (by simp))
      show qS (evSs _ _ _ _ [⟨0, .tup rows⟩, a, ⟨0, .int k⟩, ⟨0, .tup ys⟩, d]) _
      refine q_cons fun N1 hN1 => ?_
      rw [w_forr]
      simp [w_oe, lowO]
      refine q_for (fun xs l => ∃ j zs a d, xs = enumL j zs ∧ badAt 1 j zs = badAt 1 0 ys ∧ (∀ z ∈ zs, z ∈ ys) ∧ l = [⟨0, .tup rows⟩, a, ⟨0, .int k⟩, ⟨0, .tup ys⟩, d]) _ _ ⟨0, ys, _, _, rfl, rfl, fun _ h => h, rfl⟩ ?_ ?_
      · rintro x r l ⟨j, zs, a, d, e, hb, hzs, rfl⟩
        obtain ⟨z, zs, rfl, rfl, rfl⟩ : ∃ z zs', zs = z :: zs' ∧ x = .tup [.int j, z] ∧ r = enumL (j + 1) zs' := by
          cases zs with
          | nil => cases e
          | cons y rs' => cases e; exact ⟨y, rs', rfl, rfl, rfl⟩
        have hz : z.ok = true := oks_mem hys (hzs z (by simp))
        have hzu := ok_un hz
        have hzd := ok_noDt hz
        show qS (evSs _ _ _ _ [⟨0, .tup rows⟩, ⟨0, .int j⟩, ⟨0, .int k⟩, ⟨0, .tup ys⟩, ⟨0, z⟩]) _
        refine q_cons fun N2 hN2 => ?_
        simp only [badAt] at hb
        have good : isWhole z 0 1 = true → N2 [⟨0, .tup rows⟩, ⟨0, .int j⟩, ⟨0, .int k⟩, ⟨0, .tup ys⟩, ⟨0, z⟩] := fun hw1 => by
          refine hN2 _ ?_
          rw [w_snil]
          rw [hw1] at hb
          exact ⟨j + 1, zs, _, _, rfl, hb, fun q hq => hzs q (by simp [hq]), rfl⟩
        have bad : isWhole z 0 1 = false → ∀ r, Q ⟨0, .tup [.str "item", .int k, .int j]⟩ (outs f867 (⟨0, .tup rows⟩ :: r) 0 [⟨0, .tup rows⟩]) := fun hw2 r => by
          rw [ho]
          rw [hw2] at hb
          have hw3 : onesErr (.tup rows) = .tup [.str "item", .int k, .int j] := by
            rw [hm, ← hw]
            simp only [itemErr]
            rw [← hb]; rfl
          rw [hw3] at hQ
          exact hQ
        have hnI : ∀ i, noDt (.int i) = true := fun _ => rfl
        cases z with
        | int i =>
          by_cases hi0 : i = 0
          · subst hi0
            simp [w_oe, w_scons, w_retv, a_isi, tyD, hnI, small, lowO, nin01]
            exact good rfl
          · by_cases hi1 : i = 1
            · subst hi1
              simp [w_oe, w_scons, w_retv, a_isi, tyD, hnI, small, lowO, nin01]
              exact good rfl
            · have hb2 : isWhole (.int i) 0 1 = false := by
                simp only [isWhole]
                by_cases q : 0 ≤ i
                · have : ¬ i ≤ 1 := by omega
                  rw [decide_eq_false this, Bool.and_false]
                · rw [decide_eq_false q]; rfl
              simp [w_oe, w_scons, w_retv, a_isi, tyD, hnI, small, lowO, nin01, hi0, hi1]
              exact bad hb2 _
        | _ =>
          first
            | (simp [w_oe, w_scons, w_retv, a_isi, hzd, tyD, small, lowO, hzu]; exact bad rfl _)
            | (cases hz)
      · rintro l ⟨j, zs, a, d, e, hb, hzs, rfl⟩
        refine hN1 _ ?_
        rw [w_snil]
        have hz0 : zs = [] := by cases zs with | nil => rfl | cons _ _ => cases e
        subst hz0
        refine ⟨k + 1, rs, _, _, _, _, rfl, ?_, fun q hq => hin q (by simp [hq]), rfl⟩
        rw [← hw]
        simp only [itemErr]
        rw [← hb]; rfl
    · rintro l ⟨k, rs, a, b, c, d, e, hw, hin, rfl⟩
      refine hN _ ?_
      have hz0 : rs = [] := by cases rs with | nil => rfl | cons _ _ => cases e
      subst hz0
      have hnone : itemErr 0 rows = none := hw.symm
      obtain ⟨rs, hrs, hB⟩ := bits_of hnone hrows
      rw [hnone] at hm
      subst hrs
      rw [toRs_map] at hm
      simp only at hm
      rw [hm] at hQ
      show qS (evSs _ _ _ tailB [⟨0, machD rs⟩, a, b, c, d]) _
      refine tail_ct hB (by omega) fun b1 b2 b3 b4 => ?_
      show Q _ (outs f867 (⟨0, .tup (rs.map rowD)⟩ :: _) 0 [⟨0, .tup (rs.map rowD)⟩])
      rw [ho]; exact hQ

end DL
end

section
set_option Elab.async false
set_option linter.all false
set_option maxRecDepth 100000
namespace DL
open PySem
set_option maxHeartbeats 2000000 in
theorem due872 {P : Nat → Option FD} {n : Nat} {v : D} {Q : TV → List TV → Prop} (hP : P 872 = some f872) (h359 : P 359 = some f359) (hv : v.ok = true) (hQ : Q ⟨0, onesErr v⟩ [⟨0, v⟩]) : qC (evCall P (n + 2) 872 [⟨0, v⟩]) Q := by
  refine qC_of hP rfl rfl ?_
  show qS (evSs _ _ _ b872 [⟨0, v⟩, ⟨0, .un⟩, ⟨0, .un⟩, ⟨0, .un⟩, ⟨0, .un⟩]) _
  unfold b872
  have hu := ok_un hv
  have hd := ok_noDt hv
  have ho : ∀ r : List TV, outs f872 (⟨0, v⟩ :: r) 0 [⟨0, v⟩] = [⟨0, v⟩] := fun r => outs_same (fd := f872) 0 [] [⟨0, v⟩] r (fun x hx => by rcases List.mem_cons.mp hx with rfl | hx; rfl; cases hx) rfl
  have hq : tblSq v = false → ∀ r, Q ⟨0, .str "form"⟩ (outs f872 (⟨0, v⟩ :: r) 0 [⟨0, v⟩]) := fun h r => by
    rw [ho]
    have : onesErr v = .str "form" := by unfold onesErr; rw [h]; rfl
    rw [this] at hQ
    exact hQ
  refine q_cons fun N hN => ?_
  by_cases ht : ∃ rows, v = .tup rows ∧ 1 ≤ rows.length ∧ rows.length ≤ 5
  · obtain ⟨rows, rfl, l1, l2⟩ := ht
    have l1' : (1 : Int) ≤ rows.length := by omega
    have l2' : (rows.length : Int) ≤ 5 := by omega
    simp [w_oe, a_isi, hd, tyD, midOk, lowF, l1, l2, l1', l2']
    refine hN _ ?_
    clear hN N
    refine q_cons fun N hN => ?_
    simp [w_oe, w_lc, lowO]
    refine q_mapR (xs := rows) (i := 3) (fun r => .bl (isTL rows.length r)) (by omega) (fun x hx => ?_) (fun a => ?_)
    · exact tl_elem (oks_mem (show oks rows = true from hv) hx) ⟨rows, rfl, rfl, rfl⟩ (by decide) rfl
    · have e1 : (rows.map fun r => D.bl (isTL rows.length r)) = (rows.map (isTL rows.length)).map D.bl := by rw [List.map_map]; rfl
      have eb : ∀ l : Sl, rest [⟨0, .tup rows⟩, ⟨0, .un⟩, ⟨0, .un⟩, ⟨0, .un⟩, ⟨0, .un⟩] (st l 3 a) [3] = st l 3 ⟨0, .un⟩ := fun l => by
        show st (st l 3 a) 3 ⟨0, .un⟩ = _
        exact st_st
      rw [eb]
      simp only [e1]
      refine ⟨_, b_all, ?_⟩
      have e2 : ((rows.map (isTL rows.length)).all id) = tblSq (.tup rows) := by
        rw [List.all_map]
        show _ = (decide (1 ≤ rows.length) && decide (rows.length ≤ 5) && rows.all (isTL rows.length))
        rw [decide_eq_true l1, decide_eq_true l2]; rfl
      rw [e2]
      cases hs : tblSq (.tup rows) with
      | false =>
        left
        refine ⟨rfl, ?_⟩
        simp [lowF, w_oe, w_scons, w_retv]
        exact hq hs _
      | true =>
        right
        refine ⟨rfl, ?_⟩
        simp [lowF]
        refine hN _ ?_
        clear hN N
        have hm : onesErr (.tup rows) = (match itemErr 0 rows with | some e => e | none => tailV (toRs rows)) := by unfold onesErr; rw [hs]; rfl
        have hoks : oks rows = true := hv
        have hrows : ∀ r ∈ rows, ∃ xs, r = .tup xs ∧ xs.length = rows.length := by
          obtain ⟨rows2, e, _, _, h⟩ := tblSq_tup hs
          cases e
          exact h
        clear e1 eb e2 hq hs l1' l2'
        refine q_cons fun N hN => ?_
        rw [w_forr]
        simp [w_oe, lowO]
        refine q_for (fun xs l => ∃ k rs a b c d, xs = enumL k rs ∧ itemErr k rs = itemErr 0 rows ∧ (∀ r ∈ rs, r ∈ rows) ∧ l = [⟨0, .tup rows⟩, a, b, c, d]) _ _ ⟨0, rows, _, _, _, _, rfl, rfl, fun _ h => h, rfl⟩ ?_ ?_
        · rintro x r l ⟨k, rs, a, b, c, d, e, hw, hin, rfl⟩
          obtain ⟨y, rs, rfl, rfl, rfl⟩ : ∃ y rs', rs = y :: rs' ∧ x = .tup [.int k, y] ∧ r = enumL (k + 1) rs' := by
            cases rs with
            | nil => cases e
            | cons y rs' => cases e; exact ⟨y, rs', rfl, rfl, rfl⟩
          obtain ⟨ys, rfl, _⟩ := hrows y (hin y (by simp))
          have hys : oks ys = true := oks_mem (x := .tup ys) hoks (hin _ (by simp))
          show qS (evSs _ _ _ _ [⟨0, .tup rows⟩, a, ⟨0, .int k⟩, ⟨0, .tup ys⟩, d]) _
          refine q_cons fun N1 hN1 => ?_
          rw [w_forr]
          simp [w_oe, lowO]
          refine q_for (fun xs l => ∃ j zs a d, xs = enumL j zs ∧ badAt 1 j zs = badAt 1 0 ys ∧ (∀ z ∈ zs, z ∈ ys) ∧ l = [⟨0, .tup rows⟩, a, ⟨0, .int k⟩, ⟨0, .tup ys⟩, d]) _ _ ⟨0, ys, _, _, rfl, rfl, fun _ h => h, rfl⟩ ?_ ?_
          · rintro x r l ⟨j, zs, a, d, e, hb, hzs, rfl⟩
            obtain ⟨z, zs, rfl, rfl, rfl⟩ : ∃ z zs', zs = z :: zs' ∧ x = .tup [.int j, z] ∧ r = enumL (j + 1) zs' := by
              cases zs with
              | nil => cases e
              | cons y rs' => cases e; exact ⟨y, rs', rfl, rfl, rfl⟩
            have hz : z.ok = true := oks_mem hys (hzs z (by simp))
            have hzu := ok_un hz
            have hzd := ok_noDt hz
            show qS (evSs _ _ _ _ [⟨0, .tup rows⟩, ⟨0, .int j⟩, ⟨0, .int k⟩, ⟨0, .tup ys⟩, ⟨0, z⟩]) _
            refine q_cons fun N2 hN2 => ?_
            simp only [badAt] at hb
            have good : isWhole z 0 1 = true → N2 [⟨0, .tup rows⟩, ⟨0, .int j⟩, ⟨0, .int k⟩, ⟨0, .tup ys⟩, ⟨0, z⟩] := fun hw1 => by
              refine hN2 _ ?_
              rw [w_snil]
              rw [hw1] at hb
              exact ⟨j + 1, zs, _, _, rfl, hb, fun q hq => hzs q (by simp [hq]), rfl⟩
            have bad : isWhole z 0 1 = false → ∀ r, Q ⟨0, .tup [.str "item", .int k, .int j]⟩ (outs f872 (⟨0, .tup rows⟩ :: r) 0 [⟨0, .tup rows⟩]) := fun hw2 r => by
              rw [ho]
              rw [hw2] at hb
              have hw3 : onesErr (.tup rows) = .tup [.str "item", .int k, .int j] := by
                rw [hm, ← hw]
                simp only [itemErr]
                rw [← hb]; rfl
              rw [hw3] at hQ
              exact hQ
            simp [w_oe, w_scons, w_retv, hzu, lowF, lowB, lowO, a_call, rb_of h359, lowR, onceO, rebOk, takeO, reb359]
            refine whole359 h359 hzd ?_
            by_cases hw1 : isWhole z 0 1 = true
            · simp [backO, hw1]
              exact good hw1
            · have hw2 : isWhole z 0 1 = false := by simpa using hw1
              simp [backO, hw2, small]
              exact bad hw2 _
          · rintro l ⟨j, zs, a, d, e, hb, hzs, rfl⟩
            refine hN1 _ ?_
            rw [w_snil]
            have hz0 : zs = [] := by cases zs with | nil => rfl | cons _ _ => cases e
            subst hz0
            refine ⟨k + 1, rs, _, _, _, _, rfl, ?_, fun q hq => hin q (by simp [hq]), rfl⟩
            rw [← hw]
            simp only [itemErr]
            rw [← hb]; rfl
        · rintro l ⟨k, rs, a, b, c, d, e, hw, hin, rfl⟩
          refine hN _ ?_
          have hz0 : rs = [] := by cases rs with | nil => rfl | cons _ _ => cases e
          subst hz0
          have hnone : itemErr 0 rows = none := hw.symm
          obtain ⟨rs, hrs, hB⟩ := bits_of hnone hrows
          rw [hnone] at hm
          subst hrs
          rw [toRs_map] at hm
          simp only at hm
          rw [hm] at hQ
          show qS (evSs _ _ _ tailB [⟨0, machD rs⟩, a, b, c, d]) _
          refine tail_ct hB (by omega) fun b1 b2 b3 b4 => ?_
          show Q _ (outs f872 (⟨0, .tup (rs.map rowD)⟩ :: _) 0 [⟨0, .tup (rs.map rowD)⟩])
          rw [ho]; exact hQ
  · have hsf : tblSq v = false := by
      cases hs : tblSq v with
      | false => rfl
      | true =>
        obtain ⟨rows, rfl, a, b, _⟩ := tblSq_tup hs
        exact absurd ⟨rows, rfl, a, b⟩ ht
    by_cases hx2 : ∃ xs, v = .tup xs
    · obtain ⟨xs, rfl⟩ := hx2
      have hno : ¬ (1 ≤ xs.length ∧ xs.length ≤ 5) := fun z => ht ⟨xs, rfl, z.1, z.2⟩
      by_cases x1 : 1 ≤ xs.length
      · have x2 : ¬ xs.length ≤ 5 := fun z => hno ⟨x1, z⟩
        have x1' : (1 : Int) ≤ xs.length := by omega
        have x2' : ¬ (xs.length : Int) ≤ 5 := by omega
        simp [w_oe, w_scons, w_retv, a_isi, hd, tyD, midOk, lowF, x1, x2, x1', x2']
        exact hq hsf _
      · have x1' : ¬ (1 : Int) ≤ xs.length := by omega
        simp [w_oe, w_scons, w_retv, a_isi, hd, tyD, midOk, lowF, x1, x1']
        exact hq hsf _
    · have hty : tyD .tuple v = false := by cases v <;> first | rfl | exact absurd ⟨_, rfl⟩ hx2
      simp [w_oe, w_scons, w_retv, a_isi, hd, hu, hty, midOk, lowF]
      exact hq hsf _
/-! ### lots of tables -/
def isNon (d : D) : Bool := match d with | .non => true | _ => false
theorem isn_true {d : D} (h : isNon d = true) : d = .non := by cases d <;> simp [isNon] at h; rfl
def lenD (d : D) : Nat := match d with | .tup xs => xs.length | _ => 0
def tabE : Nat → List D → Option D
  | _, [] => none
  | k, x :: r => if isNon (onesErr x) then tabE (k + 1) r else some (.tup [.str "table", .int k, onesErr x])
def sizeE (n : Nat) : Nat → List D → Option D
  | _, [] => none
  | k, x :: r => if lenD x = n then sizeE n (k + 1) r else some (.tup [.str "size", .int k])
def lotErr (v : D) : D := match v with
  | .tup xs => if 1 ≤ xs.length ∧ xs.length ≤ 4 then (match tabE 0 xs with | some e => e | none => (match sizeE (lenD (xs.headD .un)) 0 xs with | some e => e | none => .non)) else .str "form"
  | _ => .str "form"
end DL
end

section
set_option Elab.async false
set_option linter.all false
set_option maxRecDepth 100000
namespace DL
open PySem
theorem itemErr_ne : ∀ {i : Nat} {rows : List D} {e : D}, itemErr i rows = some e → e ≠ .non
  | _, [], _, h => by cases h
  | i, x :: r, e, h => by
    cases x with
    | tup xs =>
      simp only [itemErr] at h
      cases hb : badAt 1 0 xs with
      | some j => rw [hb] at h; cases h; exact fun q => by cases q
      | none => rw [hb] at h; exact itemErr_ne h
    | _ => exact itemErr_ne (by simpa only [itemErr] using h)
theorem tbl_of {d : D} (h : onesErr d = .non) : ∃ rs n, d = machD rs ∧ Bits n rs ∧ 1 ≤ n ∧ n ≤ 5 := by
  unfold onesErr at h
  cases hs : tblSq d with
  | false => rw [hs] at h; cases h
  | true =>
    rw [hs] at h
    obtain ⟨rows, rfl, l1, l2, hrows⟩ := tblSq_tup hs
    cases hi : itemErr 0 rows with
    | some e =>
      simp only [hi] at h
      exact absurd h (itemErr_ne hi)
    | none =>
      obtain ⟨rs, hrs, hB⟩ := bits_of hi hrows
      exact ⟨rs, rows.length, by rw [hrs]; rfl, hB, l1, l2⟩
@[simp] theorem c_isn2 {d : D} : cmpD .isn d .non = some (!isNon d) := by cases d <;> rfl
theorem tabE_none : ∀ {k : Nat} {xs : List D}, tabE k xs = none → ∀ x ∈ xs, onesErr x = .non
  | _, [], _, x, hx => by simp at hx
  | k, y :: r, h, x, hx => by
    simp only [tabE] at h
    split at h
    · rename_i hn
      rcases List.mem_cons.mp hx with rfl | q
      · exact isn_true hn
      · exact tabE_none h x q
    · cases h
set_option maxHeartbeats 2000000 in
theorem lot873 {P : Nat → Option FD} {n : Nat} {v : D} {Q : TV → List TV → Prop} (hP : P 873 = some f873) (h872 : P 872 = some f872) (h359 : P 359 = some f359) (hv : v.ok = true) (hs : ∀ x ∈ (seqOf v).getD [], (onesErr x).isUn = false) (hQ : Q ⟨0, lotErr v⟩ [⟨0, v⟩]) : qC (evCall P (n + 3) 873 [⟨0, v⟩]) Q := by
  refine qC_of hP rfl rfl ?_
  show qS (evSs _ _ _ b873 [⟨0, v⟩, ⟨0, .un⟩, ⟨0, .un⟩, ⟨0, .un⟩]) _
  unfold b873
  have hu := ok_un hv
  have hd := ok_noDt hv
  have r872 : f872.reb 0 = false := rfl
  have ho : ∀ r : List TV, outs f873 (⟨0, v⟩ :: r) 0 [⟨0, v⟩] = [⟨0, v⟩] := fun r => outs_same (fd := f873) 0 [] [⟨0, v⟩] r (fun x hx => by rcases List.mem_cons.mp hx with rfl | hx; rfl; cases hx) rfl
  refine q_cons fun N hN => ?_
  by_cases ht : ∃ xs, v = .tup xs ∧ 1 ≤ xs.length ∧ xs.length ≤ 4
  · obtain ⟨xs, rfl, l1, l2⟩ := ht
    have l1' : (1 : Int) ≤ xs.length := by omega
    have l2' : (xs.length : Int) ≤ 4 := by omega
    have hm : lotErr (.tup xs) = (match tabE 0 xs with | some e => e | none => (match sizeE (lenD (xs.headD .un)) 0 xs with | some e => e | none => .non)) := if_pos ⟨l1, l2⟩
    rw [hm] at hQ
    simp [w_oe, a_isi, hd, tyD, midOk, lowF, l1, l2, l1', l2']
    refine hN _ ?_
    clear hN N
    have hoks : oks xs = true := hv
    refine q_cons fun N hN => ?_
    rw [w_forr]
    simp [w_oe, lowO]
    refine q_for (fun ys l => ∃ k rs a b c, ys = enumL k rs ∧ tabE k rs = tabE 0 xs ∧ (∀ r ∈ rs, r ∈ xs) ∧ l = [⟨0, .tup xs⟩, a, b, c]) _ _ ⟨0, xs, _, _, _, rfl, rfl, fun _ h => h, rfl⟩ ?_ ?_
    · rintro x r l ⟨k, rs, a, b, c, e, hw, hin, rfl⟩
      obtain ⟨y, rs, rfl, rfl, rfl⟩ : ∃ y rs', rs = y :: rs' ∧ x = .tup [.int k, y] ∧ r = enumL (k + 1) rs' := by
        cases rs with
        | nil => cases e
        | cons y rs' => cases e; exact ⟨y, rs', rfl, rfl, rfl⟩
      have hy := hin y (by simp)
      have hyo : y.ok = true := oks_mem hoks hy
      have hyu := ok_un hyo
      have heu := hs y hy
      show qS (evSs _ _ _ _ [⟨0, .tup xs⟩, ⟨0, .int k⟩, ⟨0, y⟩, c]) _
      refine q_cons fun N1 hN1 => ?_
      simp [w_oe, hyu, a_call, rb_of h872, lowR, onceO, rebOk, takeO, r872]
      refine due872 (n := n) h872 h359 hyo ?_
      simp [backO]
      refine hN1 _ ?_
      clear hN1 N1
      refine q_cons fun N1 hN1 => ?_
      simp only [tabE] at hw
      by_cases hn : isNon (onesErr y) = true
      · rw [if_pos hn] at hw
        simp [w_oe, w_scons, w_retv, heu, hn]
        refine hN1 _ ?_
        rw [w_snil]
        exact ⟨k + 1, rs, _, _, _, rfl, hw, fun q hq => hin q (by simp [hq]), rfl⟩
      · rw [if_neg hn] at hw
        have hn2 : isNon (onesErr y) = false := by simpa using hn
        simp [w_oe, w_scons, w_retv, heu, hn2, small, lowO]
        rw [← hw] at hQ
        show Q _ (outs f873 (⟨0, .tup xs⟩ :: _) 0 [⟨0, .tup xs⟩])
        rw [ho]; exact hQ
    · rintro l ⟨k, rs, a, b, c, e, hw, hin, rfl⟩
      have hz0 : rs = [] := by cases rs with | nil => rfl | cons _ _ => cases e
      subst hz0
      have hnone : tabE 0 xs = none := hw.symm
      rw [hnone] at hQ
      simp only at hQ
      have hall := tabE_none hnone
      clear hw e hin
      refine hN _ ?_
      clear hN N
      obtain ⟨x0, xt, rfl⟩ : ∃ a r, xs = a :: r := by
        cases xs with
        | nil => simp at l1
        | cons a r => exact ⟨a, r, rfl⟩
      obtain ⟨rs0, n0, rfl, hB0, _, _⟩ := tbl_of (hall x0 (by simp))
      have e0 : lenD ((machD rs0 :: xt).headD .un) = rs0.length := by show (rs0.map rowD).length = _; rw [List.length_map]
      rw [e0] at hQ
      generalize hW : sizeE rs0.length 0 (machD rs0 :: xt) = W at hQ
      refine q_cons fun N hN => ?_
      rw [w_forr]
      simp [w_oe, lowO]
      refine q_for (fun ys l => ∃ k rs a b, ys = enumL k rs ∧ sizeE rs0.length k rs = W ∧ (∀ r ∈ rs, r ∈ machD rs0 :: xt) ∧ l = [⟨0, .tup (machD rs0 :: xt)⟩, a, b, c]) _ _ ⟨0, machD rs0 :: xt, _, _, rfl, hW, fun _ h => h, rfl⟩ ?_ ?_
      · rintro x r l ⟨k, rs, a, b, e, hw, hin, rfl⟩
        obtain ⟨y, rs, rfl, rfl, rfl⟩ : ∃ y rs', rs = y :: rs' ∧ x = .tup [.int k, y] ∧ r = enumL (k + 1) rs' := by
          cases rs with
          | nil => cases e
          | cons y rs' => cases e; exact ⟨y, rs', rfl, rfl, rfl⟩
        obtain ⟨ry, ny, rfl, hBy, _, _⟩ := tbl_of (hall y (hin y (by simp)))
        show qS (evSs _ _ _ _ [⟨0, .tup (machD rs0 :: xt)⟩, ⟨0, .int k⟩, ⟨0, machD ry⟩, c]) _
        refine q_cons fun N1 hN1 => ?_
        have hl1 : lenD (machD ry) = ry.length := by show (ry.map rowD).length = _; rw [List.length_map]
        simp only [sizeE, hl1] at hw
        have hmm : (machD rs0).isM = false := rfl
        by_cases hl : ry.length = rs0.length
        · rw [if_pos hl] at hw
          have hl' : (ry.length : Int) = rs0.length := by omega
          simp [w_oe, w_scons, w_retv, lowF, a_sub0 hmm, hl, hl']
          refine hN1 _ ?_
          rw [w_snil]
          exact ⟨k + 1, rs, _, _, rfl, hw, fun q hq => hin q (by simp [hq]), rfl⟩
        · rw [if_neg hl] at hw
          have hl' : ¬ (ry.length : Int) = rs0.length := by omega
          simp [w_oe, w_scons, w_retv, lowF, a_sub0 hmm, hl, hl', small, lowO]
          rw [← hw] at hQ
          show Q _ (outs f873 (⟨0, .tup (machD rs0 :: xt)⟩ :: _) 0 [⟨0, .tup (machD rs0 :: xt)⟩])
          rw [ho]; exact hQ
      · rintro l ⟨k, rs, a, b, e, hw, hin, rfl⟩
        have hz0 : rs = [] := by cases rs with | nil => rfl | cons _ _ => cases e
        subst hz0
        refine hN _ ?_
        refine q_cons fun N hN => ?_
        simp [w_oe, w_retv]
        rw [← hw] at hQ
        show Q _ (outs f873 (⟨0, .tup (machD rs0 :: xt)⟩ :: _) 0 [⟨0, .tup (machD rs0 :: xt)⟩])
        rw [ho]; exact hQ
  · have hq : ∀ r, Q ⟨0, .str "form"⟩ (outs f873 (⟨0, v⟩ :: r) 0 [⟨0, v⟩]) := fun r => by
      rw [ho]
      have : lotErr v = .str "form" := by
        cases v with
        | tup xs => exact if_neg fun z => ht ⟨xs, rfl, z.1, z.2⟩
        | _ => rfl
      rw [this] at hQ; exact hQ
    by_cases hx2 : ∃ xs, v = .tup xs
    · obtain ⟨xs, rfl⟩ := hx2
      have hno : ¬ (1 ≤ xs.length ∧ xs.length ≤ 4) := fun z => ht ⟨xs, rfl, z.1, z.2⟩
      by_cases x1 : 1 ≤ xs.length
      · have x2 : ¬ xs.length ≤ 4 := fun z => hno ⟨x1, z⟩
        have x1' : (1 : Int) ≤ xs.length := by omega
        have x2' : ¬ (xs.length : Int) ≤ 4 := by omega
        simp [w_oe, w_scons, w_retv, a_isi, hd, tyD, midOk, lowF, x1, x2, x1', x2']
        exact hq _
      · have x1' : ¬ (1 : Int) ≤ xs.length := by omega
        simp [w_oe, w_scons, w_retv, a_isi, hd, tyD, midOk, lowF, x1, x1']
        exact hq _
    · have hty : tyD .tuple v = false := by cases v <;> first | rfl | exact absurd ⟨_, rfl⟩ hx2
      simp [w_oe, w_scons, w_retv, a_isi, hd, hu, hty, midOk, lowF]
      exact hq _
set_option maxHeartbeats 2000000 in
theorem lot868 {P : Nat → Option FD} {n : Nat} {v : D} {Q : TV → List TV → Prop} (hP : P 868 = some f868) (h867 : P 867 = some f867) (h1 : P 1 = some f1) (hv : v.ok = true) (hs : ∀ x ∈ (seqOf v).getD [], (onesErr x).isUn = false) (hQ : Q ⟨0, lotErr v⟩ [⟨0, v⟩]) : qC (evCall P (n + 3) 868 [⟨0, v⟩]) Q := by
  refine qC_of hP rfl rfl ?_
  show qS (evSs _ _ _ b868 [⟨0, v⟩, ⟨0, .un⟩, ⟨0, .un⟩, ⟨0, .un⟩]) _
  unfold b868
  have hu := ok_un hv
  have hd := ok_noDt hv
  have r867 : f867.reb 0 = false := rfl
  have ho : ∀ r : List TV, outs f868 (⟨0, v⟩ :: r) 0 [⟨0, v⟩] = [⟨0, v⟩] := fun r => outs_same (fd := f868) 0 [] [⟨0, v⟩] r (fun x hx => by rcases List.mem_cons.mp hx with rfl | hx; rfl; cases hx) rfl
  refine q_cons fun N hN => ?_
  by_cases ht : ∃ xs, v = .tup xs ∧ 1 ≤ xs.length ∧ xs.length ≤ 4
  · obtain ⟨xs, rfl, l1, l2⟩ := ht
    have l1' : (1 : Int) ≤ xs.length := by omega
    have l2' : (xs.length : Int) ≤ 4 := by omega
    have hm : lotErr (.tup xs) = (match tabE 0 xs with | some e => e | none => (match sizeE (lenD (xs.headD .un)) 0 xs with | some e => e | none => .non)) := if_pos ⟨l1, l2⟩
    rw [hm] at hQ
    simp [w_oe, a_isi, hd, tyD, midOk, lowF, l1, l2, l1', l2']
    refine hN _ ?_
    clear hN N
    have hoks : oks xs = true := hv
    refine q_cons fun N hN => ?_
    rw [w_forr]
    simp [w_oe, lowO]
    refine q_for (fun ys l => ∃ k rs a b c, ys = enumL k rs ∧ tabE k rs = tabE 0 xs ∧ (∀ r ∈ rs, r ∈ xs) ∧ l = [⟨0, .tup xs⟩, a, b, c]) _ _ ⟨0, xs, _, _, _, rfl, rfl, fun _ h => h, rfl⟩ ?_ ?_
    · rintro x r l ⟨k, rs, a, b, c, e, hw, hin, rfl⟩
      obtain ⟨y, rs, rfl, rfl, rfl⟩ : ∃ y rs', rs = y :: rs' ∧ x = .tup [.int k, y] ∧ r = enumL (k + 1) rs' := by
        cases rs with
        | nil => cases e
        | cons y rs' => cases e; exact ⟨y, rs', rfl, rfl, rfl⟩
      have hy := hin y (by simp)
      have hyo : y.ok = true := oks_mem hoks hy
      have hyu := ok_un hyo
      have heu := hs y hy
      show qS (evSs _ _ _ _ [⟨0, .tup xs⟩, ⟨0, .int k⟩, ⟨0, y⟩, c]) _
      refine q_cons fun N1 hN1 => ?_
      simp [w_oe, hyu, a_call, rb_of h867, lowR, onceO, rebOk, takeO, r867]
      refine ones867 (n := n) h867 h1 hyo ?_
      simp [backO]
      refine hN1 _ ?_
      clear hN1 N1
      refine q_cons fun N1 hN1 => ?_
      simp only [tabE] at hw
      by_cases hn : isNon (onesErr y) = true
      · rw [if_pos hn] at hw
        simp [w_oe, w_scons, w_retv, heu, hn]
        refine hN1 _ ?_
        rw [w_snil]
        exact ⟨k + 1, rs, _, _, _, rfl, hw, fun q hq => hin q (by simp [hq]), rfl⟩
      · rw [if_neg hn] at hw
        have hn2 : isNon (onesErr y) = false := by simpa using hn
        simp [w_oe, w_scons, w_retv, heu, hn2, small, lowO]
        rw [← hw] at hQ
        show Q _ (outs f868 (⟨0, .tup xs⟩ :: _) 0 [⟨0, .tup xs⟩])
        rw [ho]; exact hQ
    · rintro l ⟨k, rs, a, b, c, e, hw, hin, rfl⟩
      have hz0 : rs = [] := by cases rs with | nil => rfl | cons _ _ => cases e
      subst hz0
      have hnone : tabE 0 xs = none := hw.symm
      rw [hnone] at hQ
      simp only at hQ
      have hall := tabE_none hnone
      clear hw e hin
      refine hN _ ?_
      clear hN N
      obtain ⟨x0, xt, rfl⟩ : ∃ a r, xs = a :: r := by
        cases xs with
        | nil => simp at l1
        | cons a r => exact ⟨a, r, rfl⟩
      obtain ⟨rs0, n0, rfl, hB0, _, _⟩ := tbl_of (hall x0 (by simp))
      have e0 : lenD ((machD rs0 :: xt).headD .un) = rs0.length := by show (rs0.map rowD).length = _; rw [List.length_map]
      rw [e0] at hQ
      generalize hW : sizeE rs0.length 0 (machD rs0 :: xt) = W at hQ
      refine q_cons fun N hN => ?_
      rw [w_forr]
      simp [w_oe, lowO]
      refine q_for (fun ys l => ∃ k rs a b, ys = enumL k rs ∧ sizeE rs0.length k rs = W ∧ (∀ r ∈ rs, r ∈ machD rs0 :: xt) ∧ l = [⟨0, .tup (machD rs0 :: xt)⟩, a, b, c]) _ _ ⟨0, machD rs0 :: xt, _, _, rfl, hW, fun _ h => h, rfl⟩ ?_ ?_
      · rintro x r l ⟨k, rs, a, b, e, hw, hin, rfl⟩
        obtain ⟨y, rs, rfl, rfl, rfl⟩ : ∃ y rs', rs = y :: rs' ∧ x = .tup [.int k, y] ∧ r = enumL (k + 1) rs' := by
          cases rs with
          | nil => cases e
          | cons y rs' => cases e; exact ⟨y, rs', rfl, rfl, rfl⟩
        obtain ⟨ry, ny, rfl, hBy, _, _⟩ := tbl_of (hall y (hin y (by simp)))
        show qS (evSs _ _ _ _ [⟨0, .tup (machD rs0 :: xt)⟩, ⟨0, .int k⟩, ⟨0, machD ry⟩, c]) _
        refine q_cons fun N1 hN1 => ?_
        have hl1 : lenD (machD ry) = ry.length := by show (ry.map rowD).length = _; rw [List.length_map]
        simp only [sizeE, hl1] at hw
        have hmm : (machD rs0).isM = false := rfl
        by_cases hl : ry.length = rs0.length
        · rw [if_pos hl] at hw
          have hl' : (ry.length : Int) = rs0.length := by omega
          simp [w_oe, w_scons, w_retv, lowF, a_sub0 hmm, hl, hl']
          refine hN1 _ ?_
          rw [w_snil]
          exact ⟨k + 1, rs, _, _, rfl, hw, fun q hq => hin q (by simp [hq]), rfl⟩
        · rw [if_neg hl] at hw
          have hl' : ¬ (ry.length : Int) = rs0.length := by omega
          simp [w_oe, w_scons, w_retv, lowF, a_sub0 hmm, hl, hl', small, lowO]
          rw [← hw] at hQ
          show Q _ (outs f868 (⟨0, .tup (machD rs0 :: xt)⟩ :: _) 0 [⟨0, .tup (machD rs0 :: xt)⟩])
          rw [ho]; exact hQ
      · rintro l ⟨k, rs, a, b, e, hw, hin, rfl⟩
        have hz0 : rs = [] := by cases rs with | nil => rfl | cons _ _ => cases e
        subst hz0
        refine hN _ ?_
        refine q_cons fun N hN => ?_
        simp [w_oe, w_retv]
        rw [← hw] at hQ
        show Q _ (outs f868 (⟨0, .tup (machD rs0 :: xt)⟩ :: _) 0 [⟨0, .tup (machD rs0 :: xt)⟩])
        rw [ho]; exact hQ
  · have hq : ∀ r, Q ⟨0, .str "form"⟩ (outs f868 (⟨0, v⟩ :: r) 0 [⟨0, v⟩]) := fun r => by
      rw [ho]
      have : lotErr v = .str "form" := by
        cases v with
        | tup xs => exact if_neg fun z => ht ⟨xs, rfl, z.1, z.2⟩
        | _ => rfl
      rw [this] at hQ; exact hQ
    by_cases hx2 : ∃ xs, v = .tup xs
    · obtain ⟨xs, rfl⟩ := hx2
      have hno : ¬ (1 ≤ xs.length ∧ xs.length ≤ 4) := fun z => ht ⟨xs, rfl, z.1, z.2⟩
      by_cases x1 : 1 ≤ xs.length
      · have x2 : ¬ xs.length ≤ 4 := fun z => hno ⟨x1, z⟩
        have x1' : (1 : Int) ≤ xs.length := by omega
        have x2' : ¬ (xs.length : Int) ≤ 4 := by omega
        simp [w_oe, w_scons, w_retv, a_isi, hd, tyD, midOk, lowF, x1, x2, x1', x2']
        exact hq _
      · have x1' : ¬ (1 : Int) ≤ xs.length := by omega
        simp [w_oe, w_scons, w_retv, a_isi, hd, tyD, midOk, lowF, x1, x1']
        exact hq _
    · have hty : tyD .tuple v = false := by cases v <;> first | rfl | exact absurd ⟨_, rfl⟩ hx2
      simp [w_oe, w_scons, w_retv, a_isi, hd, hu, hty, midOk, lowF]
      exact hq _
end DL
end

section
set_option Elab.async false
set_option linter.all false
set_option maxRecDepth 100000
/-! KE1: readings of nested lists. -/
namespace DL
open PySem
section
variable {cl : Nat → List TV → RC} {rb : Nat → Nat → Bool} {np : Nat} {l : Sl} {Q : TV → Sl → Prop} {A : Aft}
@[simp] theorem a_lst2 {os : List Od} : qE (applyO (.lst true) os l) Q = (small os.length = true ∧ dpOk l os = true ∧ Q ⟨2, .lst (os.map (Od.d l))⟩ l) := by
  show qE (if small os.length && dpOk l os then .ok ⟨2, .lst (os.map (Od.d l))⟩ l else .no) Q = _
  cases small os.length <;> cases dpOk l os <;> simp
theorem q_app2 {i : Nat} {e : E} (h0 : (gt l i).d.isL = true) (h : qO (opd e (evE cl rb e) l) fun os l' => ∃ o xs, os = [o] ∧ notI i os = true ∧ gt l' i = ⟨2, .lst xs⟩ ∧ small (xs.length + 1) = true ∧ dpOk l' os = true ∧ Q ⟨0, .non⟩ (st l' i ⟨2, .lst (xs ++ [o.d l'])⟩)) : qE (evE cl rb (.app i e) l) Q := by
  simp only [evE, h0, if_true]
  cases hr : opd e (evE cl rb e) l with
  | no => rw [hr] at h; exact (noO h).elim
  | ok os l' =>
    rw [hr, qO_ok] at h
    obtain ⟨o, xs, rfl, h1, h2, h3, h4, h5⟩ := h
    simp only [RO.bnd, h1, h2, h3, h4, Bool.and_self, if_true, qE_ok]
    exact h5
theorem w_setII {i : Nat} {k1 k2 e : E} : qS (evS cl rb np (.setII i k1 k2 e) l) A = qE (evE cl rb e l) fun v l1 => ∃ a b, flatV l1 k1 = some a ∧ flatV l1 k2 = some b ∧ qS (setKK l1 i a b v) A := by
  simp only [evS, qE_bS]
  congr 1
  funext v l1
  cases flatV l1 k1 <;> cases flatV l1 k2 <;> simp
theorem w_ro {a : E} : qE (evE cl rb (.ro a) l) Q = qE (evE cl rb a (lowA l)) fun v _ => v.d.isFl = true ∧ Q ⟨0, v.d⟩ l := by
  simp only [evE]
  cases evE cl rb a (lowA l) with
  | no => simp
  | ok v l1 =>
    simp only [qE_ok]
    cases v.d.isFl <;> simp
end
@[simp] theorem low_deck {gs : List Int} {m t : Int} {r : Sl} : low (deckT gs m t :: r) 0 0 = ⟨0, (deckT gs m t).d⟩ :: r := rfl
theorem sum_ints (c : List Int) : b1D .sum (.lst (c.map D.int)) = some ⟨0, .int c.sum⟩ := by
  show (intsOf (c.map D.int)).map _ = _
  rw [intsOf_map]; rfl
theorem qE_mono {r : RE} {Q Q' : TV → Sl → Prop} (h : qE r Q) (k : ∀ v l, Q v l → Q' v l) : qE r Q' := by
  cases r with
  | no => exact (noE h).elim
  | ok v l => rw [qE_ok] at h ⊢; exact k v l h
/-- rows of noughts and ones, all of length n -/
structure Rows (k n : Nat) (rs : List (List Int)) : Prop where
  len : rs.length = k
  row : ∀ r ∈ rs, r.length = n
  ent : ∀ r ∈ rs, ∀ z ∈ r, 0 ≤ z ∧ z ≤ 1
theorem Rows.bits {n : Nat} {rs : List (List Int)} (h : Rows n n rs) : Bits n rs := ⟨h.len, h.row, h.ent⟩
theorem setKK_rows {k n : Nat} {rs : List (List Int)} (R : Rows k n rs) {r c z : Int} {t : Nat} (hr : 0 ≤ r ∧ r < (k : Int)) (hc : 0 ≤ c ∧ c < (n : Int)) (hz : 0 ≤ z ∧ z ≤ 1) {l : Sl} {i : Nat} (hg : gt l i = ⟨2, .lst (rs.map colD)⟩) :
    ∃ rs', Rows k n rs' ∧ setKK l i (.int r) (.int c) ⟨t, .int z⟩ = .nx (st l i ⟨2, .lst (rs'.map colD)⟩) := by
  have hl := R.len
  have hi : r.toNat < rs.length := by omega
  have hm := List.getElem_mem hi
  have hrl := R.row _ hm
  refine ⟨rs.set r.toNat ((rs[r.toNat]).set c.toNat z), ⟨by rw [List.length_set]; exact hl, fun y hy => ?_, fun y hy w hw => ?_⟩, ?_⟩
  · rcases List.mem_or_eq_of_mem_set hy with q | rfl
    · exact R.row y q
    · rw [List.length_set]; exact hrl
  · rcases List.mem_or_eq_of_mem_set hy with q | rfl
    · exact R.ent y q w hw
    · rcases List.mem_or_eq_of_mem_set hw with q | rfl
      · exact R.ent _ hm w q
      · exact hz
  · unfold setKK
    rw [hg]
    simp only
    rw [ix_pos hr.1 (by rw [List.length_map, hl]; exact hr.2)]
    have e1 : (rs.map colD)[r.toNat]? = some (.lst ((rs[r.toNat]).map D.int)) := by
      rw [List.getElem?_map, List.getElem?_eq_getElem hi]; rfl
    simp only [e1]
    rw [ix_pos hc.1 (by rw [List.length_map, hrl]; exact hc.2)]
    have e3 : D.lst (((rs[r.toNat]).map D.int).set c.toNat (.int z)) = colD ((rs[r.toNat]).set c.toNat z) := by unfold colD; rw [List.map_set]
    show RS.nx (st l i ⟨2, .lst ((rs.map colD).set r.toNat (.lst (((rs[r.toNat]).map D.int).set c.toNat (.int z))))⟩) = _
    rw [e3, ← List.map_set]
def TabQ (m : Int) (n : Nat) (share : Int) (v : TV) (as : List TV) : Prop := ∃ rs gs t, v = ⟨0, machD rs⟩ ∧ Bits n rs ∧ as = [deckT gs m t, ⟨0, .int n⟩, ⟨0, .int share⟩] ∧ Good gs
set_option maxHeartbeats 1000000 in
theorem table870 {P : Nat → Option FD} {n0 : Nat} {m : Int} {gs : List Int} {t share : Int} {n : Nat} (hP : P 870 = some f870) (hD : P 356 = some f356) (hm : 0 ≤ m ∧ m < 4294967296) (G : Good gs)
    (hn : 1 ≤ n ∧ n < 1000) (hs : 0 ≤ share ∧ share < 1000) : qC (evCall P (n0 + 2) 870 [deckT gs m t, ⟨0, .int n⟩, ⟨0, .int share⟩]) (TabQ m n share) := by
  refine qC_of hP rfl rfl ?_
  show qS (evSs _ _ _ b870 [deckT gs m t, ⟨0, .int n⟩, ⟨0, .int share⟩, ⟨0, .un⟩, ⟨0, .un⟩, ⟨0, .un⟩, ⟨0, .un⟩, ⟨0, .un⟩, ⟨0, .un⟩]) _
  unfold b870
  refine q_cons fun N hN => ?_
  rw [w_asgP2]
  simp [w_oe, small, dpOk]
  refine ⟨decide_eq_true (by omega), ?_⟩
  rw [rngL_I]
  refine hN _ ?_
  clear hN N
  refine q_cons fun N hN => ?_
  rw [w_forr]
  simp [w_oe]
  refine ⟨by omega, ?_⟩
  rw [rngL_I]
  refine q_for (fun xs l => ∃ (gs : List Int) (t : Int) (left : List Int) (rs : List (List Int)) (a3 a6 : TV), left.length = xs.length ∧ rs.length + xs.length = n ∧ Below n left ∧ Rows rs.length n rs ∧ Good gs ∧ l = [deckT gs m t, ⟨0, .int n⟩, ⟨0, .int share⟩, a3, ⟨1, .lst (left.map D.int)⟩, ⟨2, .lst (rs.map colD)⟩, a6, ⟨0, .un⟩, ⟨0, .un⟩]) _ _
    ⟨gs, t, rngI n, [], _, _, by simp, by simp [rngI_len], fun z hz => rngI_mem hz, ⟨rfl, by simp, by simp⟩, G, rfl⟩ ?_ ?_
  · rintro x r l ⟨gs, t, left, rs, a3, a6, h1, h2, h3, R, G, rfl⟩
    have h1' : left.length = r.length + 1 := h1
    have h2' : rs.length + (r.length + 1) = n := h2
    show qS (evSs _ _ _ _ [deckT gs m t, ⟨0, .int n⟩, ⟨0, .int share⟩, ⟨0, x⟩, ⟨1, .lst (left.map D.int)⟩, ⟨2, .lst (rs.map colD)⟩, a6, ⟨0, .un⟩, ⟨0, .un⟩]) _
    refine q_cons fun N1 hN1 => ?_
    rw [w_asg]
    refine q_popi rfl ?_
    simp [w_oe, a_call, rb356 hD, lowR, onceO, rebOk, takeO, reb356, lowF]
    refine qC_mono (draw356 hD G hm (by omega)) ?_
    rintro v as ⟨i, gs, t, rfl, hi, rfl, G⟩
    have hi := draw_lt hi (by omega)
    have hik : i.toNat < left.length := by omega
    have hi2 : i < ((left.map D.int).length : Nat) := by rw [List.length_map]; omega
    refine ⟨0, left.map D.int, rfl, i, rfl, i.toNat, ix_pos hi.1 hi2, .int left[i.toNat], by rw [List.getElem?_map, List.getElem?_eq_getElem hik]; rfl, ?_⟩
    generalize left[i.toNat] = j
    show N1 [deckT gs m t, ⟨0, .int n⟩, ⟨0, .int share⟩, ⟨0, x⟩, ⟨1, .lst ((left.map D.int).eraseIdx i.toNat)⟩, ⟨2, .lst (rs.map colD)⟩, ⟨0, .int j⟩, ⟨0, .un⟩, ⟨0, .un⟩]
    refine hN1 _ ?_
    clear hN1 N1
    rw [erase_ints]
    have hel : (left.eraseIdx i.toNat).length = r.length := by rw [List.length_eraseIdx_of_lt hik]; omega
    have heb : Below n (left.eraseIdx i.toNat) := Below_sub h3 fun z hz => List.mem_of_mem_eraseIdx hz
    generalize left.eraseIdx i.toNat = left2 at hel heb
    refine q_cons fun N1 hN1 => ?_
    rw [w_exp]
    refine q_app2 rfl ?_
    rw [w_oe (by simp)]
    simp [w_oe, w_lc]
    refine ⟨by omega, ?_⟩
    rw [rngL_I]
    refine q_mapJ (g := fun z => .int (if z = j then 1 else 0)) (J := fun l => l = [deckT gs m t, ⟨0, .int n⟩, ⟨0, .int share⟩, ⟨0, x⟩, ⟨1, .lst (left2.map D.int)⟩, ⟨2, .lst (rs.map colD)⟩, ⟨0, .int j⟩, ⟨0, .un⟩, ⟨0, .un⟩]) rfl (by rw [rngI_len]; omega) ?_ ?_
    · rintro z hz _ rfl
      simp [w_oe, lowF]
    · rintro _ b rfl
      simp [rest]
      have hnew : ∀ z ∈ (rngI n).map (fun z => if z = j then (1 : Int) else 0), 0 ≤ z ∧ z ≤ 1 := fun z hz => by
        obtain ⟨y, _, rfl⟩ := List.mem_map.mp hz
        split <;> omega
      have e : (rngI n).map (fun z => D.int (if z = j then 1 else 0)) = ((rngI n).map fun z => if z = j then (1 : Int) else 0).map D.int := by rw [List.map_map]; rfl
      rw [e]
      generalize hnw : (rngI n).map (fun z => if z = j then (1 : Int) else 0) = nw at hnew
      have hnl : nw.length = n := by rw [← hnw, List.length_map, rngI_len]
      refine ⟨rfl, decide_eq_true (by omega), rfl, ?_⟩
      refine hN1 _ ?_
      rw [w_snil]
      refine ⟨gs, t, left2, rs ++ [nw], _, _, hel, by simp; omega, heb, ⟨rfl, fun y hy => ?_, fun y hy z hz => ?_⟩, G, by rw [List.map_append]; rfl⟩
      · rcases List.mem_append.mp hy with q | q
        · exact R.row y q
        · obtain rfl : y = nw := by simpa using q
          exact hnl
      · rcases List.mem_append.mp hy with q | q
        · exact R.ent y q z hz
        · obtain rfl : y = nw := by simpa using q
          exact hnew z hz
  · rintro l ⟨gs, t, left, rs, a3, a6, h1, h2, h3, R, G, rfl⟩
    have hrl : rs.length = n := h2
    rw [hrl] at R
    clear h1 h2 h3 hrl
    refine hN _ ?_
    clear hN N
    have hn1 : (n : Int) < 1073741824 := by omega
    generalize left.map D.int = Lf
    -- more ones
    refine q_cons fun N hN => ?_
    have go : ∀ (gs : List Int) (t : Int) (rs : List (List Int)) (a3 a6 : TV), Good gs → Rows n n rs → N [deckT gs m t, ⟨0, .int n⟩, ⟨0, .int share⟩, a3, ⟨1, .lst Lf⟩, ⟨2, .lst (rs.map colD)⟩, a6, ⟨0, .un⟩, ⟨0, .un⟩] := by
      clear R G
      intro gs t rs a3 a6 G R
      refine hN _ ?_
      clear hN N
      refine q_cons fun N hN => ?_
      have go : ∀ (gs : List Int) (t : Int) (rs : List (List Int)) (a3 a6 : TV), Good gs → Rows n n rs → N [deckT gs m t, ⟨0, .int n⟩, ⟨0, .int share⟩, a3, ⟨1, .lst Lf⟩, ⟨2, .lst (rs.map colD)⟩, a6, ⟨0, .un⟩, ⟨0, .un⟩] := by
        clear R G
        intro gs t rs a3 a6 G R
        refine hN _ ?_
        clear hN N
        refine q_cons fun N hN => ?_
        simp [w_oe, w_retv, w_lc]
        have elo : lowO 0 [deckT gs m t, ⟨0, .int n⟩, ⟨0, .int share⟩, a3, ⟨1, .lst Lf⟩, ⟨2, .lst (rs.map colD)⟩, a6, ⟨0, .un⟩, ⟨0, .un⟩] [.r 5] = [deckT gs m t, ⟨0, .int n⟩, ⟨0, .int share⟩, a3, ⟨1, .lst Lf⟩, ⟨0, .lst (rs.map colD)⟩, a6, ⟨0, .un⟩, ⟨0, .un⟩] := rfl
        rw [elo]
        refine q_mapJ (e := colD) (g := rowD) (J := fun l => l = [deckT gs m t, ⟨0, .int n⟩, ⟨0, .int share⟩, a3, ⟨1, .lst Lf⟩, ⟨0, .lst (rs.map colD)⟩, a6, ⟨0, .un⟩, ⟨0, .un⟩]) rfl (by have := R.len; omega) ?_ ?_
        · rintro r hr _ rfl
          simp [w_oe]
          exact ⟨_, rfl, rfl, _, rfl⟩
        · rintro _ b rfl
          exact ⟨_, rfl, rs, gs, t, rfl, R.bits, rfl, G⟩
      simp [w_oe, a_call, rb356 hD, lowR, onceO, rebOk, takeO, reb356]
      refine qC_mono (draw356 hD G hm (by decide)) ?_
      rintro v as ⟨w, gs, t, rfl, ⟨w0, _, _⟩, rfl, G⟩
      simp [backO]
      by_cases hw : w = 0
      · right
        refine ⟨hw, ?_⟩
        refine q_cons fun N1 hN1 => ?_
        simp [w_oe, a_call, rb356 hD, lowR, onceO, rebOk, takeO, reb356]
        refine qC_mono (draw356 hD G hm hn1) ?_
        rintro v as ⟨i, gs, t, rfl, hi, rfl, G⟩
        have hi := draw_lt hi (by omega)
        simp [backO]
        refine hN1 _ ?_
        clear hN1 N1
        refine q_cons fun N1 hN1 => ?_
        rw [w_forr]
        simp [w_oe]
        refine ⟨by omega, ?_⟩
        rw [rngL_I]
        refine q_for (fun xs l => ∃ (js : List Int) (rs : List (List Int)) (a6 : TV), xs = js.map D.int ∧ (∀ j ∈ js, 0 ≤ j ∧ j < (n : Int)) ∧ Rows n n rs ∧ l = [deckT gs m t, ⟨0, .int n⟩, ⟨0, .int share⟩, ⟨0, .int i⟩, ⟨1, .lst Lf⟩, ⟨2, .lst (rs.map colD)⟩, a6, ⟨0, .un⟩, ⟨0, .un⟩]) _ _ ⟨rngI n, rs, _, rfl, fun j hj => rngI_mem hj, R, rfl⟩ ?_ ?_
        · clear R
          rintro x xs l ⟨js, rs, a6, e, hj, R, rfl⟩
          obtain ⟨j, js, rfl, rfl, rfl⟩ : ∃ r ts', js = r :: ts' ∧ x = .int r ∧ xs = ts'.map D.int := by
            cases js with
            | nil => cases e
            | cons r t => cases e; exact ⟨r, t, rfl, rfl, rfl⟩
          have hj0 := hj j (by simp)
          show qS (evSs _ _ _ _ [deckT gs m t, ⟨0, .int n⟩, ⟨0, .int share⟩, ⟨0, .int i⟩, ⟨1, .lst Lf⟩, ⟨2, .lst (rs.map colD)⟩, ⟨0, .int j⟩, ⟨0, .un⟩, ⟨0, .un⟩]) _
          refine q_cons fun N2 hN2 => ?_
          have fin : ∀ rs, Rows n n rs → N2 [deckT gs m t, ⟨0, .int n⟩, ⟨0, .int share⟩, ⟨0, .int i⟩, ⟨1, .lst Lf⟩, ⟨2, .lst (rs.map colD)⟩, ⟨0, .int j⟩, ⟨0, .un⟩, ⟨0, .un⟩] := fun rs R => by
            refine hN2 _ ?_
            rw [w_snil]
            exact ⟨js, rs, _, rfl, fun z hz => hj z (by simp [hz]), R, rfl⟩
          have elow : lowA [deckT gs m t, ⟨0, .int n⟩, ⟨0, .int share⟩, ⟨0, .int i⟩, ⟨1, .lst Lf⟩, ⟨2, .lst (rs.map colD)⟩, ⟨0, .int j⟩, ⟨0, .un⟩, ⟨0, .un⟩] = [⟨0, (deckT gs m t).d⟩, ⟨0, .int n⟩, ⟨0, .int share⟩, ⟨0, .int i⟩, ⟨0, .lst Lf⟩, ⟨0, .lst (rs.map colD)⟩, ⟨0, .int j⟩, ⟨0, .un⟩, ⟨0, .un⟩] := by
            show lowO 0 [deckT gs m t, ⟨0, .int n⟩, ⟨0, .int share⟩, ⟨0, .int i⟩, ⟨1, .lst Lf⟩, ⟨2, .lst (rs.map colD)⟩, ⟨0, .int j⟩, ⟨0, .un⟩, ⟨0, .un⟩] [.r 0, .r 1, .r 2, .r 3, .r 4, .r 5, .r 6, .r 7, .r 8] = _
            simp [lowO]
          rw [w_ite, w_ro, elow]
          have hrl := R.len
          have hik : i.toNat < rs.length := by omega
          have hik2 : i.toNat < (rs.map colD).length := by rw [List.length_map]; exact hik
          have hri := List.getElem_mem hik
          have hrl2 := R.row _ hri
          have eg : (rs.map colD)[i.toNat] = colD rs[i.toNat] := by rw [List.getElem_map]
          generalize rs[i.toNat] = ri at hri hrl2 eg
          refine qE_mono (Q := fun v _ => ∃ b, v.d = .bl b) ?_ ?_
          · simp [w_oe]
            refine q_subR (xs := rs.map colD) (j := i) (k := i.toNat) rfl (Nat.zero_le _) rfl (ix_pos hi.1 (by rw [List.length_map]; omega)) hik2 ?_
            rw [eg]
            simp
            refine q_subV (xs := ri.map D.int) (j := j) ?_ ?_ hj0.1 (by rw [List.length_map]; omega) fun d hd => ?_
            · rfl
            · rfl
            obtain ⟨z, _, rfl⟩ := List.mem_map.mp hd
            simp
            by_cases hz1 : z = 1
            · right
              refine ⟨hz1, ?_⟩
              refine q_subR (xs := rs.map colD) (j := i) (k := i.toNat) rfl (Nat.zero_le _) rfl (ix_pos hi.1 (by rw [List.length_map]; omega)) hik2 ?_
              rw [eg]
              refine ⟨_, sum_ints ri, ?_⟩
              simp [lowF]
              by_cases h1 : 1 < ri.sum
              · right
                refine ⟨h1, ?_⟩
                simp [w_lc, w_oe, lowO]
                refine q_mapJ (e := colD) (g := fun r => .int (atI r j)) (J := fun l => l = [⟨0, (deckT gs m t).d⟩, ⟨0, .int n⟩, ⟨0, .int share⟩, ⟨0, .int i⟩, ⟨0, .lst Lf⟩, ⟨0, .lst (rs.map colD)⟩, ⟨0, .int j⟩, ⟨0, .un⟩, ⟨0, .un⟩]) rfl (by omega) ?_ ?_
                · rintro r hr _ rfl
                  have hrl3 := R.row r hr
                  simp [w_oe]
                  refine q_subR (xs := r.map D.int) (j := j) (k := j.toNat) rfl (Nat.zero_le _) rfl (ix_pos hj0.1 (by rw [List.length_map]; omega)) (by rw [List.length_map]; omega) ?_
                  exact ⟨atI_get hj0.1 (by omega) _, _, rfl⟩
                · rintro _ b rfl
                  have e2 : rs.map (fun r => D.int (atI r j)) = (rs.map fun r => atI r j).map D.int := by rw [List.map_map]; rfl
                  rw [e2]
                  refine ⟨_, sum_ints _, ?_⟩
                  simp
                  omega
              · left
                omega
            · left
              exact hz1
          · rintro v _ ⟨b, hb⟩
            refine ⟨by rw [hb]; rfl, b, hb, fun _ => ?_, fun _ => ?_⟩
            · refine q_cons fun N3 hN3 => ?_
              rw [w_setII]
              simp [flatV]
              obtain ⟨rs2, R2, e2⟩ := setKK_rows R hi hj0 (z := 0) (by omega) (t := 0) (l := [deckT gs m t, ⟨0, .int n⟩, ⟨0, .int share⟩, ⟨0, .int i⟩, ⟨1, .lst Lf⟩, ⟨2, .lst (rs.map colD)⟩, ⟨0, .int j⟩, ⟨0, .un⟩, ⟨0, .un⟩]) (i := 5) rfl
              rw [e2]
              simp
              refine hN3 _ ?_
              rw [w_snil]
              exact fin rs2 R2
            · rw [w_snil]
              exact fin rs R
        · clear R
          rintro l ⟨js, rs, a6, e, hj, R, rfl⟩
          refine hN1 _ ?_
          rw [w_snil]
          exact go gs t rs _ _ G R
      · left
        exact ⟨hw, go gs t rs _ _ G R⟩
    by_cases hsh : 0 < share
    · simp [w_oe, hsh]
      refine q_cons fun N1 hN1 => ?_
      rw [w_forr]
      simp [w_oe]
      refine ⟨by omega, ?_⟩
      rw [rngL_I]
      refine q_for (fun xs l => ∃ (gs : List Int) (t : Int) (is : List Int) (rs : List (List Int)) (a3 a6 : TV), Good gs ∧ xs = is.map D.int ∧ (∀ j ∈ is, 0 ≤ j ∧ j < (n : Int)) ∧ Rows n n rs ∧ l = [deckT gs m t, ⟨0, .int n⟩, ⟨0, .int share⟩, a3, ⟨1, .lst Lf⟩, ⟨2, .lst (rs.map colD)⟩, a6, ⟨0, .un⟩, ⟨0, .un⟩]) _ _ ⟨gs, t, rngI n, rs, _, _, G, rfl, fun j hj => rngI_mem hj, R, rfl⟩ ?_ ?_
      · clear R G hN1
        rintro x xs l ⟨gs, t, is, rs, a3, a6, G, e, hi, R, rfl⟩
        obtain ⟨i, is, rfl, rfl, rfl⟩ : ∃ r ts', is = r :: ts' ∧ x = .int r ∧ xs = ts'.map D.int := by
          cases is with
          | nil => cases e
          | cons r t => cases e; exact ⟨r, t, rfl, rfl, rfl⟩
        have hi0 := hi i (by simp)
        show qS (evSs _ _ _ _ [deckT gs m t, ⟨0, .int n⟩, ⟨0, .int share⟩, ⟨0, .int i⟩, ⟨1, .lst Lf⟩, ⟨2, .lst (rs.map colD)⟩, a6, ⟨0, .un⟩, ⟨0, .un⟩]) _
        refine q_cons fun N2 hN2 => ?_
        rw [w_forr]
        simp [w_oe]
        refine ⟨by omega, ?_⟩
        rw [rngL_I]
        refine q_for (fun xs l => ∃ (gs : List Int) (t : Int) (js : List Int) (rs : List (List Int)) (a6 : TV), Good gs ∧ xs = js.map D.int ∧ (∀ j ∈ js, 0 ≤ j ∧ j < (n : Int)) ∧ Rows n n rs ∧ l = [deckT gs m t, ⟨0, .int n⟩, ⟨0, .int share⟩, ⟨0, .int i⟩, ⟨1, .lst Lf⟩, ⟨2, .lst (rs.map colD)⟩, a6, ⟨0, .un⟩, ⟨0, .un⟩]) _ _ ⟨gs, t, rngI n, rs, _, G, rfl, fun j hj => rngI_mem hj, R, rfl⟩ ?_ ?_
        · clear R G hN2
          rintro x xs l ⟨gs, t, js, rs, a6, G, e, hj, R, rfl⟩
          obtain ⟨j, js, rfl, rfl, rfl⟩ : ∃ r ts', js = r :: ts' ∧ x = .int r ∧ xs = ts'.map D.int := by
            cases js with
            | nil => cases e
            | cons r t => cases e; exact ⟨r, t, rfl, rfl, rfl⟩
          have hj0 := hj j (by simp)
          show qS (evSs _ _ _ _ [deckT gs m t, ⟨0, .int n⟩, ⟨0, .int share⟩, ⟨0, .int i⟩, ⟨1, .lst Lf⟩, ⟨2, .lst (rs.map colD)⟩, ⟨0, .int j⟩, ⟨0, .un⟩, ⟨0, .un⟩]) _
          refine q_cons fun N3 hN3 => ?_
          have fin : ∀ gs t rs, Good gs → Rows n n rs → N3 [deckT gs m t, ⟨0, .int n⟩, ⟨0, .int share⟩, ⟨0, .int i⟩, ⟨1, .lst Lf⟩, ⟨2, .lst (rs.map colD)⟩, ⟨0, .int j⟩, ⟨0, .un⟩, ⟨0, .un⟩] := fun gs t rs G R => by
            refine hN3 _ ?_
            rw [w_snil]
            exact ⟨gs, t, js, rs, _, G, rfl, fun z hz => hj z (by simp [hz]), R, rfl⟩
          simp [w_oe, a_call, rb356 hD, lowR, onceO, rebOk, takeO, reb356]
          refine qC_mono (draw356 hD G hm (by omega)) ?_
          rintro v as ⟨w, gs, t, rfl, _, rfl, G⟩
          simp [backO]
          by_cases hw : w = 0
          · right
            refine ⟨hw, ?_⟩
            refine q_cons fun N4 hN4 => ?_
            rw [w_setII]
            simp [flatV]
            obtain ⟨rs2, R2, e2⟩ := setKK_rows R hi0 hj0 (z := 1) (by omega) (t := 0) (l := [deckT gs m t, ⟨0, .int n⟩, ⟨0, .int share⟩, ⟨0, .int i⟩, ⟨1, .lst Lf⟩, ⟨2, .lst (rs.map colD)⟩, ⟨0, .int j⟩, ⟨0, .un⟩, ⟨0, .un⟩]) (i := 5) rfl
            rw [e2]
            simp
            refine hN4 _ ?_
            rw [w_snil]
            exact fin gs t rs2 G R2
          · left
            exact ⟨hw, fin gs t rs G R⟩
        · clear R G
          rintro l ⟨gs, t, js, rs, a6, G, e, hj, R, rfl⟩
          refine hN2 _ ?_
          rw [w_snil]
          exact ⟨gs, t, is, rs, _, _, G, rfl, fun z hz => hi z (by simp [hz]), R, rfl⟩
      · clear R G
        rintro l ⟨gs, t, is, rs, a3, a6, G, e, hi, R, rfl⟩
        refine hN1 _ ?_
        rw [w_snil]
        exact go gs t rs _ _ G R
    · simp [w_oe, hsh]
      exact go gs t rs _ _ G R
end DL
end

section
set_option Elab.async false
set_option linter.all false
set_option maxRecDepth 100000
namespace DL
open PySem
theorem rb870 {P : Nat → Option FD} (hP : P 870 = some f870) : rbP P 870 = f870.reb := rb_of hP
theorem allTabs {p : List (List Int) → Prop} : ∀ {ds : List D}, (∀ d ∈ ds, ∃ rs, d = machD rs ∧ p rs) → ∃ ts : List (List (List Int)), ds = ts.map machD ∧ ts.length = ds.length ∧ ∀ z ∈ ts, p z
  | [], _ => ⟨[], rfl, rfl, by simp⟩
  | d :: r, h => by
    obtain ⟨z, rfl, hz⟩ := h _ List.mem_cons_self
    obtain ⟨zs, rfl, h2, h3⟩ := allTabs fun d hd => h d (List.mem_cons_of_mem _ hd)
    exact ⟨z :: zs, rfl, by simp, fun y hy => by
      rcases List.mem_cons.mp hy with rfl | q
      · exact hz
      · exact h3 y q⟩
def TabsQ (m : Int) (n : Nat) (v : TV) (as : List TV) : Prop := ∃ (ts : List (List (List Int))) (gs : List Int) (t : Int), v = ⟨0, .tup (ts.map machD)⟩ ∧ 1 ≤ ts.length ∧ ts.length ≤ 3 ∧ (∀ x ∈ ts, Bits n x) ∧ as = [deckT gs m t, ⟨0, .int n⟩] ∧ Good gs
set_option maxHeartbeats 1000000 in
theorem tabs871 {P : Nat → Option FD} {n0 : Nat} {m : Int} {gs : List Int} {t : Int} {n : Nat} (hP : P 871 = some f871) (h870 : P 870 = some f870) (hE : P 357 = some f357) (hD : P 356 = some f356) (hm : 0 ≤ m ∧ m < 4294967296) (G : Good gs)
    (hn : 1 ≤ n ∧ n < 1000) : qC (evCall P (n0 + 3) 871 [deckT gs m t, ⟨0, .int n⟩]) (TabsQ m n) := by
  refine qC_of hP rfl rfl ?_
  show qS (evSs _ _ _ b871 [deckT gs m t, ⟨0, .int n⟩, ⟨0, .un⟩, ⟨0, .un⟩]) _
  unfold b871
  have r870 : f870.reb 0 = false ∧ f870.reb 1 = false ∧ f870.reb 2 = false := ⟨rfl, rfl, rfl⟩
  refine q_cons fun N hN => ?_
  simp [w_oe, small, lowO, a_call, rb357 hE, lowR, onceO, rebOk, takeO, reb357]
  refine qC_mono (pick357 (xs := [.int 0, .int 2, .int 4, .int 9, .int 9]) hD hE G hm (.inl rfl) (Nat.le_refl 1) (by simp) (by simp)) ?_
  rintro v as ⟨x, gs, t, hx, rfl, rfl, G⟩
  obtain ⟨sh, rfl, hsh⟩ : ∃ s : Int, x = .int s ∧ 0 ≤ s ∧ s < 1000 := by
    simp only [List.mem_cons, List.not_mem_nil, or_false] at hx
    rcases hx with rfl | rfl | rfl | rfl | rfl <;> exact ⟨_, rfl, by decide, by decide⟩
  simp [backO]
  refine hN _ ?_
  clear hN N
  refine q_cons fun N hN => ?_
  simp [w_oe, w_retv, w_lc, a_call, rb356 hD, lowR, onceO, rebOk, takeO, reb356]
  refine qC_mono (draw356 hD G hm (by decide)) ?_
  rintro v as ⟨c, gs, t, rfl, ⟨c0, c1, _⟩, rfl, G⟩
  have c2 := c1 (by decide)
  obtain ⟨cn, hcn, hc1, hc2⟩ : ∃ k : Nat, 1 + c = (k : Int) ∧ 1 ≤ k ∧ k ≤ 3 := ⟨(1 + c).toNat, by omega, by omega, by omega⟩
  simp [backO]
  refine ⟨by omega, ?_⟩
  rw [hcn, rngL_I]
  refine q_kindJ (J := fun l => ∃ gs t, Good gs ∧ l = [deckT gs m t, ⟨0, .int n⟩, ⟨0, .int sh⟩, ⟨0, .un⟩]) (K := fun d => ∃ rs, d = machD rs ∧ Bits n rs) ⟨gs, t, G, rfl⟩ (by rw [rngI_len]; omega) ?_ ?_
  · rintro z hz _ ⟨gs, t, G, rfl⟩
    simp [w_oe, a_call, rb870 h870, lowR, onceO, rebOk, takeO, r870]
    refine qC_mono (table870 h870 hD hm G hn hsh) ?_
    rintro v as ⟨rs, gs, t, rfl, hB, rfl, G⟩
    simp [backO]
    exact ⟨⟨rs, rfl, hB⟩, _, ⟨gs, G, t, rfl⟩, _, rfl⟩
  · rintro ds _ b hds hk ⟨gs, t, G, rfl⟩
    obtain ⟨ts, rfl, h5, h6⟩ := allTabs hk
    rw [rngI_len] at hds
    exact ⟨_, rfl, ts, gs, t, rfl, by omega, by omega, h6, rfl, G⟩
def BT (m : Int) (tab : D) (v : TV) (as : List TV) : Prop := ∃ x gs t, v = ⟨0, x⟩ ∧ Cl 7 2 x ∧ as = [deckT gs m t, ⟨0, tab⟩] ∧ Good gs
set_option maxHeartbeats 2000000 in
theorem bent874 {P : Nat → Option FD} {n0 : Nat} {m : Int} {gs : List Int} {t : Int} {n : Nat} {rs : List (List Int)} (hP : P 874 = some f874) (hD : P 356 = some f356) (hE : P 357 = some f357) (hm : 0 ≤ m ∧ m < 4294967296) (G : Good gs)
    (B : Bits n rs) (hn : 1 ≤ n ∧ n ≤ 5) : qC (evCall P (n0 + 3) 874 [deckT gs m t, ⟨0, machD rs⟩]) (BT m (machD rs)) := by
  refine qC_of hP rfl rfl ?_
  show qS (evSs _ _ _ b874 [deckT gs m t, ⟨0, .tup (rs.map rowD)⟩, ⟨0, .un⟩, ⟨0, .un⟩, ⟨0, .un⟩, ⟨0, .un⟩, ⟨0, .un⟩, ⟨0, .un⟩, ⟨0, .un⟩]) _
  unfold b874
  have hrow : ∀ x ∈ rs.map rowD, ∃ W, x = .tup W ∧ W.length = n ∧ ∀ y ∈ W, ∃ z : Int, y = .int z ∧ 0 ≤ z ∧ z ≤ 1 := fun x hx => by
    obtain ⟨r, hr, rfl⟩ := List.mem_map.mp hx
    refine ⟨r.map D.int, rfl, by rw [List.length_map]; exact B.row r hr, fun y hy => ?_⟩
    obtain ⟨z, hz, rfl⟩ := List.mem_map.mp hy
    exact ⟨z, rfl, B.ent r hr z hz⟩
  have hRl : (rs.map rowD).length = n := by rw [List.length_map]; exact B.len
  have hrs : rs.length = n := B.len
  have hleafI : ∀ y : D, (∃ z : Int, y = .int z ∧ 0 ≤ z ∧ z ≤ 1) → leafB y = true := fun y ⟨z, e, h⟩ => by subst e; exact leaf_int (by omega)
  have hrowC : ∀ x ∈ rs.map rowD, Cl 7 1 x := fun x hx => by
    obtain ⟨W, rfl, h2, h3⟩ := hrow x hx
    exact Cl_tup (by omega) fun y hy => Cl_leaf (hleafI y (h3 y hy))
  refine q_cons fun N hN => ?_
  simp [w_oe, lowF]
  refine hN _ ?_
  clear hN N
  refine q_cons fun N hN => ?_
  rw [w_asgT2 (by simp) (by simp)]
  simp [w_oe, a_call, rb356 hD, lowR, onceO, rebOk, takeO, reb356, hrs]
  refine qC_mono (draw356 hD G hm (by omega)) ?_
  rintro v as ⟨r, gs, t, rfl, hr, rfl, G⟩
  have hr := draw_lt hr (by omega)
  simp [backO]
  refine qC_mono (draw356 hD G hm (by omega)) ?_
  rintro v as ⟨a, gs, t, rfl, ha, rfl, G⟩
  have ha := draw_lt ha (by omega)
  simp [backO]
  refine hN _ ?_
  clear hN N
  refine q_cons fun N hN => ?_
  simp [w_oe]
  have hr1 : r.toNat < (rs.map rowD).length := by omega
  refine q_subR (xs := rs.map rowD) (j := r) (k := r.toNat) rfl (Nat.zero_le _) rfl (ix_pos hr.1 (by omega)) hr1 ?_
  obtain ⟨W, hW, w1, w3⟩ := hrow _ (List.getElem_mem hr1)
  rw [hW]
  simp
  refine hN _ ?_
  clear hN N
  refine q_cons fun N hN => ?_
  simp [w_oe]
  have ha1 : a.toNat < W.length := by omega
  refine q_subR (xs := W) (j := a) (k := a.toNat) rfl (Nat.zero_le _) rfl (ix_pos ha.1 (by omega)) ha1 ?_
  obtain ⟨z0, hz0, hz1⟩ := w3 _ (List.getElem_mem ha1)
  rw [hz0]
  simp [small, lowO, lowB, a_call, rb357 hE, lowR, onceO, rebOk, takeO, reb357]
  refine qC_mono (pick357 (xs := [.int (1 - z0), .int 2, .int (-1), .bl true, .bl false, .non, .str "1", .int 0]) hD hE G hm (.inl rfl) (Nat.le_refl 1) (by simp) (by simp)) ?_
  rintro v as ⟨item, gs, t, hitem, rfl, rfl, G⟩
  have hi1 : leafB item = true := by
    simp only [List.mem_cons, List.not_mem_nil, or_false] at hitem
    rcases hitem with rfl | rfl | rfl | rfl | rfl | rfl | rfl | rfl
    · exact leaf_int (by omega)
    · rfl
    · rfl
    · rfl
    · rfl
    · rfl
    · decide +kernel
    · rfl
  have hiu : item.isUn = false := by cases item <;> first | rfl | (simp [leafB] at hi1)
  clear hitem
  show N [deckT gs m t, ⟨0, .tup (rs.map rowD)⟩, ⟨0, .int n⟩, ⟨0, .tup W⟩, ⟨0, item⟩, ⟨0, .un⟩, ⟨0, .int r⟩, ⟨0, .int a⟩, ⟨0, .un⟩]
  refine hN _ ?_
  clear hN N
  have hWl : ∀ y ∈ W, leafB y = true := fun y hy => hleafI y (w3 y hy)
  -- the parts
  have a1 := cut_len (xs := rs.map rowD) (lo := none) (hi := some r)
  have a2 := cut_len (xs := rs.map rowD) (lo := some (r + 1)) (hi := none)
  have a3 : (cut (rs.map rowD) none (some r)).length + (cut (rs.map rowD) (some (r + 1)) none).length ≤ n := by
    unfold cut
    simp only [List.length_take, List.length_drop, hRl, cutIx]
    split <;> split <;> omega
  have b1 := cut_len (xs := W) (lo := none) (hi := some a)
  have b2 := cut_len (xs := W) (lo := some (a + 1)) (hi := none)
  have b3 : (cut W none (some a)).length + (cut W (some (a + 1)) none).length ≤ n := by
    unfold cut
    simp only [List.length_take, List.length_drop, w1, cutIx]
    split <;> split <;> omega
  have b4 := cut_len (xs := W) (lo := some 1) (hi := none)
  have m1 : ∀ y ∈ cut (rs.map rowD) none (some r), Cl 7 1 y := fun y hy => hrowC y (cut_mem hy)
  have m2 : ∀ y ∈ cut (rs.map rowD) (some (r + 1)) none, Cl 7 1 y := fun y hy => hrowC y (cut_mem hy)
  have n1 : ∀ y ∈ cut W none (some a), leafB y = true := fun y hy => hWl y (cut_mem hy)
  have n2 : ∀ y ∈ cut W (some (a + 1)) none, leafB y = true := fun y hy => hWl y (cut_mem hy)
  have n3 : ∀ y ∈ cut W (some 1) none, leafB y = true := fun y hy => hWl y (cut_mem hy)
  generalize hA1 : cut (rs.map rowD) none (some r) = A1 at *
  generalize hA2 : cut (rs.map rowD) (some (r + 1)) none = A2 at *
  generalize hB1 : cut W none (some a) = B1 at *
  generalize hB2 : cut W (some (a + 1)) none = B2 at *
  generalize hB3 : cut W (some 1) none = B3 at *
  have g1 : binD .add (.tup B1) (.tup [item]) = some ⟨0, .tup (B1 ++ [item])⟩ := b_addT (by simp; omega)
  have g2 : binD .add (.tup (B1 ++ [item])) (.tup B2) = some ⟨0, .tup (B1 ++ item :: B2)⟩ := by
    rw [b_addT (by simp; omega)]; simp
  have g3 : ∀ x, binD .add (.tup A1) (.tup [x]) = some ⟨0, .tup (A1 ++ [x])⟩ := fun x => b_addT (by simp; omega)
  have g4 : ∀ x, binD .add (.tup (A1 ++ [x])) (.tup A2) = some ⟨0, .tup (A1 ++ x :: A2)⟩ := fun x => by
    rw [b_addT (by simp; omega)]; simp
  have k1 : ∀ x, Cl 7 1 x → Cl 7 2 (.tup (A1 ++ x :: A2)) := fun x hx => Cl_tup (by simp; omega) fun y hy => by
    rcases mem_cons_app hy with q | rfl | q
    · exact m1 y q
    · exact hx
    · exact m2 y q
  have k2 : Cl 7 1 (.tup (B1 ++ item :: B2)) := Cl_tup (by simp; omega) fun y hy => by
    rcases mem_cons_app hy with q | rfl | q
    · exact Cl_leaf (n1 y q)
    · exact Cl_leaf hi1
    · exact Cl_leaf (n2 y q)
  have f5 : binD .mul (.lst [.tup (A1 ++ .tup (B1 ++ item :: B2) :: A2)]) (.int 4) = some ⟨1, .lst (List.replicate 4 [.tup (A1 ++ .tup (B1 ++ item :: B2) :: A2)]).flatten⟩ := b_mulL (by decide) (by simp)
  refine q_cons fun N hN => ?_
  simp [w_oe, hiu, small, lowB, lowO, lowF, hA1, hA2, hB1, hB2, g1, g2, g3, g4, f5]
  have hS0 : ∀ x ∈ [D.tup (A1 ++ D.tup (B1 ++ item :: B2) :: A2), D.tup (A1 ++ D.tup (B1 ++ item :: B2) :: A2), D.tup (A1 ++ D.tup (B1 ++ item :: B2) :: A2), D.tup (A1 ++ D.tup (B1 ++ item :: B2) :: A2)], Cl 7 2 x := fun x hx => by
    simp only [List.mem_cons, List.not_mem_nil, or_false, or_self] at hx
    subst hx
    exact k1 _ k2
  have hL0 : [D.tup (A1 ++ D.tup (B1 ++ item :: B2) :: A2), D.tup (A1 ++ D.tup (B1 ++ item :: B2) :: A2), D.tup (A1 ++ D.tup (B1 ++ item :: B2) :: A2), D.tup (A1 ++ D.tup (B1 ++ item :: B2) :: A2)].length = 4 := rfl
  generalize [D.tup (A1 ++ D.tup (B1 ++ item :: B2) :: A2), D.tup (A1 ++ D.tup (B1 ++ item :: B2) :: A2), D.tup (A1 ++ D.tup (B1 ++ item :: B2) :: A2), D.tup (A1 ++ D.tup (B1 ++ item :: B2) :: A2)] = S at hS0 hL0 ⊢
  refine hN _ ?_
  clear hN N f5 k2 g1 g2
  -- noughts
  obtain ⟨Z, g5, hZl, hZ⟩ : ∃ Z : List D, binD .mul (.tup [.int 0]) (.int n) = some ⟨0, .tup Z⟩ ∧ Z.length ≤ 5 ∧ ∀ y ∈ Z, leafB y = true := by
    by_cases q : n = 1
    · subst q
      exact ⟨_, b_mul1 (by simp), by simp, fun y hy => by simp at hy; subst hy; rfl⟩
    · refine ⟨_, b_mulT (by simp) ⟨by omega, by omega, by simp⟩, by rw [rep_len]; simp; omega, fun y hy => ?_⟩
      have := rep_mem hy
      simp at this; subst this; rfl
  have sR : ∀ (r : List Int) lo hi, slcD (rowD r) lo hi = some ⟨0, .tup (cut (r.map D.int) lo hi)⟩ := fun _ _ _ => rfl
  refine q_cons fun N hN => ?_
  simp [w_oe, w_lc, small, lowB, lowO, lowF, hA1, hA2, g3, g4, g5]
  refine q_mapJ (e := rowD) (g := fun q => .tup (cut (q.map D.int) none (some a) ++ .int 0 :: cut (q.map D.int) (some (a + 1)) none)) (J := fun l => l = [deckT gs m t, ⟨0, .tup (rs.map rowD)⟩, ⟨0, .int n⟩, ⟨0, .tup W⟩, ⟨0, item⟩, ⟨1, .lst S⟩, ⟨0, .int r⟩, ⟨0, .int a⟩, ⟨0, .un⟩]) rfl (by omega) ?_ ?_
  · rintro q hq _ rfl
    have hql := B.row q hq
    have c1 := cut_len (xs := q.map D.int) (lo := none) (hi := some a)
    have c2 := cut_len (xs := q.map D.int) (lo := some (a + 1)) (hi := none)
    rw [List.length_map] at c1 c2
    generalize hc1 : cut (q.map D.int) none (some a) = C1 at *
    generalize hc2 : cut (q.map D.int) (some (a + 1)) none = C2 at *
    have e1 : binD .add (.tup C1) (.tup [.int 0]) = some ⟨0, .tup (C1 ++ [.int 0])⟩ := b_addT (by simp; omega)
    have e2 : binD .add (.tup (C1 ++ [.int 0])) (.tup C2) = some ⟨0, .tup (C1 ++ .int 0 :: C2)⟩ := by
      rw [b_addT (by simp; omega)]; simp
    simp [w_oe, small, lowB, lowO, sR, hc1, hc2, e1, e2]
  · rintro _ b rfl
    refine ⟨_, rfl, ?_⟩
    have hcol : ∀ q ∈ rs, Cl 7 1 (.tup (cut (q.map D.int) none (some a) ++ .int 0 :: cut (q.map D.int) (some (a + 1)) none)) := fun q hq => by
      have hql := B.row q hq
      have hle : (cut (q.map D.int) none (some a)).length + (cut (q.map D.int) (some (a + 1)) none).length ≤ n := by
        unfold cut
        simp only [List.length_take, List.length_drop, List.length_map, cutIx]
        split <;> split <;> omega
      have hlf : ∀ y ∈ q.map D.int, leafB y = true := fun y hy => by
        obtain ⟨z, hz, rfl⟩ := List.mem_map.mp hy
        have := B.ent q hq z hz
        exact leaf_int (by omega)
      refine Cl_tup (by simp; omega) fun y hy => ?_
      rcases mem_cons_app hy with w | rfl | w
      · exact Cl_leaf (hlf y (cut_mem w))
      · exact Cl_leaf rfl
      · exact Cl_leaf (hlf y (cut_mem w))
    refine ⟨_, b_addL (by simp; omega), ?_⟩
    have hT : ∀ x ∈ S ++ [D.tup (A1 ++ .tup Z :: A2), .tup (rs.map fun q => .tup (cut (q.map D.int) none (some a) ++ .int 0 :: cut (q.map D.int) (some (a + 1)) none))], Cl 7 2 x := fun x hx => by
      rcases List.mem_append.mp hx with q | q
      · exact hS0 x q
      · simp only [List.mem_cons, List.not_mem_nil, or_false] at q
        rcases q with rfl | rfl
        · exact k1 _ (Cl_tup (by omega) fun y hy => Cl_leaf (hZ y hy))
        · refine Cl_tup (by rw [List.length_map]; omega) fun y hy => ?_
          obtain ⟨q, hq, rfl⟩ := List.mem_map.mp hy
          exact hcol q hq
    have hTl : (S ++ [D.tup (A1 ++ .tup Z :: A2), .tup (rs.map fun q => .tup (cut (q.map D.int) none (some a) ++ .int 0 :: cut (q.map D.int) (some (a + 1)) none))]).length = 6 := by simp; omega
    generalize hTT : S ++ [D.tup (A1 ++ .tup Z :: A2), .tup (rs.map fun q => .tup (cut (q.map D.int) none (some a) ++ .int 0 :: cut (q.map D.int) (some (a + 1)) none))] = T at hT hTl
    show N [deckT gs m t, ⟨0, .tup (rs.map rowD)⟩, ⟨0, .int n⟩, ⟨0, .tup W⟩, ⟨0, item⟩, ⟨1, .lst T⟩, ⟨0, .int r⟩, ⟨0, .int a⟩, ⟨0, .un⟩]
    refine hN _ ?_
    clear hN N hS0 hL0 hTT
    refine q_cons fun N hN => ?_
    have c1 := cut_hi (xs := rs.map rowD) (k := 1)
    have c4 := cut_len (xs := rs.map rowD) (lo := some 1) (hi := none)
    have m4 : ∀ y ∈ cut (rs.map rowD) (some 1) none, Cl 7 1 y := fun y hy => hrowC y (cut_mem hy)
    have m5 : ∀ y ∈ cut (rs.map rowD) none (some 1), Cl 7 1 y := fun y hy => hrowC y (cut_mem hy)
    have c1 : (cut (rs.map rowD) none (some 1)).length ≤ 1 := c1
    generalize hA3 : cut (rs.map rowD) (some 1) none = A3 at *
    generalize hA4 : cut (rs.map rowD) none (some 1) = A4 at *
    have g6 : binD .add (.tup (rs.map rowD)) (.tup A4) = some ⟨0, .tup (rs.map rowD ++ A4)⟩ := b_addT (by rw [hRl]; omega)
    simp [w_oe, small, lowB, lowO, lowF, hA1, hA2, hA3, hA4, g3, g4, g6]
    refine ⟨_, b_addL (by simp; omega), ?_⟩
    have hU : ∀ x ∈ T ++ [D.tup A3, .tup (rs.map rowD ++ A4), .lst (rs.map rowD), .tup (A1 ++ .lst W :: A2), .tup [], .non], Cl 7 2 x := fun x hx => by
      rcases List.mem_append.mp hx with q | q
      · exact hT x q
      · simp only [List.mem_cons, List.not_mem_nil, or_false] at q
        rcases q with rfl | rfl | rfl | rfl | rfl | rfl
        · exact Cl_tup (by omega) m4
        · refine Cl_tup (by rw [List.length_append, hRl]; omega) fun y hy => ?_
          rcases List.mem_append.mp hy with w | w
          · exact hrowC y w
          · exact m5 y w
        · exact Cl_lst (by omega) hrowC
        · exact k1 _ (Cl_lst (by omega) fun y hy => Cl_leaf (hWl y hy))
        · exact Cl_tup (by simp) fun y hy => by simp at hy
        · exact Cl_leaf rfl
    have hUl : (T ++ [D.tup A3, .tup (rs.map rowD ++ A4), .lst (rs.map rowD), .tup (A1 ++ .lst W :: A2), .tup [], .non]).length = 12 := by simp; omega
    generalize T ++ [D.tup A3, .tup (rs.map rowD ++ A4), .lst (rs.map rowD), .tup (A1 ++ .lst W :: A2), .tup [], .non] = U at hU hUl ⊢
    refine hN _ ?_
    clear hN N hT hTl
    refine q_cons fun N hN => ?_
    have o6 : binD .mul (.tup [.int 1]) (.int 6) = some ⟨0, .tup (List.replicate 6 (.int 1))⟩ := rfl
    have o5 : binD .mul (.tup [.int 1]) (.int 5) = some ⟨0, .tup (List.replicate 5 (.int 1))⟩ := rfl
    have hone : ∀ (k : Nat) (y : D), y ∈ List.replicate k (D.int 1) → leafB y = true := fun k y hy => by
      rw [List.eq_of_mem_replicate hy]; rfl
    generalize h6 : List.replicate 6 (D.int 1) = O6 at o6
    generalize h5 : List.replicate 5 (D.int 1) = O5 at o5
    have o66 : binD .mul (.tup [.tup O6]) (.int 6) = some ⟨0, .tup (List.replicate 6 (.tup O6))⟩ := rfl
    have o55 : binD .mul (.tup [.tup O5]) (.int 5) = some ⟨0, .tup (List.replicate 5 (.tup O5))⟩ := rfl
    generalize hP6 : List.replicate 6 (D.tup O6) = P6 at o66
    generalize hP5 : List.replicate 5 (D.tup O5) = P5 at o55
    have l6 : Cl 7 2 (.tup P6) := Cl_tup (by rw [← hP6, List.length_replicate]; decide) fun y hy => by
      rw [← hP6] at hy
      rw [List.eq_of_mem_replicate hy]
      exact Cl_tup (by rw [← h6, List.length_replicate]; decide) fun y hy => Cl_leaf (hone 6 y (h6 ▸ hy))
    have l5 : Cl 7 2 (.tup P5) := Cl_tup (by rw [← hP5, List.length_replicate]; decide) fun y hy => by
      rw [← hP5] at hy
      rw [List.eq_of_mem_replicate hy]
      exact Cl_tup (by rw [← h5, List.length_replicate]; decide) fun y hy => Cl_leaf (hone 5 y (h5 ▸ hy))
    simp [w_oe, w_retv, small, lowB, lowO, lowF, hA1, hA2, hB3, g3, g4, o6, o66, o5, o55]
    refine ⟨_, b_addL (by simp; omega), ?_⟩
    have hV : ∀ x ∈ U ++ [D.tup (A1 ++ .tup B3 :: A2), .tup P6, .tup P5, .tup [.tup [.int 0]]], Cl 7 2 x := fun x hx => by
      rcases List.mem_append.mp hx with q | q
      · exact hU x q
      · simp only [List.mem_cons, List.not_mem_nil, or_false] at q
        rcases q with rfl | rfl | rfl | rfl
        · exact k1 _ (Cl_tup (by omega) fun y hy => Cl_leaf (n3 y hy))
        · exact l6
        · exact l5
        · exact Cl_tup (by simp) fun y hy => by simp at hy; subst hy; exact Cl_tup (by simp) fun y hy => by simp at hy; subst hy; exact Cl_leaf rfl
    have hVl : (U ++ [D.tup (A1 ++ .tup B3 :: A2), .tup P6, .tup P5, .tup [.tup [.int 0]]]).length = 16 := by simp; omega
    have hVn : U ++ [D.tup (A1 ++ .tup B3 :: A2), .tup P6, .tup P5, .tup [.tup [.int 0]]] ≠ [] := by simp
    generalize U ++ [D.tup (A1 ++ .tup B3 :: A2), .tup P6, .tup P5, .tup [.tup [.int 0]]] = V at hV hVl hVn ⊢
    simp [a_call, rb357 hE, lowR, onceO, rebOk, takeO, reb357]
    refine qC_mono (pick357 (xs := V) hD hE G hm (.inl rfl) (Nat.le_refl 1) hVn (by omega)) ?_
    rintro v as ⟨x, gs', t', hx, rfl, rfl, G'⟩
    exact ⟨x, gs', t', rfl, hV x hx, rfl, G'⟩
end DL
end

section
set_option Elab.async false
set_option linter.all false
set_option maxRecDepth 100000
namespace DL
open PySem
def LV (x : D) : Prop := Shw 260000 3 x
theorem LV_of {xs : List D} (h : ∀ y ∈ xs, Cl 7 2 y) (hl : xs.length ≤ 30) : LV (.tup xs) ∧ LV (.lst xs) := by
  have hb : xs.length * (512 + 1) ≤ 260000 := Nat.le_trans (Nat.mul_le_mul_right _ hl) (by decide)
  have h2 : ∀ y ∈ xs, Shw 512 2 y := fun y hy => (Cl_shw (h y hy)).mono (by decide) (Nat.le_refl _)
  exact ⟨(Shw_tup h2).mono hb (by decide), (Shw_lst h2).mono hb (by decide)⟩
theorem LV_one {x : D} (h : Cl 7 2 x) : LV x := (Cl_shw h).mono (by decide) (by decide)
theorem LV_any {x : D} (h : Cl 30 3 x) : LV x := (Cl_shw h).mono (by decide) (by decide)
theorem LV_shd {x : D} (h : LV x) : Shd x := shd_of_shw h (by decide) (by decide)
theorem Bits.cl {n : Nat} {rs : List (List Int)} (B : Bits n rs) (hn : n ≤ 7) : Cl 7 2 (machD rs) := Cl_tup (by rw [List.length_map, B.len]; exact hn) fun y hy => by
  obtain ⟨r, hr, rfl⟩ := List.mem_map.mp hy
  refine Cl_tup (by rw [List.length_map, B.row r hr]; exact hn) fun y hy => ?_
  obtain ⟨z, hz, rfl⟩ := List.mem_map.mp hy
  have := B.ent r hr z hz
  exact Cl_int (by omega)
def BL (m : Int) (tabs : D) (v : TV) (as : List TV) : Prop := ∃ x gs t, v = ⟨0, x⟩ ∧ LV x ∧ as = [deckT gs m t, ⟨0, tabs⟩] ∧ Good gs
set_option maxHeartbeats 2000000 in
theorem bentL875 {P : Nat → Option FD} {n0 : Nat} {m : Int} {gs : List Int} {t : Int} {n : Nat} {ts : List (List (List Int))} (hP : P 875 = some f875) (h874 : P 874 = some f874) (h870 : P 870 = some f870) (h358 : P 358 = some f358) (hD : P 356 = some f356) (hE : P 357 = some f357) (hm : 0 ≤ m ∧ m < 4294967296) (G : Good gs)
    (B : ∀ x ∈ ts, Bits n x) (hn : 1 ≤ n ∧ n ≤ 5) (hl : 1 ≤ ts.length ∧ ts.length ≤ 3) : qC (evCall P (n0 + 8) 875 [deckT gs m t, ⟨0, .tup (ts.map machD)⟩]) (BL m (.tup (ts.map machD))) := by
  refine qC_of hP rfl rfl ?_
  have hTc : ∀ y ∈ ts.map machD, Cl 7 2 y ∧ y.isM = false := fun y hy => by
    obtain ⟨x, hx, rfl⟩ := List.mem_map.mp hy
    exact ⟨(B x hx).cl (by omega), rfl⟩
  have hTl : (ts.map machD).length = ts.length := by rw [List.length_map]
  show qS (evSs _ _ _ b875 [deckT gs m t, ⟨0, .tup (ts.map machD)⟩, ⟨0, .un⟩, ⟨0, .un⟩, ⟨0, .un⟩, ⟨0, .un⟩, ⟨0, .un⟩]) _
  unfold b875
  have r874 : f874.reb 0 = false ∧ f874.reb 1 = false := ⟨rfl, rfl⟩
  have r870 : f870.reb 0 = false ∧ f870.reb 1 = false ∧ f870.reb 2 = false := ⟨rfl, rfl, rfl⟩
  refine q_cons fun N hN => ?_
  rw [w_asgP2]
  simp [w_oe, lowF, a_call, rb356 hD, lowR, onceO, rebOk, takeO, reb356]
  refine qC_mono (draw356 hD G hm (by omega)) ?_
  rintro v as ⟨a, gs, t, rfl, ha, rfl, G⟩
  have ha := draw_lt ha (by omega)
  simp [backO, lowF]
  refine qC_mono (draw356 hD G hm (by omega)) ?_
  rintro v as ⟨b, gs, t, rfl, hb, rfl, G⟩
  have hb := draw_lt hb (by omega)
  simp [backO]
  refine hN _ ?_
  clear hN N
  -- the parts
  have tab_at : ∀ {i : Int}, 0 ≤ i ∧ i < (ts.length : Int) → ∃ (h : i.toNat < (ts.map machD).length) (x : List (List Int)), x ∈ ts ∧ (ts.map machD)[i.toNat] = machD x := fun {i} hi => by
    have h : i.toNat < ts.length := by omega
    exact ⟨by rw [List.length_map]; exact h, ts[i.toNat], List.getElem_mem h, by rw [List.getElem_map]⟩
  have a1 := cut_len (xs := ts.map machD) (lo := none) (hi := some a)
  have a2 := cut_len (xs := ts.map machD) (lo := some (a + 1)) (hi := none)
  have m1 : ∀ y ∈ cut (ts.map machD) none (some a), Cl 7 2 y := fun y hy => (hTc y (cut_mem hy)).1
  have m2 : ∀ y ∈ cut (ts.map machD) (some (a + 1)) none, Cl 7 2 y := fun y hy => (hTc y (cut_mem hy)).1
  generalize hA1 : cut (ts.map machD) none (some a) = A1 at *
  generalize hA2 : cut (ts.map machD) (some (a + 1)) none = A2 at *
  have g3 : ∀ x, binD .add (.tup A1) (.tup [x]) = some ⟨0, .tup (A1 ++ [x])⟩ := fun x => b_addT (by simp; omega)
  have g4 : ∀ x, binD .add (.tup (A1 ++ [x])) (.tup A2) = some ⟨0, .tup (A1 ++ x :: A2)⟩ := fun x => by
    rw [b_addT (by simp; omega)]; simp
  have k1 : ∀ x, Cl 7 2 x → ∀ y ∈ A1 ++ x :: A2, Cl 7 2 y := fun x hx y hy => by
    rcases mem_cons_app hy with q | rfl | q
    · exact m1 y q
    · exact hx
    · exact m2 y q
  refine q_cons fun N hN => ?_
  simp [w_oe, a_call, rb356 hD, lowR, onceO, rebOk, takeO, reb356]
  refine qC_mono (draw356 hD G hm (by decide)) ?_
  rintro v as ⟨w, gs, t, rfl, ⟨w0, _, _⟩, rfl, G⟩
  simp [backO]
  by_cases hw : 0 < w
  · right
    refine ⟨hw, ?_⟩
    refine q_cons fun N1 hN1 => ?_
    simp [w_oe, lowO, hA1]
    obtain ⟨hai, xa, hxa, ea⟩ := tab_at ha
    refine q_subR (xs := ts.map machD) (j := a) (k := a.toNat) rfl (Nat.zero_le _) rfl (ix_pos ha.1 (by rw [List.length_map]; exact ha.2)) hai ?_
    rw [ea]
    simp [a_call, rb_of h874, lowR, onceO, rebOk, takeO, r874]
    refine qC_mono (bent874 (n0 := n0 + 4) h874 hD hE hm G (B xa hxa) hn) ?_
    rintro v as ⟨x, gs, t, rfl, hx, rfl, G⟩
    simp [backO, small, lowO, lowB, g3, hA2, g4]
    refine hN1 _ ?_
    clear hN1 N1
    have hM := k1 x hx
    have hMl : (A1 ++ x :: A2).length ≤ 7 := by simp; omega
    generalize A1 ++ x :: A2 = M at hM hMl ⊢
    have c1 := cut_len (xs := M) (lo := none) (hi := some b)
    have c2 := cut_len (xs := M) (lo := some (b + 1)) (hi := none)
    have n1 : ∀ y ∈ cut M none (some b), Cl 7 2 y := fun y hy => hM y (cut_mem hy)
    have n2 : ∀ y ∈ cut M (some (b + 1)) none, Cl 7 2 y := fun y hy => hM y (cut_mem hy)
    generalize hC1 : cut M none (some b) = C1 at *
    generalize hC2 : cut M (some (b + 1)) none = C2 at *
    have g5 : ∀ x, binD .add (.tup C1) (.tup [x]) = some ⟨0, .tup (C1 ++ [x])⟩ := fun x => b_addT (by simp; omega)
    have g6 : ∀ x, binD .add (.tup (C1 ++ [x])) (.tup C2) = some ⟨0, .tup (C1 ++ x :: C2)⟩ := fun x => by
      rw [b_addT (by simp; omega)]; simp
    refine q_cons fun N1 hN1 => ?_
    clear hN1
    simp [w_oe, w_retv, a_call, rb356 hD, lowR, onceO, rebOk, takeO, reb356]
    refine qC_mono (draw356 hD G hm (by decide)) ?_
    rintro v as ⟨w2, gs, t, rfl, _, rfl, G⟩
    simp [backO]
    by_cases hw2 : w2 = 0
    · simp [hw2, w_oe, lowO, hC1]
      obtain ⟨hbi, xb, hxb, eb⟩ := tab_at hb
      refine q_subR (xs := ts.map machD) (j := b) (k := b.toNat) rfl (Nat.zero_le _) rfl (ix_pos hb.1 (by rw [List.length_map]; exact hb.2)) hbi ?_
      rw [eb]
      simp [a_call, rb_of h874, lowR, onceO, rebOk, takeO, r874]
      refine qC_mono (bent874 (n0 := n0 + 4) h874 hD hE hm G (B xb hxb) hn) ?_
      rintro v as ⟨y, gs, t, rfl, hy, rfl, G⟩
      simp [backO, small, lowO, lowB, g5, hC2, g6]
      exact ⟨_, gs, t, rfl, (LV_of (fun z hz => by
        rcases mem_cons_app hz with q | rfl | q
        · exact n1 z q
        · exact hy
        · exact n2 z q) (by simp; omega)).1, rfl, G⟩
    · simp [hw2]
      exact ⟨_, gs, t, rfl, (LV_of hM (by omega)).1, rfl, G⟩
  · left
    refine ⟨by omega, ?_⟩
    refine hN _ ?_
    clear hN N
    refine q_cons fun N hN => ?_
    simp [w_oe, a_call, rb356 hD, lowR, onceO, rebOk, takeO, reb356]
    refine qC_mono (draw356 hD G hm (by decide)) ?_
    rintro v as ⟨c, gs, t, rfl, ⟨c0, c1, _⟩, rfl, G⟩
    have c2 := c1 (by decide)
    obtain ⟨cn, hcn, hc1, hc2⟩ : ∃ k : Nat, 1 + c = (k : Int) ∧ 1 ≤ k ∧ k ≤ 5 := ⟨(1 + c).toNat, by omega, by omega, by omega⟩
    simp [backO, hcn, rb_of h870, lowR, onceO, rebOk, takeO, r870]
    refine qC_mono (table870 (n0 := n0 + 5) h870 hD hm G (by omega) (by decide)) ?_
    rintro v as ⟨ro, gs, t, rfl, hBo, rfl, G⟩
    have hoc := hBo.cl (by omega)
    simp [backO]
    refine hN _ ?_
    clear hN N
    refine q_cons fun N hN => ?_
    have hne : ts.map machD ≠ [] := fun h => by rw [h] at hTl; simp at hTl; omega
    have d5 := b_mulT (x := ts.map machD) (j := 5) hne ⟨by decide, by decide, by omega⟩
    have d4 := b_mulT (x := ts.map machD) (j := 4) hne ⟨by decide, by decide, by omega⟩
    have hX5 : ∀ y ∈ (List.replicate (5 : Int).toNat (ts.map machD)).flatten, Cl 7 2 y := fun y hy => (hTc y (rep_mem hy)).1
    have hX5l : (List.replicate (5 : Int).toNat (ts.map machD)).flatten.length ≤ 15 := by rw [rep_len, hTl]; show 5 * ts.length ≤ 15; omega
    have hX4 : ∀ y ∈ (List.replicate (4 : Int).toNat (ts.map machD)).flatten, Cl 7 2 y := fun y hy => (hTc y (rep_mem hy)).1
    have hX4l : (List.replicate (4 : Int).toNat (ts.map machD)).flatten.length ≤ 12 := by rw [rep_len, hTl]; show 4 * ts.length ≤ 12; omega
    generalize (List.replicate (5 : Int).toNat (ts.map machD)).flatten = X5 at d5 hX5 hX5l
    generalize (List.replicate (4 : Int).toNat (ts.map machD)).flatten = X4 at d4 hX4 hX4l
    simp [w_oe, lowO, lowB, lowF, d5, d4]
    refine ⟨rfl, ?_⟩
    obtain ⟨hai, xa, hxa, ea⟩ := tab_at ha
    refine q_subR (xs := ts.map machD) (j := a) (k := a.toNat) rfl (Nat.zero_le _) rfl (ix_pos ha.1 (by rw [List.length_map]; exact ha.2)) hai ?_
    rw [ea]
    simp [a_call, rb_of h358, lowR, onceO, rebOk, takeO, reb358]
    refine qC_mono (any358 (n := n0 + 1) h358 hD hE hm 3 G) ?_
    rintro v as ⟨any, gs, t, rfl, hany, rfl, G⟩
    simp [backO, small]
    have hS : ∀ x ∈ [D.tup (ts.map machD).reverse, .tup X5, .tup (cut X4 none (some 4)), .lst (ts.map machD), .tup [], machD xa, .non, any], LV x := fun x hx => by
      have hall : ∀ y ∈ ts.map machD, Cl 7 2 y := fun y hy => (hTc y hy).1
      simp only [List.mem_cons, List.not_mem_nil, or_false] at hx
      rcases hx with rfl | rfl | rfl | rfl | rfl | rfl | rfl | rfl
      · exact (LV_of (fun y hy => hall y (List.mem_reverse.mp hy)) (by rw [List.length_reverse]; omega)).1
      · exact (LV_of hX5 (by omega)).1
      · exact (LV_of (fun y hy => hX4 y (cut_mem hy)) (Nat.le_trans cut_len (by omega))).1
      · exact (LV_of hall (by omega)).2
      · exact (LV_of (xs := []) (fun y hy => by simp at hy) (by simp)).1
      · exact LV_one ((B xa hxa).cl (by omega))
      · exact LV_one (Cl_leaf rfl)
      · exact LV_any hany
    have hSl : [D.tup (ts.map machD).reverse, .tup X5, .tup (cut X4 none (some 4)), .lst (ts.map machD), .tup [], machD xa, .non, any].length = 8 := rfl
    generalize [D.tup (ts.map machD).reverse, .tup X5, .tup (cut X4 none (some 4)), .lst (ts.map machD), .tup [], machD xa, .non, any] = S at hS hSl ⊢
    refine hN _ ?_
    clear hN N d4 d5
    refine q_cons fun N hN => ?_
    have c3 := cut_hi (xs := ts.map machD) (k := 3)
    have c3 : (cut (ts.map machD) none (some 3)).length ≤ 3 := c3
    have m3 : ∀ y ∈ cut (ts.map machD) none (some 3), Cl 7 2 y := fun y hy => (hTc y (cut_mem hy)).1
    generalize hA3 : cut (ts.map machD) none (some 3) = A3 at *
    have g7 : binD .add (.tup A3) (.tup [machD ro]) = some ⟨0, .tup (A3 ++ [machD ro])⟩ := b_addT (by simp; omega)
    have g8 : binD .add (.tup [machD ro]) (.tup A3) = some ⟨0, .tup (machD ro :: A3)⟩ := b_addT (by simp; omega)
    simp [w_oe, small, lowB, lowO, lowF, hA1, hA2, hA3, g3, g4, g7, g8]
    refine ⟨_, b_addL (by simp; omega), ?_⟩
    have hT : ∀ x ∈ S ++ [D.tup (A1 ++ machD ro :: A2), .tup (A3 ++ [machD ro]), .tup (machD ro :: A3)], LV x := fun x hx => by
      rcases List.mem_append.mp hx with q | q
      · exact hS x q
      · simp only [List.mem_cons, List.not_mem_nil, or_false] at q
        rcases q with rfl | rfl | rfl
        · exact (LV_of (k1 _ hoc) (by simp; omega)).1
        · refine (LV_of (fun y hy => ?_) (by simp; omega)).1
          rcases List.mem_append.mp hy with w | w
          · exact m3 y w
          · obtain rfl : y = machD ro := by simpa using w
            exact hoc
        · refine (LV_of (fun y hy => ?_) (by simp; omega)).1
          rcases List.mem_cons.mp hy with rfl | w
          · exact hoc
          · exact m3 y w
    have hTn : S ++ [D.tup (A1 ++ machD ro :: A2), .tup (A3 ++ [machD ro]), .tup (machD ro :: A3)] ≠ [] := by simp
    have hTl2 : (S ++ [D.tup (A1 ++ machD ro :: A2), .tup (A3 ++ [machD ro]), .tup (machD ro :: A3)]).length = 11 := by simp; omega
    generalize S ++ [D.tup (A1 ++ machD ro :: A2), .tup (A3 ++ [machD ro]), .tup (machD ro :: A3)] = T at hT hTn hTl2 ⊢
    refine hN _ ?_
    clear hN N
    refine q_cons fun N hN => ?_
    simp [w_oe, w_retv, a_call, rb357 hE, lowR, onceO, rebOk, takeO, reb357]
    refine qC_mono (pick357 (xs := T) hD hE G hm (.inl rfl) (Nat.le_refl 1) hTn (by omega)) ?_
    rintro v as ⟨x, gs', t', hx, rfl, rfl, G'⟩
    exact ⟨x, gs', t', rfl, hT x hx, rfl, G'⟩
end DL
end

section
set_option Elab.async false
set_option linter.all false
set_option maxRecDepth 100000
namespace DL
open PySem
structure K57 (P : Nat → Option FD) : Prop where
  h1 : P 1 = some f1
  h356 : P 356 = some f356
  h357 : P 357 = some f357
  h358 : P 358 = some f358
  h359 : P 359 = some f359
  h360 : P 360 = some f360
  h867 : P 867 = some f867
  h868 : P 868 = some f868
  h869 : P 869 = some f869
  h870 : P 870 = some f870
  h871 : P 871 = some f871
  h872 : P 872 = some f872
  h873 : P 873 = some f873
  h874 : P 874 = some f874
  h875 : P 875 = some f875
  h876 : P 876 = some f876
set_option maxHeartbeats 1000000 in
theorem deck869 {P : Nat → Option FD} {n : Nat} {is : List Int} (hP : P 869 = some f869) (h : is.length ≤ 63) : qC (evCall P (n + 1) 869 [⟨0, .lst (is.map D.int)⟩]) (DeckQ ⟨0, .lst (is.map D.int)⟩) := by
  refine qC_of hP rfl rfl ?_
  show qS (evSs _ _ _ b869 [⟨0, .lst (is.map D.int)⟩, ⟨0, .un⟩, ⟨0, .un⟩, ⟨0, .un⟩]) _
  unfold b869
  have hlen : b1D .len (.lst (is.map D.int)) = some ⟨0, .int is.length⟩ := by
    show some (TV.mk 0 (.int ((is.map D.int).length : Nat))) = _
    rw [List.length_map]
  have hu : (D.lst (is.map D.int)).isUn = false := rfl
  refine q_cons fun N hN => ?_
  simp [w_oe, w_retv, hu, sl63 is h, hlen, lowO, lowF, lowB]
  refine ⟨rfl, ?_⟩
  show qE (.ok (deckT [] (1752357 + (is.length : Int)) 0) [⟨0, .lst (is.map D.int)⟩, ⟨0, .un⟩, ⟨0, .un⟩, ⟨0, .un⟩]) _
  rw [qE_ok]
  show N [⟨0, .lst (is.map D.int)⟩, deckT [] (1752357 + (is.length : Int)) 0, ⟨0, .un⟩, ⟨0, .un⟩]
  refine hN _ ?_
  clear hN N
  refine q_cons fun N hN => ?_
  rw [w_forr]
  simp [w_oe, hu, sl63 is h, lowO, seqOf]
  refine q_for (fun xs l => ∃ js gs m a b, xs = js.map D.int ∧ l = [⟨0, .lst (is.map D.int)⟩, deckT gs m 0, a, b] ∧ (∀ g ∈ gs, 0 ≤ g) ∧ gs.length + js.length ≤ 63 ∧ 0 ≤ m ∧ m < 4294967296) _ _ ⟨is, [], _, _, _, rfl, rfl, by simp, by simpa using h, by omega, by omega⟩ ?_ ?_
  · rintro x r l ⟨js, gs, m, a, b, e, rfl, g1, g2, m1, m2⟩
    obtain ⟨j, js, rfl, rfl, rfl⟩ : ∃ j js', js = j :: js' ∧ x = .int j ∧ r = js'.map D.int := by
      cases js with
      | nil => cases e
      | cons j js' => cases e; exact ⟨j, js', rfl, rfl, rfl⟩
    show qS (evSs _ _ _ _ [⟨0, .lst (is.map D.int)⟩, deckT gs m 0, ⟨0, .int j⟩, b]) _
    refine q_cons fun N1 hN1 => ?_
    simp [w_oe, mul_l, lowF, lowB, lowO]
    have rest : ∀ own : Int, 0 ≤ own → N1 [⟨0, .lst (is.map D.int)⟩, deckT gs m 0, ⟨0, .int j⟩, ⟨0, .int own⟩] := fun own ho => by
      refine hN1 _ ?_
      clear hN1 N1
      refine q_cons fun N1 hN1 => ?_
      have fin : ∀ gs2 : List Int, (∀ g ∈ gs2, 0 ≤ g) → gs2.length + js.length ≤ 63 → N1 [⟨0, .lst (is.map D.int)⟩, deckT gs2 m 0, ⟨0, .int j⟩, ⟨0, .int own⟩] := fun gs2 h1 h2 => by
        refine hN1 _ ?_
        clear hN1 N1
        refine q_cons fun N1 hN1 => ?_
        simp [w_oe, a_subD1, sub_mixed, mul_r, b_mod, lowF, lowB, lowO, set_mixed1]
        refine hN1 _ ?_
        rw [w_snil]
        exact ⟨js, gs2, _, _, _, rfl, rfl, h1, h2, Int.emod_nonneg _ (by decide), by have := Int.emod_lt_of_pos (m * 69621 + own + 29) (show (0:Int) < 4294967291 by decide); omega⟩
      have g3 : gs.length + js.length + 1 ≤ 63 := by simpa [Nat.add_assoc] using g2
      by_cases hb : 10000000000000000 ≤ own
      · simp [w_oe, w_scons, inL_deck, flatV, hb, outL_deck (snoc_map (gs := gs) (g := own)).symm]
        refine ⟨decide_eq_true (by omega), fin _ (fun g hg => ?_) (by simp; omega)⟩
        rcases List.mem_append.mp hg with hg | hg
        · exact g1 g hg
        · obtain rfl : g = own := by simpa using hg
          exact ho
      · simp [w_oe, w_scons, hb]
        exact fin gs g1 (by omega)
    by_cases hj : j < 0
    · right
      refine ⟨hj, ?_⟩
      rw [if_pos hj]
      exact rest _ (by omega)
    · left
      refine ⟨by omega, ?_⟩
      rw [if_neg hj]
      exact rest _ (by omega)
  · rintro l ⟨js, gs, m, a, b, e, rfl, g1, g2, m1, m2⟩
    refine hN _ ?_
    clear hN N
    refine q_cons fun N hN => ?_
    simp
    exact ⟨gs, m, 0, rfl, ⟨g1, by omega⟩, ⟨m1, m2⟩, rfl⟩

@[simp] theorem un_strK {x : Str} : (D.str x).isUn = false := rfl
@[simp] theorem c_isnK {d : D} : cmpD .isc d .non = some (isNon d) := rfl
theorem rowE_cl : ∀ {k : Nat} {rs : List (List Int)} {e : D}, rowE k rs = some e → k + rs.length ≤ 1000 → Cl 30 1 e
  | _, [], _, h, _ => by cases h
  | k, r :: rs, e, h, hl => by
    have hl' : k + (rs.length + 1) ≤ 1000 := hl
    simp only [rowE] at h
    split at h
    · exact rowE_cl h (by omega)
    · cases h
      refine Cl_tup (by simp) fun y hy => ?_
      simp only [List.mem_cons, List.not_mem_nil, or_false] at hy
      rcases hy with rfl | rfl
      · exact Cl_leaf (by decide +kernel)
      · exact Cl_int (by omega)
theorem colE_cl {rs : List (List Int)} : ∀ {js : List Int} {e : D}, colE rs js = some e → (∀ j ∈ js, j.natAbs < 100000) → Cl 30 1 e
  | [], _, h, _ => by cases h
  | j :: js, e, h, hl => by
    simp only [colE] at h
    split at h
    · exact colE_cl h fun z hz => hl z (by simp [hz])
    · cases h
      refine Cl_tup (by simp) fun y hy => ?_
      simp only [List.mem_cons, List.not_mem_nil, or_false] at hy
      rcases hy with rfl | rfl
      · exact Cl_leaf (by decide +kernel)
      · have := hl j (by simp)
        exact Cl_int (by omega)
theorem itemErr_cl : ∀ {k : Nat} {rows : List D} {e : D}, itemErr k rows = some e → (∀ r ∈ rows, ∃ xs, r = .tup xs ∧ xs.length ≤ 5) → k + rows.length ≤ 1000 → Cl 30 1 e
  | _, [], _, h, _, _ => by cases h
  | k, x :: r, e, h, ht, hl => by
    have hl' : k + (r.length + 1) ≤ 1000 := hl
    obtain ⟨xs, rfl, hx⟩ := ht x (by simp)
    simp only [itemErr] at h
    cases hb : badAt 1 0 xs with
    | none => rw [hb] at h; exact itemErr_cl h (fun y hy => ht y (by simp [hy])) (by omega)
    | some j =>
      rw [hb] at h
      cases h
      have := badAt_lt hb
      refine Cl_tup (by simp) fun y hy => ?_
      simp only [List.mem_cons, List.not_mem_nil, or_false] at hy
      rcases hy with rfl | rfl | rfl
      · exact Cl_leaf (by decide +kernel)
      · exact Cl_int (by omega)
      · exact Cl_int (by omega)
theorem onesErr_cl (v : D) : Cl 30 1 (onesErr v) := by
  unfold onesErr
  cases hs : tblSq v with
  | false => exact Cl_leaf (show leafB (.str "form") = true by decide +kernel)
  | true =>
    obtain ⟨rows, rfl, l1, l2, hrows⟩ := tblSq_tup hs
    simp only [if_true]
    cases hi : itemErr 0 rows with
    | some e => exact itemErr_cl hi (fun r hr => (hrows r hr).elim fun xs q => ⟨xs, q.1, by omega⟩) (by omega)
    | none =>
      obtain ⟨rs, hrs, hB⟩ := bits_of hi hrows
      subst hrs
      rw [toRs_map]
      rw [List.length_map] at l2
      simp only
      unfold tailV
      cases h1 : rowE 0 rs with
      | some e => exact rowE_cl h1 (by omega)
      | none =>
        cases h2 : colE rs (rngI rs.length) with
        | some e => exact colE_cl h2 fun j hj => by have := rngI_mem hj; omega
        | none => exact Cl_leaf rfl
theorem tabE_cl : ∀ {k : Nat} {xs : List D} {e : D}, tabE k xs = some e → k + xs.length ≤ 1000 → Cl 30 2 e
  | _, [], _, h, _ => by cases h
  | k, x :: r, e, h, hl => by
    have hl' : k + (r.length + 1) ≤ 1000 := hl
    simp only [tabE] at h
    split at h
    · exact tabE_cl h (by omega)
    · cases h
      refine Cl_tup (by simp) fun y hy => ?_
      simp only [List.mem_cons, List.not_mem_nil, or_false] at hy
      rcases hy with rfl | rfl | rfl
      · exact Cl_leaf (by decide +kernel)
      · exact Cl_int (by omega)
      · exact onesErr_cl x
theorem sizeE_cl {n : Nat} : ∀ {k : Nat} {xs : List D} {e : D}, sizeE n k xs = some e → k + xs.length ≤ 1000 → Cl 30 2 e
  | _, [], _, h, _ => by cases h
  | k, x :: r, e, h, hl => by
    have hl' : k + (r.length + 1) ≤ 1000 := hl
    simp only [sizeE] at h
    split at h
    · exact sizeE_cl h (by omega)
    · cases h
      refine Cl_tup (by simp) fun y hy => ?_
      simp only [List.mem_cons, List.not_mem_nil, or_false] at hy
      rcases hy with rfl | rfl
      · exact Cl_leaf (by decide +kernel)
      · exact Cl_int (by omega)
theorem lotErr_cl (v : D) : Cl 30 2 (lotErr v) := by
  unfold lotErr
  split
  · rename_i xs
    split
    · rename_i hl
      cases h1 : tabE 0 xs with
      | some e => exact tabE_cl h1 (by omega)
      | none =>
        simp only
        cases h2 : sizeE (lenD (xs.headD .un)) 0 xs with
        | some e => exact sizeE_cl h2 (by omega)
        | none => exact Cl_leaf rfl
    · exact Cl_leaf (by decide +kernel)
  · exact Cl_leaf (by decide +kernel)
set_option maxHeartbeats 4000000 in
theorem law876 {P : Nat → Option FD} {n : Nat} (K : K57 P) (is : List Int) (h : is.length ≤ 63) : qC (evCall P (n + 10) 876 [⟨0, .lst (is.map D.int)⟩]) (fun v _ => v = ⟨0, .bl true⟩) := by
  obtain ⟨h1, h356, h357, h358, h359, h360, h867, h868, h869, h870, h871, h872, h873, h874, h875, h876⟩ := K
  refine qC_of h876 rfl rfl ?_
  generalize hsc : D.lst (is.map D.int) = sc
  have hscu : sc.isUn = false := by rw [← hsc]; rfl
  show qS (evSs _ _ _ b876 [⟨0, sc⟩, ⟨0, .un⟩, ⟨0, .un⟩, ⟨0, .un⟩, ⟨0, .un⟩, ⟨0, .un⟩, ⟨0, .un⟩, ⟨0, .un⟩, ⟨0, .un⟩, ⟨0, .un⟩, ⟨0, .un⟩, ⟨0, .un⟩, ⟨0, .un⟩]) _
  unfold b876
  have r869 : f869.reb 0 = false := rfl
  have r360 : f360.reb 0 = false := rfl
  have r867 : f867.reb 0 = false := rfl
  have r868 : f868.reb 0 = false := rfl
  have r872 : f872.reb 0 = false := rfl
  have r873 : f873.reb 0 = false := rfl
  have r871 : f871.reb 0 = false ∧ f871.reb 1 = false := ⟨rfl, rfl⟩
  have r874 : f874.reb 0 = false ∧ f874.reb 1 = false := ⟨rfl, rfl⟩
  have r875 : f875.reb 0 = false ∧ f875.reb 1 = false := ⟨rfl, rfl⟩
  refine q_cons fun N hN => ?_
  simp [w_oe, hscu, a_call, rb_of h869, lowR, onceO, rebOk, takeO, r869]
  have q869 := deck869 (n := n + 8) h869 h
  rw [hsc] at q869
  refine qC_mono q869 ?_
  rintro v as ⟨gs, m, t, rfl, G, hm, rfl⟩
  simp [backO]
  refine hN _ ?_
  clear hN N
  refine q_cons fun N hN => ?_
  rw [w_forr]
  simp [w_oe]
  refine q_for (fun xs l => ∃ (gs : List Int) (t : Int) (a2 a3 a4 a5 a6 a7 a8 a9 a10 a11 a12 : TV), Good gs ∧ l = [⟨0, sc⟩, deckT gs m t, a2, a3, a4, a5, a6, a7, a8, a9, a10, a11, a12]) _ _ ⟨gs, t, _, _, _, _, _, _, _, _, _, _, _, G, rfl⟩ ?_ ?_
  · rintro x xs l ⟨gs, t, a2, a3, a4, a5, a6, a7, a8, a9, a10, a11, a12, G, rfl⟩
    show qS (evSs _ _ _ _ [⟨0, sc⟩, deckT gs m t, ⟨0, x⟩, a3, a4, a5, a6, a7, a8, a9, a10, a11, a12]) _
    -- the tables
    refine q_cons fun N1 hN1 => ?_
    simp [w_oe, a_call, rb356 h356, lowR, onceO, rebOk, takeO, reb356]
    refine qC_mono (draw356 h356 G hm (by decide)) ?_
    rintro v as ⟨c, gs, t, rfl, ⟨c0, c1, _⟩, rfl, G⟩
    have c2 := c1 (by decide)
    obtain ⟨sd, hcn, hc1, hc2⟩ : ∃ k : Nat, 1 + c = (k : Int) ∧ 1 ≤ k ∧ k ≤ 5 := ⟨(1 + c).toNat, by omega, by omega, by omega⟩
    simp [backO, hcn, rb_of h871, lowR, onceO, rebOk, takeO, r871]
    refine qC_mono (tabs871 (n0 := n + 6) h871 h870 h357 h356 hm G (by omega)) ?_
    rintro v as ⟨ts, gs, t, rfl, l1, l2, hB, rfl, G⟩
    simp [backO]
    refine hN1 _ ?_
    clear hN1 N1
    refine q_cons fun N1 hN1 => ?_
    simp [w_oe, a_call, rb357 h357, lowR, onceO, rebOk, takeO, reb357]
    refine qC_mono (pick357 (xs := ts.map machD) h356 h357 G hm (.inr rfl) (Nat.zero_le _) (fun q => by rw [List.map_eq_nil_iff.mp q] at l1; simp at l1) (by rw [List.length_map]; omega)) ?_
    rintro v as ⟨tb, gs, t, htb, rfl, rfl, G⟩
    obtain ⟨tab, htab, rfl⟩ := List.mem_map.mp htb
    have hT := hB tab htab
    simp [backO]
    refine hN1 _ ?_
    clear hN1 N1
    refine q_cons fun N1 hN1 => ?_
    simp [w_oe, a_call, rb_of h874, lowR, onceO, rebOk, takeO, r874]
    refine qC_mono (bent874 (n0 := n + 6) h874 h356 h357 hm G hT (by omega)) ?_
    rintro v as ⟨bent, gs, t, rfl, hbent, rfl, G⟩
    have hbs : Shd bent := LV_shd (LV_one hbent)
    have hbu := ok_un hbs.1
    simp [backO]
    refine hN1 _ ?_
    clear hN1 N1
    -- the values
    refine q_cons fun N1 hN1 => ?_
    simp [w_oe, w_lc, a_call, rb_of h360, lowR, onceO, rebOk, takeO, r360]
    refine qC_mono (odd360 (n := n + 6) h360 h356 h357 G hm) ?_
    rintro v as ⟨odd, gs, t, hodd, rfl, rfl, G⟩
    have hodd := shd_odd hodd
    simp [backO, hbu, small, lowO]
    rw [show rngL 0 7 = (rngI 7).map D.int from rngL_I 7]
    refine q_kindJ (J := fun l => ∃ gs t, Good gs ∧ l = [⟨0, sc⟩, deckT gs m t, ⟨0, x⟩, ⟨0, .tup (ts.map machD)⟩, ⟨0, machD tab⟩, ⟨0, bent⟩, a6, a7, a8, a9, a10, a11, a12]) (K := Shd) ⟨gs, t, G, rfl⟩ (by decide) ?_ ?_
    · rintro z hz _ ⟨gs, t, G, rfl⟩
      simp [w_oe, a_call, rb_of h874, lowR, onceO, rebOk, takeO, r874]
      refine qC_mono (bent874 (n0 := n + 6) h874 h356 h357 hm G hT (by omega)) ?_
      rintro v as ⟨y, gs, t, rfl, hy, rfl, G⟩
      simp [backO]
      exact ⟨LV_shd (LV_one hy), _, ⟨gs, G, t, rfl⟩, _, rfl⟩
    rintro ds _ b hds hD ⟨gs, t, G, rfl⟩
    have hds' : ds.length = 7 := hds
    simp [rest]
    refine ⟨_, b_addL (by simp; omega), ?_⟩
    have hS : ∀ d ∈ [machD tab, odd, bent] ++ ds, Shd d := fun d hd => by
      rcases List.mem_append.mp hd with q | q
      · simp only [List.mem_cons, List.not_mem_nil, or_false] at q
        rcases q with rfl | rfl | rfl
        · exact LV_shd (LV_one (hT.cl (by omega)))
        · exact hodd
        · exact hbs
      · exact hD d q
    have hSl : ([machD tab, odd, bent] ++ ds).length = 10 := by simp; omega
    generalize [machD tab, odd, bent] ++ ds = S at hS hSl ⊢
    clear hD hds hds'
    show N1 [⟨0, sc⟩, deckT gs m t, ⟨0, x⟩, ⟨0, .tup (ts.map machD)⟩, ⟨0, machD tab⟩, ⟨0, bent⟩, ⟨1, .lst S⟩, a7, a8, a9, a10, a11, a12]
    refine hN1 _ ?_
    clear hN1 N1
    -- perhaps one more
    refine q_cons fun N1 hN1 => ?_
    have go : ∀ (gs : List Int) (t : Int) (S : List D), Good gs → (∀ d ∈ S, Shd d) → N1 [⟨0, sc⟩, deckT gs m t, ⟨0, x⟩, ⟨0, .tup (ts.map machD)⟩, ⟨0, machD tab⟩, ⟨0, bent⟩, ⟨1, .lst S⟩, a7, a8, a9, a10, a11, a12] := by
      clear hS hSl S G
      intro gs t S G hS
      refine hN1 _ ?_
      clear hN1 N1
      -- each value
      refine q_cons fun N1 hN1 => ?_
      rw [w_forr]
      simp [w_oe, lowO]
      refine q_for (fun ys l => ∃ (k : Nat) (ds : List D) (a7 a8 a9 a10 a11 : TV), ys = enumL k ds ∧ (∀ d ∈ ds, Shd d) ∧ l = [⟨0, sc⟩, deckT gs m t, ⟨0, x⟩, ⟨0, .tup (ts.map machD)⟩, ⟨0, machD tab⟩, ⟨0, bent⟩, ⟨0, .lst S⟩, a7, a8, a9, a10, a11, a12]) _ _ ⟨0, S, _, _, _, _, _, rfl, hS, rfl⟩ ?_ ?_
      · clear hN1
        rintro y ys l ⟨k, ds, a7, a8, a9, a10, a11, e, hds, rfl⟩
        obtain ⟨d, ds, rfl, rfl, rfl⟩ : ∃ d ds', ds = d :: ds' ∧ y = .tup [.int k, d] ∧ ys = enumL (k + 1) ds' := by
          cases ds with
          | nil => cases e
          | cons d ds' => cases e; exact ⟨d, ds', rfl, rfl, rfl⟩
        have hd := hds d (by simp)
        have hdu := ok_un hd.1
        have hde : Shd (onesErr d) := shd30 (onesErr_cl d) (by decide)
        have hdeu := ok_un hde.1
        show qS (evSs _ _ _ _ [⟨0, sc⟩, deckT gs m t, ⟨0, x⟩, ⟨0, .tup (ts.map machD)⟩, ⟨0, machD tab⟩, ⟨0, bent⟩, ⟨0, .lst S⟩, ⟨0, .int k⟩, ⟨0, d⟩, a9, a10, a11, a12]) _
        refine q_cons fun N2 hN2 => ?_
        rw [w_asgP2]
        simp [w_oe, a_call, rb_of h872, lowR, onceO, rebOk, takeO, r872, hdu, hd.2, lowF]
        refine due872 (n := n + 7) h872 h359 hd.1 ?_
        simp [backO]
        refine ⟨hdu, _, hd.2, ?_⟩
        refine hN2 _ ?_
        clear hN2 N2
        refine q_cons fun N2 hN2 => ?_
        have fin : N2 [⟨0, sc⟩, deckT gs m t, ⟨0, x⟩, ⟨0, .tup (ts.map machD)⟩, ⟨0, machD tab⟩, ⟨0, bent⟩, ⟨0, .lst S⟩, ⟨0, .int k⟩, ⟨0, d⟩, ⟨0, onesErr d⟩, ⟨0, onesErr d⟩, ⟨0, .str (reprD d)⟩, a12] := by
          refine hN2 _ ?_
          clear hN2 N2
          refine q_cons fun N2 hN2 => ?_
          simp [w_oe, w_scons, w_retv, hdu, hdeu, hde.2, hd.2, ne_str, lowF]
          refine hN2 _ ?_
          rw [w_snil]
          exact ⟨k + 1, ds, _, _, _, _, _, rfl, fun z hz => hds z (by simp [hz]), rfl⟩
        by_cases hk1 : (k : Int) = 1
        · simp [w_oe, w_callk, dropO, a_call, rb_of h867, lowR, onceO, rebOk, takeO, r867, hdu, hk1]
          refine ones867 (n := n + 7) h867 h1 hd.1 ?_
          rw [hk1] at fin
          exact fin
        · simp [w_oe, a_call, rb_of h867, lowR, onceO, rebOk, takeO, r867, hdu, hk1]
          refine ones867 (n := n + 7) h867 h1 hd.1 ?_
          exact fin
      rintro l ⟨k, ds, a7, a8, a9, a10, a11, e, hds, rfl⟩
      refine hN1 _ ?_
      clear hN1 N1 hds e ds k hS
      -- the lots
      refine q_cons fun N1 hN1 => ?_
      rw [w_forr]
      simp [w_oe, w_lc, a_call, rb_of h360, lowR, onceO, rebOk, takeO, r360]
      refine qC_mono (odd360 (n := n + 6) h360 h356 h357 G hm) ?_
      rintro v as ⟨odd2, gs, t, hodd2, rfl, rfl, G⟩
      have hodd2 := shd_odd hodd2
      simp [backO, small, lowO]
      rw [show rngL 0 8 = (rngI 8).map D.int from rngL_I 8]
      refine q_kindJ (J := fun l => ∃ gs t, Good gs ∧ l = [⟨0, sc⟩, deckT gs m t, ⟨0, x⟩, ⟨0, .tup (ts.map machD)⟩, ⟨0, machD tab⟩, ⟨0, bent⟩, ⟨0, .lst S⟩, a7, a8, a9, a10, a11, a12]) (K := Shd) ⟨gs, t, G, rfl⟩ (by decide) ?_ ?_
      · rintro z hz _ ⟨gs, t, G, rfl⟩
        simp [w_oe, a_call, rb_of h875, lowR, onceO, rebOk, takeO, r875]
        refine qC_mono (bentL875 (n0 := n + 1) h875 h874 h870 h358 h356 h357 hm G hB (by omega) ⟨l1, l2⟩) ?_
        rintro v as ⟨y, gs, t, rfl, hy, rfl, G⟩
        simp [backO]
        exact ⟨LV_shd hy, _, ⟨gs, G, t, rfl⟩, _, rfl⟩
      rintro ds _ b hds hD ⟨gs, t, G, rfl⟩
      have hds' : ds.length = 8 := hds
      refine ⟨_, b_addL (by simp; omega), _, rfl, ?_⟩
      have hV : ∀ d ∈ [.tup (ts.map machD), odd2] ++ ds, Shd d := fun d hd => by
        rcases List.mem_append.mp hd with q | q
        · simp only [List.mem_cons, List.not_mem_nil, or_false] at q
          rcases q with rfl | rfl
          · refine LV_shd (LV_of (fun y hy => ?_) (by rw [List.length_map]; omega)).1
            obtain ⟨z, hz, rfl⟩ := List.mem_map.mp hy
            exact (hB z hz).cl (by omega)
          · exact hodd2
        · exact hD d q
      generalize [.tup (ts.map machD), odd2] ++ ds = V at hV ⊢
      clear hD hds hds' ds
      simp [lowB, lowO, rest]
      refine q_for (fun ys l => ∃ (k : Nat) (ds : List D) (a7 a8 a9 a10 a11 : TV), ys = enumL k ds ∧ (∀ d ∈ ds, Shd d) ∧ l = [⟨0, sc⟩, deckT gs m t, ⟨0, x⟩, ⟨0, .tup (ts.map machD)⟩, ⟨0, machD tab⟩, ⟨0, bent⟩, ⟨0, .lst S⟩, a7, a8, a9, a10, a11, a12]) _ _ ⟨0, V, _, _, _, _, _, rfl, hV, rfl⟩ ?_ ?_
      · clear hN1
        rintro y ys l ⟨k, ds, a7, a8, a9, a10, a11, e, hds, rfl⟩
        obtain ⟨d, ds, rfl, rfl, rfl⟩ : ∃ d ds', ds = d :: ds' ∧ y = .tup [.int k, d] ∧ ys = enumL (k + 1) ds' := by
          cases ds with
          | nil => cases e
          | cons d ds' => cases e; exact ⟨d, ds', rfl, rfl, rfl⟩
        have hd := hds d (by simp)
        have hdu := ok_un hd.1
        have hde : Shd (lotErr d) := shd30 (lotErr_cl d) (by decide)
        have hdeu := ok_un hde.1
        show qS (evSs _ _ _ _ [⟨0, sc⟩, deckT gs m t, ⟨0, x⟩, ⟨0, .tup (ts.map machD)⟩, ⟨0, machD tab⟩, ⟨0, bent⟩, ⟨0, .lst S⟩, ⟨0, .int k⟩, ⟨0, d⟩, a9, a10, a11, a12]) _
        refine q_cons fun N2 hN2 => ?_
        rw [w_asgP2]
        simp [w_oe, a_call, rb_of h873, lowR, onceO, rebOk, takeO, r873, hdu, hd.2, lowF]
        refine lot873 (n := n + 6) h873 h872 h359 hd.1 (fun x _ => ok_un (Cl_ok (onesErr_cl x))) ?_
        simp [backO]
        refine ⟨hdu, _, hd.2, ?_⟩
        refine hN2 _ ?_
        clear hN2 N2
        refine q_cons fun N2 hN2 => ?_
        have fin : N2 [⟨0, sc⟩, deckT gs m t, ⟨0, x⟩, ⟨0, .tup (ts.map machD)⟩, ⟨0, machD tab⟩, ⟨0, bent⟩, ⟨0, .lst S⟩, ⟨0, .int k⟩, ⟨0, d⟩, ⟨0, lotErr d⟩, ⟨0, lotErr d⟩, ⟨0, .str (reprD d)⟩, a12] := by
          refine hN2 _ ?_
          clear hN2 N2
          refine q_cons fun N2 hN2 => ?_
          simp [w_oe, w_scons, w_retv, hdu, hdeu, hde.2, hd.2, ne_str, lowF]
          refine hN2 _ ?_
          rw [w_snil]
          exact ⟨k + 1, ds, _, _, _, _, _, rfl, fun z hz => hds z (by simp [hz]), rfl⟩
        by_cases hk1 : (k : Int) = 1
        · simp [w_oe, w_callk, dropO, a_call, rb_of h868, lowR, onceO, rebOk, takeO, r868, hdu, hk1]
          refine lot868 (n := n + 6) h868 h867 h1 hd.1 (fun x _ => ok_un (Cl_ok (onesErr_cl x))) ?_
          rw [hk1] at fin
          exact fin
        · simp [w_oe, a_call, rb_of h868, lowR, onceO, rebOk, takeO, r868, hdu, hk1]
          refine lot868 (n := n + 6) h868 h867 h1 hd.1 (fun x _ => ok_un (Cl_ok (onesErr_cl x))) ?_
          exact fin
      rintro l ⟨k, ds, a7, a8, a9, a10, a11, e, hds, rfl⟩
      refine hN1 _ ?_
      rw [w_snil]
      exact ⟨gs, t, _, _, _, _, _, _, _, _, _, _, _, G, rfl⟩
    simp [w_oe, w_scons, hbu, a_call, rb_of h872, lowR, onceO, rebOk, takeO, r872]
    refine due872 (n := n + 7) h872 h359 hbs.1 ?_
    simp [backO]
    by_cases hnn : isNon (onesErr bent) = true
    · right
      refine ⟨hnn, ?_⟩
      obtain ⟨rb2, nb, rfl, hBb, hb1, hb2⟩ := tbl_of (isn_true hnn)
      refine q_app rfl ?_
      rw [w_oe (by simp)]
      simp [a_call, rb_of h874, lowR, onceO, rebOk, takeO, r874]
      refine qC_mono (bent874 (n0 := n + 6) h874 h356 h357 hm G hBb ⟨hb1, hb2⟩) ?_
      rintro v as ⟨z, gs, t, rfl, hz, rfl, G⟩
      refine ⟨rfl, S, rfl, decide_eq_true (by omega), go gs t (S ++ [z]) G fun d hd => ?_⟩
      rcases List.mem_append.mp hd with q | q
      · exact hS d q
      · obtain rfl : d = z := by simpa using q
        exact LV_shd (LV_one hz)
    · left
      exact ⟨by simpa using hnn, go gs t S G hS⟩
  · rintro l ⟨gs, t, a2, a3, a4, a5, a6, a7, a8, a9, a10, a11, a12, G, rfl⟩
    refine hN _ ?_
    refine q_cons fun N1 hN1 => ?_
    simp [w_retv]
end DL
end

section
set_option Elab.async false
set_option linter.all false
set_option maxRecDepth 100000
/-! what the top of law_k57_tables_judged has written -/
namespace DL
open PySem PySem.Spec PyProof.Rows L2
def topS (i : Nat) : Stmt := PySem.Challenge.pw_ledtoone_k57_tables_judged.main.body.getD i (.Pass ⟨0, 0, 0, 0⟩)
def defsL : List (Nat × FD) := [(1, f1), (356, f356), (357, f357), (358, f358), (359, f359), (360, f360), (867, f867), (868, f868), (869, f869), (870, f870), (871, f871), (872, f872), (873, f873), (874, f874), (875, f875), (876, f876)]
def namesL : List (Nat × Str) := [(1, "is_square"), (356, "_law_draw"), (357, "_law_pick"), (358, "_law_any"), (359, "_law_is_whole"), (360, "_law_odd"), (867, "ones_error"), (868, "tables_error"), (869, "_law_deck"), (870, "_law_table"), (871, "_law_tables"), (872, "_law_due"), (873, "_law_lot_due"), (874, "_law_bent"), (875, "_law_bent_lot"), (876, "law")]
def kwsL : List (Nat × List Str × List Nat) := [(867, ["value"], [0]), (868, ["value"], [0])]
def constL : List (Str × Int) := [("MAX_LETTERS", 4), ("MAX_SIDE", 5)]
def pgL : Pg := ⟨fun f => defsL.lookup f, constL, fun f => (namesL.lookup f).getD Str.empty, kwsL⟩
abbrev s1 : Stmt := topS 3
abbrev n1 : List Str := ["value", "row"]
theorem c1 : FnScope n1 ["value"] (C8.fnScope s1) := C8.fnScope_by (by decide +kernel)
theorem m1 : mSs pgL n1 (asgSs f1.body) f1.body (C8.fnScope s1) (C8.fnBody s1) = true := by decide +kernel
abbrev s356 : Stmt := topS 8
abbrev n356 : List Str := ["deck", "many", "number", "great"]
theorem c356 : FnScope n356 ["deck", "many"] (C8.fnScope s356) := C8.fnScope_by (by decide +kernel)
theorem m356 : mSs pgL n356 (asgSs f356.body) f356.body (C8.fnScope s356) (C8.fnBody s356) = true := by decide +kernel
abbrev s357 : Stmt := topS 9
abbrev n357 : List Str := ["deck", "row"]
theorem c357 : FnScope n357 ["deck", "row"] (C8.fnScope s357) := C8.fnScope_by (by decide +kernel)
theorem m357 : mSs pgL n357 (asgSs f357.body) f357.body (C8.fnScope s357) (C8.fnBody s357) = true := by decide +kernel
abbrev s358 : Stmt := topS 10
abbrev n358 : List Str := ["deck", "deep", "sort", "items", "turn"]
theorem c358 : FnScope n358 ["deck", "deep"] (C8.fnScope s358) := C8.fnScope_by (by decide +kernel)
theorem m358 : mSs pgL n358 (asgSs f358.body) f358.body (C8.fnScope s358) (C8.fnBody s358) = true := by decide +kernel
abbrev s359 : Stmt := topS 11
abbrev n359 : List Str := ["value", "low", "high"]
theorem c359 : FnScope n359 ["value", "low", "high"] (C8.fnScope s359) := C8.fnScope_by (by decide +kernel)
theorem m359 : mSs pgL n359 (asgSs f359.body) f359.body (C8.fnScope s359) (C8.fnBody s359) = true := by decide +kernel
abbrev s360 : Stmt := topS 12
abbrev n360 : List Str := ["deck", "some"]
theorem c360 : FnScope n360 ["deck"] (C8.fnScope s360) := C8.fnScope_by (by decide +kernel)
theorem m360 : mSs pgL n360 (asgSs f360.body) f360.body (C8.fnScope s360) (C8.fnBody s360) = true := by decide +kernel
abbrev s867 : Stmt := topS 4
abbrev n867 : List Str := ["value", "j", "i", "row", "item"]
theorem c867 : FnScope n867 ["value"] (C8.fnScope s867) := C8.fnScope_by (by decide +kernel)
theorem m867 : mSs pgL n867 (asgSs f867.body) f867.body (C8.fnScope s867) (C8.fnBody s867) = true := by decide +kernel
abbrev s868 : Stmt := topS 5
abbrev n868 : List Str := ["value", "letter", "table", "error"]
theorem c868 : FnScope n868 ["value"] (C8.fnScope s868) := C8.fnScope_by (by decide +kernel)
theorem m868 : mSs pgL n868 (asgSs f868.body) f868.body (C8.fnScope s868) (C8.fnBody s868) = true := by decide +kernel
abbrev s869 : Stmt := topS 7
abbrev n869 : List Str := ["script", "deck", "cell", "own"]
theorem c869 : FnScope n869 ["script"] (C8.fnScope s869) := C8.fnScope_by (by decide +kernel)
theorem m869 : mSs pgL n869 (asgSs f869.body) f869.body (C8.fnScope s869) (C8.fnBody s869) = true := by decide +kernel
abbrev s870 : Stmt := topS 13
abbrev n870 : List Str := ["deck", "n", "share", "i", "left", "rows", "j", "row", "k"]
theorem c870 : FnScope n870 ["deck", "n", "share"] (C8.fnScope s870) := C8.fnScope_by (by decide +kernel)
theorem m870 : mSs pgL n870 (asgSs f870.body) f870.body (C8.fnScope s870) (C8.fnBody s870) = true := by decide +kernel
abbrev s871 : Stmt := topS 14
abbrev n871 : List Str := ["deck", "n", "share", "turn"]
theorem c871 : FnScope n871 ["deck", "n"] (C8.fnScope s871) := C8.fnScope_by (by decide +kernel)
theorem m871 : mSs pgL n871 (asgSs f871.body) f871.body (C8.fnScope s871) (C8.fnBody s871) = true := by decide +kernel
abbrev s872 : Stmt := topS 15
abbrev n872 : List Str := ["value", "j", "i", "row", "item"]
theorem c872 : FnScope n872 ["value"] (C8.fnScope s872) := C8.fnScope_by (by decide +kernel)
theorem m872 : mSs pgL n872 (asgSs f872.body) f872.body (C8.fnScope s872) (C8.fnBody s872) = true := by decide +kernel
abbrev s873 : Stmt := topS 16
abbrev n873 : List Str := ["value", "a", "table", "error"]
theorem c873 : FnScope n873 ["value"] (C8.fnScope s873) := C8.fnScope_by (by decide +kernel)
theorem m873 : mSs pgL n873 (asgSs f873.body) f873.body (C8.fnScope s873) (C8.fnBody s873) = true := by decide +kernel
abbrev s874 : Stmt := topS 17
abbrev n874 : List Str := ["deck", "table", "n", "row", "item", "some", "i", "j", "own"]
theorem c874 : FnScope n874 ["deck", "table"] (C8.fnScope s874) := C8.fnScope_by (by decide +kernel)
theorem m874 : mSs pgL n874 (asgSs f874.body) f874.body (C8.fnScope s874) (C8.fnBody s874) = true := by decide +kernel
abbrev s875 : Stmt := topS 18
abbrev n875 : List Str := ["deck", "tables", "other", "some", "a", "b", "more"]
theorem c875 : FnScope n875 ["deck", "tables"] (C8.fnScope s875) := C8.fnScope_by (by decide +kernel)
theorem m875 : mSs pgL n875 (asgSs f875.body) f875.body (C8.fnScope s875) (C8.fnBody s875) = true := by decide +kernel
abbrev s876 : Stmt := topS 19
abbrev n876 : List Str := ["script", "deck", "turn", "tables", "table", "bent", "values", "k", "value", "told", "due", "shown", "again"]
theorem c876 : FnScope n876 ["script"] (C8.fnScope s876) := C8.fnScope_by (by decide +kernel)
theorem m876 : mSs pgL n876 (asgSs f876.body) f876.body (C8.fnScope s876) (C8.fnBody s876) = true := by decide +kernel
theorem mem_look0 {α β : Type} [BEq α] [LawfulBEq α] {K : List (α × β)} {a : α} {o : β} (h : K.lookup a = some o) : (a, o) ∈ K := by
  induction K with
  | nil => simp at h
  | cons p r ih =>
    obtain ⟨b, u⟩ := p
    rw [List.lookup_cons] at h
    cases hb : a == b with
    | true => rw [hb] at h; cases h; rw [eq_of_beq hb]; exact List.mem_cons_self
    | false => rw [hb] at h; exact List.mem_cons_of_mem _ (ih h)
set_option maxHeartbeats 0 in
theorem facts {K : PySem.W.Frag} {h : Heap} {mg : Str → Option Value} {fa : Addr} (X : K.In h) (T : h.Ns mainGlobals mg) (hfa : mg "law" = some (.ref fa))
    {a1 : Addr} {od1 an1 : Option Addr} {sl1 : Array (Option Value)} {oc1 kV1 dc1 pm1 cd1 ct1 : Value}
    {a356 : Addr} {od356 an356 : Option Addr} {sl356 : Array (Option Value)} {oc356 kV356 dc356 pm356 cd356 ct356 : Value}
    {a357 : Addr} {od357 an357 : Option Addr} {sl357 : Array (Option Value)} {oc357 kV357 dc357 pm357 cd357 ct357 : Value}
    {a358 : Addr} {od358 an358 : Option Addr} {sl358 : Array (Option Value)} {oc358 kV358 dc358 pm358 cd358 ct358 : Value}
    {a359 : Addr} {od359 an359 : Option Addr} {sl359 : Array (Option Value)} {oc359 kV359 dc359 pm359 cd359 ct359 : Value}
    {a360 : Addr} {od360 an360 : Option Addr} {sl360 : Array (Option Value)} {oc360 kV360 dc360 pm360 cd360 ct360 : Value}
    {a867 : Addr} {od867 an867 : Option Addr} {sl867 : Array (Option Value)} {oc867 kV867 dc867 pm867 cd867 ct867 : Value}
    {a868 : Addr} {od868 an868 : Option Addr} {sl868 : Array (Option Value)} {oc868 kV868 dc868 pm868 cd868 ct868 : Value}
    {a869 : Addr} {od869 an869 : Option Addr} {sl869 : Array (Option Value)} {oc869 kV869 dc869 pm869 cd869 ct869 : Value}
    {a870 : Addr} {od870 an870 : Option Addr} {sl870 : Array (Option Value)} {oc870 kV870 dc870 pm870 cd870 ct870 : Value}
    {a871 : Addr} {od871 an871 : Option Addr} {sl871 : Array (Option Value)} {oc871 kV871 dc871 pm871 cd871 ct871 : Value}
    {a872 : Addr} {od872 an872 : Option Addr} {sl872 : Array (Option Value)} {oc872 kV872 dc872 pm872 cd872 ct872 : Value}
    {a873 : Addr} {od873 an873 : Option Addr} {sl873 : Array (Option Value)} {oc873 kV873 dc873 pm873 cd873 ct873 : Value}
    {a874 : Addr} {od874 an874 : Option Addr} {sl874 : Array (Option Value)} {oc874 kV874 dc874 pm874 cd874 ct874 : Value}
    {a875 : Addr} {od875 an875 : Option Addr} {sl875 : Array (Option Value)} {oc875 kV875 dc875 pm875 cd875 ct875 : Value}
    {a876 : Addr} {od876 an876 : Option Addr} {sl876 : Array (Option Value)} {oc876 kV876 dc876 pm876 cd876 ct876 : Value}
    (g1 : PySem.W.nsIn K mainGlobals "is_square" = some (some (.ref a1))) (l1 : K.lookup a1 = some ⟨oc1, od1, .func (PySem.W.fnOf "is_square" "is_square" (C8.fnArgs s1) (C8.fnBody s1) (C8.fnScope s1) .none kV1 dc1 pm1 an1 cd1 ct1), sl1⟩) (q1 : PySem.W.codeIn K cd1 "is_square" = true) (k1 : PySem.W.keepIn K (.ref a1) = true)
    (g356 : PySem.W.nsIn K mainGlobals "_law_draw" = some (some (.ref a356))) (l356 : K.lookup a356 = some ⟨oc356, od356, .func (PySem.W.fnOf "_law_draw" "_law_draw" (C8.fnArgs s356) (C8.fnBody s356) (C8.fnScope s356) .none kV356 dc356 pm356 an356 cd356 ct356), sl356⟩) (q356 : PySem.W.codeIn K cd356 "_law_draw" = true) (k356 : PySem.W.keepIn K (.ref a356) = true)
    (g357 : PySem.W.nsIn K mainGlobals "_law_pick" = some (some (.ref a357))) (l357 : K.lookup a357 = some ⟨oc357, od357, .func (PySem.W.fnOf "_law_pick" "_law_pick" (C8.fnArgs s357) (C8.fnBody s357) (C8.fnScope s357) .none kV357 dc357 pm357 an357 cd357 ct357), sl357⟩) (q357 : PySem.W.codeIn K cd357 "_law_pick" = true) (k357 : PySem.W.keepIn K (.ref a357) = true)
    (g358 : PySem.W.nsIn K mainGlobals "_law_any" = some (some (.ref a358))) (l358 : K.lookup a358 = some ⟨oc358, od358, .func (PySem.W.fnOf "_law_any" "_law_any" (C8.fnArgs s358) (C8.fnBody s358) (C8.fnScope s358) .none kV358 dc358 pm358 an358 cd358 ct358), sl358⟩) (q358 : PySem.W.codeIn K cd358 "_law_any" = true) (k358 : PySem.W.keepIn K (.ref a358) = true)
    (g359 : PySem.W.nsIn K mainGlobals "_law_is_whole" = some (some (.ref a359))) (l359 : K.lookup a359 = some ⟨oc359, od359, .func (PySem.W.fnOf "_law_is_whole" "_law_is_whole" (C8.fnArgs s359) (C8.fnBody s359) (C8.fnScope s359) .none kV359 dc359 pm359 an359 cd359 ct359), sl359⟩) (q359 : PySem.W.codeIn K cd359 "_law_is_whole" = true) (k359 : PySem.W.keepIn K (.ref a359) = true)
    (g360 : PySem.W.nsIn K mainGlobals "_law_odd" = some (some (.ref a360))) (l360 : K.lookup a360 = some ⟨oc360, od360, .func (PySem.W.fnOf "_law_odd" "_law_odd" (C8.fnArgs s360) (C8.fnBody s360) (C8.fnScope s360) .none kV360 dc360 pm360 an360 cd360 ct360), sl360⟩) (q360 : PySem.W.codeIn K cd360 "_law_odd" = true) (k360 : PySem.W.keepIn K (.ref a360) = true)
    (g867 : PySem.W.nsIn K mainGlobals "ones_error" = some (some (.ref a867))) (l867 : K.lookup a867 = some ⟨oc867, od867, .func (PySem.W.fnOf "ones_error" "ones_error" (C8.fnArgs s867) (C8.fnBody s867) (C8.fnScope s867) .none kV867 dc867 pm867 an867 cd867 ct867), sl867⟩) (q867 : PySem.W.codeIn K cd867 "ones_error" = true) (k867 : PySem.W.keepIn K (.ref a867) = true)
    (g868 : PySem.W.nsIn K mainGlobals "tables_error" = some (some (.ref a868))) (l868 : K.lookup a868 = some ⟨oc868, od868, .func (PySem.W.fnOf "tables_error" "tables_error" (C8.fnArgs s868) (C8.fnBody s868) (C8.fnScope s868) .none kV868 dc868 pm868 an868 cd868 ct868), sl868⟩) (q868 : PySem.W.codeIn K cd868 "tables_error" = true) (k868 : PySem.W.keepIn K (.ref a868) = true)
    (g869 : PySem.W.nsIn K mainGlobals "_law_deck" = some (some (.ref a869))) (l869 : K.lookup a869 = some ⟨oc869, od869, .func (PySem.W.fnOf "_law_deck" "_law_deck" (C8.fnArgs s869) (C8.fnBody s869) (C8.fnScope s869) .none kV869 dc869 pm869 an869 cd869 ct869), sl869⟩) (q869 : PySem.W.codeIn K cd869 "_law_deck" = true) (k869 : PySem.W.keepIn K (.ref a869) = true)
    (g870 : PySem.W.nsIn K mainGlobals "_law_table" = some (some (.ref a870))) (l870 : K.lookup a870 = some ⟨oc870, od870, .func (PySem.W.fnOf "_law_table" "_law_table" (C8.fnArgs s870) (C8.fnBody s870) (C8.fnScope s870) .none kV870 dc870 pm870 an870 cd870 ct870), sl870⟩) (q870 : PySem.W.codeIn K cd870 "_law_table" = true) (k870 : PySem.W.keepIn K (.ref a870) = true)
    (g871 : PySem.W.nsIn K mainGlobals "_law_tables" = some (some (.ref a871))) (l871 : K.lookup a871 = some ⟨oc871, od871, .func (PySem.W.fnOf "_law_tables" "_law_tables" (C8.fnArgs s871) (C8.fnBody s871) (C8.fnScope s871) .none kV871 dc871 pm871 an871 cd871 ct871), sl871⟩) (q871 : PySem.W.codeIn K cd871 "_law_tables" = true) (k871 : PySem.W.keepIn K (.ref a871) = true)
    (g872 : PySem.W.nsIn K mainGlobals "_law_due" = some (some (.ref a872))) (l872 : K.lookup a872 = some ⟨oc872, od872, .func (PySem.W.fnOf "_law_due" "_law_due" (C8.fnArgs s872) (C8.fnBody s872) (C8.fnScope s872) .none kV872 dc872 pm872 an872 cd872 ct872), sl872⟩) (q872 : PySem.W.codeIn K cd872 "_law_due" = true) (k872 : PySem.W.keepIn K (.ref a872) = true)
    (g873 : PySem.W.nsIn K mainGlobals "_law_lot_due" = some (some (.ref a873))) (l873 : K.lookup a873 = some ⟨oc873, od873, .func (PySem.W.fnOf "_law_lot_due" "_law_lot_due" (C8.fnArgs s873) (C8.fnBody s873) (C8.fnScope s873) .none kV873 dc873 pm873 an873 cd873 ct873), sl873⟩) (q873 : PySem.W.codeIn K cd873 "_law_lot_due" = true) (k873 : PySem.W.keepIn K (.ref a873) = true)
    (g874 : PySem.W.nsIn K mainGlobals "_law_bent" = some (some (.ref a874))) (l874 : K.lookup a874 = some ⟨oc874, od874, .func (PySem.W.fnOf "_law_bent" "_law_bent" (C8.fnArgs s874) (C8.fnBody s874) (C8.fnScope s874) .none kV874 dc874 pm874 an874 cd874 ct874), sl874⟩) (q874 : PySem.W.codeIn K cd874 "_law_bent" = true) (k874 : PySem.W.keepIn K (.ref a874) = true)
    (g875 : PySem.W.nsIn K mainGlobals "_law_bent_lot" = some (some (.ref a875))) (l875 : K.lookup a875 = some ⟨oc875, od875, .func (PySem.W.fnOf "_law_bent_lot" "_law_bent_lot" (C8.fnArgs s875) (C8.fnBody s875) (C8.fnScope s875) .none kV875 dc875 pm875 an875 cd875 ct875), sl875⟩) (q875 : PySem.W.codeIn K cd875 "_law_bent_lot" = true) (k875 : PySem.W.keepIn K (.ref a875) = true)
    (g876 : PySem.W.nsIn K mainGlobals "law" = some (some (.ref a876))) (l876 : K.lookup a876 = some ⟨oc876, od876, .func (PySem.W.fnOf "law" "law" (C8.fnArgs s876) (C8.fnBody s876) (C8.fnScope s876) .none kV876 dc876 pm876 an876 cd876 ct876), sl876⟩) (q876 : PySem.W.codeIn K cd876 "law" = true) (k876 : PySem.W.keepIn K (.ref a876) = true)
    {t_MAX_LETTERS : Tok} (v_MAX_LETTERS : PySem.W.nsIn K mainGlobals "MAX_LETTERS" = some (some (.int 4 t_MAX_LETTERS)))
    {t_MAX_SIDE : Tok} (v_MAX_SIDE : PySem.W.nsIn K mainGlobals "MAX_SIDE" = some (some (.int 5 t_MAX_SIDE)))
    (z_len : PySem.W.nsIn K mainGlobals "len" = some none)
    (z_abs : PySem.W.nsIn K mainGlobals "abs" = some none)
    (z_int : PySem.W.nsIn K mainGlobals "int" = some none)
    (z_tuple : PySem.W.nsIn K mainGlobals "tuple" = some none)
    (z_list : PySem.W.nsIn K mainGlobals "list" = some none)
    (z_sum : PySem.W.nsIn K mainGlobals "sum" = some none)
    (z_all : PySem.W.nsIn K mainGlobals "all" = some none)
    (z_any : PySem.W.nsIn K mainGlobals "any" = some none)
    (z_repr : PySem.W.nsIn K mainGlobals "repr" = some none)
    (z_isinstance : PySem.W.nsIn K mainGlobals "isinstance" = some none)
    (z_bool : PySem.W.nsIn K mainGlobals "bool" = some none)
    (z_str : PySem.W.nsIn K mainGlobals "str" = some none)
    (z_dict : PySem.W.nsIn K mainGlobals "dict" = some none)
    (z_range : PySem.W.nsIn K mainGlobals "range" = some none)
    (z_enumerate : PySem.W.nsIn K mainGlobals "enumerate" = some none)
    (z_zip : PySem.W.nsIn K mainGlobals "zip" = some none)
    (z_min : PySem.W.nsIn K mainGlobals "min" = some none)
    (z_max : PySem.W.nsIn K mainGlobals "max" = some none)
    (z_sorted : PySem.W.nsIn K mainGlobals "sorted" = some none)
    (z_set : PySem.W.nsIn K mainGlobals "set" = some none) :
    ∃ fn : FuncData, (∀ (s : Shared) (u : Value), BindsTo s fn ⟨[u], []⟩ [("script", u)]) ∧ ∀ (P : Program) (w : World) (b0 : Heap) (n : Nat), FnG P w K mg b0 (n + 1) fa fn ["script"] (spC (evCall pgL.P (n + 1) 876) 1) := by
  have d1 : DefOk pgL K mg 1 f1 s1 a1 _ ["value"] n1 := ⟨PySem.W.mg_of X T g1, k1, ⟨⟨_, _, _, _, _, _, _, _, _, _, rfl, l1, q1⟩⟩, c1, rfl, rfl, m1, fun s us hl => (match us, hl with | [_], _ => .of_eq rfl), fun ks pm e => absurd e (by simp [pgL, kwsL])⟩
  have d356 : DefOk pgL K mg 356 f356 s356 a356 _ ["deck", "many"] n356 := ⟨PySem.W.mg_of X T g356, k356, ⟨⟨_, _, _, _, _, _, _, _, _, _, rfl, l356, q356⟩⟩, c356, rfl, rfl, m356, fun s us hl => (match us, hl with | [_, _], _ => .of_eq rfl), fun ks pm e => absurd e (by simp [pgL, kwsL])⟩
  have d357 : DefOk pgL K mg 357 f357 s357 a357 _ ["deck", "row"] n357 := ⟨PySem.W.mg_of X T g357, k357, ⟨⟨_, _, _, _, _, _, _, _, _, _, rfl, l357, q357⟩⟩, c357, rfl, rfl, m357, fun s us hl => (match us, hl with | [_, _], _ => .of_eq rfl), fun ks pm e => absurd e (by simp [pgL, kwsL])⟩
  have d358 : DefOk pgL K mg 358 f358 s358 a358 _ ["deck", "deep"] n358 := ⟨PySem.W.mg_of X T g358, k358, ⟨⟨_, _, _, _, _, _, _, _, _, _, rfl, l358, q358⟩⟩, c358, rfl, rfl, m358, fun s us hl => (match us, hl with | [_, _], _ => .of_eq rfl), fun ks pm e => absurd e (by simp [pgL, kwsL])⟩
  have d359 : DefOk pgL K mg 359 f359 s359 a359 _ ["value", "low", "high"] n359 := ⟨PySem.W.mg_of X T g359, k359, ⟨⟨_, _, _, _, _, _, _, _, _, _, rfl, l359, q359⟩⟩, c359, rfl, rfl, m359, fun s us hl => (match us, hl with | [_, _, _], _ => .of_eq rfl), fun ks pm e => absurd e (by simp [pgL, kwsL])⟩
  have d360 : DefOk pgL K mg 360 f360 s360 a360 _ ["deck"] n360 := ⟨PySem.W.mg_of X T g360, k360, ⟨⟨_, _, _, _, _, _, _, _, _, _, rfl, l360, q360⟩⟩, c360, rfl, rfl, m360, fun s us hl => (match us, hl with | [_], _ => .of_eq rfl), fun ks pm e => absurd e (by simp [pgL, kwsL])⟩
  have d867 : DefOk pgL K mg 867 f867 s867 a867 _ ["value"] n867 := ⟨PySem.W.mg_of X T g867, k867, ⟨⟨_, _, _, _, _, _, _, _, _, _, rfl, l867, q867⟩⟩, c867, rfl, rfl, m867, fun s us hl => (match us, hl with | [_], _ => .of_eq rfl), fun ks pm e => by
      obtain ⟨rfl, rfl⟩ : ks = (["value"] : List Str) ∧ pm = [0] := by simpa [pgL, kwsL] using e
      exact fun s ws hl => (match ws, hl with | [_], _ => .of_eq rfl)⟩
  have d868 : DefOk pgL K mg 868 f868 s868 a868 _ ["value"] n868 := ⟨PySem.W.mg_of X T g868, k868, ⟨⟨_, _, _, _, _, _, _, _, _, _, rfl, l868, q868⟩⟩, c868, rfl, rfl, m868, fun s us hl => (match us, hl with | [_], _ => .of_eq rfl), fun ks pm e => by
      obtain ⟨rfl, rfl⟩ : ks = (["value"] : List Str) ∧ pm = [0] := by simpa [pgL, kwsL] using e
      exact fun s ws hl => (match ws, hl with | [_], _ => .of_eq rfl)⟩
  have d869 : DefOk pgL K mg 869 f869 s869 a869 _ ["script"] n869 := ⟨PySem.W.mg_of X T g869, k869, ⟨⟨_, _, _, _, _, _, _, _, _, _, rfl, l869, q869⟩⟩, c869, rfl, rfl, m869, fun s us hl => (match us, hl with | [_], _ => .of_eq rfl), fun ks pm e => absurd e (by simp [pgL, kwsL])⟩
  have d870 : DefOk pgL K mg 870 f870 s870 a870 _ ["deck", "n", "share"] n870 := ⟨PySem.W.mg_of X T g870, k870, ⟨⟨_, _, _, _, _, _, _, _, _, _, rfl, l870, q870⟩⟩, c870, rfl, rfl, m870, fun s us hl => (match us, hl with | [_, _, _], _ => .of_eq rfl), fun ks pm e => absurd e (by simp [pgL, kwsL])⟩
  have d871 : DefOk pgL K mg 871 f871 s871 a871 _ ["deck", "n"] n871 := ⟨PySem.W.mg_of X T g871, k871, ⟨⟨_, _, _, _, _, _, _, _, _, _, rfl, l871, q871⟩⟩, c871, rfl, rfl, m871, fun s us hl => (match us, hl with | [_, _], _ => .of_eq rfl), fun ks pm e => absurd e (by simp [pgL, kwsL])⟩
  have d872 : DefOk pgL K mg 872 f872 s872 a872 _ ["value"] n872 := ⟨PySem.W.mg_of X T g872, k872, ⟨⟨_, _, _, _, _, _, _, _, _, _, rfl, l872, q872⟩⟩, c872, rfl, rfl, m872, fun s us hl => (match us, hl with | [_], _ => .of_eq rfl), fun ks pm e => absurd e (by simp [pgL, kwsL])⟩
  have d873 : DefOk pgL K mg 873 f873 s873 a873 _ ["value"] n873 := ⟨PySem.W.mg_of X T g873, k873, ⟨⟨_, _, _, _, _, _, _, _, _, _, rfl, l873, q873⟩⟩, c873, rfl, rfl, m873, fun s us hl => (match us, hl with | [_], _ => .of_eq rfl), fun ks pm e => absurd e (by simp [pgL, kwsL])⟩
  have d874 : DefOk pgL K mg 874 f874 s874 a874 _ ["deck", "table"] n874 := ⟨PySem.W.mg_of X T g874, k874, ⟨⟨_, _, _, _, _, _, _, _, _, _, rfl, l874, q874⟩⟩, c874, rfl, rfl, m874, fun s us hl => (match us, hl with | [_, _], _ => .of_eq rfl), fun ks pm e => absurd e (by simp [pgL, kwsL])⟩
  have d875 : DefOk pgL K mg 875 f875 s875 a875 _ ["deck", "tables"] n875 := ⟨PySem.W.mg_of X T g875, k875, ⟨⟨_, _, _, _, _, _, _, _, _, _, rfl, l875, q875⟩⟩, c875, rfl, rfl, m875, fun s us hl => (match us, hl with | [_, _], _ => .of_eq rfl), fun ks pm e => absurd e (by simp [pgL, kwsL])⟩
  have d876 : DefOk pgL K mg 876 f876 s876 a876 _ ["script"] n876 := ⟨PySem.W.mg_of X T g876, k876, ⟨⟨_, _, _, _, _, _, _, _, _, _, rfl, l876, q876⟩⟩, c876, rfl, rfl, m876, fun s us hl => (match us, hl with | [_], _ => .of_eq rfl), fun ks pm e => absurd e (by simp [pgL, kwsL])⟩
  have ok : PgOk pgL K mg := by
    refine ⟨fun x i e => ?_, fun x e => ?_, fun f fd e => ?_⟩
    · have e := mem_look0 (K := constL) e
      simp only [constL, List.mem_cons, Prod.mk.injEq, List.not_mem_nil, or_false] at e
      rcases e with ⟨rfl, rfl⟩ | ⟨rfl, rfl⟩
      · exact ⟨_, PySem.W.mg_of X T v_MAX_LETTERS⟩
      · exact ⟨_, PySem.W.mg_of X T v_MAX_SIDE⟩
    · have e := List.contains_iff_mem.mp e
      simp only [biNames, List.mem_cons, List.not_mem_nil, or_false] at e
      rcases e with rfl | rfl | rfl | rfl | rfl | rfl | rfl | rfl | rfl | rfl | rfl | rfl | rfl | rfl | rfl | rfl | rfl | rfl | rfl | rfl
      · exact PySem.W.mg_none_of X T z_len
      · exact PySem.W.mg_none_of X T z_abs
      · exact PySem.W.mg_none_of X T z_int
      · exact PySem.W.mg_none_of X T z_tuple
      · exact PySem.W.mg_none_of X T z_list
      · exact PySem.W.mg_none_of X T z_sum
      · exact PySem.W.mg_none_of X T z_all
      · exact PySem.W.mg_none_of X T z_any
      · exact PySem.W.mg_none_of X T z_repr
      · exact PySem.W.mg_none_of X T z_isinstance
      · exact PySem.W.mg_none_of X T z_bool
      · exact PySem.W.mg_none_of X T z_str
      · exact PySem.W.mg_none_of X T z_dict
      · exact PySem.W.mg_none_of X T z_range
      · exact PySem.W.mg_none_of X T z_enumerate
      · exact PySem.W.mg_none_of X T z_zip
      · exact PySem.W.mg_none_of X T z_min
      · exact PySem.W.mg_none_of X T z_max
      · exact PySem.W.mg_none_of X T z_sorted
      · exact PySem.W.mg_none_of X T z_set
    · have e := mem_look0 (K := defsL) e
      simp only [defsL, List.mem_cons, Prod.mk.injEq, List.not_mem_nil, or_false] at e
      rcases e with ⟨rfl, rfl⟩ | ⟨rfl, rfl⟩ | ⟨rfl, rfl⟩ | ⟨rfl, rfl⟩ | ⟨rfl, rfl⟩ | ⟨rfl, rfl⟩ | ⟨rfl, rfl⟩ | ⟨rfl, rfl⟩ | ⟨rfl, rfl⟩ | ⟨rfl, rfl⟩ | ⟨rfl, rfl⟩ | ⟨rfl, rfl⟩ | ⟨rfl, rfl⟩ | ⟨rfl, rfl⟩ | ⟨rfl, rfl⟩ | ⟨rfl, rfl⟩
      · exact ⟨_, _, _, _, _, d1⟩
      · exact ⟨_, _, _, _, _, d356⟩
      · exact ⟨_, _, _, _, _, d357⟩
      · exact ⟨_, _, _, _, _, d358⟩
      · exact ⟨_, _, _, _, _, d359⟩
      · exact ⟨_, _, _, _, _, d360⟩
      · exact ⟨_, _, _, _, _, d867⟩
      · exact ⟨_, _, _, _, _, d868⟩
      · exact ⟨_, _, _, _, _, d869⟩
      · exact ⟨_, _, _, _, _, d870⟩
      · exact ⟨_, _, _, _, _, d871⟩
      · exact ⟨_, _, _, _, _, d872⟩
      · exact ⟨_, _, _, _, _, d873⟩
      · exact ⟨_, _, _, _, _, d874⟩
      · exact ⟨_, _, _, _, _, d875⟩
      · exact ⟨_, _, _, _, _, d876⟩
  have e := hfa.symm.trans (PySem.W.mg_of X T g876)
  cases e
  exact ⟨_, fun s u => .of_eq (by rfl), fun P w b0 n => def_body (P := P) (w := w) (base := b0) d876 rfl ok (all_fg ok n)⟩
end DL
end

section
set_option Elab.async false
set_option linter.all false
set_option maxRecDepth 100000
namespace DL
open PySem
theorem law_true (is : List Int) (h : is.length ≤ 63) : ∃ as, evCall pgL.P 40 876 [⟨0, .lst (is.map D.int)⟩] = .ok ⟨0, .bl true⟩ as := by
  obtain ⟨v, as, h1, h2⟩ := qC_ok (law876 (P := pgL.P) (n := 30) ⟨rfl, rfl, rfl, rfl, rfl, rfl, rfl, rfl, rfl, rfl, rfl, rfl, rfl, rfl, rfl, rfl⟩ is h)
  subst h2
  exact ⟨as, h1⟩
end DL
end

section
set_option Elab.async false
set_option linter.all false
set_option maxRecDepth 100000
open PySem PySem.W PyProof.Rows
set_option maxHeartbeats 0 in
theorem PySem.Challenge.cw_ledtoone_k57_tables_judged_holds : PySem.Challenge.rw_ledtoone_k57_tables_judged.Holds := by
  w_on; o_law; k_head; (case hw => w_witness2)
  k_fill
  refine DL.walk_end (l := PySem.Challenge.rw_ledtoone_k57_tables_judged) (n := 63) (k := 40) (y := "script") (sp := DL.spC (DL.evCall DL.pgL.P 40 876) 1) rfl (by decide) rfl ⟨rfl, by decide, by decide⟩ (fun w h Y => PySem.W.kIn_of Y) ?good ?lists (fun w H a is hl lone seq => DL.asked_of seq (DL.law_true is hl))
  case lists => intro w; kernel_rfl
  case good =>
    intro w mg fa h KX T hmg
    refine' (fun z => ⟨z.choose, z.choose_spec.1, fun b0 _ _ => z.choose_spec.2 _ w b0 39⟩) (DL.facts KX T hmg ?g1 ?l1 ?q1 ?k1 ?g356 ?l356 ?q356 ?k356 ?g357 ?l357 ?q357 ?k357 ?g358 ?l358 ?q358 ?k358 ?g359 ?l359 ?q359 ?k359 ?g360 ?l360 ?q360 ?k360 ?g867 ?l867 ?q867 ?k867 ?g868 ?l868 ?q868 ?k868 ?g869 ?l869 ?q869 ?k869 ?g870 ?l870 ?q870 ?k870 ?g871 ?l871 ?q871 ?k871 ?g872 ?l872 ?q872 ?k872 ?g873 ?l873 ?q873 ?k873 ?g874 ?l874 ?q874 ?k874 ?g875 ?l875 ?q875 ?k875 ?g876 ?l876 ?q876 ?k876 ?v_MAX_LETTERS ?v_MAX_SIDE ?z_len ?z_abs ?z_int ?z_tuple ?z_list ?z_sum ?z_all ?z_any ?z_repr ?z_isinstance ?z_bool ?z_str ?z_dict ?z_range ?z_enumerate ?z_zip ?z_min ?z_max ?z_sorted ?z_set)
    (case g1 => k_is); (case l1 => k_is); (case q1 => k_is); (case k1 => k_is); (case g356 => k_is); (case l356 => k_is); (case q356 => k_is); (case k356 => k_is); (case g357 => k_is); (case l357 => k_is); (case q357 => k_is); (case k357 => k_is); (case g358 => k_is); (case l358 => k_is); (case q358 => k_is); (case k358 => k_is); (case g359 => k_is); (case l359 => k_is); (case q359 => k_is); (case k359 => k_is); (case g360 => k_is); (case l360 => k_is); (case q360 => k_is); (case k360 => k_is); (case g867 => k_is); (case l867 => k_is); (case q867 => k_is); (case k867 => k_is); (case g868 => k_is); (case l868 => k_is); (case q868 => k_is); (case k868 => k_is); (case g869 => k_is); (case l869 => k_is); (case q869 => k_is); (case k869 => k_is); (case g870 => k_is); (case l870 => k_is); (case q870 => k_is); (case k870 => k_is); (case g871 => k_is); (case l871 => k_is); (case q871 => k_is); (case k871 => k_is); (case g872 => k_is); (case l872 => k_is); (case q872 => k_is); (case k872 => k_is); (case g873 => k_is); (case l873 => k_is); (case q873 => k_is); (case k873 => k_is); (case g874 => k_is); (case l874 => k_is); (case q874 => k_is); (case k874 => k_is); (case g875 => k_is); (case l875 => k_is); (case q875 => k_is); (case k875 => k_is); (case g876 => k_is); (case l876 => k_is); (case q876 => k_is); (case k876 => k_is); (case v_MAX_LETTERS => k_is); (case v_MAX_SIDE => k_is); (case z_len => k_is); (case z_abs => k_is); (case z_int => k_is); (case z_tuple => k_is); (case z_list => k_is); (case z_sum => k_is); (case z_all => k_is); (case z_any => k_is); (case z_repr => k_is); (case z_isinstance => k_is); (case z_bool => k_is); (case z_str => k_is); (case z_dict => k_is); (case z_range => k_is); (case z_enumerate => k_is); (case z_zip => k_is); (case z_min => k_is); (case z_max => k_is); (case z_sorted => k_is); (case z_set => k_is)
end
